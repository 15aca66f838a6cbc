import PyProof.Rows.All
import Wide.All
import OpenK.AllK
import Wide.FinOn
import HandS.ForMost
import PyProof.TupleOfSeq
import HandS.SortInts
import HandS.Set
import HandS.Conv
import HandS.List
import HandS.RevTup
import HandS.TupMul
import HandS.Rev
import KE.GoesEnum
import HandS.SetFor
import HandS.Strs
import HandS.Zip
import PyProof.ZipIter
import HandS.Zip0
import HandS.SortKw
import HandS.SortRule
import HandS.TupSets
import PyProof.SumAnyB
import PyProof.ListOps
import KE.SortData
import HandS.Iter
import HandS.Dict
import KE.KDictZip
import HandS.ExcCtx
import HandS.ExcIs
import HandS.ExcValue
import HandS.IsInst
import HandS.WordsExc
import HandS.TryMany
import HandS.HotCalls
import HandS.Hot
import HandS.Comp
import HandS.Lambda
import HandS.TupLe
import PyProof.ReprRoads
import KE.DataEq
import KE.DataCmp
import HandS.Codes
import HandS.Flow
import HandS.Replace
import HandS.Deep
import KE.DataFind
import HandS.Style
import KE.SortKeyHeap
import HandS.EndTab
import PySem.Challenge.RW_fewforests_k84_texts
set_option Elab.async false
set_option linter.all false
set_option maxRecDepth 100000
set_option maxHeartbeats 2000000
namespace F2
open PySem PySem.Spec PyProof.Rows
open L2
def TupS (H : Hp) (p : Addr) (ys : List V) : Prop := ∃ o, H p = some (.frz o (.tup ys)) ∧ o.cls = .type "tuple" ∧ o.dict = none
theorem TupS.sq {K : PySem.W.Frag} {H : Hp} {p : Addr} {ys : List V} (h : TupS H p ys) : SqT K H p ys := by
  obtain ⟨o, h, _⟩ := h
  exact .inl (.inr ⟨o, h⟩)
def newS (ys : List V) (H : Hp) (Q : VK) : Prop := ∀ p o, H p = none → o.cls = .type "tuple" → o.dict = none → Q (.ref p) (upd H p (.frz o (.tup ys)))
section
variable {X : Cx} {pins : List (Addr × Obj)} {σ : L2.St} {H : Hp} {s : Shared}
theorem laidS {ys : List V} {us : List Value} {Q : VK} {tk : Nat} (I : Inv X pins σ H s) (r : Vals ys us) (hz : ys.length ≤ sizeLine) (q : newS ys H Q) :
    EP X pins σ Q (.ref s.heap.objs.size) { s with heap := s.heap.push { cls := .type "tuple", data := .seq us.toArray }, toks := tk } := by
  have nf := I.hok.fresh (Nat.le_refl s.heap.objs.size)
  have at' : (s.heap.push { cls := .type "tuple", data := .seq us.toArray }).get? s.heap.objs.size = some { cls := .type "tuple", data := .seq us.toArray } := Heap.get?_push_size _ rfl
  refine ⟨.ref s.heap.objs.size, _, I.laid (t' := tk) (fun b u e => Heap.get?_push_of_some _ e) (Nat.le_refl _) ?_, rfl, q _ { cls := .type "tuple", data := .seq us.toArray } nf rfl rfl⟩
  exact ⟨at', hz, us, r, ⟨_, at', rfl, _, rfl⟩⟩
end
end F2
set_option Elab.async false
set_option linter.all false
set_option maxRecDepth 100000
set_option maxHeartbeats 4000000
namespace F2
open PySem PySem.Spec PyProof.Rows
open L2
def SortQ (ns : List Int) (s1 : Shared) (Q : Value → Shared → Prop) : Prop := ∀ (h2 : Heap) (l ep : Nat) (out : List Value) (ns' : List Int), s1.heap.objs.size ≤ l → h2.get? l = some (seqObj "list" out.toArray ep) → IntsAre out ns' → ns'.Perm ns → ns'.Pairwise (· ≤ ·) →
  (∀ b o, s1.heap.get? b = some o → h2.get? b = some o) → Q (.ref l) { s1 with heap := h2 }
theorem sorted_by {prog : Program} {w : World} {A : Around} {s : Shared} {E : Value → Shared → Prop} {v : Value} {Q : Value → Shared → Prop}
    (hc : ∀ (E' : Value → Shared → Prop) (K : List Value → Shared → Prop), (∀ vs s1 ns, IntsAre vs ns → vs.length ≤ sizeLine → SortQ ns s1 Q → K vs s1) → wpAny (model prog w) A.in1 (collect v) K E' s) :
    wpAny (model prog w) A (call (.builtin "sorted") [v]) Q E s := by
  refine Calls.call_function_entry kind_sorted plain_sorted entry_sorted (args_sorted1 _) ?_
  unfold Builtin.«sorted»
  refine wpAny_bind (m := checkCount "sorted" 1 1 _) (wpAny_pure (wpAny_bind (hc _ _ fun vs s1 ns hi hz q => wpAny_bind (wpAny_newList ?_ hz))))
  have at1 : (s1.heap.push (seqObj "list" vs.toArray 0)).get? s1.heap.objs.size = some (seqObj "list" vs.toArray 0) := Heap.get?_push_size _ rfl
  refine wpAny_bind (wpAny_holding (wpAny_call_entry slot_list_sort ⟨_, at1, rfl⟩ entry_list_sort (SrtO.list_sort_ord SrtO.swo_int at1 hz (fun h2 => SrtO.ints_sortable hi h2) fun out k1 k2 => ⟨_, rfl, ?_⟩) (args_list_sort _)))
  obtain ⟨i1, i2, i3⟩ := SrtO.ints_out hi k1 k2
  obtain ⟨ep, at2⟩ := sortedHeap_at (vs := vs) (out := out.toArray) at1
  refine wpAny_pure ⟨_, rfl, q _ _ ep out _ (Nat.le_refl _) at2 i1 i2 i3 fun b o e => ?_⟩
  have lt := Heap.lt_size e
  rw [sortedHeap_old (Nat.ne_of_lt lt) (by rw [size_push']; exact Nat.lt_succ_of_lt lt)]
  exact Heap.get?_push_of_some _ e
def rSortedT (K : PySem.W.Frag) : List V → Hp → VK → Prop := fun vs H Q => ∃ (a : Addr) (ns : List Int), vs = [V.ref a] ∧ SqT K H a (ns.map V.int) ∧
  ∀ (ns' : List Int) (p : Addr), ns'.Perm ns → ns'.Pairwise (· ≤ ·) → H p = none → Q (.ref p) (upd H p (.lst (ns'.map V.int)))
theorem cr_sortedT {X : Cx} : CallR X (.builtin "sorted") (rSortedT X.K) := by
  intro pins s σ H vs us Q I r h
  obtain ⟨a, ns, rfl, hs, q⟩ := h
  obtain ⟨its, rv, ⟨o, ho, hcl, n, hd⟩, hz⟩ := I.tuple hs
  rw [Vals.ref1 r]
  have hi := rv.ints
  have hzl : its.length ≤ sizeLine := by rw [← rv.length]; exact hz
  refine sorted_by fun E' K k => wpAny_collect_seq a (.inr rfl) ho hcl hd (fun h' keep => k _ _ ns (by simpa using hi) (by simpa using hzl) fun h2 l ep out ns' hl hat hi' hp hs' keep2 => ?_) (by simpa using hzl)
  have hlen : (ns'.map V.int).length ≤ sizeLine := by
    rw [List.length_map, hp.length_eq]
    rw [List.length_map] at hz
    exact hz
  have I1 : Inv X pins σ H { s with heap := h' } := I.kept fun b o e => keep b o e
  exact ⟨.ref _, upd H l (.lst (ns'.map V.int)), I1.laid (t' := s.toks) keep2 hl ⟨hlen, out, ep, vals_of_ints hi', hat⟩, rfl, q _ _ hp hs' (I1.hok.fresh hl)⟩
theorem sorted_setA {prog : Program} {w : World} {A : Around} {s : Shared} {E : Value → Shared → Prop} {a : Addr} {S : Int → Bool} {n : Nat} {Q : Value → Shared → Prop} (R : SetR w s.heap a S n) (hh : A.handled = none) (hz : n ≤ sizeLine)
    (q : ∀ s' p (out : Array Value) (c : Nat) (ns : List Int), (∀ b o, s.heap.get? b = some o → s'.heap.get? b = some o) → s'.gens = s.gens → s'.os = s.os → s.heap.objs.size ≤ p →
      s'.heap.get? p = some (seqObj "list" out c) → IntsAre out.toList ns → ns.Pairwise (· < ·) → (∀ k, k ∈ ns ↔ S k = true) → ns.length = n → Q (.ref p) s') :
    wpAny (model prog w) A (call (.builtin "sorted") [.ref a]) Q E s := by
  obtain ⟨o, es, ep, t, ho, hex, hd, gd, nd, hm, hb, hf, hn, hr, hl⟩ := R
  refine sorted_by fun E' K k => collect_set (A := A.in1) hh ⟨o, ho, hex.1, hd⟩ hf hb hr hl fun s1 vs keep hsz hg hos pm => ?_
  have len : vs.length = n := by rw [pm.length_eq, List.length_map, Array.length_toList]; exact hn
  have ii := ints_of vs fun v hv => by
    obtain ⟨e, he, rfl⟩ := List.mem_map.mp (pm.mem_iff.mp hv)
    obtain ⟨k, tk, h1, -⟩ := gd e he
    exact ⟨k, tk, h1⟩
  have pk : (vs.map Builtin.Re.reRawOf).Perm (es.toList.map keyOf) := by
    have := pm.map Builtin.Re.reRawOf
    rw [List.map_map] at this
    exact this
  refine k vs s1 _ ii (by omega) fun h2 l ep2 out ns' hl2 hat i2 hp hs keep2 => ?_
  have pn := hp.trans pk
  exact q _ l out.toArray ep2 ns' (fun b u e => keep2 b u (keep b u e)) hg hos (Nat.le_trans hsz hl2) hat (by simpa using i2) (lt_of_le_nodup ns' hs (pn.nodup_iff.mpr nd)) (fun k => by rw [pn.mem_iff, ← hm k]) (by rw [pn.length_eq, List.length_map, Array.length_toList]; exact hn)
end F2
set_option Elab.async false
set_option linter.all false
set_option maxRecDepth 100000
set_option maxHeartbeats 4000000
namespace F2
open PySem PySem.Spec PyProof.Rows PySem.W
open L2
section
variable {prog : Program} {w : World} {A : Around} {E : Value → Shared → Prop} {s : Shared} {T : String} {r d : Addr} {n : Nat} {P : Nat → Value → Prop} {OK : Heap → Prop}
theorem collect_src {Q : List Value → Shared → Prop} (K : KdlSrc prog w T r d n P OK) (hh : A.handled = none) (hok : OK s.heap) (hn : n ≤ sizeLine)
    (hQ : ∀ h' tk (acc' : Array Value), (∀ b o, s.heap.get? b = some o → h'.get? b = some o) → ItemsOf P acc' n → Q acc'.toList { s with heap := h', toks := tk }) :
    wpAny (model prog w) A (collect (.ref r)) Q E s := by
  have hlt := K.there _ hok
  unfold collect
  refine wpAny_bind (wpAny_runValue (codeAny_builtin F.entry_proto_collect ?_))
  rw [Around.under_plainId F.plain_proto_collect _]
  show wpAny _ A.in1 (newList [] >>= fun l => again (.builtin "list.__iadd__" ⟨[l, .ref r], []⟩)) _ _ s
  refine wpAny_bind (wpAny_newObj_type ?_)
  refine wpAny_pure ⟨plainId_quiet F.plain_list_iadd _, codeAny_builtin F.entry_list_iadd ?_⟩
  rw [Around.under_plainId F.plain_list_iadd _]
  have hS : (s.heap.push { cls := .type "list", data := .seq ([] : List Value).toArray }).get? s.heap.objs.size = some { cls := .type "list", data := .seq ([] : List Value).toArray } := Heap.get?_push_size _ rfl
  show wpAny _ A.in1 (Builtin.List.listExtendWith (.ref s.heap.objs.size) (.ref r) (.ref s.heap.objs.size)) _ _ _
  refine kdl_extend (R := fun r s' => match r with
    | .ok (.ret v) => wpAny (model prog w) A (match v with
      | .ref a => do
        match (← load a).data with
        | .seq xs _ => pure xs.toList
        | _ => unsupported "internal:collect"
      | _ => unsupported "internal:collect") Q E s'
    | .ok _ => False
    | .error e => E e s') (s := { s with heap := s.heap.push { cls := .type "list", data := .seq ([] : List Value).toArray } }) K hh (K.keep _ _ hok fun b _ o e => Heap.get?_push_of_some _ e) _ (Nat.ne_of_gt hlt.1) (Nat.ne_of_gt hlt.2) _ _ hS (fun h' tk acc' c' hk hS' hacc => ?_) hn
  show wpAny _ A (load s.heap.objs.size >>= _) _ _ _
  refine wpAny_bind (wpAny_load hS' ?_)
  refine wpAny_pure ?_
  exact hQ h' tk acc' (fun b o e => hk b o (Nat.ne_of_lt (Heap.lt_size e)) (Heap.get?_push_of_some _ e)) hacc
end
def rSortedD : List V → Hp → VK → Prop := fun vs H Q => ∃ (a : Addr) (kvs : List (Key × V)) (ns : List Int), vs = [V.ref a] ∧ H a = some (.dK kvs) ∧ (kvs.map fun kv => kV kv.1) = ns.map V.int ∧
  ∀ (ns' : List Int) (p : Addr), ns'.Perm ns → ns'.Pairwise (· ≤ ·) → H p = none → Q (.ref p) (upd H p (.lst (ns'.map V.int)))
theorem cr_sortedD {X : Cx} (hc : X.calm = true) : CallR X (.builtin "sorted") rSortedD := by
  intro pins s σ H xs us Q I r h
  obtain ⟨a, kvs, ns, rfl, hk, en, q⟩ := h
  rw [Vals.ref1 r]
  obtain ⟨z, lo, vs, rk, hd⟩ := (show ObjOk X.prog X.w H s.heap a (.dK kvs) from I.hok a _ hk)
  obtain ⟨ep, hat⟩ := hd.dictAt
  have hl : kvs.length = vs.length := Paired.length rk
  refine sorted_by fun E' K k => collect_src (A := X.A.in1) (kdl_dict (knd := mixKind X.prog X.w) (kvs := vs) (ep := ep) lo) (I.ok.hd hc) hat (by rw [← hl]; exact z) fun h' tk acc' hkeep hacc => ?_
  have hv : Vals (ns.map V.int) acc'.toList := by
    rw [← en]
    have el : acc'.toList.length = acc'.size := by simp
    refine vals_of_at (by rw [List.length_map, el, hacc.1, hl]) fun j x w h1 h2 => ?_
    obtain ⟨k, y, hky, hi⟩ := hacc.2 j w (by rw [← Array.getElem?_toList]; exact h2)
    have e1 : (kvs.map (·.1))[j]? = some k := by
      rw [KV.keys rk, List.getElem?_map, hky] <;> rfl
    have e2 : (kvs.map fun kv => kV kv.1)[j]? = some (kV k) := by
      have e3 : (kvs.map fun kv => kV kv.1) = (kvs.map (·.1)).map kV := by rw [List.map_map] <;> rfl
      rw [e3, List.getElem?_map, e1] <;> rfl
    rw [e2] at h1
    cases h1
    exact keyIs_rel hi
  have hlen2 : acc'.toList.length = ns.length := by rw [← hv.length, List.length_map]
  have hns : ns.length ≤ sizeLine := by
    have := congrArg List.length en
    rw [List.length_map, List.length_map] at this
    rw [← this]; exact z
  refine k _ _ ns hv.ints (by omega) fun h2 l ep2 out ns' hl2 hat2 hi' hp hs' keep2 => ?_
  have hlen : (ns'.map V.int).length ≤ sizeLine := by
    rw [List.length_map, hp.length_eq]; exact hns
  have I1 : Inv X pins σ H { s with heap := h', toks := tk } := I.kept (t' := tk) fun b o e => hkeep b o e
  exact ⟨.ref _, upd H l (.lst (ns'.map V.int)), I1.laid (t' := tk) keep2 hl2 ⟨hlen, out, ep2, vals_of_ints hi', hat2⟩, rfl, q _ _ hp hs' (I1.hok.fresh hl2)⟩
end F2
set_option Elab.async false
set_option linter.all false
set_option maxRecDepth 100000
set_option maxHeartbeats 4000000
namespace F2
open PySem PySem.Spec PyProof.Rows
open L2
section
variable {prog : Program} {w : World} {A : Around} {s : Shared} {E : Value → Shared → Prop}
theorem applied_rev {sl : Addr} {tk : Tok} {n : Nat} {Q : Int × Int × Nat → Shared → Prop} (hs : s.heap.IsSliceOf sl .none .none (.int (-1) tk)) (h : Q ((n : Int) - 1, -1, n) s) :
    wpAny (model prog w) A (Builtin.Slice.sliceApplied (.ref sl) (pure (n : Int))) Q E s := by
  obtain ⟨o, ho, hc, hd⟩ := id hs
  unfold Builtin.Slice.sliceApplied Builtin.Slice.sliceFields
  refine wpAny_bind (wpAny_bind (wpAny_field ho hd (x := .none) rfl (wpAny_bind (wpAny_field ho hd (x := .none) rfl (wpAny_bind (wpAny_field ho hd (x := .int (-1) tk) rfl (wpAny_pure ?_)))))))
  refine wpAny_bind (HT.slicePart_ (.int (-1) tk) ?_)
  show wpAny _ _ (if ((-1 : Int) == 0) = true then _ else _) _ _ s
  rw [if_neg (by decide)]
  refine wpAny_bind (HT.slicePart_ .none (wpAny_bind (HT.slicePart_ .none (wpAny_bind (wpAny_pure ?_)))))
  have e1 : Builtin.Slice.sliceAdjust none none (-1) (n : Int) = ((n : Int) - 1, -1) := rfl
  have e2 : Builtin.Slice.slicePlaces ((n : Int) - 1) (-1) (-1) = n := by
    unfold Builtin.Slice.slicePlaces
    simp
    omega
  show wpAny _ _ (match Builtin.Slice.sliceAdjust none none (-1) (n : Int) with | (lo, hi) => pure (lo, (-1 : Int), Builtin.Slice.slicePlaces lo hi (-1))) _ _ s
  rw [e1]
  show wpAny _ _ (pure ((n : Int) - 1, (-1 : Int), Builtin.Slice.slicePlaces ((n : Int) - 1) (-1) (-1))) _ _ s
  rw [e2]
  exact wpAny_pure h
theorem fm_map {α β : Type} {f : α → Option β} {g : α → β} : ∀ l : List α, (∀ m ∈ l, f m = some (g m)) → l.filterMap f = l.map g
  | [], _ => rfl
  | a :: l, h => by rw [List.filterMap_cons, h a List.mem_cons_self, List.map_cons, fm_map l fun m hm => h m (List.mem_cons_of_mem _ hm)]
theorem pick_rev (xs : Array Value) : ((List.range xs.size).filterMap fun (m : Nat) => xs[((xs.size : Int) - 1 + (m : Int) * (-1)).toNat]?).toArray = xs.toList.reverse.toArray := by
  congr 1
  rw [fm_map (g := fun m => xs.toList.reverse[m]?.getD .none)]
  · apply List.ext_getElem (by simp)
    intro i h1 h2
    simp at h1 h2
    simp [h1]
  · intro m hm
    have hm := List.mem_range.mp hm
    have e : ((xs.size : Int) - 1 + (m : Int) * (-1)).toNat = xs.size - 1 - m := by omega
    rw [e]
    have h1 : xs.size - 1 - m < xs.size := by omega
    rw [Array.getElem?_eq_getElem h1]
    have h2 : m < xs.toList.reverse.length := by simpa using hm
    rw [List.getElem?_eq_getElem h2, List.getElem_reverse]
    simp
theorem item_rev {t sl : Addr} {items : Array Value} {tk : Tok} {Q : Value → Shared → Prop} (ht : IsTup s.heap t items) (hs : s.heap.IsSliceOf sl .none .none (.int (-1) tk))
    (h : Q (.ref s.heap.objs.size) { s with heap := s.heap.push { cls := .type "tuple", data := .seq items.toList.reverse.toArray } }) (hsz : items.size ≤ sizeLine) : wpAny (model prog w) A (getItem (.ref t) (.ref sl)) Q E s := by
  have fits : sizeOk (.seq items.toList.reverse.toArray) := by
    show items.toList.reverse.toArray.size ≤ sizeLine
    simpa using hsz
  obtain ⟨os, hos, hcs, hds⟩ := id hs
  unfold getItem
  try with_reducible refine wpAny_holding ?_
  first | refine wpAny_bind (wpAny_pure ?_) | skip
  refine wpAny_bind (wpAny_sequenceKey ht.typeIs (by decide) ?_)
  refine wpAny_bind (wpAny_callSpecial?_slot (name := Str.ofString "__getitem__") ht.typeIs PyProof.Rows.slot_tuple_getitem (wpAny_call_entry PyProof.Rows.slot_tuple_getitem ht.typeIs entry_tuple_getitem ?_ (args_tuple_getitem _ _)))
  show wpAny _ _ (Builtin.Tuple.tupleItemsOf (.ref t) >>= _) _ _ s
  refine wpAny_bind (tupleItemsOf_ ht (wpAny_bind (wpAny_typeOf (T := "slice") ⟨os, hos, hcs⟩ ?_)))
  rw [if_pos (by decide)]
  refine wpAny_bind (applied_rev hs ?_)
  have no : ¬ (((items.size : Int) - 1 == 0 && (-1 : Int) == 1 && items.size == items.size) = true) := by simp
  show wpAny _ _ (if ((items.size : Int) - 1 == 0 && (-1 : Int) == 1 && items.size == items.size) = true then _ else _) _ _ s
  rw [if_neg no, pick_rev]
  first
    | exact wpAny_bind (m := Builtin.Tuple.tupleExact _) (wpAny_newObj_type (wpAny_pure ⟨_, rfl, wpAny_pure h⟩) fits)
    | exact wpAny_bind (m := Builtin.Tuple.tupleExact _) (wpAny_newObj_type (wpAny_bind (wpAny_pure (wpAny_pure ⟨_, rfl, wpAny_pure h⟩))) fits)
    | exact wpAny_bind (wpAny_bind (m := Builtin.Tuple.tupleExact _) (wpAny_newObj_type (wpAny_pure (wpAny_pure ⟨_, rfl, wpAny_pure h⟩)) fits))
    | exact wpAny_bind (wpAny_bind (m := Builtin.Tuple.tupleExact _) (wpAny_newObj_type (wpAny_pure ⟨_, rfl, wpAny_pure h⟩) fits))
end
def tRev (K : PySem.W.Frag) (te tm : TE) : TE := fun σ H Q => te σ H fun x H1 => tm σ H1 fun m H2 => m = .int (-1) ∧ ∃ a xs, x = .ref a ∧ SqT K H2 a xs ∧ newS xs.reverse H2 Q
theorem pe_rev {X : Cx} {e m : Expr} {te tm : TE} {p2 pos : Pos} (he : PE X e te) (hm : PE X m tm) : PE X (.Subscript e (.Slice none none (some m) p2) pos) (tRev X.K te tm) := by
  refine ⟨fun pins s σ H Q I h => ?_⟩
  refine Subscript_ (thn (he.run pins s σ H _ I h) fun v s1 ⟨x, H1, I1, r1, q1⟩ => ?_)
  refine wpAny_Slice ?_
  rw [evalPart_none]
  refine wpAny_pure (wpAny_pure ?_)
  rw [evalPart_some]
  refine thn (hm.run pins s1 σ H1 _ I1 q1) fun u s2 ⟨y, H2, I2, r2, ey, a, xs, ex, hs, q2⟩ => ?_
  subst ey; subst ex
  obtain ⟨tk, rfl⟩ := r2
  cases r1
  have I3 : Inv X pins σ H2 { s2 with heap := s2.heap.push { cls := .type "slice", data := .fields #[.none, .none, .int (-1) tk] } } := I2.kept (t' := s2.toks) fun b ob q => Heap.get?_push_of_some _ q
  obtain ⟨its, rv, ht, hz⟩ := I3.tuple hs
  show wpAny (model X.prog X.w) X.A (subscriptTail e (.Slice none none (some m) p2) (.ref a) (.ref s2.heap.objs.size)) (EP X pins σ Q) X.xe { s2 with heap := s2.heap.push { cls := .type "slice", data := .fields #[.none, .none, .int (-1) tk] } }
  refine tail_any (ops := [.ref a, .ref s2.heap.objs.size]) ht.typeIs RT.get_tuple (item_rev (tk := tk) ht (Heap.IsSliceOf.new ..) ?_ (by rw [List.size_toArray, ← rv.length]; exact hz)) (by with_unfolding_all rfl)
  have len : xs.reverse.length ≤ sizeLine := by rw [List.length_reverse]; exact hz
  have rr : Vals xs.reverse its.reverse := by
    have : ∀ {xs : List V} {us : List Value}, Vals xs us → ∀ {ys : List V} {ws : List Value}, Vals ys ws → Vals (xs.reverse ++ ys) (us.reverse ++ ws) := by
      intro xs us r
      induction r with
      | nil => intro ys ws r2; exact r2
      | cons a r ih =>
        intro ys ws r2
        rw [List.reverse_cons, List.reverse_cons, List.append_assoc, List.append_assoc]
        exact ih (.cons a r2)
    have := this rv .nil
    simpa using this
  have := laidS (tk := s2.toks) I3 rr len q2
  simpa using this
end F2
set_option Elab.async false
set_option linter.all false
set_option maxRecDepth 100000
set_option maxHeartbeats 1000000
namespace F2
open PySem PySem.Spec PyProof.Rows
open L2
section
variable {prog : Program} {w : World} {A : Around} {E : Value → Shared → Prop} {s : Shared}
theorem tupWhole {t sl : Addr} {items : Array Value} {vl vu : Value} {lo hi : Option Int} {Q : Value → Shared → Prop} (ht : IsTup s.heap t items) (hs : s.heap.IsSliceOf sl vl vu .none) (pl : IsPart vl lo) (pu : IsPart vu hi)
    (hw : HT.sIx items.size 0 lo = 0 ∧ HT.sIx items.size items.size hi = items.size) (h : Q (.ref t) s) (hsz : items.size ≤ sizeLine) : wpAny (model prog w) A (getItem (.ref t) (.ref sl)) Q E s := by
  obtain ⟨os, hos, hcs, hds⟩ := id hs
  have tyS : s.TypeIs (.ref sl) "slice" := ⟨os, hos, hcs⟩
  unfold getItem
  try with_reducible refine wpAny_holding ?_
  first | refine wpAny_bind (wpAny_pure ?_) | skip
  refine wpAny_bind (wpAny_sequenceKey ht.typeIs (by decide) ?_)
  refine wpAny_bind (wpAny_callSpecial?_slot (name := Str.ofString "__getitem__") ht.typeIs PyProof.Rows.slot_tuple_getitem
    (wpAny_call_entry PyProof.Rows.slot_tuple_getitem ht.typeIs entry_tuple_getitem ?_ (args_tuple_getitem _ _)))
  show wpAny _ _ (Builtin.Tuple.tupleItemsOf (.ref t) >>= _) _ _ s
  refine wpAny_bind (tupleItemsOf_ ht (wpAny_bind (wpAny_typeOf tyS ?_)))
  rw [if_pos (by decide)]
  refine wpAny_bind (HT.sliceApplied_gen hs pl pu ?_)
  have yes : (((HT.sIx items.size 0 lo : Nat) : Int) == 0 && (1 : Int) == 1 && (HT.sIx items.size items.size hi - HT.sIx items.size 0 lo) == items.size) = true := by
    rw [hw.1, hw.2]; simp
  show wpAny _ _ (if (((HT.sIx items.size 0 lo : Nat) : Int) == 0 && (1 : Int) == 1 && (HT.sIx items.size items.size hi - HT.sIx items.size 0 lo) == items.size) = true then _ else _) _ _ s
  rw [if_pos yes]
  obtain ⟨⟨cls, dd, data, sl'⟩, ho, hc, n, hd⟩ := id ht
  simp only at hc hd
  subst hc hd
  wp_walk using wpAny_loadPart' ho
  exact ⟨_, rfl, wpAny_pure h⟩
theorem tupMul1 (l : Addr) (items : Array Value) (n : Nat) (dd : Option Addr) (sl : Array (Option Value)) (x : Int) (u : Tok) (c0 : (decide (x < -(2 ^ 63)) || decide (x ≥ 2 ^ 63)) = false) (c1 : (items.isEmpty || x == 1) = true) :
    Meets (Builtin.«tuple.__mul__» ⟨[.ref l, .int x u], []⟩) (fun _ R s => s.heap.get? l = some { cls := .type "tuple", dict := dd, data := .seq items n, slots := sl } ∧ R (.ok (.ret (Value.ref l))) s) :=
  .of_wp fun prog w A R s h => by
    obtain ⟨hp, g, d, tk, os⟩ := s
    obtain ⟨hl, h⟩ := h
    have f1 := AutoSeq1.idx_int
    wp_walk using wpAny_loadPart' hl
    refine wpAny_ite_false (decide_eq_false (by rw [c0]; exact Bool.false_ne_true)) ?_
    wp_walk using wpAny_loadPart' hl
    exact ⟨_, rfl, h⟩
theorem tupMul0 (l : Addr) (items : Array Value) (n : Nat) (dd : Option Addr) (sl : Array (Option Value)) (x : Int) (u : Tok) (c0 : (decide (x < -(2 ^ 63)) || decide (x ≥ 2 ^ 63)) = false) (c1 : (items.isEmpty || x == 1) = false) (c2 : (decide (x ≤ 0) || items.isEmpty) = true) :
    Meets (Builtin.«tuple.__mul__» ⟨[.ref l, .int x u], []⟩) (fun _ R s => s.heap.get? l = some { cls := .type "tuple", dict := dd, data := .seq items n, slots := sl } ∧
      R (.ok (.ret (Value.ref s.heap.objs.size))) { s with heap := s.heap.push { cls := Value.type "tuple", data := Data.seq #[] }, toks := s.toks }) :=
  .of_wp fun prog w A R s h => by
    obtain ⟨hp, g, d, tk, os⟩ := s
    obtain ⟨hl, h⟩ := h
    have f1 := AutoSeq1.idx_int
    wp_walk using wpAny_loadPart' hl
    refine wpAny_ite_false (decide_eq_false (by rw [c0]; exact Bool.false_ne_true)) ?_
    wp_walk using wpAny_loadPart' hl
    repeat (first
      | (refine wpAny_ite_false (decide_eq_false (by rw [c1]; exact Bool.false_ne_true)) ?_; wp_walk using wpAny_loadPart' hl)
      | (refine wpAny_ite_true (decide_eq_true c2) ?_; wp_walk using wpAny_loadPart' hl))
    exact ⟨_, rfl, h⟩
end
section
variable {X : Cx}
theorem sl_tupW : SlR X (fun x lo hi H Q => ∃ a xs, x = .ref a ∧ SqT X.K H a xs ∧ (HT.sIx xs.length 0 lo = 0 ∧ HT.sIx xs.length xs.length hi = xs.length) ∧ Q (.ref a) H) := by
  intro pins s σ H x v vl vu lo hi sl Q I rx hs pl pu h
  obtain ⟨a, xs, rfl, hx, hw, q⟩ := h
  cases rx
  obtain ⟨its, r, ht, hz⟩ := I.tuple hx
  have hlen : its.toArray.size = xs.length := by rw [List.size_toArray]; exact r.length.symm
  exact ⟨"tuple", _, PyProof.Rows.slot_tuple_getitem.lookup, ht.typeIs, tupWhole ht hs pl pu (by rw [hlen]; exact hw) ⟨.ref a, H, I, rfl, q⟩ (by rw [hlen]; exact hz)⟩
def rRepE (K : PySem.W.Frag) : R2 := fun x y H Q => ∃ l k xs, x = .ref l ∧ y = .int k ∧ SqT K H l xs ∧ k ≤ 1000 ∧ -1000 ≤ k ∧
  ((xs = [] ∨ k = 1) → Q (.ref l) H) ∧ (xs ≠ [] → k ≤ 0 → newS [] H Q) ∧ (xs = [] ∨ k ≤ 1)
theorem op_repE : OpR X (binaryOp .Mult) (rRepE X.K) := by
  intro pins s σ H x y v u Q I rx ry h
  obtain ⟨l, k, xs, rfl, rfl, hT, h1, h2, q1, q2, hd⟩ := h
  cases rx
  obtain ⟨t, rfl⟩ := ry
  obtain ⟨its, r, ⟨⟨cls, dd, data, sl⟩, ho, hc, n, hd'⟩, hs⟩ := I.tuple hT
  simp only at hc hd'
  subst hc hd'
  have c0 : (decide (k < -(2 ^ 63)) || decide (k ≥ 2 ^ 63)) = false := by
    rw [decide_eq_false (by omega), decide_eq_false (by omega)] <;> rfl
  by_cases c1 : (its.toArray.isEmpty || k == 1) = true
  · have z : xs = [] ∨ k = 1 := by
      rcases Bool.or_eq_true _ _ ▸ c1 with z | z
      · left
        cases r with
        | nil => rfl
        | cons _ _ => simp at z
      · right; exact eq_of_beq z
    exact wpAny_binaryOp_repeat_ref (T := "tuple") (U := "int") (by decide) ⟨_, ho, rfl⟩ (fun s' => typeIs_int s' k t) noFill_tuple_mul F.fills_int_mul F.slot_int_rmul repeat_tuple F.slot_int_index.lookup
      (call_meets F.slot_int_rmul (typeIs_int s k t) F.entry_int_rmul (F.args_int_rmul_2 _ _) (int_rmul_tuple k t l its.toArray n dd sl)
        ⟨ho, rfl, ⟨_, ho, rfl⟩, call_meets F.slot_tuple_mul ⟨_, ho, rfl⟩ F.entry_tuple_mul (F.args_tuple_mul_2 _ _) (tupMul1 l its.toArray n dd sl k t c0 c1) ⟨ho, .ref l, H, I, rfl, q1 z⟩⟩)
  · have c1' : (its.toArray.isEmpty || k == 1) = false := by simpa using c1
    have ne : xs ≠ [] := fun z => by
      subst z; cases r; simp at c1'
    have k0 : k ≤ 0 := by
      have : k ≠ 1 := fun z => by subst z; simp at c1'
      rcases hd with z | z
      · exact absurd z ne
      · omega
    refine wpAny_binaryOp_repeat_ref (T := "tuple") (U := "int") (by decide) ⟨_, ho, rfl⟩ (fun s' => typeIs_int s' k t) noFill_tuple_mul F.fills_int_mul F.slot_int_rmul repeat_tuple F.slot_int_index.lookup
      (call_meets F.slot_int_rmul (typeIs_int s k t) F.entry_int_rmul (F.args_int_rmul_2 _ _) (int_rmul_tuple k t l its.toArray n dd sl)
        ⟨ho, rfl, ⟨_, ho, rfl⟩, call_meets F.slot_tuple_mul ⟨_, ho, rfl⟩ F.entry_tuple_mul (F.args_tuple_mul_2 _ _) (tupMul0 l its.toArray n dd sl k t c0 c1' (by simp [k0])) ⟨ho, ?_⟩⟩)
    exact laidS (tk := s.toks) (us := []) I .nil (Nat.zero_le _) (q2 ne k0)
end
end F2
set_option Elab.async false
set_option linter.all false
set_option maxRecDepth 100000
set_option maxHeartbeats 1000000
namespace F2
open PySem PySem.Spec PyProof.Rows
open L2
open RT
section
variable {prog : Program} {w : World} {A : Around} {E : Value → Shared → Prop} {s : Shared}
theorem initRev {it l : Addr} {items : Array Value} {R : Result → Shared → Prop} (hh : A.handled = none) (hit : s.heap.IsRevIter it l ((items.size : Int) - 1)) (hl : s.heap.IsList l items) (hne : l ≠ it) (hn : items.size ≤ sizeLine)
    (S : Addr) (nSi : S ≠ it) (nSl : S ≠ l) (hS : s.heap.get? S = some { cls := .type "list", data := .seq #[] })
    (hR : ∀ h' tk acc' c', (∀ b o, b ≠ S → b ≠ it → s.heap.get? b = some o → h'.get? b = some o) → h'.get? S = some { cls := .type "list", dict := none, data := .seq acc' c', slots := #[] } →
      ItemsOf (fun i v => items[items.size - 1 - i]? = some v) acc' items.size → R (.ok (.ret .none)) { s with heap := h', toks := tk }) :
    wpAny (model prog w) A.in1 (Builtin.«list.__init__» ⟨[.ref S, .ref it], []⟩)
      (fun fin s' => match fin with | .done f => R (.ok f) s' | .again c' => c'.quiet = true ∧ codeAny (model prog w) A c' R s') (fun e s' => R (.error e) s') s := by
  have W := (Walks.listRev (prog := prog) (w := w) (A := A.in1) hh it l hne items).toS
  have nf : S ∉ [it, l] := by simp only [List.mem_cons, List.not_mem_nil, or_false, not_or]; exact ⟨nSi, nSl⟩
  show wpAny _ _ (do let old ← Builtin.List.listItems (.ref S); Builtin.List.listUpdate (.ref S) (fun _ => #[]); letGo old.toList.reverse; Builtin.List.listExtendWith (.ref S) (.ref it) .none) _ _ s
  refine wpAny_bind ?_
  unfold Builtin.List.listItems
  refine wpAny_bind (wpAny_seqItems hS rfl (wpAny_pure ?_))
  show wpAny _ _ (updateSeq S (fun _ => #[]) >>= fun _ => letGo (#[] : Array Value).toList.reverse >>= fun _ => Builtin.List.listExtendWith (.ref S) (.ref it) .none) _ _ s
  refine wpAny_bind (wpAny_updateSeq hS rfl ?_)
  have hS2 := Heap.get?_update_self (Obj.mapSeq (fun _ => (#[] : Array Value))) hS rfl
  have oth : ∀ b o, b ≠ S → s.heap.get? b = some o → (s.heap.update S (Obj.mapSeq (fun _ => (#[] : Array Value)))).get? b = some o :=
    fun b o hb e => (Heap.get?_update_other _ _ (Ne.symm hb)).trans e
  refine wpAny_bind (wpAny_letGo ?_)
  have hit1 : (s.heap.update S (Obj.mapSeq (fun _ => (#[] : Array Value)))).IsRevIter it l ((items.size : Int) - 1) := hit.at fun o e => oth it o (Ne.symm nSi) e
  have hl1 : (s.heap.update S (Obj.mapSeq (fun _ => (#[] : Array Value)))).IsList l items := by
    obtain ⟨o, ho, r⟩ := hl
    exact ⟨o, oth l o (Ne.symm nSl) ho, r⟩
  have hT : ({ s with heap := s.heap.update S (Obj.mapSeq (fun _ => (#[] : Array Value))) } : Shared).TypeIs (.ref it) "list_reverseiterator" := Heap.IsRevIter.typeIs (s := { s with heap := s.heap.update S (Obj.mapSeq (fun _ => (#[] : Array Value))) }) hit1
  have h1 : Builtin.List.listSameRef (.ref S) (.ref it) = false := by simp [Builtin.List.listSameRef, nSi]
  unfold Builtin.List.listExtendWith
  refine wpAny_bind (wpAny_typeOf hT ?_)
  rw [if_neg (by rw [h1]; decide)]
  refine wpAny_bind (wpAny_pyIter_revIter (s := { s with heap := s.heap.update S (Obj.mapSeq (fun _ => (#[] : Array Value))) }) hit1 ?_)
  refine wpAny_bind (wpAny_holding ?_)
  unfold Builtin.List.listLengthHint
  refine wpAny_bind (wpAny_specialOf hT nolen_lri ?_)
  show wpAny _ A.in1 (specialOf (Value.ref it) (Str.ofString "__length_hint__") >>= _) _ _ _
  refine wpAny_bind (wpAny_specialOf hT hint_lri ?_)
  generalize hid : ("list_reverseiterator.__length_hint__" : String) = id0
  wp_delta
  rw [show splitId id0 = some ("list_reverseiterator", "__length_hint__") from by subst hid; decide +kernel]
  subst hid
  refine wpAny_bind (wpAny_isInstance (b := true) hT (by rw [isSubtype_type]; kernel_rfl) ?_)
  refine wpAny_pure ?_
  rw [if_neg (by decide)]
  have e0 : ((items.size : Nat) : Int) - 1 - ((0 : Nat) : Int) = (items.size : Int) - 1 := by omega
  refine wpAny_pure ⟨plainId_quiet F.plain_extend_loop _, codeAny_extend_loopS W hn _ nf _ items.size 0 _ _ _ rfl (Nat.zero_le _) ⟨Nat.zero_le _, by rw [e0]; exact hit1, hl1⟩ hS2 (ItemsOf.nil _) fun s' acc' c' hm hS' hacc => ?_⟩
  rw [Moved.eq_with hm]
  refine hR s'.heap s'.toks acc' c' (fun b o hb hi e => hm.heap b o (fun hmem => ?_) (oth b o hb e)) hS' hacc
  rcases List.mem_cons.mp hmem with e' | hmem
  · exact hb e'
  · exact hi (List.mem_singleton.mp hmem)
theorem callListRev {it l : Addr} {items : Array Value} {Q : Value → Shared → Prop} (hh : A.handled = none) (hit : s.heap.IsRevIter it l ((items.size : Int) - 1)) (hl : s.heap.IsList l items) (hne : l ≠ it) (hn : items.size ≤ sizeLine)
    (hQ : ∀ h' tk acc' c', (∀ b o, b ≠ it → s.heap.get? b = some o → h'.get? b = some o) → h'.get? s.heap.objs.size = some { cls := .type "list", dict := none, data := .seq acc' c', slots := #[] } →
      ItemsOf (fun i v => items[items.size - 1 - i]? = some v) acc' items.size → Q (.ref s.heap.objs.size) { s with heap := h', toks := tk }) :
    wpAny (model prog w) A (call (.type "list") [.ref it]) Q E s := by
  obtain ⟨oi, hoi, _⟩ := id hit
  obtain ⟨ol, hol, _⟩ := id hl
  refine callType_codes (Q₁ := fun obj s₁ => obj = .ref s.heap.objs.size ∧ s₁ = { s with heap := s.heap.push { cls := .type "list", data := .seq #[] } }) F.called_list (F.typeCall_list_1 _) F.entry_list_init
    (code_list_new _ ⟨rfl, rfl⟩) fun obj s₁ h₁ => ?_
  obtain ⟨rfl, rfl⟩ := h₁
  have hS : (s.heap.push { cls := .type "list", data := .seq #[] }).get? s.heap.objs.size = some { cls := .type "list", data := .seq #[] } := Heap.get?_push_size _ rfl
  refine ⟨⟨_, hS, rfl⟩, F.args_list_init_2 _ _, initRev (A := A.in1) hh (hit.at fun o e => Heap.get?_push_of_some _ e) (hl.push _) hne hn _ (Nat.ne_of_gt (Heap.lt_size hoi)) (Nat.ne_of_gt (Heap.lt_size hol)) hS fun h' tk acc' c' hk hS' hacc => ?_⟩
  exact ⟨rfl, hQ h' tk acc' c' (fun b o hb e => hk b o (Nat.ne_of_lt (Heap.lt_size e)) hb (Heap.get?_push_of_some _ e)) hS' hacc⟩
end
section
variable {X : Cx}
def tLstRev (K : PySem.W.Frag) (te : TE) : TE := fun σ H Q => te σ H fun v H1 => ∃ (a : Addr) (xs : List V), v = .ref a ∧ SqL K H1 a xs ∧ ∀ q, H1 q = none → Q (.ref q) (upd H1 q (.lst xs.reverse))
theorem pe_lstRev {e : Expr} {te : TE} {p p2 pos pos2 : Pos} (hc : X.calm = true) (hg : Gl X "list") (hm : X.mg "list" = none) (hg2 : Gl X "reversed") (hm2 : X.mg "reversed" = none) (he : PE X e te)
    (hs : starEach [e] X.env = (false, eval e X.env) :: starEach [] X.env)
    (hs2 : starEach [.Call (.Name "reversed" p2) [e] [] pos2] X.env = (false, eval (.Call (.Name "reversed" p2) [e] [] pos2) X.env) :: starEach [] X.env := by rfl) :
    PE X (.Call (.Name "list" p) [.Call (.Name "reversed" p2) [e] [] pos2] [] pos) (tLstRev X.K te) := by
  refine ⟨fun pins s σ H Q I h => ?_⟩
  refine Call_ (ld_blt I hg hm boot_list (PyProof.Rows.callWith_type1 (args_cons (Call_ (ld_blt I hg2 hm2 PyProof.Rows.boot_reversed (PyProof.Rows.callWith_type1 (args_cons (thn (he.run pins s σ H _ I h) fun u s1 ⟨v, H1, I1, r1, q1⟩ => args_nil ?_) hs) hs rfl))) hs2) hs2 rfl))
  obtain ⟨a, xs, ev, hq, q⟩ := q1
  subst ev
  obtain rfl : u = Value.ref a := r1
  obtain ⟨its, rv, p', hz⟩ := I1.list hq
  refine call_reversed_list p'.isList (args_nil ?_)
  have k0 : ∀ b o, s1.heap.get? b = some o → (s1.heap.push (revObj a ((its.toArray.size : Int) - 1))).get? b = some o := fun b o e => Heap.get?_push_of_some _ e
  have I2 : Inv X pins σ H1 { s1 with heap := s1.heap.push (revObj a ((its.toArray.size : Int) - 1)) } := I1.kept (t' := s1.toks) k0
  obtain ⟨f0, f1, f2, f3, f4, f5⟩ := I1.fpOk (H' := H1) (b := s1.heap.objs.size) (Nat.le_refl _) (I1.hok.fresh (Nat.le_refl _))
  have hl := p'.isList
  obtain ⟨ol, hol, _⟩ := id hl
  have hne : a ≠ s1.heap.objs.size := Nat.ne_of_lt (Heap.lt_size hol)
  have hn : its.toArray.size ≤ sizeLine := by rw [List.size_toArray, ← rv.length]; exact hz
  refine callListRev (s := { s1 with heap := s1.heap.push (revObj a ((its.toArray.size : Int) - 1)) }) (I1.ok.hd hc) ⟨_, Heap.get?_push_size _ rfl, rfl, rfl⟩ (hl.push _) hne hn fun h' tk acc c' hk hS hi => ?_
  have sz : (s1.heap.push (revObj a ((its.toArray.size : Int) - 1))).objs.size = s1.heap.objs.size + 1 := Heap.size_push ..
  have I3 : Inv X pins σ H1 { s1 with heap := h', toks := tk } := I2.turned (t' := tk) (fun b o hb e => hk b o hb e) f0 f1 f3 f4 f5
  have nq : H1 (s1.heap.push (revObj a ((its.toArray.size : Int) - 1))).objs.size = none := I2.hok.fresh (Nat.le_refl _)
  have new : ObjOk X.prog X.w (upd H1 (s1.heap.push (revObj a ((its.toArray.size : Int) - 1))).objs.size (.lst xs.reverse)) h' (s1.heap.push (revObj a ((its.toArray.size : Int) - 1))).objs.size (.lst xs.reverse) :=
    ⟨by rw [List.length_reverse]; exact hz, acc.toList, c', vals_rev rv hi, by rw [Array.toArray_toList]; exact hS⟩
  refine ⟨.ref (s1.heap.push (revObj a ((its.toArray.size : Int) - 1))).objs.size, _, ?_, rfl, q _ nq⟩
  refine I2.turnedNew (ch := [s1.heap.objs.size]) (t' := tk) (fun b o hb e => hk b o (fun z => hb (by simp [z])) e) (fun b hb => ?_) (Nat.le_refl _) new
  obtain rfl : b = s1.heap.objs.size := by simpa using hb
  exact ⟨f0, f1, f2, f3, f4, f5⟩
end
end F2
set_option Elab.async false
set_option linter.all false
set_option maxRecDepth 100000
set_option maxHeartbeats 1000000
namespace F2
open PySem PySem.Spec PyProof.Rows
open L2
theorem enumNew {v : Value} {o : Obj} {H : Heap → Prop} (B : Begins v o H) :
    Meets (Builtin.«enumerate.__new__» ⟨[.type "enumerate", v], []⟩) (fun _ R s => H s.heap ∧
      R (.ok (.ret (.ref (s.heap.push o).objs.size))) { s with heap := (s.heap.push o).push { cls := .type "enumerate", data := .fields #[.none, .bool false, .ref s.heap.objs.size, rawInt 0, .none, .none] } }) :=
  .of_wp fun prog w A R s h => by
    obtain ⟨hp, g, d, tk, os⟩ := s
    obtain ⟨h1, h⟩ := h
    have hsub := sub_enumerate
    have q1 : ∀ {A' : Around} {E : Value → Shared → Prop} {Q : Value → Shared → Prop}, Q (.ref hp.objs.size) ⟨hp.push o, g, d, tk, os⟩ → wpAny (model prog w) A' (pyIter v) Q E ⟨hp, g, d, tk, os⟩ :=
      fun q => B.iter prog w _ _ ⟨hp, g, d, tk, os⟩ _ h1 q
    wp_walk using q1
    refine wpAny_stack_any fun st => wpAny_pure ?_
    split
    · rename_i c _ _ _ _ _
      cases (c == Value.type "enumerate") <;> (wp_walk using q1; exact ⟨_, rfl, h⟩)
    · wp_walk using q1
      exact ⟨_, rfl, h⟩
theorem enumBegins {prog : Program} {w : World} {A : Around} {E : Value → Shared → Prop} {s : Shared} {v : Value} {o : Obj} {H : Heap → Prop} {Q : Value → Shared → Prop} (B : Begins v o H) (h1 : H s.heap)
    (h : ∀ h', IsEnum h' (s.heap.objs.size + 1) s.heap.objs.size 0 .none → h'.get? s.heap.objs.size = some o → h'.objs.size = s.heap.objs.size + 2 →
      (∀ b o, s.heap.get? b = some o → h'.get? b = some o) → Q (.ref (s.heap.objs.size + 1)) { s with heap := h' }) :
    wpAny (model prog w) A (call (.type "enumerate") [v]) Q E s := by
  refine callType_new F.called_enumerate (by decide) (F.typeCall_enumerate_1 _) (F.newCall_enumerate_1 _) (fun obj => F.args_object_init_2 obj _) F.entry_enumerate_new (enumNew B) ⟨h1, ?_⟩
  have hz : (s.heap.push o).objs.size = s.heap.objs.size + 1 := Heap.size_push ..
  show _ ∧ _
  rw [hz]
  have he : IsEnum ((s.heap.push o).push { cls := .type "enumerate", data := .fields #[.none, .bool false, .ref s.heap.objs.size, rawInt 0, .none, .none] }) (s.heap.objs.size + 1) s.heap.objs.size 0 .none := by
    have := Heap.get?_push_size (s.heap.push o) (o := { cls := .type "enumerate", data := .fields #[.none, .bool false, .ref s.heap.objs.size, rawInt 0, .none, .none] }) rfl
    rw [hz] at this; exact this
  exact ⟨⟨_, he, rfl⟩, h _ he (Heap.get?_push_of_some _ (Heap.get?_push_size _ B.free)) (by rw [Heap.size_push, hz]) fun b o x => Heap.get?_push_of_some _ (Heap.get?_push_of_some _ x)⟩
def IteT (K : PySem.W.Frag) (a : Addr) : It :=
  ⟨fun i H => ∃ (xs : List V) (x : V), SqT K H a xs ∧ xs[i]? = some x, fun i H v H' => ∃ T x, v = .ref T ∧ H T = none ∧ H' = upd H T (.tup [.int (i : Nat), x]) ∧ ∀ xs, SqT K H a xs → xs[i]? = some x, fun i H => ∃ xs : List V, SqT K H a xs ∧ xs.length = i⟩
theorem turn_enumT {P : Program} {w : World} {K : PySem.W.Frag} {elts : List Expr} {kk : Nat} {tpos : Pos} (a e it : Addr) (hai : a ≠ it) (hae : a ≠ e) :
    Turn P w K (.Tuple elts kk tpos) (IteT K a) [e, it] e (fun i h => (∃ old, IsEnum h e it ((i : Nat) : Int) old) ∧ h.IsTupleIter it a i ∧ e ≠ it) where
  mem := by simp
  obj := fun i h st b hb => by
    obtain ⟨⟨old, he⟩, ⟨o, ho, hc, hd⟩, _⟩ := st
    have e' : b = e ∨ b = it := by simpa using hb
    rcases e' with z | z
    · subst z; exact ⟨_, he, fun v q => nomatch q⟩
    · subst z; exact ⟨o, ho, fun v q => by rw [hd] at q; cases q⟩
  keep := fun i h h' st k => let ⟨⟨old, he⟩, hi, hne⟩ := st; ⟨⟨old, k e (by simp) _ he⟩, hi.at fun o q => k it (by simp) o q, hne⟩
  item := by
    intro X hP hw hK hc i pins s σ H E I hf st hg
    subst hP hw hK
    obtain ⟨⟨old, he⟩, hit, hne⟩ := st
    obtain ⟨xs, x, hq, hx⟩ := hg
    obtain ⟨its, rv, p, hz⟩ := I.tuple hq
    obtain ⟨u, hu, ru⟩ := rv.get hx
    have hel : e < s.heap.objs.size := Heap.lt_size he
    have hil : it < s.heap.objs.size := by obtain ⟨_, q, _⟩ := hit; exact Heap.lt_size q
    have hi : i < its.toArray.size := by
      rw [List.size_toArray]
      exact (List.getElem?_eq_some_iff.mp hu).1
    have ef : e ∉ [it, a] := by simp only [List.mem_cons, List.not_mem_nil, or_false, not_or]; exact ⟨hne, Ne.symm hae⟩
    have D := Draws.tuple (prog := X.prog) (w := X.w) (A := X.A.in1) (I.ok.hd hc) it a hai its.toArray
    refine wpAny_pyNext_enum_itemC D he ⟨hit, p⟩ hi hne ef fun y h' tk hy ho hit' hT hsz hk => ?_
    have hyu : y = u := by
      have : its.toArray[i]? = some u := by simpa using hu
      rw [this] at hy; exact (Option.some.inj hy).symm
    subst hyu
    refine ⟨_, rfl, wpAny_letOwnedTupleGo_enum (s := { s with heap := h', toks := tk + 1 }) ho fun h'' he' sb => ?_⟩
    have hT2 : h''.get? s.heap.objs.size = some { cls := .type "tuple", data := .seq #[.int i tk, y] } := (sb.2 _ (Nat.ne_of_gt hel)).trans hT
    have new : ObjOk X.prog X.w (upd H s.heap.objs.size (.tup [.int (i : Nat), x])) h'' s.heap.objs.size (.tup [.int (i : Nat), x]) :=
      ⟨by show 2 ≤ sizeLine; decide, [.int i tk, y], .cons ⟨_, rfl⟩ (.cons ru .nil), ⟨_, hT2, rfl, _, rfl⟩⟩
    have I1 : L2.Inv X pins σ (upd H s.heap.objs.size (.tup [.int (i : Nat), x])) { s with heap := h'', toks := tk + 1 } :=
      I.turnedNew (ch := [e, it]) (fun b ob hb q => (sb.2 b (fun z => hb (by simp [z]))).trans (hk b ob (fun z => hb (by simp [z])) (fun z => hb (by simp [z])) q)) hf (Nat.le_refl _) new
    refine ⟨.ref s.heap.objs.size, _, I1, rfl, ⟨_, x, rfl, I.hok.fresh (Nat.le_refl _), rfl, fun ys hy => by rw [I.tuple_inj hy hq]; exact hx⟩, ⟨⟨y, ?_⟩, hit'.1.at fun o q => (sb.2 it (Ne.symm hne)).trans q, hne⟩, fun b hb => ?_⟩
    · have e1 : ((i + 1 : Nat) : Int) = (i : Int) + 1 := by omega
      rw [e1]; exact he'
    · have hb' : b < s.heap.objs.size := by
        have e' : b = e ∨ b = it := by simpa using hb
        rcases e' with z | z
        · rw [z]; exact hel
        · rw [z]; exact hil
      rw [upd_ne (Nat.ne_of_lt hb')]
      exact (hf b hb).1
  done := by
    intro X hP hw hK hc i pins s σ H E I hf st hg
    subst hP hw hK
    obtain ⟨⟨old, he⟩, hit, hne⟩ := st
    obtain ⟨xs, hq, hx⟩ := hg
    obtain ⟨its, rv, p, hz⟩ := I.tuple hq
    obtain ⟨f0, f1, f2, f3, f4, f5⟩ := hf it (by simp)
    have hl := rv.length
    have D := Draws.tuple (prog := X.prog) (w := X.w) (A := X.A.in1) (I.ok.hd hc) it a hai its.toArray
    have ei : i = its.toArray.size := by rw [List.size_toArray]; omega
    rw [ei] at hit he
    exact wpAny_pyNext_enum_endD D he ⟨hit, p⟩ fun h' eb => ⟨rfl, I.turned (t' := s.toks) (fun b o hb q => eb b o hb q) f0 f1 f3 f4 f5⟩
  self := fun A i s Q E st h => let ⟨⟨_, he⟩, _⟩ := st; wpAny_pyIter_enum he h
def iEnumT (K : PySem.W.Frag) (ta : TA) : TI := fun σ H R => ta σ H fun vs H1 => ∃ a xs, vs = [.ref a] ∧ ((SqL K H1 a xs ∧ R (Ite K a) H1) ∨ (SqT K H1 a xs ∧ R (IteT K a) H1))
theorem pi_enumT {X : Cx} {e : Expr} {ta : TA} {p pos tpos : Pos} {elts : List Expr} {kk : Nat} (hg : Gl X "enumerate") (hm : X.mg "enumerate" = none) (ha : PA X [e] ta) (hs : starEach [e] X.env = [(false, eval e X.env)]) :
    PI X (.Tuple elts kk tpos) (.Call (.Name "enumerate" p) [e] [] pos) (iEnumT X.K ta) := by
  refine ⟨fun pins s σ H R I h => ?_⟩
  refine Call_ (ld_blt I hg hm boot_enumerate (PyProof.Rows.callWith_type1 (thn (ha.run pos pins s σ H _ I h) fun us s1 ⟨vs, H1, I1, r1, q1⟩ => ?_) hs rfl))
  obtain ⟨a, xs, ex, q1⟩ := q1
  subst ex
  cases r1 with
  | cons r rr =>
    cases rr
    cases r
    have fp : ∀ b ∈ [s1.heap.objs.size + 1, s1.heap.objs.size], FpOk X pins H1 b := fun b hb => by
      have e' : b = s1.heap.objs.size + 1 ∨ b = s1.heap.objs.size := by simpa using hb
      have hle : s1.heap.objs.size ≤ b := by
        rcases e' with z | z
        · rw [z]; exact Nat.le_add_right _ _
        · rw [z]; exact Nat.le_refl _
      exact I1.fpOk hle (I1.hok.fresh hle)
    rcases q1 with ⟨hq, q⟩ | ⟨hq, q⟩
    · obtain ⟨its, rv, p', hz⟩ := I1.list hq
      refine call_enumerate_list p'.isList fun h' he hit hsz hk => wpAny_pyIter_enum he ?_
      have I2 : L2.Inv X pins σ H1 { s1 with heap := h' } := I1.kept (t' := s1.toks) hk
      exact ⟨s1.heap.objs.size + 1, [s1.heap.objs.size + 1, s1.heap.objs.size], _, _, H1, rfl, I2, turn_enum a (s1.heap.objs.size + 1) s1.heap.objs.size, ⟨⟨.none, he⟩, hit, Nat.succ_ne_self _⟩, fp, q⟩
    · obtain ⟨its, rv, p', hz⟩ := I1.tuple hq
      have al : a < s1.heap.objs.size := p'.lt
      refine enumBegins (begins_tuple a its.toArray) p' fun h' he hit hsz hk => wpAny_pyIter_enum he ?_
      have I2 : L2.Inv X pins σ H1 { s1 with heap := h' } := I1.kept (t' := s1.toks) hk
      exact ⟨s1.heap.objs.size + 1, [s1.heap.objs.size + 1, s1.heap.objs.size], _, _, H1, rfl, I2, turn_enumT a (s1.heap.objs.size + 1) s1.heap.objs.size (Nat.ne_of_lt al) (Nat.ne_of_lt (Nat.lt_succ_of_lt al)),
        ⟨⟨.none, he⟩, ⟨_, hit, rfl, rfl⟩, Nat.succ_ne_self _⟩, fp, q⟩
end F2
set_option Elab.async false
set_option linter.all false
set_option maxRecDepth 100000
set_option maxHeartbeats 4000000
namespace F2
open PySem PySem.Spec PyProof.Rows
open L2
section
variable {X : Cx}
theorem eqU_count {y : V} : ∀ {ys : List V} {us : List Value}, Vals ys us → ys.all flatV = true → us.countP (eqU y) = ys.countP fun z => eqV z y
  | _, _, .nil, _ => rfl
  | _, _, .cons r rs, f => by
    rw [List.all_cons, Bool.and_eq_true] at f
    rw [List.countP_cons, List.countP_cons, eqU_count rs f.2, eqU_of r f.1]
def rCntT (K : PySem.W.Frag) : V → List V → Hp → VK → Prop := fun x xs H Q => ∃ (p : Addr) (ys : List V) (y : V), x = .ref p ∧ xs = [y] ∧ SqT K H p ys ∧ flatV y = true ∧ ys.all flatV = true ∧ Q (.int ((ys.countP fun z => eqV z y) : Nat)) H
theorem mt_tcount : MtR X "tuple.count" (rCntT X.K) := by
  intro pins s σ H x xs v us Q I rx rxs h
  obtain ⟨p, ys, y, rfl, rfl, hs, fy, fys, q⟩ := h
  cases rx
  obtain ⟨uy, rfl, ry⟩ := rxs.one
  obtain ⟨its, rv, p1, _⟩ := I.tuple hs
  obtain ⟨⟨cls, dd, data, sl⟩, ho, hc, n, hd⟩ := id p1
  simp only at hc hd
  subst hc hd
  refine call_meets PySem.F.slot_tuple_count ⟨_, ho, rfl⟩ PySem.F.entry_tuple_count (PySem.F.args_tuple_count_2 _ _)
    (SeqAt.tuple_countAt p its.toArray n dd sl uy (eqU y)) ⟨ho, fun u' hu' => mem_eqAt ry fy rv fys u' (by simpa using hu'), ?_⟩
  have ec : its.toArray.toList.countP (eqU y) = ys.countP fun z => eqV z y := eqU_count rv fys
  refine ⟨.int ((ys.countP fun z => eqV z y) : Nat), H, I.tok _, ⟨s.toks, ?_⟩, q⟩
  rw [ec]
def rCntL (K : PySem.W.Frag) : V → List V → Hp → VK → Prop := fun x xs H Q => ∃ (p : Addr) (ys : List V) (y : V), x = .ref p ∧ xs = [y] ∧ SqL K H p ys ∧ flatV y = true ∧ ys.all flatV = true ∧ Q (.int ((ys.countP fun z => eqV z y) : Nat)) H
theorem mt_lcountF : MtR X "list.count" (rCntL X.K) := by
  intro pins s σ H x xs v us Q I rx rxs h
  obtain ⟨p, ys, y, rfl, rfl, hs, fy, fys, q⟩ := h
  cases rx
  obtain ⟨uy, rfl, ry⟩ := rxs.one
  obtain ⟨its, rv, ⟨⟨cls, dd, data, sl⟩, n, ho, hc, hdn, hd⟩, hlen⟩ := I.list hs
  simp only at hc hd
  subst hc hd
  refine call_meets PySem.F.slot_list_count ⟨_, ho, rfl⟩ PySem.F.entry_list_count (PySem.F.args_list_count_2 _ _)
    (SeqAt.list_countAt p its.toArray n dd sl uy (eqU y)) ⟨ho, fun u' hu' => mem_eqAt ry fy rv fys u' (by simpa using hu'), ?_⟩
  have ec : its.toArray.toList.countP (eqU y) = ys.countP fun z => eqV z y := eqU_count rv fys
  refine ⟨.int ((ys.countP fun z => eqV z y) : Nat), H, I.tok _, ⟨s.toks, ?_⟩, q⟩
  rw [ec]
end
end F2
set_option Elab.async false
set_option linter.all false
set_option maxRecDepth 100000
set_option maxHeartbeats 4000000
namespace F2
open PySem PySem.Spec PyProof.Rows
open L2
section
variable {prog : Program} {w : World} {A : Around} {E : Value → Shared → Prop} {s : Shared} {l : Addr} {xs : Array (Int × Tok)}
theorem iter_intTup {Q : Value → Shared → Prop} (hl : s.heap.IsTuple l (intItems xs))
    (h : ∀ s₂ : Shared, s₂ = { s with heap := s.heap.push { cls := .type "tuple_iterator", data := .fields #[.ref l, .int 0 0] } } →
      (s₂.heap.IsTupleIter s.heap.objs.size l 0 ∧ s₂.heap.IsTuple l (intItems xs)) → (∀ b ∈ [s.heap.objs.size, l], b < s₂.heap.objs.size) → l ≠ s.heap.objs.size → Q (.ref s.heap.objs.size) s₂) :
    wpAny (model prog w) A (pyIter (.ref l)) Q E s := by
  have hlt : l < s.heap.objs.size := by obtain ⟨_, e, _⟩ := hl; exact Heap.lt_size e
  refine wpAny_pyIter_tuple hl (h _ rfl ⟨⟨_, Heap.get?_push_size _ rfl, rfl, rfl⟩, ?_⟩ (fun b hb => ?_) (Nat.ne_of_lt hlt))
  · obtain ⟨o, e, r⟩ := hl
    exact ⟨o, Heap.get?_push_of_some _ e, r⟩
  show b < (s.heap.push _).objs.size
  rw [Heap.size_push]
  rcases List.mem_cons.mp hb with rfl | hb
  · exact Nat.lt_succ_self _
  · rcases List.mem_cons.mp hb with rfl | hb
    · exact Nat.lt_succ_of_lt hlt
    · cases hb
theorem old_keptT {h' : Heap} (hk : ∀ b o, b ∉ [s.heap.objs.size] → (s.heap.push { cls := .type "tuple_iterator", data := .fields #[.ref l, .int 0 0] }).get? b = some o → h'.get? b = some o) :
    ∀ b o, s.heap.get? b = some o → h'.get? b = some o := fun b o e => by
  refine hk b o (fun hm => ?_) (Heap.get?_push_of_some _ e)
  rcases List.mem_cons.mp hm with e1 | hm
  · exact absurd (e1 ▸ Heap.lt_size e) (Nat.lt_irrefl _)
  · cases hm
theorem max_intTup {Q : Value → Shared → Prop} (hh : A.handled = none) (hl : s.heap.IsTuple l (intItems xs)) (hne : 0 < xs.size)
    (h : ∀ v h' tk, (intItems xs)[argBest (fun i j => decide (numAt xs i > numAt xs j)) (xs.size - 1)]? = some v → (∀ b o, s.heap.get? b = some o → h'.get? b = some o) → Q v { s with heap := h', toks := tk }) :
    wpAny (model prog w) A (call (.builtin "max") [.ref l]) Q E s := by
  refine call_max_walk (iter_intTup hl fun s₂ e st hfp hlI => ?_)
  subst e
  refine ⟨_, _, _, _, _, _, _, rfl, Walks.tuple (A := A.in1) hh _ l hlI (intItems xs), st, hfp, by simpa [intItems] using hne, CmpOf.ints_gt (numAt xs) (fun _ _ => intItems_at), fun v h' tk hP hk => ?_⟩
  exact h v h' tk (by simpa [intItems] using hP) (old_keptT hk)
theorem min_intTup {Q : Value → Shared → Prop} (hh : A.handled = none) (hl : s.heap.IsTuple l (intItems xs)) (hne : 0 < xs.size)
    (h : ∀ v h' tk, (intItems xs)[argBest (fun i j => decide (numAt xs i < numAt xs j)) (xs.size - 1)]? = some v → (∀ b o, s.heap.get? b = some o → h'.get? b = some o) → Q v { s with heap := h', toks := tk }) :
    wpAny (model prog w) A (call (.builtin "min") [.ref l]) Q E s := by
  refine call_min_walk (iter_intTup hl fun s₂ e st hfp hlI => ?_)
  subst e
  refine ⟨_, _, _, _, _, _, _, rfl, Walks.tuple (A := A.in1) hh _ l hlI (intItems xs), st, hfp, by simpa [intItems] using hne, CmpOf.ints_lt (numAt xs) (fun _ _ => intItems_at), fun v h' tk hP hk => ?_⟩
  exact h v h' tk (by simpa [intItems] using hP) (old_keptT hk)
theorem sum_intTup {Q : Value → Shared → Prop} (hh : A.handled = none) (hl : s.heap.IsTuple l (intItems xs))
    (h : ∀ h' tk t', (∀ b o, s.heap.get? b = some o → h'.get? b = some o) → Q (.int (preSum (numAt xs) xs.size) t') { s with heap := h', toks := tk }) :
    wpAny (model prog w) A (call (.builtin "sum") [.ref l]) Q E s := by
  refine call_sum_walkG (iter_intTup hl fun s₂ e st hfp hlI => ?_)
  subst e
  refine ⟨_, _, _, _, _, _, numAt xs, rfl, Walks.tuple (A := A.in1) hh _ l hlI (intItems xs), st, hfp, (fun _ _ => intItems_at), fun h' tk t' hk => ?_⟩
  have := h h' tk t' (old_keptT hk)
  simpa [intItems] using this
variable {its : List Value} {ns : List Int} {Q : Value → Shared → Prop}
theorem sum_rawT (hh : A.handled = none) (hl : s.heap.IsTuple l its.toArray) (hi : IntsAre its ns)
    (h : ∀ h' tk t', (∀ b o, s.heap.get? b = some o → h'.get? b = some o) → Q (.int ns.sum t') { s with heap := h', toks := tk }) : wpAny (model prog w) A (call (.builtin "sum") [.ref l]) Q E s := by
  obtain ⟨xs, e⟩ := hi.allInts.items
  have hn : numsOf (intItems xs).toList = ns := by rw [← e]; exact hi.numsOf
  rw [nums_intItems] at hn
  rw [e] at hl
  refine sum_intTup hh hl fun h' tk t' hk => ?_
  have := h h' tk t' hk
  rw [preSum_eq, List.take_of_length_le (by simp), hn]; exact this
theorem max_rawT (hh : A.handled = none) (hl : s.heap.IsTuple l its.toArray) (hi : IntsAre its ns) (hne : 0 < ns.length)
    (h : ∀ h' tk M t', (∀ b o, s.heap.get? b = some o → h'.get? b = some o) → M ∈ ns → (∀ a, a ∈ ns → a ≤ M) → Q (.int M t') { s with heap := h', toks := tk }) : wpAny (model prog w) A (call (.builtin "max") [.ref l]) Q E s := by
  obtain ⟨xs, e⟩ := hi.allInts.items
  have hn : numsOf (intItems xs).toList = ns := by rw [← e]; exact hi.numsOf
  rw [nums_intItems] at hn
  subst hn
  rw [e] at hl
  have hsz : 0 < xs.size := by simpa using hne
  refine max_intTup hh hl hsz fun v h' tk hv hk => ?_
  obtain ⟨t, rfl⟩ := intItems_at hv
  obtain ⟨h1, h2⟩ := argBest_gt (numAt xs) (xs.size - 1)
  refine h h' tk _ t hk ?_ fun a ha => ?_
  · rw [numAt_eq]; exact PySem.getD_mem (by rw [List.length_map, Array.length_toList]; omega)
  · obtain ⟨j, hj, rfl⟩ := mem_getD ha
    rw [List.length_map, Array.length_toList] at hj
    rw [← numAt_eq]; exact h2 j (by omega)
theorem min_rawT (hh : A.handled = none) (hl : s.heap.IsTuple l its.toArray) (hi : IntsAre its ns) (hne : 0 < ns.length)
    (h : ∀ h' tk M t', (∀ b o, s.heap.get? b = some o → h'.get? b = some o) → M ∈ ns → (∀ a, a ∈ ns → M ≤ a) → Q (.int M t') { s with heap := h', toks := tk }) : wpAny (model prog w) A (call (.builtin "min") [.ref l]) Q E s := by
  obtain ⟨xs, e⟩ := hi.allInts.items
  have hn : numsOf (intItems xs).toList = ns := by rw [← e]; exact hi.numsOf
  rw [nums_intItems] at hn
  subst hn
  rw [e] at hl
  have hsz : 0 < xs.size := by simpa using hne
  refine min_intTup hh hl hsz fun v h' tk hv hk => ?_
  obtain ⟨t, rfl⟩ := intItems_at hv
  obtain ⟨h1, h2⟩ := argBest_lt (numAt xs) (xs.size - 1)
  refine h h' tk _ t hk ?_ fun a ha => ?_
  · rw [numAt_eq]; exact PySem.getD_mem (by rw [List.length_map, Array.length_toList]; omega)
  · obtain ⟨j, hj, rfl⟩ := mem_getD ha
    rw [List.length_map, Array.length_toList] at hj
    rw [← numAt_eq]; exact h2 j (by omega)
end
section
variable {X : Cx}
def rSumT (K : PySem.W.Frag) : List V → Hp → VK → Prop := fun vs H Q => ∃ (a : Addr) (ns : List Int), vs = [V.ref a] ∧ SqT K H a (ns.map V.int) ∧ Q (.int ns.sum) H
def rMaxT (K : PySem.W.Frag) : List V → Hp → VK → Prop := fun vs H Q => ∃ (a : Addr) (ns : List Int), vs = [V.ref a] ∧ SqT K H a (ns.map V.int) ∧ 0 < ns.length ∧ ∀ m, m ∈ ns → (∀ y, y ∈ ns → y ≤ m) → Q (.int m) H
def rMinT (K : PySem.W.Frag) : List V → Hp → VK → Prop := fun vs H Q => ∃ (a : Addr) (ns : List Int), vs = [V.ref a] ∧ SqT K H a (ns.map V.int) ∧ 0 < ns.length ∧ ∀ m, m ∈ ns → (∀ y, y ∈ ns → m ≤ y) → Q (.int m) H
theorem cr_sumT (hc : X.calm = true) : CallR X (.builtin "sum") (rSumT X.K) := by
  intro pins s σ H vs us Q I r h
  obtain ⟨a, ns, rfl, hs, q⟩ := h
  obtain ⟨its, rv, hl, _⟩ := I.tuple hs
  rw [Vals.ref1 r]
  exact sum_rawT (I.ok.hd hc) hl rv.ints fun h' tk t' hk => ⟨.int _, H, I.kept hk, ⟨_, rfl⟩, q⟩
theorem cr_maxT (hc : X.calm = true) : CallR X (.builtin "max") (rMaxT X.K) := by
  intro pins s σ H vs us Q I r h
  obtain ⟨a, ns, rfl, hs, hne, q⟩ := h
  obtain ⟨its, rv, hl, _⟩ := I.tuple hs
  rw [Vals.ref1 r]
  exact max_rawT (I.ok.hd hc) hl rv.ints hne fun h' tk m t' hk h1 h2 => ⟨.int _, H, I.kept hk, ⟨_, rfl⟩, q m h1 h2⟩
theorem cr_minT (hc : X.calm = true) : CallR X (.builtin "min") (rMinT X.K) := by
  intro pins s σ H vs us Q I r h
  obtain ⟨a, ns, rfl, hs, hne, q⟩ := h
  obtain ⟨its, rv, hl, _⟩ := I.tuple hs
  rw [Vals.ref1 r]
  exact min_rawT (I.ok.hd hc) hl rv.ints hne fun h' tk m t' hk h1 h2 => ⟨.int _, H, I.kept hk, ⟨_, rfl⟩, q m h1 h2⟩
end
end F2
set_option Elab.async false
set_option linter.all false
set_option maxRecDepth 100000
set_option maxHeartbeats 4000000
namespace F2
open PySem PySem.Spec PyProof.Rows
open L2
abbrev setNew (w : World) : Obj := { cls := .type "set", dict := none, data := .set #[] 0 (.fresh 0 0 (!w.params.followText "set-order")) }
section
variable {P : Program} {w : World} {A : Around} {E : Value → Shared → Prop} {s : Shared}
set_option maxRecDepth 100000 in
set_option maxHeartbeats 3200000 in
theorem call_set_lstI {l : Addr} {items : Array Value} (ns : List Int) {Q : Value → Shared → Prop} (zh : A.handled = none) (zl : s.heap.IsList l items) (zit : IntsAre items.toList ns) (zb : ns.length + 1 < scanBound)
    (h : ∀ (h' : Heap) (tj c : Nat), SetR w h' s.heap.objs.size (fun j => decide (j ∈ ns)) c → c ≤ ns.length → (∀ b o, s.heap.get? b = some o → h'.get? b = some o) → Q (.ref s.heap.objs.size) { s with heap := h', toks := tj }) :
    wpAny (model P w) A (call (.type "set") [.ref l]) Q E s := by
  have zsz : items.size = ns.length := by
    have q := IntsAre.length zit
    rw [Array.length_toList] at q
    exact q
  obtain ⟨c, tl, zmro⟩ := F.called_set.mro
  have zmade := F.called_set.made
  have zsub := F.called_set.sub
  refine wpAny_call (codeAny_of_tree ?_)
  show wpAny _ _ (callAny (.type "set") _) _ _ _
  refine wpAny_pure ⟨Code.quiet_builtin _ (by decide +kernel), codeAny_builtin F.entry_type_call ?_⟩
  rw [Around.under_plain (weight_type_call_type "set" [.ref l] []) rfl]
  have z1 := F.called_set.notType
  have z2 := F.called_set.canCreate
  have zct := F.typeCall_set_1 (.ref l)
  repeat (any_goals (first | assumption | wp_step))
  refine codeAny_mono (code_set_led1 (.ref l) (E := E) (Q₁ := fun zobj u₁ => zobj = .ref s.heap.objs.size ∧ u₁ = { s with heap := s.heap.push (setNew w) }) ⟨rfl, rfl⟩) fun r u₁ zr => ?_
  cases r with
  | error e => exact zr
  | ok zf =>
    cases zf with
    | ret zobj =>
      obtain ⟨rfl, rfl⟩ := zr
      have zS : (s.heap.push (setNew w)).get? s.heap.objs.size = some (setNew w) := Heap.get?_push_size _ rfl
      have zT : Shared.TypeIs { s with heap := s.heap.push (setNew w) } (.ref s.heap.objs.size) "set" := ⟨_, zS, rfl⟩
      have zli := F.called_set.init.lookup
      have zbi := F.called_set.init.bind (.ref s.heap.objs.size)
      repeat (any_goals (first | assumption | wp_step))
      refine codeAny_mono (codeAny_call_builtin (R := wants (fun r u₂ => r = .none ∧ ∃ h' tj c, u₂ = { s with heap := h', toks := tj } ∧ SetR w h' s.heap.objs.size (fun j => decide (j ∈ ns)) c ∧ c ≤ ns.length ∧
          (∀ b o, s.heap.get? b = some o → h'.get? b = some o)) E) F.called_set.init.plain F.entry_set_init (check_set_init_1 zT ?_)) fun y₂ u₂ zr₂ => ?_
      · obtain ⟨ol, zol, zcl, nl, zdl⟩ := zl
        obtain ⟨zcls, zdict, zdata, zslots⟩ := ol
        simp only at zcl zdl
        subst zcl; subst zdl
        have zol' : (s.heap.push (setNew w)).get? l = some { cls := .type "list", dict := zdict, data := .seq items nl, slots := zslots } := Heap.get?_push_of_some _ zol
        have zsls := F.sub_list_set
        have zslf := F.sub_list_frozenset
        have zne : (Value.type "list" == Value.type "dict") = false := by decide
        have zl1 : (s.heap.push (setNew w)).IsList l items := ⟨_, zol', rfl, nl, rfl⟩
        unfold Builtin.«set.__init__» noKeywords Builtin.Frozenset.updateFrom
        generalize zPI : pyIter = ZI
        wp_walk
        subst zPI
        refine wpAny_pyIter_list zl1 ?_
        refine wpAny_bind (wpAny_runValue ?_)
        have zlS : l < s.heap.objs.size := Heap.lt_size zol
        have zh3 : A.in1.in1.in1.handled = none := by simp [zh]
        have zz1 : (s.heap.push (setNew w)).objs.size = s.heap.objs.size + 1 := Heap.size_push ..
        have zneI : l ≠ (s.heap.push (setNew w)).objs.size := by
          rw [Heap.size_push]; exact Nat.ne_of_lt (Nat.lt_succ_of_lt zlS)
        have zSf : s.heap.objs.size ∉ [(s.heap.push (setNew w)).objs.size, l] := by
          rw [Heap.size_push]; simp only [List.mem_cons, List.mem_singleton, List.not_mem_nil, or_false, not_or]
          exact ⟨Nat.ne_of_lt (Nat.lt_succ_self _), Nat.ne_of_gt zlS⟩
        have zval : ∀ (i : Nat) (v : Value), items[i]? = some v → ∃ k t, ns[i]? = some k ∧ v = .int k t := fun i v hv => by
          have hi : i < ns.length := by rw [← zsz]; exact (Array.getElem?_eq_some_iff.mp hv).1
          obtain ⟨t, e⟩ := PyProof.Rows.IntsAre.int_at zit i v (by rw [Array.getElem?_toList]; exact hv)
          refine ⟨ns[i], t, List.getElem?_eq_getElem hi, ?_⟩
          rw [e, List.getD_eq_getElem?_getD, List.getElem?_eq_getElem hi] <;> rfl
        refine set_update_ints ((Walks.list zh3 _ l zneI items).toS) s.heap.objs.size
          zSf ns zsz zb zval (items.size - 0) 0 _ (by omega) (Nat.zero_le _)
          ⟨⟨_, Heap.get?_push_size _ rfl, rfl, rfl⟩, (zl1.push _)⟩ ?hS0 ?hR
        case hS0 =>
          have zget : ((s.heap.push (setNew w)).push { cls := .type "list_iterator", data := .fields #[.ref l, .int 0 0] }).get? s.heap.objs.size
              = some (setNew w) := Heap.get?_push_of_some _ zS
          exact ⟨0, Nat.le_refl 0, setR_new_at zget⟩
        case hR =>
          intro s' e' zm zc' zS'
          obtain ⟨h', k2, k', tj', o'⟩ := s'
          have ze : k2 = s.gens := zm.gens
          have zd : k' = s.drawn := zm.drawn
          have zo : o' = s.os := zm.os
          subst ze; subst zd; subst zo
          show wpAny _ _ _ _ _ _
          refine wpAny_pure ?_
          show wpAny _ _ (ret Value.none) _ _ _
          rw [zsz] at zc'
          refine wpAny_pure ⟨rfl, h', tj', e', rfl, zS', zc', fun b o e => ?_⟩
          have zb0 : b < s.heap.objs.size := Heap.lt_size e
          have zb1 : b ≠ s.heap.objs.size := Nat.ne_of_lt zb0
          have zb2 : b ≠ (s.heap.push (setNew w)).objs.size := by
            rw [Heap.size_push]; exact Nat.ne_of_lt (Nat.lt_succ_of_lt zb0)
          exact zm.heap b o (by simp only [List.mem_cons, List.mem_singleton, List.not_mem_nil, or_false, not_or]; exact ⟨zb1, zb2⟩) (Heap.get?_push_of_some _ (Heap.get?_push_of_some _ e))
      · cases y₂ with
        | error e => exact zr₂
        | ok zf₂ =>
          cases zf₂ with
          | ret r =>
            obtain ⟨rfl, h', tj, e', rfl, zS', zc', zk'⟩ := zr₂
            repeat (any_goals (first | assumption | wp_step))
            exact h _ _ _ zS' zc' zk'
          | _ => exact zr₂.elim
    | _ => exact zr.elim
end
end F2
set_option Elab.async false
set_option linter.all false
set_option maxRecDepth 100000
set_option maxHeartbeats 4000000
namespace F2
open PySem PySem.Spec PyProof.Rows
open L2
section
variable {X : Cx} {a : Expr} {ta : TE} {p p2 q pos : Pos}
def SqI (K : PySem.W.Frag) (x : V) (H : Hp) (ns : List Int) : Prop := ∃ l, x = .ref l ∧ (SqL K H l (ns.map V.int) ∨ SqT K H l (ns.map V.int))
theorem set_any {pins : List (Addr × Obj)} {s : Shared} {σ : L2.St} {H : Hp} {x : V} {v : Value} {ns : List Int} {Q : Value → Shared → Prop} (hc : X.calm = true) (I : Inv X pins σ H s) (r : RelV x v) (hq : SqI X.K x H ns) (hz : ns.length ≤ 4000)
    (h : ∀ (h' : Heap) (tk c : Nat), SetR X.w h' s.heap.objs.size (fun j => decide (j ∈ ns)) c → c ≤ ns.length → (∀ b o, s.heap.get? b = some o → h'.get? b = some o) → Q (.ref s.heap.objs.size) { s with heap := h', toks := tk }) :
    wpAny (model X.prog X.w) X.A (call (.type "set") [v]) Q X.xe s := by
  obtain ⟨l, rfl, hq | hq⟩ := hq
  · cases r
    obtain ⟨its, r, pl, _⟩ := I.list hq
    exact call_set_lstI ns (I.ok.hd hc) pl.isList (by simpa using RZ.intsAre_vals r) (by unfold scanBound; omega) h
  · cases r
    obtain ⟨its, r, pl, _⟩ := I.tuple hq
    exact call_set_tupI ns (I.ok.hd hc) pl (by simpa using RZ.intsAre_vals r) (by unfold scanBound; omega) h
def tLenSet (K : PySem.W.Frag) (ta : TE) : TE := fun σ H Q => ta σ H fun x H1 => ∃ ns : List Int, SqI K x H1 ns ∧ ns.length ≤ 4000 ∧ ∀ ms : List Int, ms.Nodup → (∀ k, k ∈ ms ↔ k ∈ ns) → Q (.int (ms.length : Nat)) H1
theorem pe_lenSet (hg : Gl X "len") (hm : X.mg "len" = none) (hg2 : Gl X "set") (hm2 : X.mg "set" = none) (ha : PE X a ta) (hc : X.calm = true)
    (na : starEach [a] X.env = (false, eval a X.env) :: starEach [] X.env) : PE X (.Call (.Name "len" p) [.Call (.Name "set" p2) [a] [] q] [] pos) (tLenSet X.K ta) := by
  refine ⟨fun pins s σ H Q I h => ?_⟩
  refine Call_ (ld_blt I hg hm boot_len (PyProof.Rows.callWith_builtin1 (PyProof.Rows.args_cons ?_ rfl) rfl rfl))
  refine Call_ (ld_blt I hg2 hm2 boot_set (PyProof.Rows.callWith_type1 (PyProof.Rows.args_cons (thn (ha.run pins s σ H _ I h) fun v s1 ⟨x, H1, I1, r1, q1⟩ => PyProof.Rows.args_nil ?_) na) na rfl))
  obtain ⟨ns, hq, hl, q1⟩ := q1
  refine set_any hc I1 r1 hq hl fun h' tk c R hc' hk => PyProof.Rows.args_nil ?_
  obtain ⟨o, es, ep, t, ho, hex, hd, _, nd, hS, hb, hf, hn, _⟩ := R
  have I2 : Inv X pins σ H1 { s1 with heap := h', toks := tk } := I1.kept fun b o e => hk b o e
  have hlen : (es.toList.map keyOf).length = c := by rw [List.length_map, Array.length_toList]; exact hn
  refine call_len_set ho hex hd hf (by rw [hn]; omega) ⟨.int ((es.toList.map keyOf).length : Nat), H1, I2.tok _, ⟨_, by rw [hlen, hn]⟩, q1 _ nd fun k => ?_⟩
  rw [← hS k, decide_eq_true_eq]
def tSortSet (K : PySem.W.Frag) (ta : TE) : TE := fun σ H Q => ta σ H fun x H1 => ∃ ns us : List Int, SqI K x H1 ns ∧ ns.length ≤ 4000 ∧ us.length < 4000 ∧ (∀ k ∈ ns, k ∈ us) ∧ ∀ (ms : List Int) (l : Addr), ms.Pairwise (· < ·) → (∀ k, k ∈ ms ↔ k ∈ ns) → H1 l = none → Q (.ref l) (upd H1 l (.lst (ms.map V.int)))
theorem nodup_le : ∀ {ms us : List Int}, ms.Nodup → (∀ k ∈ ms, k ∈ us) → ms.length ≤ us.length
  | [], _, _, _ => Nat.zero_le _
  | m :: ms, us, nd, h => by
    obtain ⟨u1, u2, rfl⟩ := List.append_of_mem (h m List.mem_cons_self)
    have nd' := List.nodup_cons.mp nd
    have := nodup_le (ms := ms) (us := u1 ++ u2) nd'.2 fun k hk => by
      have h1 := h k (List.mem_cons_of_mem _ hk)
      rcases List.mem_append.mp h1 with h1 | h1
      · exact List.mem_append_left _ h1
      · rcases List.mem_cons.mp h1 with rfl | h1
        · exact absurd hk nd'.1
        · exact List.mem_append_right _ h1
    simp only [List.length_append, List.length_cons] at this ⊢
    omega
theorem pe_sortSet (hg : Gl X "sorted") (hm : X.mg "sorted" = none) (hg2 : Gl X "set") (hm2 : X.mg "set" = none) (hb : bootBuiltins "sorted" = some (.builtin "sorted")) (ha : PE X a ta) (hc : X.calm = true)
    (na : starEach [a] X.env = (false, eval a X.env) :: starEach [] X.env) : PE X (.Call (.Name "sorted" p) [.Call (.Name "set" p2) [a] [] q] [] pos) (tSortSet X.K ta) := by
  refine ⟨fun pins s σ H Q I h => ?_⟩
  refine Call_ (ld_blt I hg hm hb (PyProof.Rows.callWith_builtin1 (PyProof.Rows.args_cons ?_ rfl) rfl rfl))
  refine Call_ (ld_blt I hg2 hm2 boot_set (PyProof.Rows.callWith_type1 (PyProof.Rows.args_cons (thn (ha.run pins s σ H _ I h) fun v s1 ⟨x, H1, I1, r1, q1⟩ => PyProof.Rows.args_nil ?_) na) na rfl))
  obtain ⟨ns, us, hq, hl, h64, hu, q1⟩ := q1
  refine set_any hc I1 r1 hq hl fun h' tk c R hc' hk => PyProof.Rows.args_nil ?_
  have I2 : Inv X pins σ H1 { s1 with heap := h', toks := tk } := I1.kept fun b o e => hk b o e
  have cz : c ≤ sizeLine := by rw [sizeLine_eq]; omega
  refine sorted_setA R (I2.ok.hd hc) cz fun s' l out ep ms k g o hp hg hi hs hmem hlen => ?_
  have hlm : (ms.map V.int).length ≤ sizeLine := by rw [List.length_map, hlen]; exact cz
  have hn : H1 l = none := I2.hok.fresh hp
  have J : Inv X pins σ (upd H1 l (.lst (ms.map V.int))) { ({ s1 with heap := h', toks := tk } : Shared) with heap := s'.heap, gens := s'.gens, drawn := s'.drawn, toks := s'.toks } :=
    I2.call (ch := []) (Un.laid k hp hn) (I2.hok.laid k hp ⟨hlm, out.toList, ep, vals_of_ints hi, hg⟩) (by rw [g]; exact I2.bare) (fun _ z => nomatch z)
  have e : s' = { s1 with heap := s'.heap, gens := s'.gens, drawn := s'.drawn, toks := s'.toks } := by
    have o' : s'.os = s1.os := o
    cases s'; cases s1; cases o'; rfl
  rw [e]
  exact ⟨.ref l, _, J, rfl, q1 ms l hs (fun k => by rw [hmem k, decide_eq_true_eq]) hn⟩
end
end F2
set_option Elab.async false
set_option linter.all false
set_option maxRecDepth 100000
set_option maxHeartbeats 1000000
namespace F2
open PySem PySem.Spec PyProof.Rows L2
def itK (c : Bool) (h : Heap) (it l : Addr) (i : Nat) : Prop := match c with
  | true => h.IsListIter it l i
  | false => h.IsTupleIter it l i
def sqK (c : Bool) (h : Heap) (l : Addr) (xs : Array Value) : Prop := match c with
  | true => h.IsList l xs
  | false => h.IsTuple l xs
theorem itK.extBut {c : Bool} {h h' : Heap} {b it l : Addr} {i : Nat} (x : itK c h it l i) (e : Heap.ExtBut b h h') (n : it ≠ b) : itK c h' it l i := by
  cases c
  · exact Heap.IsTupleIter.extBut x e n
  · exact Heap.IsListIter.extBut x e n
theorem sqK.extBut {c : Bool} {h h' : Heap} {b l : Addr} {xs : Array Value} (x : sqK c h l xs) (e : Heap.ExtBut b h h') (n : l ≠ b) : sqK c h' l xs := by
  cases c
  · exact Heap.IsTuple.extBut x e n
  · exact Heap.IsList.extBut x e n
theorem itK.at {c : Bool} {h h' : Heap} {it l : Addr} {i : Nat} (x : itK c h it l i) (k : ∀ o, h.get? it = some o → h'.get? it = some o) : itK c h' it l i := by
  cases c
  · exact Heap.IsTupleIter.at x k
  · exact Heap.IsListIter.at x k
theorem itK.lt {c : Bool} {h : Heap} {it l : Addr} {i : Nat} (x : itK c h it l i) : it < h.objs.size := by
  cases c
  · obtain ⟨_, e, _⟩ := x; exact Heap.lt_size e
  · obtain ⟨_, e, _⟩ := x; exact Heap.lt_size e
theorem itK.nof {c : Bool} {h : Heap} {it l : Addr} {i : Nat} (x : itK c h it l i) : ∃ o, h.get? it = some o ∧ ∀ v, o.data ≠ .cell v := by
  cases c
  · obtain ⟨o, e, _, d⟩ := x; exact ⟨o, e, fun v q => by rw [d] at q; cases q⟩
  · obtain ⟨o, e, _, d⟩ := x; exact ⟨o, e, fun v q => by rw [d] at q; cases q⟩
section
variable {prog : Program} {w : World} {A : Around} {E : Value → Shared → Prop} {s : Shared}
theorem nextK_item {c : Bool} {it l : Addr} {i : Nat} {items : Array Value} {x : Value} {Q : Value → Shared → Prop} (hit : itK c s.heap it l i) (hl : sqK c s.heap l items) (hx : items[i]? = some x)
    (hQ : ∀ h', itK c h' it l (i + 1) → Heap.SameBut it s.heap h' → Q x { s with heap := h' }) : wpAny (model prog w) A (Builtin.SmallTypes.nextOf (.ref it)) Q E s := by
  cases c
  · exact RZ.nextOf_tuple_item hit hl hx hQ
  · exact wpAny_nextOf_list_item hit hl hx hQ
theorem nextK_end {c : Bool} {it l : Addr} {i : Nat} {items : Array Value} {Q : Value → Shared → Prop} (hh : A.handled = none) (hit : itK c s.heap it l i) (hl : sqK c s.heap l items) (hx : items[i]? = none)
    (hE : ∀ h' e, Heap.ExtBut it s.heap h' → (∃ o, h'.get? e = some o ∧ o.cls = .type "StopIteration") → E (.ref e) { s with heap := h' }) : wpAny (model prog w) A (Builtin.SmallTypes.nextOf (.ref it)) Q E s := by
  cases c
  · exact RZ.nextOf_tuple_end hh hit hl hx hE
  · exact wpAny_nextOf_list_end hh hit hl hx hE
theorem zipK_next_item {c1 c2 : Bool} {z TI TO i1 i2 l1 l2 : Addr} {k1 k2 : Nat} {xs ys : Array Value} {x y a b : Value} {Q : Value → Shared → Prop} (D : ZipApart z TI TO i1 i2 l1 l2)
    (hz : IsZip s.heap z TI TO .none) (hTI : IsPair s.heap TI (.ref i1) (.ref i2)) (hTO : IsPair s.heap TO a b)
    (h1 : itK c1 s.heap i1 l1 k1) (h2 : itK c2 s.heap i2 l2 k2) (hl1 : sqK c1 s.heap l1 xs) (hl2 : sqK c2 s.heap l2 ys) (hx : xs[k1]? = some x) (hy : ys[k2]? = some y)
    (hQ : ∀ h', IsZip h' z TI TO (rawInt s.heap.objs.size) → IsPair h' TO x y → itK c1 h' i1 l1 (k1 + 1) → itK c2 h' i2 l2 (k2 + 1) → IsPair h' s.heap.objs.size x y → h'.objs.size = s.heap.objs.size + 1 →
      (∀ c o, c ≠ z → c ≠ TO → c ≠ i1 → c ≠ i2 → s.heap.get? c = some o → h'.get? c = some o) → Q (.ref s.heap.objs.size) { s with heap := h' }) :
    wpAny (model prog w) A (Builtin.«zip.__next__» ⟨[.ref z], []⟩) (fun fin s' => ∃ v, fin = .done (.ret v) ∧ Q v s') E s := by
  show wpAny _ _ (field (.ref z) 2 >>= _) _ _ _
  refine wpAny_bind (wpAny_field hz rfl (x := .bool false) rfl ?_)
  show wpAny _ _ (field (.ref z) 3 >>= _) _ _ _
  refine wpAny_bind (wpAny_field hz rfl (x := .ref TI) rfl ?_)
  refine wpAny_bind (wpAny_seqItems hTI rfl ?_)
  show wpAny _ _ (Builtin.SmallTypes.ownedTupleIsFree (.ref z) >>= _) _ _ _
  refine wpAny_bind ?_
  unfold Builtin.SmallTypes.ownedTupleIsFree
  refine wpAny_bind (wpAny_field hz rfl (x := .none) rfl (wpAny_pure ?_))
  simp only [if_true]
  refine wpAny_bind (wpAny_rule ?_)
  refine wpAny_bind (wpAny_field hz rfl (x := .ref TO) rfl ?_)
  refine wpAny_bind (wpAny_setField_rec hz (by simp) fun h₁ hz₁ hs₁ => ?_)
  replace hz₁ : IsZip h₁ z TI TO .ellipsis := hz₁
  refine wpAny_bind ?_
  simp only [List.zipIdx_cons, List.zipIdx_nil, List.forIn_cons, List.forIn_nil]
  refine wpAny_bind (wpAny_bind (wpAny_onRaise ?_))
  show wpAny _ _ (Builtin.SmallTypes.nextOf (.ref i1) >>= _) _ _ _
  refine wpAny_bind (nextK_item (h1.extBut hs₁.extBut D.i1z) (hl1.extBut hs₁.extBut D.l1z) hx fun h₂ h1₂ hs₂ => wpAny_pure ?_)
  have hTO₂ : IsPair h₂ TO a b := hs₂.extBut _ _ D.TOi1 (hs₁.extBut _ _ D.TOz hTO)
  refine wpAny_bind (wpAny_seqItems hTO₂ rfl ?_)
  refine wpAny_bind (wpAny_updateSeq_pair hTO₂ fun h₃ hTO₃ hs₃ => ?_)
  replace hTO₃ : IsPair h₃ TO x b := hTO₃
  refine wpAny_bind (wpAny_letGo (wpAny_pure ?_))
  refine wpAny_bind (wpAny_bind (wpAny_onRaise ?_))
  show wpAny _ _ (Builtin.SmallTypes.nextOf (.ref i2) >>= _) _ _ _
  refine wpAny_bind (nextK_item (((h2.extBut hs₁.extBut D.i2z).extBut hs₂.extBut D.i12.symm).extBut hs₃.extBut D.TOi2.symm)
    (((hl2.extBut hs₁.extBut D.l2z).extBut hs₂.extBut D.l2i1).extBut hs₃.extBut D.l2TO) hy fun h₄ h2₄ hs₄ => wpAny_pure ?_)
  have hTO₄ : IsPair h₄ TO x b := hs₄.extBut _ _ D.TOi2 hTO₃
  refine wpAny_bind (wpAny_seqItems hTO₄ rfl ?_)
  refine wpAny_bind (wpAny_updateSeq_pair hTO₄ fun h₅ hTO₅ hs₅ => ?_)
  replace hTO₅ : IsPair h₅ TO x y := hTO₅
  refine wpAny_bind (wpAny_letGo (wpAny_pure (wpAny_pure ?_)))
  refine wpAny_bind (wpAny_seqItems hTO₅ rfl ?_)
  refine wpAny_bind (wpAny_newTuple ?_)
  have hsz : h₅.objs.size = s.heap.objs.size := by rw [hs₅.1, hs₄.1, hs₃.1, hs₂.1, hs₁.1]
  have hz₅ : IsZip h₅ z TI TO .ellipsis := hs₅.extBut _ _ D.TOz.symm (hs₄.extBut _ _ D.i2z.symm (hs₃.extBut _ _ D.TOz.symm (hs₂.extBut _ _ D.i1z.symm hz₁)))
  have hk₅ : ∀ c o, c ≠ z → c ≠ TO → c ≠ i1 → c ≠ i2 → s.heap.get? c = some o → h₅.get? c = some o := fun c o c1 c2 c3 c4 e =>
    hs₅.extBut _ _ c2 (hs₄.extBut _ _ c4 (hs₃.extBut _ _ c2 (hs₂.extBut _ _ c3 (hs₁.extBut _ _ c1 e))))
  have h1₅ : itK c1 h₅ i1 l1 (k1 + 1) := ((h1₂.extBut hs₃.extBut D.TOi1.symm).extBut hs₄.extBut D.i12).extBut hs₅.extBut D.TOi1.symm
  have h2₅ : itK c2 h₅ i2 l2 (k2 + 1) := h2₄.extBut hs₅.extBut D.TOi2.symm
  have hzlt : z < h₅.objs.size := Heap.lt_size hz₅
  have hTOlt : TO < h₅.objs.size := Heap.lt_size hTO₅
  have hi1lt : i1 < h₅.objs.size := h1₅.lt
  have hi2lt : i2 < h₅.objs.size := h2₅.lt
  show wpAny _ _ (Builtin.SmallTypes.ownedTupleHandOut (.ref z) (.ref h₅.objs.size) >>= _) _ _ _
  refine wpAny_bind ?_
  unfold Builtin.SmallTypes.ownedTupleHandOut
  have hz₆ : IsZip (h₅.push { cls := .type "tuple", data := .seq #[x, y] }) z TI TO .ellipsis := Heap.get?_push_of_some _ hz₅
  refine wpAny_bind (wpAny_setField_rec hz₆ (by simp) fun h₇ hz₇ hs₇ => ?_)
  replace hz₇ : IsZip h₇ z TI TO (rawInt h₅.objs.size) := hz₇
  refine wpAny_setField_rec hz₇ (by simp) fun h₈ hz₈ hs₈ => ?_
  replace hz₈ : IsZip h₈ z TI TO (rawInt h₅.objs.size) := hz₈
  have up : ∀ c o, c ≠ z → h₅.get? c = some o → h₈.get? c = some o := fun c o c1 e => hs₈.extBut _ _ c1 (hs₇.extBut _ _ c1 (Heap.get?_push_of_some _ e))
  have hT₈ : IsPair h₈ h₅.objs.size x y := hs₈.extBut _ _ (Nat.ne_of_gt hzlt) (hs₇.extBut _ _ (Nat.ne_of_gt hzlt) (Heap.get?_push_size _ rfl))
  have hz8 : h₈.objs.size = h₅.objs.size + 1 := by rw [hs₈.1, hs₇.1, Heap.size_push]
  rw [hsz] at hz₈ hT₈ hz8
  refine wpAny_pure ⟨_, rfl, ?_⟩
  show Q (.ref h₅.objs.size) _
  rw [hsz]
  exact hQ h₈ hz₈ (up _ _ D.TOz hTO₅) (h1₅.at fun o e => up _ o D.i1z e) (h2₅.at fun o e => up _ o D.i2z e) hT₈ hz8 fun c o c1 c2 c3 c4 e => up c o c1 (hk₅ c o c1 c2 c3 c4 e)
theorem zipK_next_end {c1 c2 : Bool} {z TI TO i1 i2 l1 l2 : Addr} {k1 k2 : Nat} {xs ys : Array Value} {a b : Value} {Q : Fin → Shared → Prop} (hh : A.handled = none) (D : ZipApart z TI TO i1 i2 l1 l2)
    (hz : IsZip s.heap z TI TO .none) (hTI : IsPair s.heap TI (.ref i1) (.ref i2)) (hTO : IsPair s.heap TO a b)
    (h1 : itK c1 s.heap i1 l1 k1) (h2 : itK c2 s.heap i2 l2 k2) (hl1 : sqK c1 s.heap l1 xs) (hl2 : sqK c2 s.heap l2 ys) (hend : xs[k1]? = none ∨ ys[k2]? = none)
    (hE : ∀ h' e, (∀ c o, c ≠ z → c ≠ TO → c ≠ i1 → c ≠ i2 → s.heap.get? c = some o → h'.get? c = some o) → (∃ o, h'.get? e = some o ∧ o.cls = .type "StopIteration") → E (.ref e) { s with heap := h' }) :
    wpAny (model prog w) A (Builtin.«zip.__next__» ⟨[.ref z], []⟩) Q E s := by
  show wpAny _ _ (field (.ref z) 2 >>= _) _ _ _
  refine wpAny_bind (wpAny_field hz rfl (x := .bool false) rfl ?_)
  show wpAny _ _ (field (.ref z) 3 >>= _) _ _ _
  refine wpAny_bind (wpAny_field hz rfl (x := .ref TI) rfl ?_)
  refine wpAny_bind (wpAny_seqItems hTI rfl ?_)
  show wpAny _ _ (Builtin.SmallTypes.ownedTupleIsFree (.ref z) >>= _) _ _ _
  refine wpAny_bind ?_
  unfold Builtin.SmallTypes.ownedTupleIsFree
  refine wpAny_bind (wpAny_field hz rfl (x := .none) rfl (wpAny_pure ?_))
  simp only [if_true]
  refine wpAny_bind (wpAny_rule ?_)
  refine wpAny_bind (wpAny_field hz rfl (x := .ref TO) rfl ?_)
  refine wpAny_bind (wpAny_setField_rec hz (by simp) fun h₁ hz₁ hs₁ => ?_)
  replace hz₁ : IsZip h₁ z TI TO .ellipsis := hz₁
  refine wpAny_bind ?_
  simp only [List.zipIdx_cons, List.zipIdx_nil, List.forIn_cons, List.forIn_nil]
  refine wpAny_bind (wpAny_bind (wpAny_onRaise ?_))
  show wpAny _ _ (Builtin.SmallTypes.nextOf (.ref i1) >>= _) _ _ _
  cases hx : xs[k1]? with
  | none =>
    refine wpAny_bind (nextK_end hh (h1.extBut hs₁.extBut D.i1z) (hl1.extBut hs₁.extBut D.l1z) hx fun h₂ e hs₂ he => ?_)
    obtain ⟨oe, hoe, hce⟩ := he
    have hz₂ : IsZip h₂ z TI TO .ellipsis := hs₂ _ _ D.i1z.symm hz₁
    have hez : e ≠ z := fun x => by subst x; rw [hz₂] at hoe; cases hoe; simp at hce
    refine wpAny_setField_rec hz₂ (by simp) fun h₃ _ hs₃ => hE h₃ e (fun c o c1 _ c3 _ x => hs₃.extBut _ _ c1 (hs₂ _ _ c3 (hs₁.extBut _ _ c1 x))) ⟨oe, hs₃.extBut _ _ hez hoe, hce⟩
  | some x =>
    have hy : ys[k2]? = none := by rcases hend with h | h; rw [hx] at h; cases h; exact h
    refine wpAny_bind (nextK_item (h1.extBut hs₁.extBut D.i1z) (hl1.extBut hs₁.extBut D.l1z) hx fun h₂ h1₂ hs₂ => wpAny_pure ?_)
    have hTO₂ : IsPair h₂ TO a b := hs₂.extBut _ _ D.TOi1 (hs₁.extBut _ _ D.TOz hTO)
    refine wpAny_bind (wpAny_seqItems hTO₂ rfl ?_)
    refine wpAny_bind (wpAny_updateSeq_pair hTO₂ fun h₃ hTO₃ hs₃ => ?_)
    refine wpAny_bind (wpAny_letGo (wpAny_pure ?_))
    refine wpAny_bind (wpAny_bind (wpAny_onRaise ?_))
    show wpAny _ _ (Builtin.SmallTypes.nextOf (.ref i2) >>= _) _ _ _
    refine wpAny_bind (nextK_end hh (((h2.extBut hs₁.extBut D.i2z).extBut hs₂.extBut D.i12.symm).extBut hs₃.extBut D.TOi2.symm)
      (((hl2.extBut hs₁.extBut D.l2z).extBut hs₂.extBut D.l2i1).extBut hs₃.extBut D.l2TO) hy fun h₄ e hs₄ he => ?_)
    obtain ⟨oe, hoe, hce⟩ := he
    have hz₄ : IsZip h₄ z TI TO .ellipsis := hs₄ _ _ D.i2z.symm (hs₃.extBut _ _ D.TOz.symm (hs₂.extBut _ _ D.i1z.symm hz₁))
    have hez : e ≠ z := fun x => by subst x; rw [hz₄] at hoe; cases hoe; simp at hce
    refine wpAny_setField_rec hz₄ (by simp) fun h₅ _ hs₅ => hE h₅ e (fun c o c1 c2 c3 c4 x => hs₅.extBut _ _ c1 (hs₄ _ _ c4 (hs₃.extBut _ _ c2 (hs₂.extBut _ _ c3 (hs₁.extBut _ _ c1 x))))) ⟨oe, hs₅.extBut _ _ hez hoe, hce⟩
theorem pyNext_zipK_item {c1 c2 : Bool} {z TI TO i1 i2 l1 l2 : Addr} {k1 k2 : Nat} {xs ys : Array Value} {x y a b : Value} {Q : Option Value → Shared → Prop} (D : ZipApart z TI TO i1 i2 l1 l2)
    (hz : IsZip s.heap z TI TO .none) (hTI : IsPair s.heap TI (.ref i1) (.ref i2)) (hTO : IsPair s.heap TO a b)
    (h1 : itK c1 s.heap i1 l1 k1) (h2 : itK c2 s.heap i2 l2 k2) (hl1 : sqK c1 s.heap l1 xs) (hl2 : sqK c2 s.heap l2 ys) (hx : xs[k1]? = some x) (hy : ys[k2]? = some y)
    (hQ : ∀ h', IsZip h' z TI TO (rawInt s.heap.objs.size) → IsPair h' TO x y → itK c1 h' i1 l1 (k1 + 1) → itK c2 h' i2 l2 (k2 + 1) → IsPair h' s.heap.objs.size x y → h'.objs.size = s.heap.objs.size + 1 →
      (∀ c o, c ≠ z → c ≠ TO → c ≠ i1 → c ≠ i2 → s.heap.get? c = some o → h'.get? c = some o) → Q (some (.ref s.heap.objs.size)) { s with heap := h' }) :
    wpAny (model prog w) A (pyNext (.ref z)) Q E s := by
  have hT : s.TypeIs (.ref z) "zip" := ⟨_, hz, rfl⟩
  unfold pyNext
  exact wpAny_bind (wpAny_attempt (wpAny_callSpecial?_slot (name := Str.ofString "__next__") hT F.slot_zip_next
    (wpAny_call_entry F.slot_zip_next hT F.entry_zip_next
      (zipK_next_item D hz hTI hTO h1 h2 hl1 hl2 hx hy fun h' a1 a2 a3 a4 a5 a6 a7 => wpAny_pure (hQ h' a1 a2 a3 a4 a5 a6 a7)) (F.args_zip_next_1 _))))
theorem pyNext_zipK_end {c1 c2 : Bool} {z TI TO i1 i2 l1 l2 : Addr} {k1 k2 : Nat} {xs ys : Array Value} {a b : Value} {Q : Option Value → Shared → Prop} (hh : A.handled = none) (D : ZipApart z TI TO i1 i2 l1 l2)
    (hz : IsZip s.heap z TI TO .none) (hTI : IsPair s.heap TI (.ref i1) (.ref i2)) (hTO : IsPair s.heap TO a b)
    (h1 : itK c1 s.heap i1 l1 k1) (h2 : itK c2 s.heap i2 l2 k2) (hl1 : sqK c1 s.heap l1 xs) (hl2 : sqK c2 s.heap l2 ys) (hend : xs[k1]? = none ∨ ys[k2]? = none)
    (hQ : ∀ h', (∀ c o, c ≠ z → c ≠ TO → c ≠ i1 → c ≠ i2 → s.heap.get? c = some o → h'.get? c = some o) → Q none { s with heap := h' }) : wpAny (model prog w) A (pyNext (.ref z)) Q E s := by
  have hT : s.TypeIs (.ref z) "zip" := ⟨_, hz, rfl⟩
  unfold pyNext
  refine wpAny_bind (wpAny_attempt (wpAny_callSpecial?_slot (name := Str.ofString "__next__") hT F.slot_zip_next
    (wpAny_call_entry F.slot_zip_next hT F.entry_zip_next (zipK_next_end hh D hz hTI hTO h1 h2 hl1 hl2 hend fun h' e hk he => ?_) (F.args_zip_next_1 _))))
  obtain ⟨o, ho, hc⟩ := he
  refine wpAny_bind (wpAny_isInstance (T := "StopIteration") (b := true) ⟨o, ho, hc⟩ isSubtype_stop ?_)
  exact wpAny_pure (hQ _ hk)
end
abbrev zipKH1 (h : Heap) (l1 : Addr) : Heap := h.push { cls := .type "tuple_iterator", data := .fields #[.ref l1, .int 0 0] }
abbrev zipKH2 (h : Heap) (l1 l2 : Addr) : Heap := (zipKH1 h l1).push { cls := .type "list_iterator", data := .fields #[.ref l2, .int 0 0] }
abbrev zipKH3 (h : Heap) (l1 l2 : Addr) : Heap := (zipKH2 h l1 l2).push { cls := .type "tuple", data := .seq #[.ref h.objs.size, .ref (zipKH1 h l1).objs.size] }
abbrev zipKH4 (h : Heap) (l1 l2 : Addr) : Heap := (zipKH3 h l1 l2).push { cls := .type "tuple", data := .seq #[.none, .none] }
abbrev zipKH5 (h : Heap) (l1 l2 : Addr) : Heap := (zipKH4 h l1 l2).push { cls := .type "zip", data := .fields #[.none, .bool false, .bool false, .ref (zipKH2 h l1 l2).objs.size, .ref (zipKH3 h l1 l2).objs.size] }
theorem meets_zipK_new (l1 l2 : Addr) (xs ys : Array Value) :
    Meets (Builtin.«zip.__new__» ⟨[.type "zip", .ref l1, .ref l2], []⟩) (fun _ R s => s.heap.IsTuple l1 xs ∧ s.heap.IsList l2 ys ∧
      R (.ok (.ret (.ref (zipKH4 s.heap l1 l2).objs.size))) { s with heap := zipKH5 s.heap l1 l2 }) :=
  .of_wp fun prog w A R s h => by
    obtain ⟨hp, g, d, tk, os⟩ := s; obtain ⟨hl1, hl2, h⟩ := h
    have hsub := sub_zip
    have hL1 : Heap.IsTuple (Shared.heap ⟨hp, g, d, tk, os⟩) l1 xs := hl1
    have hL2 : Heap.IsList (Shared.heap ⟨hp.push { cls := .type "tuple_iterator", data := .fields #[.ref l1, .int 0 0] }, g, d, tk, os⟩) l2 ys := Heap.IsList.push hl2 _
    wp_walk using wpAny_pyIter_tuple hL1, wpAny_pyIter_list hL2
    exact ⟨_, rfl, h⟩
section
variable {prog : Program} {w : World} {A : Around} {E : Value → Shared → Prop} {s : Shared}
theorem call_zipK {l1 l2 : Addr} {xs ys : Array Value} {Q : Value → Shared → Prop} (hl1 : s.heap.IsTuple l1 xs) (hl2 : s.heap.IsList l2 ys)
    (h : ∀ h', IsZip h' (s.heap.objs.size + 4) (s.heap.objs.size + 2) (s.heap.objs.size + 3) .none → IsPair h' (s.heap.objs.size + 2) (.ref s.heap.objs.size) (.ref (s.heap.objs.size + 1)) →
      IsPair h' (s.heap.objs.size + 3) .none .none → h'.IsTupleIter s.heap.objs.size l1 0 → h'.IsListIter (s.heap.objs.size + 1) l2 0 → h'.objs.size = s.heap.objs.size + 5 →
      (∀ c o, s.heap.get? c = some o → h'.get? c = some o) → Q (.ref (s.heap.objs.size + 4)) { s with heap := h' }) :
    wpAny (model prog w) A (call (.type "zip") [.ref l1, .ref l2]) Q E s := by
  refine callType_new F.called_zip (by decide) (F.typeCall_zip_2 _ _) (F.newCall_zip_2 _ _) (fun obj => F.args_object_init_3 obj _ _) F.entry_zip_new
    (meets_zipK_new l1 l2 xs ys) ⟨hl1, hl2, ?_⟩
  have z1 : (zipKH1 s.heap l1).objs.size = s.heap.objs.size + 1 := Heap.size_push ..
  have z2 : (zipKH2 s.heap l1 l2).objs.size = s.heap.objs.size + 2 := by rw [Heap.size_push, z1]
  have z3 : (zipKH3 s.heap l1 l2).objs.size = s.heap.objs.size + 3 := by rw [Heap.size_push, z2]
  have z4 : (zipKH4 s.heap l1 l2).objs.size = s.heap.objs.size + 4 := by rw [Heap.size_push, z3]
  have z5 : (zipKH5 s.heap l1 l2).objs.size = s.heap.objs.size + 5 := by rw [Heap.size_push, z4]
  have g5 : (zipKH5 s.heap l1 l2).get? (zipKH4 s.heap l1 l2).objs.size = some _ := Heap.get?_push_size _ rfl
  have g4 : (zipKH5 s.heap l1 l2).get? (zipKH3 s.heap l1 l2).objs.size = some _ := Heap.get?_push_of_some _ (Heap.get?_push_size _ rfl)
  have g3 : (zipKH5 s.heap l1 l2).get? (zipKH2 s.heap l1 l2).objs.size = some _ := Heap.get?_push_of_some _ (Heap.get?_push_of_some _ (Heap.get?_push_size _ rfl))
  have g2 : (zipKH5 s.heap l1 l2).get? (zipKH1 s.heap l1).objs.size = some _ := Heap.get?_push_of_some _ (Heap.get?_push_of_some _ (Heap.get?_push_of_some _ (Heap.get?_push_size _ rfl)))
  have g1 : (zipKH5 s.heap l1 l2).get? s.heap.objs.size = some _ := Heap.get?_push_of_some _ (Heap.get?_push_of_some _ (Heap.get?_push_of_some _ (Heap.get?_push_of_some _ (Heap.get?_push_size _ rfl))))
  show _ ∧ _
  rw [z2, z3, z4] at g5
  rw [z1, z2] at g3
  rw [z3] at g4
  rw [z1] at g2
  rw [z4]
  exact ⟨⟨_, g5, rfl⟩, h _ g5 g3 g4 ⟨_, g1, rfl, rfl⟩ ⟨_, g2, rfl, rfl⟩ z5 fun c o x =>
    Heap.get?_push_of_some _ (Heap.get?_push_of_some _ (Heap.get?_push_of_some _ (Heap.get?_push_of_some _ (Heap.get?_push_of_some _ x))))⟩
end
def ItzK (K : PySem.W.Frag) (a b : Addr) : It :=
  ⟨fun i H => ∃ (xs ys : List V) (x y : V), SqT K H a xs ∧ SqL K H b ys ∧ xs[i]? = some x ∧ ys[i]? = some y,
    fun i H v H' => ∃ T x y, v = .ref T ∧ H T = none ∧ H' = upd H T (.tup [x, y]) ∧ (∀ xs, SqT K H a xs → xs[i]? = some x) ∧ ∀ ys, SqL K H b ys → ys[i]? = some y,
    fun i H => ∃ xs ys : List V, SqT K H a xs ∧ SqL K H b ys ∧ (xs.length ≤ i ∨ ys.length ≤ i)⟩
theorem turn_zipK {P : Program} {w : World} {K : PySem.W.Frag} {elts : List Expr} {kk : Nat} {tpos : Pos} {a b z TI TO i1 i2 : Addr} (D : ZipApart z TI TO i1 i2 a b) :
    Turn P w K (.Tuple elts kk tpos) (ItzK K a b) [z, TI, TO, i1, i2] z (fun i h => IsZip h z TI TO .none ∧ IsPair h TI (.ref i1) (.ref i2) ∧ (∃ x y, IsPair h TO x y) ∧ itK false h i1 a i ∧ itK true h i2 b i) where
  mem := by simp
  obj := fun i h st c hc => by
    obtain ⟨hz, hTI, ⟨x, y, hTO⟩, h1, h2⟩ := st
    obtain ⟨o1, e1, d1⟩ := h1.nof
    obtain ⟨o2, e2, d2⟩ := h2.nof
    have e' : c = z ∨ c = TI ∨ c = TO ∨ c = i1 ∨ c = i2 := by simpa using hc
    rcases e' with q | q | q | q | q
    · rw [q]; exact ⟨_, hz, fun v q => nomatch q⟩
    · rw [q]; exact ⟨_, hTI, fun v q => nomatch q⟩
    · rw [q]; exact ⟨_, hTO, fun v q => nomatch q⟩
    · rw [q]; exact ⟨o1, e1, d1⟩
    · rw [q]; exact ⟨o2, e2, d2⟩
  keep := fun i h h' st k => by
    obtain ⟨hz, hTI, ⟨x, y, hTO⟩, h1, h2⟩ := st
    exact ⟨k z (by simp) _ hz, k TI (by simp) _ hTI, ⟨x, y, k TO (by simp) _ hTO⟩, h1.at fun o q => k i1 (by simp) o q, h2.at fun o q => k i2 (by simp) o q⟩
  item := by
    intro X hP hw hK hc i pins s σ H E I hf st hg
    subst hP hw hK
    obtain ⟨hz, hTI, ⟨x0, y0, hTO⟩, h1, h2⟩ := st
    obtain ⟨xs, ys, x, y, hqx, hqy, hx, hy⟩ := hg
    obtain ⟨its, rv, p, _⟩ := I.tuple hqx
    obtain ⟨its2, rv2, p2, _⟩ := I.list hqy
    obtain ⟨u, hu, ru⟩ := rv.get hx
    obtain ⟨u2, hu2, ru2⟩ := rv2.get hy
    have hzl : z < s.heap.objs.size := Heap.lt_size hz
    refine pyNext_zipK_item D hz hTI hTO h1 h2 (show sqK false s.heap a its.toArray from p) (show sqK true s.heap b its2.toArray from p2.isList) (x := u) (y := u2) (by simpa using hu) (by simpa using hu2) fun h' z' TO' h1' h2' hT hsz hk => ?_
    refine ⟨_, rfl, wpAny_letOwnedTupleGo_zip (s := { s with heap := h' }) z' fun h'' z'' sb => ?_⟩
    have hT2 : h''.get? s.heap.objs.size = some { cls := .type "tuple", data := .seq #[u, u2] } := (sb.2 _ (Nat.ne_of_gt hzl)).trans hT
    have new : ObjOk X.prog X.w (upd H s.heap.objs.size (.tup [x, y])) h'' s.heap.objs.size (.tup [x, y]) :=
      ⟨by show 2 ≤ sizeLine; decide, [u, u2], .cons ru (.cons ru2 .nil), ⟨_, hT2, rfl, _, rfl⟩⟩
    have I1 : Inv X pins σ (upd H s.heap.objs.size (.tup [x, y])) { s with heap := h'' } :=
      I.turnedNew (t' := s.toks) (ch := [z, TI, TO, i1, i2]) (fun c o hb q => (sb.2 c (fun q' => hb (by simp [q']))).trans (hk c o (fun q' => hb (by simp [q'])) (fun q' => hb (by simp [q'])) (fun q' => hb (by simp [q'])) (fun q' => hb (by simp [q'])) q)) hf (Nat.le_refl _) new
    refine ⟨.ref s.heap.objs.size, _, I1, rfl, ⟨_, x, y, rfl, I.hok.fresh (Nat.le_refl _), rfl, fun l hl => by rw [I.tuple_inj hl hqx]; exact hx, fun l hl => by rw [I.list_inj hl hqy]; exact hy⟩, ⟨z'', ?_, ⟨u, u2, ?_⟩, ?_, ?_⟩, fun c hcm => ?_⟩
    · exact (sb.2 _ D.TIz).trans (hk _ _ D.TIz D.TITO D.TIi1 D.TIi2 hTI)
    · exact (sb.2 _ D.TOz).trans TO'
    · exact h1'.at fun o q => (sb.2 _ D.i1z).trans q
    · exact h2'.at fun o q => (sb.2 _ D.i2z).trans q
    · have hlt : c < s.heap.objs.size := by
        have e' : c = z ∨ c = TI ∨ c = TO ∨ c = i1 ∨ c = i2 := by simpa using hcm
        rcases e' with q | q | q | q | q
        · rw [q]; exact hzl
        · rw [q]; exact Heap.lt_size hTI
        · rw [q]; exact Heap.lt_size hTO
        · rw [q]; exact h1.lt
        · rw [q]; exact h2.lt
      rw [upd_ne (Nat.ne_of_lt hlt)]
      exact (hf c hcm).1
  done := by
    intro X hP hw hK hc i pins s σ H E I hf st hg
    subst hP hw hK
    obtain ⟨hz, hTI, ⟨x0, y0, hTO⟩, h1, h2⟩ := st
    obtain ⟨xs, ys, hqx, hqy, hend⟩ := hg
    obtain ⟨its, rv, p, _⟩ := I.tuple hqx
    obtain ⟨its2, rv2, p2, _⟩ := I.list hqy
    have l1 := rv.length
    have l2 := rv2.length
    have he : its.toArray[i]? = none ∨ its2.toArray[i]? = none := by
      rcases hend with q | q
      · exact .inl (by simp; omega)
      · exact .inr (by simp; omega)
    exact pyNext_zipK_end (I.ok.hd hc) D hz hTI hTO h1 h2 (show sqK false s.heap a its.toArray from p) (show sqK true s.heap b its2.toArray from p2.isList) he fun h' hk => ⟨rfl, I.turnedL (t' := s.toks) (ch := [z, TI, TO, i1, i2]) (fun c o hb q =>
      hk c o (fun q' => hb (by simp [q'])) (fun q' => hb (by simp [q'])) (fun q' => hb (by simp [q'])) (fun q' => hb (by simp [q'])) q) hf⟩
  self := fun A i s Q E st h => wpAny_pyIter_zip st.1 h
abbrev zipJH1 (h : Heap) (l1 : Addr) : Heap := h.push { cls := .type "list_iterator", data := .fields #[.ref l1, .int 0 0] }
abbrev zipJH2 (h : Heap) (l1 l2 : Addr) : Heap := (zipJH1 h l1).push { cls := .type "tuple_iterator", data := .fields #[.ref l2, .int 0 0] }
abbrev zipJH3 (h : Heap) (l1 l2 : Addr) : Heap := (zipJH2 h l1 l2).push { cls := .type "tuple", data := .seq #[.ref h.objs.size, .ref (zipJH1 h l1).objs.size] }
abbrev zipJH4 (h : Heap) (l1 l2 : Addr) : Heap := (zipJH3 h l1 l2).push { cls := .type "tuple", data := .seq #[.none, .none] }
abbrev zipJH5 (h : Heap) (l1 l2 : Addr) : Heap := (zipJH4 h l1 l2).push { cls := .type "zip", data := .fields #[.none, .bool false, .bool false, .ref (zipJH2 h l1 l2).objs.size, .ref (zipJH3 h l1 l2).objs.size] }
theorem meets_zipJ_new (l1 l2 : Addr) (xs ys : Array Value) :
    Meets (Builtin.«zip.__new__» ⟨[.type "zip", .ref l1, .ref l2], []⟩) (fun _ R s => s.heap.IsList l1 xs ∧ s.heap.IsTuple l2 ys ∧
      R (.ok (.ret (.ref (zipJH4 s.heap l1 l2).objs.size))) { s with heap := zipJH5 s.heap l1 l2 }) :=
  .of_wp fun prog w A R s h => by
    obtain ⟨hp, g, d, tk, os⟩ := s; obtain ⟨hl1, hl2, h⟩ := h
    have hsub := sub_zip
    have hL1 : Heap.IsList (Shared.heap ⟨hp, g, d, tk, os⟩) l1 xs := hl1
    have hL2 : Heap.IsTuple (Shared.heap ⟨hp.push { cls := .type "list_iterator", data := .fields #[.ref l1, .int 0 0] }, g, d, tk, os⟩) l2 ys := Heap.IsTuple.push hl2 _
    wp_walk using wpAny_pyIter_list hL1, wpAny_pyIter_tuple hL2
    exact ⟨_, rfl, h⟩
section
variable {prog : Program} {w : World} {A : Around} {E : Value → Shared → Prop} {s : Shared}
theorem call_zipJ {l1 l2 : Addr} {xs ys : Array Value} {Q : Value → Shared → Prop} (hl1 : s.heap.IsList l1 xs) (hl2 : s.heap.IsTuple l2 ys)
    (h : ∀ h', IsZip h' (s.heap.objs.size + 4) (s.heap.objs.size + 2) (s.heap.objs.size + 3) .none → IsPair h' (s.heap.objs.size + 2) (.ref s.heap.objs.size) (.ref (s.heap.objs.size + 1)) →
      IsPair h' (s.heap.objs.size + 3) .none .none → h'.IsListIter s.heap.objs.size l1 0 → h'.IsTupleIter (s.heap.objs.size + 1) l2 0 → h'.objs.size = s.heap.objs.size + 5 →
      (∀ c o, s.heap.get? c = some o → h'.get? c = some o) → Q (.ref (s.heap.objs.size + 4)) { s with heap := h' }) :
    wpAny (model prog w) A (call (.type "zip") [.ref l1, .ref l2]) Q E s := by
  refine callType_new F.called_zip (by decide) (F.typeCall_zip_2 _ _) (F.newCall_zip_2 _ _) (fun obj => F.args_object_init_3 obj _ _) F.entry_zip_new
    (meets_zipJ_new l1 l2 xs ys) ⟨hl1, hl2, ?_⟩
  have z1 : (zipJH1 s.heap l1).objs.size = s.heap.objs.size + 1 := Heap.size_push ..
  have z2 : (zipJH2 s.heap l1 l2).objs.size = s.heap.objs.size + 2 := by rw [Heap.size_push, z1]
  have z3 : (zipJH3 s.heap l1 l2).objs.size = s.heap.objs.size + 3 := by rw [Heap.size_push, z2]
  have z4 : (zipJH4 s.heap l1 l2).objs.size = s.heap.objs.size + 4 := by rw [Heap.size_push, z3]
  have z5 : (zipJH5 s.heap l1 l2).objs.size = s.heap.objs.size + 5 := by rw [Heap.size_push, z4]
  have g5 : (zipJH5 s.heap l1 l2).get? (zipJH4 s.heap l1 l2).objs.size = some _ := Heap.get?_push_size _ rfl
  have g4 : (zipJH5 s.heap l1 l2).get? (zipJH3 s.heap l1 l2).objs.size = some _ := Heap.get?_push_of_some _ (Heap.get?_push_size _ rfl)
  have g3 : (zipJH5 s.heap l1 l2).get? (zipJH2 s.heap l1 l2).objs.size = some _ := Heap.get?_push_of_some _ (Heap.get?_push_of_some _ (Heap.get?_push_size _ rfl))
  have g2 : (zipJH5 s.heap l1 l2).get? (zipJH1 s.heap l1).objs.size = some _ := Heap.get?_push_of_some _ (Heap.get?_push_of_some _ (Heap.get?_push_of_some _ (Heap.get?_push_size _ rfl)))
  have g1 : (zipJH5 s.heap l1 l2).get? s.heap.objs.size = some _ := Heap.get?_push_of_some _ (Heap.get?_push_of_some _ (Heap.get?_push_of_some _ (Heap.get?_push_of_some _ (Heap.get?_push_size _ rfl))))
  show _ ∧ _
  rw [z2, z3, z4] at g5
  rw [z1, z2] at g3
  rw [z3] at g4
  rw [z1] at g2
  rw [z4]
  exact ⟨⟨_, g5, rfl⟩, h _ g5 g3 g4 ⟨_, g1, rfl, rfl⟩ ⟨_, g2, rfl, rfl⟩ z5 fun c o x =>
    Heap.get?_push_of_some _ (Heap.get?_push_of_some _ (Heap.get?_push_of_some _ (Heap.get?_push_of_some _ (Heap.get?_push_of_some _ x))))⟩
end
def ItzJ (K : PySem.W.Frag) (a b : Addr) : It :=
  ⟨fun i H => ∃ (xs ys : List V) (x y : V), SqL K H a xs ∧ SqT K H b ys ∧ xs[i]? = some x ∧ ys[i]? = some y,
    fun i H v H' => ∃ T x y, v = .ref T ∧ H T = none ∧ H' = upd H T (.tup [x, y]) ∧ (∀ xs, SqL K H a xs → xs[i]? = some x) ∧ ∀ ys, SqT K H b ys → ys[i]? = some y,
    fun i H => ∃ xs ys : List V, SqL K H a xs ∧ SqT K H b ys ∧ (xs.length ≤ i ∨ ys.length ≤ i)⟩
theorem turn_zipJ {P : Program} {w : World} {K : PySem.W.Frag} {elts : List Expr} {kk : Nat} {tpos : Pos} {a b z TI TO i1 i2 : Addr} (D : ZipApart z TI TO i1 i2 a b) :
    Turn P w K (.Tuple elts kk tpos) (ItzJ K a b) [z, TI, TO, i1, i2] z (fun i h => IsZip h z TI TO .none ∧ IsPair h TI (.ref i1) (.ref i2) ∧ (∃ x y, IsPair h TO x y) ∧ itK true h i1 a i ∧ itK false h i2 b i) where
  mem := by simp
  obj := fun i h st c hc => by
    obtain ⟨hz, hTI, ⟨x, y, hTO⟩, h1, h2⟩ := st
    obtain ⟨o1, e1, d1⟩ := h1.nof
    obtain ⟨o2, e2, d2⟩ := h2.nof
    have e' : c = z ∨ c = TI ∨ c = TO ∨ c = i1 ∨ c = i2 := by simpa using hc
    rcases e' with q | q | q | q | q
    · rw [q]; exact ⟨_, hz, fun v q => nomatch q⟩
    · rw [q]; exact ⟨_, hTI, fun v q => nomatch q⟩
    · rw [q]; exact ⟨_, hTO, fun v q => nomatch q⟩
    · rw [q]; exact ⟨o1, e1, d1⟩
    · rw [q]; exact ⟨o2, e2, d2⟩
  keep := fun i h h' st k => by
    obtain ⟨hz, hTI, ⟨x, y, hTO⟩, h1, h2⟩ := st
    exact ⟨k z (by simp) _ hz, k TI (by simp) _ hTI, ⟨x, y, k TO (by simp) _ hTO⟩, h1.at fun o q => k i1 (by simp) o q, h2.at fun o q => k i2 (by simp) o q⟩
  item := by
    intro X hP hw hK hc i pins s σ H E I hf st hg
    subst hP hw hK
    obtain ⟨hz, hTI, ⟨x0, y0, hTO⟩, h1, h2⟩ := st
    obtain ⟨xs, ys, x, y, hqx, hqy, hx, hy⟩ := hg
    obtain ⟨its, rv, p, _⟩ := I.list hqx
    obtain ⟨its2, rv2, p2, _⟩ := I.tuple hqy
    obtain ⟨u, hu, ru⟩ := rv.get hx
    obtain ⟨u2, hu2, ru2⟩ := rv2.get hy
    have hzl : z < s.heap.objs.size := Heap.lt_size hz
    refine pyNext_zipK_item D hz hTI hTO h1 h2 (show sqK true s.heap a its.toArray from p.isList) (show sqK false s.heap b its2.toArray from p2) (x := u) (y := u2) (by simpa using hu) (by simpa using hu2) fun h' z' TO' h1' h2' hT hsz hk => ?_
    refine ⟨_, rfl, wpAny_letOwnedTupleGo_zip (s := { s with heap := h' }) z' fun h'' z'' sb => ?_⟩
    have hT2 : h''.get? s.heap.objs.size = some { cls := .type "tuple", data := .seq #[u, u2] } := (sb.2 _ (Nat.ne_of_gt hzl)).trans hT
    have new : ObjOk X.prog X.w (upd H s.heap.objs.size (.tup [x, y])) h'' s.heap.objs.size (.tup [x, y]) :=
      ⟨by show 2 ≤ sizeLine; decide, [u, u2], .cons ru (.cons ru2 .nil), ⟨_, hT2, rfl, _, rfl⟩⟩
    have I1 : Inv X pins σ (upd H s.heap.objs.size (.tup [x, y])) { s with heap := h'' } :=
      I.turnedNew (t' := s.toks) (ch := [z, TI, TO, i1, i2]) (fun c o hb q => (sb.2 c (fun q' => hb (by simp [q']))).trans (hk c o (fun q' => hb (by simp [q'])) (fun q' => hb (by simp [q'])) (fun q' => hb (by simp [q'])) (fun q' => hb (by simp [q'])) q)) hf (Nat.le_refl _) new
    refine ⟨.ref s.heap.objs.size, _, I1, rfl, ⟨_, x, y, rfl, I.hok.fresh (Nat.le_refl _), rfl, fun l hl => by rw [I.list_inj hl hqx]; exact hx, fun l hl => by rw [I.tuple_inj hl hqy]; exact hy⟩, ⟨z'', ?_, ⟨u, u2, ?_⟩, ?_, ?_⟩, fun c hcm => ?_⟩
    · exact (sb.2 _ D.TIz).trans (hk _ _ D.TIz D.TITO D.TIi1 D.TIi2 hTI)
    · exact (sb.2 _ D.TOz).trans TO'
    · exact h1'.at fun o q => (sb.2 _ D.i1z).trans q
    · exact h2'.at fun o q => (sb.2 _ D.i2z).trans q
    · have hlt : c < s.heap.objs.size := by
        have e' : c = z ∨ c = TI ∨ c = TO ∨ c = i1 ∨ c = i2 := by simpa using hcm
        rcases e' with q | q | q | q | q
        · rw [q]; exact hzl
        · rw [q]; exact Heap.lt_size hTI
        · rw [q]; exact Heap.lt_size hTO
        · rw [q]; exact h1.lt
        · rw [q]; exact h2.lt
      rw [upd_ne (Nat.ne_of_lt hlt)]
      exact (hf c hcm).1
  done := by
    intro X hP hw hK hc i pins s σ H E I hf st hg
    subst hP hw hK
    obtain ⟨hz, hTI, ⟨x0, y0, hTO⟩, h1, h2⟩ := st
    obtain ⟨xs, ys, hqx, hqy, hend⟩ := hg
    obtain ⟨its, rv, p, _⟩ := I.list hqx
    obtain ⟨its2, rv2, p2, _⟩ := I.tuple hqy
    have l1 := rv.length
    have l2 := rv2.length
    have he : its.toArray[i]? = none ∨ its2.toArray[i]? = none := by
      rcases hend with q | q
      · exact .inl (by simp; omega)
      · exact .inr (by simp; omega)
    exact pyNext_zipK_end (I.ok.hd hc) D hz hTI hTO h1 h2 (show sqK true s.heap a its.toArray from p.isList) (show sqK false s.heap b its2.toArray from p2) he fun h' hk => ⟨rfl, I.turnedL (t' := s.toks) (ch := [z, TI, TO, i1, i2]) (fun c o hb q =>
      hk c o (fun q' => hb (by simp [q'])) (fun q' => hb (by simp [q'])) (fun q' => hb (by simp [q'])) (fun q' => hb (by simp [q'])) q) hf⟩
  self := fun A i s Q E st h => wpAny_pyIter_zip st.1 h
def iZipK (K : PySem.W.Frag) (ta : TA) : TI := fun σ H R => ta σ H fun vs H1 => ∃ a b xs ys, vs = [.ref a, .ref b] ∧ ((SqL K H1 a xs ∧ SqL K H1 b ys ∧ R (Itz K a b) H1) ∨ (SqT K H1 a xs ∧ SqT K H1 b ys ∧ R (RZ.ItzT K a b) H1) ∨ (SqT K H1 a xs ∧ SqL K H1 b ys ∧ R (ItzK K a b) H1) ∨ (SqL K H1 a xs ∧ SqT K H1 b ys ∧ R (ItzJ K a b) H1))
theorem pi_zipK {X : Cx} {e e2 : Expr} {ta : TA} {p pos tpos : Pos} {elts : List Expr} {kk : Nat} (hg : Gl X "zip") (hm : X.mg "zip" = none) (ha : PA X [e, e2] ta)
    (hs : starEach [e, e2] X.env = (false, eval e X.env) :: starEach [e2] X.env := by rfl) (hpl : (backTo pos (starEach [e2] X.env)).any (·.1) = false := by rfl) :
    PI X (.Tuple elts kk tpos) (.Call (.Name "zip" p) [e, e2] [] pos) (iZipK X.K ta) := by
  refine ⟨fun pins s σ H R I h => ?_⟩
  refine Call_ (ld_blt I hg hm PyProof.Rows.boot_zip (PyProof.Rows.callWith_type1 (thn (ha.run pos pins s σ H _ I h) fun us s1 ⟨vs, H1, I1, r1, q1⟩ => ?_) hs hpl))
  obtain ⟨a, b, xs, ys, ex, q1⟩ := q1
  subst ex
  cases r1 with
  | cons r rr =>
    cases rr with
    | cons r' rr =>
      cases rr
      cases r
      cases r'
      have fresh5 : ∀ c, c ∈ [s1.heap.objs.size + 4, s1.heap.objs.size + 2, s1.heap.objs.size + 3, s1.heap.objs.size, s1.heap.objs.size + 1] → FpOk X pins H1 c := fun c hcm => by
        have e' : c = s1.heap.objs.size + 4 ∨ c = s1.heap.objs.size + 2 ∨ c = s1.heap.objs.size + 3 ∨ c = s1.heap.objs.size ∨ c = s1.heap.objs.size + 1 := by simpa using hcm
        have hle : s1.heap.objs.size ≤ c := by
          rcases e' with z | z | z | z | z
          · rw [z]; exact Nat.le_add_right _ _
          · rw [z]; exact Nat.le_add_right _ _
          · rw [z]; exact Nat.le_add_right _ _
          · rw [z]; exact Nat.le_refl _
          · rw [z]; exact Nat.le_add_right _ _
        exact I1.fpOk hle (I1.hok.fresh hle)
      rcases q1 with ⟨hqx, hqy, q⟩ | ⟨hqx, hqy, q⟩ | ⟨hqx, hqy, q⟩ | ⟨hqx, hqy, q⟩
      · obtain ⟨its, rv, p1, _⟩ := I1.list hqx
        obtain ⟨its2, rv2, p2, _⟩ := I1.list hqy
        refine call_zip_2 p1.isList p2.isList fun h' hz hTI hTO h1 h2 hsz hk => wpAny_pyIter_zip hz ?_
        have I2 : Inv X pins σ H1 { s1 with heap := h' } := I1.kept (t' := s1.toks) hk
        exact ⟨s1.heap.objs.size + 4, [s1.heap.objs.size + 4, s1.heap.objs.size + 2, s1.heap.objs.size + 3, s1.heap.objs.size, s1.heap.objs.size + 1], _, _, H1, rfl, I2, turn_zip (PySem.W.ktu_apart s1.heap.objs.size a b p1.lt p2.lt), ⟨hz, hTI, ⟨_, _, hTO⟩, h1, h2⟩, fresh5, q⟩
      · obtain ⟨its, rv, p1, _⟩ := I1.tuple hqx
        obtain ⟨its2, rv2, p2, _⟩ := I1.tuple hqy
        obtain ⟨o1, ho1, _⟩ := id p1
        obtain ⟨o2, ho2, _⟩ := id p2
        refine RZ.call_zipT (show s1.heap.IsTuple a its.toArray from p1) (show s1.heap.IsTuple b its2.toArray from p2) fun h' hz hTI hTO h1 h2 hsz hk => wpAny_pyIter_zip hz ?_
        have I2 : Inv X pins σ H1 { s1 with heap := h' } := I1.kept (t' := s1.toks) hk
        exact ⟨s1.heap.objs.size + 4, [s1.heap.objs.size + 4, s1.heap.objs.size + 2, s1.heap.objs.size + 3, s1.heap.objs.size, s1.heap.objs.size + 1], _, _, H1, rfl, I2, RZ.turn_zipT (PySem.W.ktu_apart s1.heap.objs.size a b (Heap.lt_size ho1) (Heap.lt_size ho2)), ⟨hz, hTI, ⟨_, _, hTO⟩, h1, h2⟩, fresh5, q⟩
      · obtain ⟨its, rv, p1, _⟩ := I1.tuple hqx
        obtain ⟨its2, rv2, p2, _⟩ := I1.list hqy
        obtain ⟨o1, ho1, _⟩ := id p1
        refine call_zipK (show s1.heap.IsTuple a its.toArray from p1) p2.isList fun h' hz hTI hTO h1 h2 hsz hk => wpAny_pyIter_zip hz ?_
        have I2 : Inv X pins σ H1 { s1 with heap := h' } := I1.kept (t' := s1.toks) hk
        exact ⟨s1.heap.objs.size + 4, [s1.heap.objs.size + 4, s1.heap.objs.size + 2, s1.heap.objs.size + 3, s1.heap.objs.size, s1.heap.objs.size + 1], _, _, H1, rfl, I2, turn_zipK (PySem.W.ktu_apart s1.heap.objs.size a b (Heap.lt_size ho1) p2.lt), ⟨hz, hTI, ⟨_, _, hTO⟩, h1, h2⟩, fresh5, q⟩
      · obtain ⟨its, rv, p1, _⟩ := I1.list hqx
        obtain ⟨its2, rv2, p2, _⟩ := I1.tuple hqy
        obtain ⟨o2, ho2, _⟩ := id p2
        refine call_zipJ p1.isList (show s1.heap.IsTuple b its2.toArray from p2) fun h' hz hTI hTO h1 h2 hsz hk => wpAny_pyIter_zip hz ?_
        have I2 : Inv X pins σ H1 { s1 with heap := h' } := I1.kept (t' := s1.toks) hk
        exact ⟨s1.heap.objs.size + 4, [s1.heap.objs.size + 4, s1.heap.objs.size + 2, s1.heap.objs.size + 3, s1.heap.objs.size, s1.heap.objs.size + 1], _, _, H1, rfl, I2, turn_zipJ (PySem.W.ktu_apart s1.heap.objs.size a b p1.lt (Heap.lt_size ho2)), ⟨hz, hTI, ⟨_, _, hTO⟩, h1, h2⟩, fresh5, q⟩
end F2
set_option Elab.async false
set_option linter.all false
set_option maxRecDepth 100000
set_option maxHeartbeats 4000000
namespace F2
open PySem PySem.Spec PyProof.Rows
open L2
def pickA {α : Type} (xs : List α) (lo : Option Int) (st : Int) : List α :=
  (sliceRange (sliceBounds lo none (some st) xs.length).1 (sliceBounds lo none (some st) xs.length).2.1 (sliceBounds lo none (some st) xs.length).2.2).filterMap (xs[·]?)
theorem vals_pick {xs : List V} {its : List Value} (r : Vals xs its) : ∀ is : List Nat, Vals (is.filterMap (xs[·]?)) (is.filterMap (its.toArray[·]?))
  | [] => .nil
  | i :: is => by
    have ih := vals_pick r is
    have ei : its.toArray[i]? = its[i]? := by simp
    cases e : xs[i]? with
    | none =>
      have q := r.none_of e
      rw [List.filterMap_cons, List.filterMap_cons, e, ei, q]
      exact ih
    | some x =>
      obtain ⟨u, hu, ru⟩ := r.get e
      rw [List.filterMap_cons, List.filterMap_cons, e, ei, hu]
      exact .cons ru ih
def tStp (K : PySem.W.Frag) (te : TE) (tl : TO) (tm : TE) : TE := fun σ H Q => te σ H fun x H1 => tl σ H1 fun lo H2 => tm σ H2 fun m H3 => ∃ a xs st, x = .ref a ∧ m = .int st ∧ st ≠ 0 ∧ SqL K H3 a xs ∧ ∀ p, H3 p = none → Q (.ref p) (upd H3 p (.lst (pickA xs lo st)))
theorem pe_stp {X : Cx} {e m : Expr} {l : Option Expr} {te tm : TE} {tl : TO} {p2 pos : Pos} (he : PE X e te) (hl : PO X l tl) (hm : PE X m tm) : PE X (.Subscript e (.Slice l none (some m) p2) pos) (tStp X.K te tl tm) := by
  refine ⟨fun pins s σ H Q I h => ?_⟩
  refine Subscript_ (thn (he.run pins s σ H _ I h) fun v s1 ⟨x, H1, I1, r1, q1⟩ => ?_)
  refine wpAny_Slice (thn (hl.run pins s1 σ H1 _ I1 q1) fun vl s2 ⟨lo, H2, I2, pl, q2⟩ => ?_)
  rw [evalPart_none]
  refine wpAny_pure ?_
  rw [evalPart_some]
  refine thn (hm.run pins s2 σ H2 _ I2 q2) fun u s3 ⟨y, H3, I3, r3, a, xs, st, ex, ey, h0, hs, q3⟩ => ?_
  subst ex; subst ey
  obtain ⟨tk, rfl⟩ := r3
  cases r1
  have I4 : Inv X pins σ H3 { s3 with heap := s3.heap.push { cls := .type "slice", data := .fields #[vl, .none, .int st tk] } } := I3.kept (t' := s3.toks) fun b ob q => Heap.get?_push_of_some _ q
  obtain ⟨its, r, ht, hz⟩ := I4.list hs
  have hlen := r.length
  show wpAny (model X.prog X.w) X.A (subscriptTail e (.Slice l none (some m) p2) (.ref a) (.ref s3.heap.objs.size)) (EP X pins σ Q) X.xe { s3 with heap := s3.heap.push { cls := .type "slice", data := .fields #[vl, .none, .int st tk] } }
  refine tail_any (ops := [.ref a, .ref s3.heap.objs.size]) ht.isList.typeIs (PySem.slot_list_getitem.lookup) ?_ (by with_unfolding_all rfl)
  have sz : its.toArray.size ≤ sizeLine := by rw [List.size_toArray]; omega
  refine wpAny_getItem_list_slice ht.isList (Heap.IsSliceOf.new _ vl .none (.int st tk)) pl .none (.int st tk) (by simpa using h0) ?_ sz
  have e1 : (slicePick its.toArray lo none (some st)).toList = (sliceRange (sliceBounds lo none (some st) xs.length).1 (sliceBounds lo none (some st) xs.length).2.1 (sliceBounds lo none (some st) xs.length).2.2).filterMap (its.toArray[·]?) := by
    unfold slicePick
    rw [List.size_toArray, ← hlen]
  have rp : Vals (pickA xs lo st) (slicePick its.toArray lo none (some st)).toList := by rw [e1]; exact vals_pick r _
  refine ⟨.ref _, _, I4.laid (t' := s3.toks) (o := .lst (pickA xs lo st)) (fun b ob q => Heap.get?_push_of_some _ q) (Nat.le_refl _) ?_, rfl, q3 _ (I4.hok.fresh (Nat.le_refl _))⟩
  refine ⟨?_, _, 0, rp, ?_⟩
  · rw [rp.length, Array.length_toList]
    exact Nat.le_trans (slicePick_size_le _ _ _ _) sz
  · rw [Array.toArray_toList]; exact Heap.get?_push_size _ rfl
end F2
set_option Elab.async false
set_option linter.all false
set_option maxRecDepth 100000
set_option maxHeartbeats 2000000
namespace F2
open PySem PySem.Spec PyProof.Rows
open L2
open RT
section
variable {X : Cx}
theorem tup_disp {es : List Expr} {t : TA} {n : Nat} {pos : Pos} (h : PA X es t) : PE X (.Tuple es n pos) (fun σ H Q => t σ H fun ys H1 => ys.length ≤ sizeLine ∧ newS ys H1 Q) :=
  ⟨fun pins s σ H Q I hq => wpAny_Tuple_spliced (thn (h.run pos pins s σ H _ I hq) fun us s1 ⟨ys, H1, I1, r, z, q⟩ => ⟨by rw [← r.length]; exact z, laidS (tk := s1.toks) I1 r z q⟩)⟩
theorem tup_of : CallR X (.type "tuple") (fun xs H Q => ∃ p ys, xs = [.ref p] ∧ ((SqL X.K H p ys ∧ newS ys H Q) ∨ (SqT X.K H p ys ∧ Q (.ref p) H))) := by
  intro pins s σ H xs us Q I r h
  obtain ⟨p, ys, rfl, h⟩ := h
  obtain ⟨u, rfl, rx⟩ := vals1 r
  cases rx
  rcases h with ⟨hq, q⟩ | ⟨hq, q⟩
  · obtain ⟨us, r', pl, hz⟩ := I.list hq
    have e := r'.length
    exact call_tuple_list pl.isList (fun h' kp => laidS (s := { s with heap := h' }) (tk := s.toks) (I.kept (t' := s.toks) kp) r' hz q) (by simp only [List.size_toArray] <;> omega)
  · obtain ⟨us, r', pl, hz⟩ := I.tuple hq
    exact call_tuple_same pl ⟨.ref p, H, I, rfl, q⟩
def rCatS (K : PySem.W.Frag) : R2 := fun x y H Q => ∃ a b xs ys, x = .ref a ∧ y = .ref b ∧ SqT K H a xs ∧ SqT K H b ys ∧ xs ≠ [] ∧ xs.length + ys.length ≤ sizeLine ∧ (ys = [] → Q (.ref a) H) ∧ (ys ≠ [] → newS (xs ++ ys) H Q)
theorem op_catS : OpR X (binaryOp .Add) (rCatS X.K) := by
  intro pins s σ H x y v u Q I rx ry h
  obtain ⟨a, b, xs, ys, rfl, rfl, ha, hb, hx, hz, k1, k2⟩ := h
  cases rx
  cases ry
  obtain ⟨us, r1, p1, _⟩ := I.tuple ha
  obtain ⟨vs, r2, p2, _⟩ := I.tuple hb
  exact HT.cat_tup p1 p2 (fun z => hx (r1.nil_iff.mp z)) (fun z => ⟨.ref a, H, I, rfl, k1 (r2.nil_iff.mp z)⟩) (fun z => laidS (tk := s.toks) I (r1.append r2) (by rw [List.length_append]; exact hz) (k2 fun w => z (r2.nil_iff.mpr w)))
    (by rw [← r1.length, ← r2.length]; exact hz)
def rCutS (K : PySem.W.Frag) : V → Option Int → Option Int → Hp → VK → Prop := fun x lo hi H Q => ∃ a xs, x = .ref a ∧ SqT K H a xs ∧ ¬ (HT.sIx xs.length 0 lo = 0 ∧ HT.sIx xs.length xs.length hi = xs.length) ∧ newS (cutV xs lo hi) H Q
theorem sl_cutS : SlR X (rCutS X.K) := by
  intro pins s σ H x v vl vu lo hi sl Q I rx hs pl pu h
  obtain ⟨a, xs, rfl, hx, hw, q⟩ := h
  cases rx
  obtain ⟨us, r, ht, hz⟩ := I.tuple hx
  have hlen : us.toArray.size = xs.length := by rw [List.size_toArray]; exact r.length.symm
  refine ⟨"tuple", _, PyProof.Rows.slot_tuple_getitem.lookup, ht.typeIs, HT.getItem_tuple_cut ht hs pl pu (by rw [hlen]; exact hw) ?_ (by rw [hlen]; exact hz)⟩
  rw [hlen]
  exact laidS (tk := s.toks) I ((r.drop (HT.sIx xs.length 0 lo)).take (HT.sIx xs.length xs.length hi - HT.sIx xs.length 0 lo)) (Nat.le_trans (cutV_length xs lo hi) hz) q
def rMulS (K : PySem.W.Frag) : R2 := fun x y H Q => ∃ l k xs, x = .ref l ∧ y = .int k ∧ SqT K H l xs ∧ xs ≠ [] ∧ 2 ≤ k ∧ k ≤ 1000 ∧ xs.length ≤ 1000 ∧ newS (List.replicate k.toNat xs).flatten H Q
theorem op_mulS : OpR X (binaryOp .Mult) (rMulS X.K) := by
  intro pins s σ H x y v u Q I rx ry h
  obtain ⟨l, k, xs, rfl, rfl, hT, hne, k2, kM, hz, q⟩ := h
  cases rx
  obtain ⟨t, rfl⟩ := ry
  obtain ⟨us, r, ⟨⟨cls, dd, data, sl⟩, ho, hc, n, hd⟩, hs⟩ := I.tuple hT
  simp only at hc hd
  subst hc hd
  have el : us.length = xs.length := r.length.symm
  have ei : us.toArray.isEmpty = false := by
    cases us with
    | nil => exact absurd (List.eq_nil_of_length_eq_zero el.symm) hne
    | cons a b => rfl
  have es : us.toArray.size = xs.length := by rw [List.size_toArray, el]
  have em : ((us.toArray.size : Nat) : Int) * k ≤ 1000000 := by
    rw [es]
    have := Int.mul_le_mul_of_nonneg_right (show ((xs.length : Nat) : Int) ≤ 1000 by omega) (show 0 ≤ k by omega)
    omega
  have eb : k.toNat * xs.length ≤ 1000 * 1000 := Nat.mul_le_mul (by omega) hz
  have ef : (List.replicate k.toNat us).flatten.length ≤ sizeLine := by rw [PyProof.Rows.lm_len_rep_flat, el, sizeLine_eq]; omega
  have d0 : (decide (k < -(2 ^ 63)) || decide (k ≥ 2 ^ 63)) = false := by rw [decide_eq_false (by omega), decide_eq_false (by omega)]; rfl
  have d1 : (us.toArray.isEmpty || k == 1) = false := by rw [ei, Bool.false_or]; exact beq_eq_false_iff_ne.mpr (by omega)
  have d2 : (decide (k ≤ 0) || us.toArray.isEmpty) = false := by rw [ei, Bool.or_false]; exact decide_eq_false (by omega)
  have d4 : Builtin.Tuple.tupleTooMany (((us.toArray.size : Nat) : Int) * k) = false := by unfold Builtin.Tuple.tupleTooMany; rw [sizeLine_eq]; exact decide_eq_false (by omega)
  refine wpAny_binaryOp_repeat_ref (T := "tuple") (U := "int") (by decide) ⟨_, ho, rfl⟩ (fun s' => typeIs_int s' k t) noFill_tuple_mul F.fills_int_mul F.slot_int_rmul repeat_tuple F.slot_int_index.lookup (call_meets F.slot_int_rmul (typeIs_int s k t) F.entry_int_rmul (F.args_int_rmul_2 _ _) (int_rmul_tuple k t l us.toArray n dd sl)
      ⟨ho, rfl, ⟨_, ho, rfl⟩, call_meets F.slot_tuple_mul ⟨_, ho, rfl⟩ F.entry_tuple_mul (F.args_tuple_mul_2 _ _) (tuple_mulW l us.toArray n dd sl k t d0 d1 d2 (by omega) d4 (by rw [size_rep, List.size_toArray]; exact ef)) ⟨ho, ?_⟩⟩)
  rw [size_rep]
  exact laidS (tk := s.toks) I (r.rep k.toNat) (by rw [PyProof.Rows.lm_len_rep_flat, sizeLine_eq]; omega) q
end
section
variable {X : Cx}
theorem tup_rg {e : Expr} {te : L2.St → Hp → (Int → Int → Hp → Prop) → Prop} {p pos : Pos} (hc : X.calm = true) (hg : Gl X "tuple") (hm : X.mg "tuple" = none) (he : PRg X e te) (na : starEach [e] X.env = (false, eval e X.env) :: starEach [] X.env) :
    PE X (.Call (.Name "tuple" p) [e] [] pos) (fun σ H Q => te σ H fun a b H1 => RgOk a b ∧ newS (rgV a b) H1 Q) := by
  refine ⟨fun pins s σ H Q I h => Call_ (ld_blt I hg hm boot_tuple (PyProof.Rows.callWith_type1 (args_cons (thn (he pins s σ H _ I h) fun x s1 ⟨r, a, b, t, u, v, H1, ex, hr, I1, ok, q⟩ => args_nil ?_) na) na))⟩
  subst ex
  obtain ⟨b1, b2, b3, b4, b5⟩ := ok
  refine call_tuple_range (n := (b - a).toNat) (I1.ok.hd hc) hr (small_one b1 b2 b3 b4) (rangeSize_nat a b) b5 fun h' tk acc hk hi => ?_
  have J : Inv X pins σ H1 { s1 with heap := h', toks := tk } := I1.kept hk
  have := laidS (tk := tk) J (vals_rg hi) (by rw [rgV_length, sizeLine_eq]; omega) q
  rw [Array.toArray_toList] at this
  exact this
theorem tup_rev {e : Expr} {te : TE} {p p2 pos pos2 : Pos} (hc : X.calm = true) (hg : Gl X "tuple") (hm : X.mg "tuple" = none) (hg2 : Gl X "reversed") (hm2 : X.mg "reversed" = none) (he : PE X e te)
    (na : starEach [e] X.env = (false, eval e X.env) :: starEach [] X.env) :
    PE X (.Call (.Name "tuple" p) [.Call (.Name "reversed" p2) [e] [] pos2] [] pos) (fun σ H Q => te σ H fun v H1 => ∃ a xs, v = .ref a ∧ SqL X.K H1 a xs ∧ newS xs.reverse H1 Q) := by
  have na2 : starEach [.Call (.Name "reversed" p2) [e] [] pos2] X.env = (false, eval (.Call (.Name "reversed" p2) [e] [] pos2) X.env) :: starEach [] X.env := rfl
  refine ⟨fun pins s σ H Q I h => Call_ (ld_blt I hg hm boot_tuple (PyProof.Rows.callWith_type1 (args_cons (Call_ (ld_blt I hg2 hm2 PyProof.Rows.boot_reversed (PyProof.Rows.callWith_type1 (args_cons (thn (he.run pins s σ H _ I h) fun u s1 ⟨v, H1, I1, r1, q1⟩ => args_nil ?_) na) na rfl))) na2) na2 rfl))⟩
  obtain ⟨a, xs, ev, hq, q⟩ := q1
  subst ev
  obtain rfl : u = Value.ref a := r1
  obtain ⟨us, rv, pl, hz⟩ := I1.list hq
  refine call_reversed_list pl.isList (args_nil ?_)
  have J2 : Inv X pins σ H1 { s1 with heap := s1.heap.push (revObj a ((us.toArray.size : Int) - 1)) } := I1.kept (t' := s1.toks) fun b o e => Heap.get?_push_of_some _ e
  obtain ⟨f0, f1, _, f3, f4, f5⟩ := I1.fpOk (H' := H1) (b := s1.heap.objs.size) (Nat.le_refl _) (I1.hok.fresh (Nat.le_refl _))
  obtain ⟨ol, hol, _⟩ := id pl.isList
  refine call_tuple_rev (s := { s1 with heap := s1.heap.push (revObj a ((us.toArray.size : Int) - 1)) }) (I1.ok.hd hc) ⟨_, Heap.get?_push_size _ rfl, rfl, rfl⟩ (pl.isList.push _) (Nat.ne_of_lt (Heap.lt_size hol)) (by rw [List.size_toArray, ← rv.length]; exact hz) fun h' tk acc hk hi => ?_
  have J3 : Inv X pins σ H1 { s1 with heap := h', toks := tk } := J2.turned (t' := tk) (fun b o hb e => hk b o hb e) f0 f1 f3 f4 f5
  have := laidS (tk := tk) J3 (vals_rev rv hi) (by rw [List.length_reverse]; exact hz) q
  rw [Array.toArray_toList] at this
  exact this
def rIdxT (K : PySem.W.Frag) : V → List V → Hp → VK → Prop := fun x xs H Q => ∃ (p : Addr) (ys : List V) (y : V) (j : Nat) (z : V), x = .ref p ∧ xs = [y] ∧ SqT K H p ys ∧ flatV y = true ∧ ys.all flatV = true ∧ ys[j]? = some z ∧ eqV z y = true ∧
  (∀ (m : Nat) (z' : V), m < j → ys[m]? = some z' → eqV z' y = false) ∧ Q (.int (j : Nat)) H
theorem mt_tidx : MtR X "tuple.index" (rIdxT X.K) := by
  intro pins s σ H x xs v us Q I rx rxs h
  obtain ⟨p, ys, y, j, z, rfl, rfl, hs, fy, fys, hj, hez, hno, q⟩ := h
  cases rx
  obtain ⟨uy, rfl, ry⟩ := rxs.one
  obtain ⟨its, rv, p1, _⟩ := I.tuple hs
  obtain ⟨⟨cls, dd, data, sl⟩, ho, hc, n, hd⟩ := id p1
  simp only at hc hd
  subst hc hd
  have fl : ∀ m u, ys[m]? = some u → flatV u = true := fun m u e => List.all_eq_true.mp fys u (List.mem_of_getElem? e)
  have at' : ∀ (m : Nat) (hm : m < its.toArray.size), ∃ u, ys[m]? = some u ∧ eqU y its.toArray[m] = eqV u y := fun m hm => by
    have hm' : m < ys.length := by rw [rv.length]; simpa using hm
    obtain ⟨w, hw, rw'⟩ := rv.get (i := m) (x := ys[m]) (List.getElem?_eq_getElem hm')
    have e := (List.getElem?_eq_some_iff.mp hw).2
    refine ⟨ys[m], List.getElem?_eq_getElem hm', ?_⟩
    have e2 : its.toArray[m] = w := by rw [← e]; simp
    rw [e2, eqU_of rw' (fl m _ (List.getElem?_eq_getElem hm'))]
  have hj' : j < its.toArray.size := by have := (List.getElem?_eq_some_iff.mp hj).1; rw [rv.length] at this; simpa using this
  refine call_meets PySem.F.slot_tuple_index ⟨_, ho, rfl⟩ PySem.F.entry_tuple_index (PySem.F.args_tuple_index_2 _ _) (TI.tuple_indexAt p its.toArray n dd sl uy (eqU y) j hj' ?_ ?_)
    ⟨ho, fun w hw => mem_eqAt ry fy rv fys w (by simpa using hw), ⟨.int (j : Nat), H, I.tok _, ⟨_, rfl⟩, q⟩⟩
  · obtain ⟨u, h1, h2⟩ := at' j hj'
    rw [hj] at h1; cases h1
    rw [h2, hez]
  · intro m hm hmj
    obtain ⟨u, h1, h2⟩ := at' m hm
    rw [h2]; exact hno m u hmj h1
end
def rSortPS (K : PySem.W.Frag) : List V → Hp → VK → Prop := fun vs H Q => ∃ (a : Addr) (xs : List V) (k : V → Int × Int), vs = [V.ref a] ∧ SqL K H a xs ∧ (∀ x ∈ xs, ∃ t, x = V.ref t ∧ SqT K H t [.int (k x).1, .int (k x).2]) ∧
  ∀ ys p, SrtO.Srtd (ltP k) ys → SrtO.Stb (ltP k) ys xs → H p = none → Q (.ref p) (upd H p (.lst ys))
theorem cr_sortPS {X : Cx} : CallR X (.builtin "sorted") (rSortPS X.K) := by
  intro pins s σ H vs us Q I r h
  obtain ⟨a, xs, k, rfl, hs, hx, q⟩ := h
  obtain ⟨its, rv, pl, hz⟩ := I.list hs
  obtain ⟨u, rfl, ru⟩ := vals1 r
  obtain rfl : u = Value.ref a := ru
  obtain ⟨e1, e2⟩ := refs_back rv fun x m => let ⟨t, e, _⟩ := hx x m; ⟨t, e⟩
  refine SrtO.sorted_pairsO (k := fun u => k (backV u)) pl.isList (by rw [← rv.length]; exact hz) (fun v hv => ?_) fun h' d out h1 h2 kp hd ⟨n, hn⟩ => ?_
  · obtain ⟨t, rfl⟩ := e2 v hv
    obtain ⟨t', e, ht⟩ := hx _ (by rw [e1]; exact List.mem_map.mpr ⟨_, hv, rfl⟩)
    cases e
    obtain ⟨is, r2, ⟨o, ho, hc, n, hd⟩, _⟩ := I.tuple ht
    obtain ⟨u1, u2, rfl, ⟨t1, rfl⟩, ⟨t2, rfl⟩⟩ := vals2 r2
    exact ⟨t, o, t1, t2, n, rfl, ho, hc, hd⟩
  · have hb : SrtO.Stb (ltP k) (out.map backV) xs := by rw [e1]; exact SrtO.Stb.map (ltP_swo k) backV h2
    exact ⟨.ref d, upd H d (.lst (out.map backV)), I.laid (t' := s.toks) kp hd ⟨by rw [hb.len]; exact hz, out, n, vals_back fun u hu => e2 u (h2.perm.mem_iff.mp hu), hn⟩, rfl, q _ d (SrtO.srtd_map h1) hb (I.hok.fresh hd)⟩
end F2
set_option Elab.async false
set_option linter.all false
set_option maxRecDepth 100000
set_option maxHeartbeats 4000000
namespace F2
open PySem PySem.Spec PyProof.Rows
open L2
section
variable {P : Program} {w : World} {A : Around} {E : Value → Shared → Prop} {s : Shared} {v : Value}
def InitQ (P : Program) (w : World) (A : Around) (E : Value → Shared → Prop) (s : Shared) (v : Value) (R : Shared → Prop) : Prop :=
  wpAny (model P w) A.in1.in1 (Builtin.«set.__init__» ⟨[.ref s.heap.objs.size, v], []⟩)
    (fun fin u => match fin with | .done f => f = .ret .none ∧ R u | .again _ => False) (fun e u => E e u) { s with heap := s.heap.push (setNew w) }
theorem set_made {Q : Value → Shared → Prop} {R : Shared → Prop} (run : InitQ P w A E s v R) (done : ∀ u, R u → Q (.ref s.heap.objs.size) u) :
    wpAny (model P w) A (call (.type "set") [v]) Q E s := by
  obtain ⟨_, _, is_mro⟩ := F.called_set.mro
  have is_made := F.called_set.made
  have is_sub := F.called_set.sub
  have not_type := F.called_set.notType
  have may := F.called_set.canCreate
  have args := F.typeCall_set_1 v
  refine wpAny_call (codeAny_of_tree (wpAny_pure ⟨Code.quiet_builtin _ (by decide +kernel), codeAny_builtin F.entry_type_call ?_⟩))
  rw [Around.under_plain (weight_type_call_type "set" [v] []) rfl]
  repeat (any_goals (first | assumption | wp_step))
  refine codeAny_mono (code_set_led1 v (E := E) (Q₁ := fun x u => x = .ref s.heap.objs.size ∧ u = { s with heap := s.heap.push (setNew w) }) ⟨rfl, rfl⟩) fun r u got => ?_
  match r, got with
  | .error e, got => exact got
  | .ok (.ret x), ⟨e1, e2⟩ =>
    subst e1 e2
    have is_set : Shared.TypeIs { s with heap := s.heap.push (setNew w) } (.ref s.heap.objs.size) "set" := ⟨_, Heap.get?_push_size _ rfl, rfl⟩
    have look := F.called_set.init.lookup
    have bind := F.called_set.init.bind (.ref s.heap.objs.size)
    repeat (any_goals (first | assumption | wp_step))
    refine codeAny_mono (codeAny_call_builtin (R := wants (fun r u => r = .none ∧ R u) E) F.called_set.init.plain F.entry_set_init (check_set_init_1 is_set ?_)) fun r u ok => ?_
    · unfold InitQ at run
      refine wpAny_mono run ?_ ?_
      · intro fin u ok
        cases fin with
        | done f => obtain ⟨rfl, ok⟩ := ok; exact ⟨rfl, ok⟩
        | again c => exact ok.elim
      · intro e u ok; exact ok
    · clear run
      cases r with
      | error e => exact ok
      | ok f =>
        cases f with
        | ret x =>
          obtain ⟨rfl, ok⟩ := ok
          have fine := done u ok
          clear done
          repeat (any_goals (first | assumption | wp_step))
        | _ => exact ok.elim
theorem init_tuple {l : Addr} {items : Array Value} {R : Shared → Prop} (tup : s.heap.IsTuple l items)
    (loop : codeAny (model P w) A.in1.in1 (.builtin "set.update.loop" ⟨[.ref s.heap.objs.size, .ref (s.heap.objs.size + 1)], []⟩) (fun r u => match r with | .ok (.ret v) => v = .none ∧ R u | .ok _ => False | .error e => E e u)
      { s with heap := (s.heap.push (setNew w)).push { cls := .type "tuple_iterator", data := .fields #[.ref l, .int 0 0] } }) : InitQ P w A E s (.ref l) R := by
  obtain ⟨⟨cls, dd, data, sl⟩, at_l, is_cls, many, is_data⟩ := tup
  simp only at is_cls is_data
  subst is_cls is_data
  have at_l2 : (s.heap.push (setNew w)).get? l = some { cls := .type "tuple", dict := dd, data := .seq items many, slots := sl } := Heap.get?_push_of_some _ at_l
  have no_set := F.sub_tuple_set
  have no_frozen := F.sub_tuple_frozenset
  have no_dict : (Value.type "tuple" == Value.type "dict") = false := by decide
  have tup2 : (s.heap.push (setNew w)).IsTuple l items := ⟨_, at_l2, rfl, many, rfl⟩
  have size2 : (s.heap.push (setNew w)).objs.size = s.heap.objs.size + 1 := Heap.size_push ..
  unfold InitQ Builtin.«set.__init__» noKeywords Builtin.Frozenset.updateFrom
  revert loop
  generalize keep : pyIter = PI
  intro loop
  have hide : True → codeAny (model P w) A.in1.in1 (.builtin "set.update.loop" ⟨[.ref s.heap.objs.size, .ref (s.heap.objs.size + 1)], []⟩) (fun r u => match r with | .ok (.ret v) => v = .none ∧ R u | .ok _ => False | .error e => E e u)
      { s with heap := (s.heap.push (setNew w)).push { cls := .type "tuple_iterator", data := .fields #[.ref l, .int 0 0] } } := fun _ => loop
  clear loop
  wp_walk
  subst keep
  refine wpAny_pyIter_tuple tup2 ?_
  refine wpAny_bind (wpAny_runValue ?_)
  rw [show ({ s with heap := s.heap.push (setNew w) } : Shared).heap.objs.size = s.heap.objs.size + 1 from size2]
  refine codeAny_mono (hide trivial) fun r u ok => ?_
  cases r with
  | error e => exact ok
  | ok f =>
    cases f with
    | ret x =>
      obtain ⟨rfl, ok⟩ := ok
      exact wpAny_pure (wpAny_pure ⟨rfl, ok⟩)
    | _ => exact ok.elim
theorem call_set_tupT {l : Addr} {items : Array Value} (ks : List (Addr × List Int)) {Q : Value → Shared → Prop} (no : A.handled = none) (tup : s.heap.IsTuple l items) (are : items.toList = ks.map fun p => Value.ref p.1)
    (know : ∀ p ∈ ks, IsT P w s.heap p.2 p.1) (few : ks.length < 64) (room : A.units + 3 < cLine)
    (h : ∀ (h' : Heap) (tk : Nat) L es ep t, SetTR P w h' s.heap.objs.size L es ep t → Got ks ks.length L → (∀ b o, s.heap.get? b = some o → h'.get? b = some o) → Q (.ref s.heap.objs.size) { s with heap := h', toks := tk }) :
    wpAny (model P w) A (call (.type "set") [.ref l]) Q E s := by
  have size2 : (s.heap.push (setNew w)).objs.size = s.heap.objs.size + 1 := Heap.size_push ..
  have below : l < s.heap.objs.size := by obtain ⟨o, e, _⟩ := tup; exact Heap.lt_size e
  have count : items.size = ks.length := by rw [← Array.length_toList, are, List.length_map]
  have gone : ∀ b, s.heap.objs.size ≤ b → s.heap.get? b = none := fun b le => by
    cases e : s.heap.get? b with
    | none => rfl
    | some o => exact absurd (Nat.lt_of_lt_of_le (Heap.lt_size e) le) (Nat.lt_irrefl _)
  have quiet3 : A.in1.in1.in1.handled = none := by simp [no]
  have apart : l ≠ s.heap.objs.size + 1 := Nat.ne_of_lt (Nat.lt_succ_of_lt below)
  refine set_made (R := fun u => ∃ h' tk L es ep t, u = { s with heap := h', toks := tk } ∧ SetTR P w h' s.heap.objs.size L es ep t ∧ Got ks ks.length L ∧ (∀ b o, s.heap.get? b = some o → h'.get? b = some o))
    (init_tuple tup ?_) fun u ⟨h', tk, L, es, ep, t, e, a, b, c⟩ => by rw [e]; exact h h' tk L es ep t a b c
  have fresh : ((s.heap.push (setNew w)).push { cls := .type "tuple_iterator", data := .fields #[.ref l, .int 0 0] }).get? s.heap.objs.size = some (setNew w) := Heap.get?_push_of_some _ (Heap.get?_push_size _ rfl)
  refine set_update_tups ((Walks.tuple quiet3 _ l apart items).toS) s.heap.objs.size ?_ ks count few (fun i v e => ?_) s.heap know (gone _ (Nat.le_refl _)) (fun b m => gone b ?_) room (items.size - 0) 0 _ rfl (Nat.zero_le _)
    ⟨⟨_, by rw [← size2]; exact Heap.get?_push_size _ rfl, rfl, rfl⟩, (tup.push _).push _⟩ (fun b o e => Heap.get?_push_of_some _ (Heap.get?_push_of_some _ e)) ⟨[], #[], 0, _, setTR_fresh fresh, Got.zero ks⟩ fun u L es ep t mv a g keep => ?_
  · simp only [List.mem_cons, List.not_mem_nil, or_false, not_or]
    exact ⟨Nat.ne_of_lt (Nat.lt_succ_self _), Nat.ne_of_gt below⟩
  · have e2 : items.toList[i]? = some v := by rw [Array.getElem?_toList]; exact e
    rw [are, List.getElem?_map] at e2
    cases e3 : ks[i]? with
    | none => rw [e3] at e2; cases e2
    | some p => rw [e3] at e2; exact ⟨p, rfl, (Option.some.inj e2).symm⟩
  · rw [List.mem_singleton.mp m]; exact Nat.le_succ _
  · obtain ⟨h', g1, d1, tk, o1⟩ := u
    have e1 : g1 = s.gens := mv.gens
    have e2 : d1 = s.drawn := mv.drawn
    have e3 : o1 = s.os := mv.os
    subst e1 e2 e3
    rw [count] at g
    exact ⟨rfl, h', tk, L, es, ep, t, rfl, a, g, keep⟩
theorem sorted_pairsT {l : Addr} {vs : List Value} {k : Value → Int × Int} {Q : Value → Shared → Prop} (tup : s.heap.IsTuple l vs.toArray) (few : vs.length ≤ sizeLine) (pairs : ∀ v ∈ vs, Srt.IsPair s.heap v (k v).1 (k v).2)
    (q : ∀ (h1 h2 : Heap) (d : Addr) (out : List Value), SrtO.Srtd (fun v u => SrtO.lexB (k v) (k u)) out → SrtO.Stb (fun v u => SrtO.lexB (k v) (k u)) out vs → (∀ b o, s.heap.get? b = some o → h1.get? b = some o) → (∀ b o, h1.get? b = some o → h2.get? b = some o) →
      h1.objs.size ≤ d → (∃ n, h2.get? d = some (seqObj "list" out.toArray n)) → Q (.ref d) { s with heap := h2 }) :
    wpAny (model P w) A (call (.builtin "sorted") [.ref l]) Q E s := by
  obtain ⟨o, at_l, is_cls, n, is_data⟩ := tup
  refine Calls.call_function_entry kind_sorted plain_sorted entry_sorted (args_sorted1 _) ?_
  unfold Builtin.«sorted»
  refine wpAny_bind (m := checkCount "sorted" 1 1 _) (wpAny_pure (wpAny_bind (wpAny_collect_seq l (.inr rfl) at_l is_cls is_data (fun h1 keep1 => wpAny_bind (wpAny_newList ?_ (by simpa using few))) (by simpa using few))))
  have made : (h1.push (seqObj "list" vs.toArray 0)).get? h1.objs.size = some (seqObj "list" vs.toArray 0) := Heap.get?_push_size _ rfl
  have keep : ∀ b o, s.heap.get? b = some o → (h1.push (seqObj "list" vs.toArray 0)).get? b = some o := fun b o e => Heap.get?_push_of_some _ (keep1 b o e)
  show wpAny _ _ (holding _ (call (.builtin "list.sort") _) >>= _) _ _ _
  refine wpAny_bind (wpAny_holding (wpAny_call_entry slot_list_sort ⟨_, made, rfl⟩ entry_list_sort (SrtO.list_sort_ord (SrtO.swo_lex k) made few (fun two => SrtO.pairs_sortableO (by omega) (fun v m => (pairs v m).keeps fun b o e _ => keep b o e) fun o e => ?_)
    fun out k1 k2 => ⟨_, rfl, ?_⟩) (args_list_sort _)))
  · have e' : some o = some (seqObj "list" vs.toArray 0) := e.symm.trans made
    cases e'
    intro c
    exact absurd (Value.type.inj c) (by decide)
  · obtain ⟨ep, at2⟩ := sortedHeap_at (vs := vs) (out := out.toArray) made
    refine wpAny_pure ⟨_, rfl, q h1 _ _ out k1 k2 keep1 (fun b o e => ?_) (Nat.le_refl _) ⟨ep, at2⟩⟩
    have lt := Heap.lt_size e
    rw [sortedHeap_old (Nat.ne_of_lt lt) (by rw [size_push']; exact Nat.lt_succ_of_lt lt)]
    exact Heap.get?_push_of_some _ e
end
def rSortPT (K : PySem.W.Frag) : List V → Hp → VK → Prop := fun vs H Q => ∃ (a : Addr) (xs : List V) (k : V → Int × Int), vs = [V.ref a] ∧ SqT K H a xs ∧ (∀ x ∈ xs, ∃ t, x = V.ref t ∧ SqT K H t [.int (k x).1, .int (k x).2]) ∧
  ∀ ys p, SrtO.Srtd (ltP k) ys → SrtO.Stb (ltP k) ys xs → H p = none → Q (.ref p) (upd H p (.lst ys))
theorem cr_sortPT {X : Cx} : CallR X (.builtin "sorted") (rSortPT X.K) := by
  intro pins s σ H vs us Q I r h
  obtain ⟨a, xs, k, rfl, is_t, know, q⟩ := h
  obtain ⟨its, rv, tup, size⟩ := I.tuple is_t
  rw [Vals.ref1 r]
  obtain ⟨e1, e2⟩ := refs_back rv fun x m => let ⟨t, e, _⟩ := know x m; ⟨t, e⟩
  refine sorted_pairsT (k := fun u => k (backV u)) tup (by rw [← rv.length]; exact size) (fun v m => ?_) fun h1 h2 d out k1 k2 keep1 keep2 le ⟨n, at_d⟩ => ?_
  · obtain ⟨t, rfl⟩ := e2 v m
    obtain ⟨t', e, is_p⟩ := know _ (by rw [e1]; exact List.mem_map.mpr ⟨_, m, rfl⟩)
    cases e
    obtain ⟨is, r2, ⟨o, at_t, is_c, n, is_d⟩, _⟩ := I.tuple is_p
    obtain ⟨u1, u2, rfl, ⟨t1, rfl⟩, ⟨t2, rfl⟩⟩ := vals2 r2
    exact ⟨t, o, t1, t2, n, rfl, at_t, is_c, is_d⟩
  · have stable : SrtO.Stb (ltP k) (out.map backV) xs := by rw [e1]; exact SrtO.Stb.map (ltP_swo k) backV k2
    have I1 : Inv X pins σ H { s with heap := h1 } := I.kept (t' := s.toks) fun b o e => keep1 b o e
    exact ⟨.ref d, upd H d (.lst (out.map backV)), I1.laid (t' := s.toks) keep2 le ⟨by rw [stable.len]; exact size, out, n, vals_back fun u m => e2 u (k2.perm.mem_iff.mp m), at_d⟩, rfl, q _ d (SrtO.srtd_map k1) stable (I1.hok.fresh le)⟩
def adV : V → Addr
  | .ref a => a
  | _ => 0
def lessP (p q : Int × Int) : Prop := p.1 < q.1 ∨ (p.1 = q.1 ∧ p.2 < q.2)
def tSortSetT (K : PySem.W.Frag) (ta : TE) : TE := fun σ H Q => ta σ H fun x H1 => ∃ (l : Addr) (xs : List V) (k : V → Int × Int), x = V.ref l ∧ SqT K H1 l xs ∧ (∀ y ∈ xs, ∃ t, y = V.ref t ∧ SqT K H1 t [.int (k y).1, .int (k y).2]) ∧
  (∀ y ∈ xs, (0 ≤ (k y).1 ∧ (k y).1 < 64) ∧ (0 ≤ (k y).2 ∧ (k y).2 < 64)) ∧ xs.length < 64 ∧
  ∀ (ys : List V) (p : Addr), (∀ y ∈ ys, y ∈ xs) → (∀ y ∈ xs, k y ∈ ys.map k) → (ys.map k).Pairwise lessP → H1 p = none → Q (.ref p) (upd H1 p (.lst ys))
section
variable {X : Cx} {a : Expr} {ta : TE} {p p2 q pos : Pos}
theorem pe_sortSetT (hg : Gl X "sorted") (hm : X.mg "sorted" = none) (hg2 : Gl X "set") (hm2 : X.mg "set" = none) (hb : bootBuiltins "sorted" = some (.builtin "sorted")) (ha : PE X a ta) (hc : X.calm = true) (hu : X.A.units + 3 < cLine)
    (na : starEach [a] X.env = (false, eval a X.env) :: starEach [] X.env) : PE X (.Call (.Name "sorted" p) [.Call (.Name "set" p2) [a] [] q] [] pos) (tSortSetT X.K ta) := by
  refine ⟨fun pins s σ H Q I h => ?_⟩
  refine Call_ (ld_blt I hg hm hb (PyProof.Rows.callWith_builtin1 (PyProof.Rows.args_cons ?_ rfl) rfl rfl))
  refine Call_ (ld_blt I hg2 hm2 boot_set (PyProof.Rows.callWith_type1 (PyProof.Rows.args_cons (thn (ha.run pins s σ H _ I h) fun v s1 ⟨x, H1, I1, r1, q1⟩ => PyProof.Rows.args_nil ?_) na) na rfl))
  obtain ⟨l, xs, k, rfl, is_t, know, small, few, q1⟩ := q1
  cases r1
  obtain ⟨its, rv, tup, size⟩ := I1.tuple is_t
  obtain ⟨e1, e2⟩ := refs_back rv fun x m => let ⟨t, e, _⟩ := know x m; ⟨t, e⟩
  have back : ∀ y ∈ xs, y = V.ref (adV y) := fun y m => by obtain ⟨t, rfl, _⟩ := know y m; rfl
  have in_ks : ∀ z ∈ xs.map (fun y => (adV y, [(k y).1, (k y).2])), ∃ y ∈ xs, z = (adV y, [(k y).1, (k y).2]) := fun z m => by
    obtain ⟨y, my, e⟩ := List.mem_map.mp m
    exact ⟨y, my, e.symm⟩
  refine call_set_tupT (xs.map fun y => (adV y, [(k y).1, (k y).2])) (I1.ok.hd hc) tup ?_ (fun z m => ?_) (by rw [List.length_map]; exact few) hu fun h' tk L es ep t R g keep => PyProof.Rows.args_nil ?_
  · rw [List.map_map, e1, List.map_map]
    have same : ∀ us : List Value, (∀ u ∈ us, ∃ t, u = Value.ref t) → us.map (fun v => Value.ref (adV (backV v))) = us := fun us hu => by
      induction us with
      | nil => rfl
      | cons u us ih =>
        obtain ⟨t, rfl⟩ := hu u List.mem_cons_self
        rw [List.map_cons, ih fun v m => hu v (List.mem_cons_of_mem _ m)] <;> rfl
    exact (same its e2).symm
  · obtain ⟨y, my, rfl⟩ := in_ks z m
    obtain ⟨t, rfl, is_p⟩ := know y my
    exact I1.isT (b := t) (k := [(k (V.ref t)).1, (k (V.ref t)).2]) is_p
  · have I2 : Inv X pins σ H1 { s1 with heap := h', toks := tk } := I1.kept fun b o e => keep b o e
    have inL : ∀ z ∈ L, ∃ y ∈ xs, z = (adV y, [(k y).1, (k y).2]) := fun z m => in_ks z (List.mem_of_mem_take (g.sub z m))
    refine sorted_setT R (I2.ok.hd hc) (d := 2) (B := 64) (by omega) (fun z m => ?_) fun s' l2 out c L' kp hgn hos le at_l2 are perm asc => ?_
    · obtain ⟨y, my, rfl⟩ := inL z m
      refine ⟨rfl, fun j mj => ?_⟩
      have := small y my
      simp only [List.mem_cons, List.not_mem_nil, or_false] at mj
      rcases mj with rfl | rfl
      · exact this.1
      · exact this.2
    · have inL' : ∀ z ∈ L', ∃ y ∈ xs, z = (adV y, [(k y).1, (k y).2]) := fun z m => inL z (perm.mem_iff.mp m)
      have many : L'.length < 64 := by rw [perm.length_eq]; exact R.few
      have none2 : H1 l2 = none := I2.hok.fresh le
      have vals : Vals (L'.map fun z => V.ref z.1) out.toList := by rw [are]; exact vals_of_refs L'
      have fits : (L'.map fun z => V.ref z.1).length ≤ sizeLine := by rw [List.length_map, sizeLine_eq]; omega
      have J : Inv X pins σ (upd H1 l2 (.lst (L'.map fun z => V.ref z.1))) { ({ s1 with heap := h', toks := tk } : Shared) with heap := s'.heap, gens := s'.gens, drawn := s'.drawn, toks := s'.toks } :=
        I2.call (ch := []) (Un.laid kp le none2) (I2.hok.laid kp le ⟨fits, out.toList, c, vals, at_l2⟩) (by rw [hgn]; exact I2.bare) (fun _ z => nomatch z)
      have e : s' = { s1 with heap := s'.heap, gens := s'.gens, drawn := s'.drawn, toks := s'.toks } := by
        have o' : s'.os = s1.os := hos
        cases s'; cases s1; cases o'; rfl
      rw [e]
      have keyed : ∀ z ∈ L', V.ref z.1 ∈ xs ∧ z.2 = [(k (V.ref z.1)).1, (k (V.ref z.1)).2] := fun z m => by
        obtain ⟨y, my, rfl⟩ := inL' z m
        have e := back y my
        refine ⟨by rw [← e]; exact my, ?_⟩
        show [(k y).1, (k y).2] = [(k (V.ref (adV y))).1, (k (V.ref (adV y))).2]
        rw [← e]
      refine ⟨.ref l2, _, J, rfl, q1 (L'.map fun z => V.ref z.1) l2 (fun y m => ?_) (fun y m => ?_) ?_ none2⟩
      · obtain ⟨z, mz, rfl⟩ := List.mem_map.mp m
        exact (keyed z mz).1
      · have got := g.all (adV y, [(k y).1, (k y).2]) (by rw [List.take_of_length_le (Nat.le_refl _)]; exact List.mem_map.mpr ⟨y, m, rfl⟩)
        obtain ⟨z, mz, ez⟩ := List.mem_map.mp got
        have mz' := perm.mem_iff.mpr mz
        refine List.mem_map.mpr ⟨V.ref z.1, List.mem_map.mpr ⟨z, mz', rfl⟩, ?_⟩
        have e2 := (keyed z mz').2
        rw [ez] at e2
        injection e2 with a1 a2
        injection a2 with a2 _
        exact Prod.ext a1.symm a2.symm
      · rw [List.pairwise_map, List.pairwise_map]
        have nd : (L'.map (·.2)).Nodup := (perm.map (·.2)).nodup_iff.mpr R.nd
        refine (asc.and (List.pairwise_map.mp nd)).imp_of_mem fun {z u} mz mu ⟨le2, ne⟩ => ?_
        have kz := keyed z mz
        have ku := keyed u mu
        have bz := small _ kz.1
        have bu := small _ ku.1
        rw [kz.2, ku.2] at le2 ne
        exact pair_lt le2 ne bz.1 bz.2 bu.1 bu.2
end
end F2
set_option Elab.async false
set_option linter.all false
set_option maxRecDepth 100000
set_option maxHeartbeats 4000000
namespace F2
open PySem PySem.Spec PyProof.Rows
open L2
section
variable {P : Program} {w : World} {A : Around} {E : Value → Shared → Prop} {s : Shared}
abbrev boxO (v : Value) (c : Nat) : Obj := { cls := .type "list", dict := none, data := .seq #[v] c, slots := #[] }
def Rows_ (h0 : Heap) (vs : List Value) (rows : List (List Value)) : Prop := vs.length = rows.length ∧ ∀ (i : Nat) (v : Value) (r : List Value), vs[i]? = some v → rows[i]? = some r → ∃ a n, v = .ref a ∧ h0.get? a = some (seqObj "list" r.toArray n)
theorem sum_rows {I l S : Addr} {vs : List Value} {rows : List (List Value)} (quiet : A.in1.handled = none) (ne : l ≠ I) (apart : S ≠ I ∧ S ≠ l) (h0 : Heap) (know : Rows_ h0 vs rows) (gone : h0.get? S = none ∧ h0.get? I = none) (few : rows.flatten.length ≤ sizeLine) (low : h0.objs.size ≤ S)
    {R : Result → Shared → Prop} : ∀ (k i : Nat) (s : Shared) (T : Addr) (c : Nat), rows.length - i = k → i ≤ rows.length → s.heap.IsListIter I l i → s.heap.IsList l vs.toArray → s.heap.get? S = some (boxO (.ref T) c) → T ≠ S → T ≠ I → (∃ n, s.heap.get? T = some (seqObj "list" (rows.take i).flatten.toArray n)) →
      (∀ b o, h0.get? b = some o → s.heap.get? b = some o) →
      (∀ h' tk T' c', (∀ b o, h0.get? b = some o → h'.get? b = some o) → h'.get? T' = some (seqObj "list" rows.flatten.toArray c') → (T' = T ∨ h0.objs.size ≤ T') → R (.ok (.ret (.ref T'))) { s with heap := h', toks := tk }) →
      codeAny (model P w) A (.builtin "sum.loop" ⟨[.ref I, .ref S, rawInt 2, rawInt 0], []⟩) R s := by
  intro k
  induction k with
  | zero =>
    intro i s T c hk hi it ls bx nS nI tot keep q
    have e : i = rows.length := by omega
    refine codeAny_builtin F.entry_sum_loop ?_
    rw [Around.under_plainId F.plain_sum_loop _]
    show wpAny _ A.in1 (seqItems? (.ref S) >>= _) _ _ s
    refine wpAny_bind (wpAny_seqItems bx rfl ?_)
    show wpAny _ A.in1 (tryCatch (pyNext (.ref I)) _ >>= _) _ _ s
    have W := (Walks.list (prog := P) (w := w) quiet I l ne vs.toArray).toS
    refine wpAny_bind (wpAny_tryCatch (W.done s _ _ (by rw [List.size_toArray, know.1, ← e]; exact ⟨it, ls⟩) fun s' mv => ?_))
    have keep' : ∀ b o, h0.get? b = some o → s'.heap.get? b = some o := fun b o e => mv.heap b o (fun m => by rw [List.mem_singleton.mp m, gone.2] at e; cases e) (keep b o e)
    obtain ⟨c', tot⟩ := tot
    have tot' := mv.heap T _ (fun m => nI (List.mem_singleton.mp m)) tot
    rw [e, List.take_length] at tot'
    obtain ⟨h', g', d', tk', o'⟩ := s'
    have e1 : g' = s.gens := mv.gens
    have e2 : d' = s.drawn := mv.drawn
    have e3 : o' = s.os := mv.os
    subst e1 e2 e3
    show wpAny _ A.in1 (ret (Value.ref T)) _ _ _
    exact wpAny_pure (q h' tk' T c' keep' tot' (.inl rfl))
  | succ k ih =>
    intro i s T c hk hi it ls bx nS nI tot keep q
    have hlt : i < rows.length := by omega
    refine codeAny_builtin F.entry_sum_loop ?_
    rw [Around.under_plainId F.plain_sum_loop _]
    show wpAny _ A.in1 (seqItems? (.ref S) >>= _) _ _ s
    refine wpAny_bind (wpAny_seqItems bx rfl ?_)
    show wpAny _ A.in1 (tryCatch (pyNext (.ref I)) _ >>= _) _ _ s
    have W := (Walks.list (prog := P) (w := w) quiet I l ne vs.toArray).toS
    refine wpAny_bind (wpAny_tryCatch (W.item i s _ _ (by rw [List.size_toArray, know.1]; exact hlt) ⟨it, ls⟩ fun v s' at_ st mv => ?_))
    have keep' : ∀ b o, h0.get? b = some o → s'.heap.get? b = some o := fun b o e => mv.heap b o (fun m => by rw [List.mem_singleton.mp m, gone.2] at e; cases e) (keep b o e)
    obtain ⟨c', tot⟩ := tot
    have tot' := mv.heap T _ (fun m => nI (List.mem_singleton.mp m)) tot
    have bx' := mv.heap S _ (fun m => apart.1 (List.mem_singleton.mp m)) bx
    obtain ⟨a, n, rfl, at_a⟩ := know.2 i v rows[i] (by rw [← List.getElem?_toArray]; exact at_) (List.getElem?_eq_getElem hlt)
    have at_a' := keep' a _ at_a
    have nx : (rows.take i).flatten ++ rows[i] = (rows.take (i + 1)).flatten := by rw [List.take_succ_eq_append_getElem hlt, List.flatten_append]; simp
    have fits : (rows.take i).flatten.length + rows[i].length ≤ sizeLine := by
      have h1 : ((rows.take (i + 1)).flatten).length ≤ rows.flatten.length := by
        conv => rhs; rw [← List.take_append_drop (i + 1) rows, List.flatten_append, List.length_append]
        omega
      rw [← nx, List.length_append] at h1
      omega
    show wpAny _ A.in1 ((holding [Value.ref a] (binaryOp .Add (.ref T) (.ref a))).attempt >>= _) _ _ s'
    refine wpAny_bind (wpAny_attempt (wpAny_holding (PySem.P.add_list tot' at_a' ?_ (by simpa using fits))))
    show wpAny _ A.in1 (updateSeq S (fun _ => #[Value.ref s'.heap.objs.size]) >>= _) _ _ _
    have bx2 : (s'.heap.push { cls := .type "list", data := .seq ((rows.take i).flatten.toArray ++ rows[i].toArray) }).get? S = some (boxO (.ref T) c) := Heap.get?_push_of_some _ bx'
    refine wpAny_bind (wpAny_updateSeq bx2 rfl ?_)
    have bx3 := Heap.get?_update_self (Obj.mapSeq fun _ => #[Value.ref s'.heap.objs.size]) bx2 rfl
    have SN : S < s'.heap.objs.size := Heap.lt_size bx'
    refine wpAny_bind (wpAny_letGo ?_)
    refine wpAny_bind (wpAny_updateSeq bx3 rfl (wpAny_pure ⟨plainId_quiet F.plain_sum_loop _, ?_⟩))
    have other : ∀ b, b ≠ S → ∀ o, s'.heap.get? b = some o → (((s'.heap.push { cls := .type "list", data := .seq ((rows.take i).flatten.toArray ++ rows[i].toArray) }).update S (Obj.mapSeq fun _ => #[Value.ref s'.heap.objs.size])).update S (Obj.mapSeq fun _ => #[Value.ref s'.heap.objs.size])).get? b = some o := fun b ne o e =>
      (Heap.get?_update_other _ _ (Ne.symm ne)).trans ((Heap.get?_update_other _ _ (Ne.symm ne)).trans (Heap.get?_push_of_some _ e))
    have st2 := W.frame (i + 1) s' (((s'.heap.push { cls := .type "list", data := .seq ((rows.take i).flatten.toArray ++ rows[i].toArray) }).update S (Obj.mapSeq fun _ => #[Value.ref s'.heap.objs.size])).update S (Obj.mapSeq fun _ => #[Value.ref s'.heap.objs.size])) s'.toks st (Nat.le_refl _) fun b m o e =>
      other b (fun z => by
        subst z
        rcases List.mem_cons.mp m with z | m
        · exact apart.1 z
        · exact apart.2 (List.mem_singleton.mp m)) o e
    have atN : (((s'.heap.push { cls := .type "list", data := .seq ((rows.take i).flatten.toArray ++ rows[i].toArray) }).update S (Obj.mapSeq fun _ => #[Value.ref s'.heap.objs.size])).update S (Obj.mapSeq fun _ => #[Value.ref s'.heap.objs.size])).get? s'.heap.objs.size = some (seqObj "list" (rows.take (i + 1)).flatten.toArray 0) := by
      refine (Heap.get?_update_other _ _ (Nat.ne_of_lt SN)).trans ((Heap.get?_update_other _ _ (Nat.ne_of_lt SN)).trans ((Heap.get?_push_size _ rfl).trans ?_))
      rw [← nx]
      simp [seqObj]
    have IN : I < s'.heap.objs.size := by
      obtain ⟨o, e, _⟩ := st.1
      exact Heap.lt_size e
    obtain ⟨h', g', d', tk', o'⟩ := s'
    have e1 : g' = s.gens := mv.gens
    have e2 : d' = s.drawn := mv.drawn
    have e3 : o' = s.os := mv.os
    subst e1 e2 e3
    refine ih (i + 1) _ _ _ (by omega) hlt st2.1 st2.2 (Heap.get?_update_self _ bx3 rfl) (Nat.ne_of_gt SN) (Nat.ne_of_gt IN) ⟨0, atN⟩ (fun b o e => other b (fun z => by rw [z, gone.1] at e; cases e) o (keep' b o e)) fun h2 tk T' c2 k2 t2 n2 => q h2 tk T' c2 k2 t2 (.inr ?_)
    rcases n2 with rfl | n2
    · exact Nat.le_trans low (Nat.le_of_lt SN)
    · exact n2
theorem args_sum2 (a b : Value) : argsOk "sum" ⟨[a, b], []⟩ := by unfold argsOk; kernel_rfl
theorem sub_lst_strU : isSubtype (.type "list") (.type "str") = pure false := by rw [isSubtype_type]; kernel_rfl
theorem sub_lst_bytesU : isSubtype (.type "list") (.type "bytes") = pure false := by rw [isSubtype_type]; kernel_rfl
theorem sub_lst_arrayU : isSubtype (.type "list") (.type "bytearray") = pure false := by rw [isSubtype_type]; kernel_rfl
theorem call_sum_rows {l z : Addr} {vs : List Value} {rows : List (List Value)} {n0 : Nat} {Q : Value → Shared → Prop} (quiet : A.handled = none) (ls : s.heap.IsList l vs.toArray) (at_z : s.heap.get? z = some (seqObj "list" #[] n0)) (know : Rows_ s.heap vs rows) (few : rows.flatten.length ≤ sizeLine)
    (q : ∀ h' tk T' c', (∀ b o, s.heap.get? b = some o → h'.get? b = some o) → h'.get? T' = some (seqObj "list" rows.flatten.toArray c') → (T' = z ∨ s.heap.objs.size ≤ T') → Q (.ref T') { s with heap := h', toks := tk }) :
    wpAny (model P w) A (call (.builtin "sum") [.ref l, .ref z]) Q E s := by
  have lL : l < s.heap.objs.size := by obtain ⟨o, e, _⟩ := ls; exact Heap.lt_size e
  have zL : z < s.heap.objs.size := Heap.lt_size at_z
  refine call_function_tree F.kind_sum F.plain_sum F.entry_sum (args_sum2 _ _) ?_
  unfold Builtin.«sum»
  simp only [List.length_cons, List.length_nil]
  rw [if_neg (by decide)]
  refine wpAny_bind (wpAny_of_eq (show Builtin.Builtins.bindParams "sum" ["start"] 0 ⟨[.ref z], []⟩ = pure [some (.ref z)] from rfl) ?_)
  refine wpAny_bind (wpAny_pyIter_list ls ?_)
  refine wpAny_bind (wpAny_pure ?_)
  have is_l : Shared.TypeIs { s with heap := s.heap.push { cls := .type "list_iterator", data := .fields #[.ref l, .int 0 0] } } (.ref z) "list" := ⟨_, Heap.get?_push_of_some _ at_z, rfl⟩
  simp only [List.forIn_cons, List.forIn_nil]
  refine wpAny_bind (wpAny_bind (wpAny_bind (wpAny_isInstance (T := "list") (b := false) is_l sub_lst_strU ?_)))
  simp only [Bool.false_eq_true, if_false]
  refine wpAny_pure (wpAny_bind (wpAny_bind (wpAny_isInstance (T := "list") (b := false) is_l sub_lst_bytesU ?_)))
  simp only [Bool.false_eq_true, if_false]
  refine wpAny_pure (wpAny_bind (wpAny_bind (wpAny_isInstance (T := "list") (b := false) is_l sub_lst_arrayU ?_)))
  simp only [Bool.false_eq_true, if_false]
  refine wpAny_pure (wpAny_pure ?_)
  refine wpAny_bind (wpAny_newObj_type ?_)
  have size2 : (s.heap.push { cls := .type "list_iterator", data := .fields #[.ref l, .int 0 0] }).objs.size = s.heap.objs.size + 1 := Heap.size_push ..
  have none_at : ∀ b, s.heap.objs.size ≤ b → s.heap.get? b = none := fun b le => by
    cases e : s.heap.get? b with
    | none => rfl
    | some o => exact absurd (Nat.lt_of_lt_of_le (Heap.lt_size e) le) (Nat.lt_irrefl _)
  have Sne : (s.heap.push { cls := .type "list_iterator", data := .fields #[.ref l, .int 0 0] }).objs.size ≠ s.heap.objs.size := by rw [size2]; exact Nat.succ_ne_self _
  have up2 : s.heap.objs.size ≤ (s.heap.push { cls := .type "list_iterator", data := .fields #[.ref l, .int 0 0] }).objs.size := by rw [size2]; exact Nat.le_succ _
  refine wpAny_pure ⟨plainId_quiet F.plain_sum_loop _, ?_⟩
  refine sum_rows (I := s.heap.objs.size) (l := l) (S := (s.heap.push { cls := .type "list_iterator", data := .fields #[.ref l, .int 0 0] }).objs.size) (by simp [quiet]) (Nat.ne_of_lt lL) ⟨Sne, Nat.ne_of_gt (Nat.lt_of_lt_of_le lL up2)⟩ s.heap know ⟨none_at _ up2, none_at _ (Nat.le_refl _)⟩ few up2
    (rows.length - 0) 0 _ z 0 rfl (Nat.zero_le _) ⟨_, Heap.get?_push_of_some _ (Heap.get?_push_size _ rfl), rfl, rfl⟩ ((ls.push _).push _) (Heap.get?_push_size _ rfl) (Nat.ne_of_lt (Nat.lt_of_lt_of_le zL up2)) (Nat.ne_of_lt zL) ⟨n0, ?_⟩ (fun b o e => Heap.get?_push_of_some _ (Heap.get?_push_of_some _ e)) fun h' tk T' c' k t nw => q h' tk T' c' k t nw
  exact Heap.get?_push_of_some _ (Heap.get?_push_of_some _ at_z)
end
theorem vals_app : ∀ {xs ys : List V} {us ws : List Value}, Vals xs us → Vals ys ws → Vals (xs ++ ys) (us ++ ws)
  | [], _, _, _, .nil, b => b
  | _ :: _, _, _, _, .cons r a, b => .cons r (vals_app a b)
def rSumL (K : PySem.W.Frag) : List V → Hp → VK → Prop := fun xs H Q => ∃ (l z : Addr) (as : List Addr) (rows : List (List V)), xs = [V.ref l, V.ref z] ∧ SqL K H l (as.map V.ref) ∧ H z = some (.lst []) ∧ as.length = rows.length ∧
  (∀ (i : Nat) (a : Addr) (r : List V), as[i]? = some a → rows[i]? = some r → H a = some (.lst r)) ∧ rows.flatten.length ≤ sizeLine ∧ (rows.flatten = [] → Q (.ref z) H) ∧ ∀ p, H p = none → Q (.ref p) (upd H p (.lst rows.flatten))
theorem rows_vals {X : Cx} {pins : List (Addr × Obj)} {s : Shared} {σ : L2.St} {H : Hp} (I : Inv X pins σ H s) : ∀ (as : List Addr) (rows : List (List V)), as.length = rows.length → (∀ (i : Nat) (a : Addr) (r : List V), as[i]? = some a → rows[i]? = some r → H a = some (.lst r)) →
    ∃ vr : List (List Value), vr.length = as.length ∧ (∀ (i : Nat) (a : Addr) (r : List Value), as[i]? = some a → vr[i]? = some r → ∃ n, s.heap.get? a = some (seqObj "list" r.toArray n)) ∧ Vals rows.flatten vr.flatten
  | [], [], _, _ => ⟨[], rfl, fun i a r e => by simp at e, .nil⟩
  | a :: as, r :: rows, e, h => by
    obtain ⟨vr, h1, h2, h3⟩ := rows_vals I as rows (by simpa using e) fun i a r e1 e2 => h (i + 1) a r (by simpa using e1) (by simpa using e2)
    obtain ⟨_, its, n, rv, at_a⟩ := (show ObjOk X.prog X.w H s.heap a (.lst r) from I.hok a _ (h 0 a r rfl rfl))
    refine ⟨its :: vr, by simp [h1], fun i b r' e1 e2 => ?_, ?_⟩
    · cases i with
      | zero => cases e1; cases e2; exact ⟨n, at_a⟩
      | succ i => exact h2 i b r' (by simpa using e1) (by simpa using e2)
    · rw [List.flatten_cons, List.flatten_cons]
      exact vals_app rv h3
theorem cr_sumL {X : Cx} (hc : X.calm = true) : CallR X (.builtin "sum") (rSumL X.K) := by
  intro pins s σ H xs us Q I r h
  obtain ⟨l, z, as, rows, rfl, is_l, is_z, len, know, few, q0, q1⟩ := h
  obtain ⟨u1, u2, rfl, r1, r2⟩ := vals2 r
  obtain rfl : u1 = Value.ref l := r1
  obtain rfl : u2 = Value.ref z := r2
  obtain ⟨its, rv, pl, _⟩ := I.list is_l
  obtain ⟨vr, v1, v2, v3⟩ := rows_vals I as rows len know
  obtain ⟨_, zs, n0, zv, at_z⟩ := (show ObjOk X.prog X.w H s.heap z (.lst []) from I.hok z _ is_z)
  cases zv
  have li : its.length = as.length := by rw [← rv.length, List.length_map]
  refine call_sum_rows (rows := vr) (I.ok.hd hc) pl.isList at_z ⟨by rw [li, v1], fun i v r' e1 e2 => ?_⟩ (by rw [← v3.length]; exact few) fun h' tk T' c' keep at_t nw => ?_
  · have hi : i < as.length := by rw [← v1]; exact (List.getElem?_eq_some_iff.mp e2).1
    obtain ⟨n, at_a⟩ := v2 i as[i] r' (List.getElem?_eq_getElem hi) e2
    obtain ⟨v', ev, rr⟩ := rv.get (i := i) (x := V.ref as[i]) (by rw [List.getElem?_map, List.getElem?_eq_getElem hi]; rfl)
    rw [e1] at ev
    cases ev
    obtain rfl : v = Value.ref as[i] := rr
    exact ⟨_, n, rfl, at_a⟩
  · rcases nw with rfl | le
    · have same := (keep _ _ at_z).symm.trans at_t
      have e0 : vr.flatten = [] := by
        have := congrArg (fun o : Option Obj => match o with | some ⟨_, _, .seq xs _, _⟩ => xs.toList | _ => []) same
        simpa [seqObj] using this.symm
      have e1 : rows.flatten = [] := by
        rw [e0] at v3
        cases hr : rows.flatten with
        | nil => rfl
        | cons a b => rw [hr] at v3; cases v3
      exact ⟨.ref T', H, I.kept (t' := tk) fun b o e => keep b o e, rfl, q0 e1⟩
    · exact ⟨.ref T', upd H T' (.lst rows.flatten), I.laid (t' := tk) keep le ⟨few, _, _, v3, at_t⟩, rfl, q1 T' (I.hok.fresh le)⟩
abbrev Rw : Type := Addr × Int × List Int
def Rw.row (b : Rw) : List Int := b.2.1 :: b.2.2
def encR (b : Rw) : PyData := .tuple (b.row.map .int)
theorem le_rows : W.dataLe false encR = fun p q : Rw => decide (p.row ≤ q.row) := by
  funext p q
  show (!W.dataLt (.tuple (q.row.map .int)) (.tuple (p.row.map .int))) = _
  rw [W.dataLt_tuple]
  show (!W.rowLt (q.row.map .int) (p.row.map .int)) = _
  rw [W.dataLt_ints]
  by_cases lt : q.row < p.row
  · have no : ¬ p.row ≤ q.row := fun le => List.not_lt.mpr le lt
    simp [lt, no]
  · have yes : p.row ≤ q.row := List.not_lt.mp lt
    simp [lt, yes]
def rSortR (K : PySem.W.Frag) : List V → Hp → VK → Prop := fun xs H Q => ∃ (l : Addr) (bs : List Rw), xs = [V.ref l] ∧ SqL K H l (bs.map fun b => V.ref b.1) ∧ (∀ b ∈ bs, Dp K H (.ref b.1) (encR b)) ∧
  ∀ (cs : List Rw) (p : Addr), cs.Perm bs → cs.Pairwise (fun b c => b.row ≤ c.row) → H p = none → Q (.ref p) (upd H p (.lst (cs.map fun b => V.ref b.1)))
theorem each_refs : ∀ {out : List Value} {cs : List Rw}, W.EachIs (fun v b => v = Value.ref b.1) out cs → out = cs.map fun b => Value.ref b.1
  | _, _, .nil => rfl
  | _, _, .cons e t => by rw [List.map_cons, ← each_refs t, e]
theorem ei_rows : ∀ (bs : List Rw) (its : List Value), Vals (bs.map fun b => V.ref b.1) its → W.EachIs (fun v b => v = Value.ref b.1) its bs := by
  intro bs
  induction bs with
  | nil => intro its rv; cases rv; exact .nil
  | cons b bs ih => intro its rv; cases rv with | cons a t => exact .cons a (ih _ t)
theorem ed_rows {X : Cx} {pins : List (Addr × Obj)} {σ : L2.St} {H : Hp} {s : Shared} (I : Inv X pins σ H s) : ∀ (bs : List Rw) (its : List Value), (∀ b ∈ bs, Dp X.K H (.ref b.1) (encR b)) → Vals (bs.map fun b => V.ref b.1) its → W.EachIs (fun v b => ∃ as, Reads s.heap v (encR b) as) its bs := by
  intro bs
  induction bs with
  | nil => intro its _ rv; cases rv; exact .nil
  | cons b bs ih => intro its kn rv; cases rv with | cons a t => exact .cons (Dp.reads I _ _ _ (kn b List.mem_cons_self) a) (ih _ (fun c m => kn c (List.mem_cons_of_mem _ m)) t)
theorem sorted_rowsT {P : Program} {w : World} {A : Around} {E : Value → Shared → Prop} {s : Shared} {l : Addr} {vs : List Value} {bs : List Rw} {Q : Value → Shared → Prop} (tup : s.heap.IsTuple l vs.toArray) (few : vs.length ≤ sizeLine)
    (e : W.EachIs (fun v b => v = Value.ref b.1) vs bs) (er : W.EachIs (fun v b => ∃ as, Reads s.heap v (encR b) as) vs bs) (hu : A.units + 64 < cLine)
    (q : ∀ (h1 h2 : Heap) (d : Addr) (out : List Value), out.length = bs.length → W.EachIs (fun v b => v = Value.ref b.1) out (bs.mergeSort (W.dataLe false encR)) → (∀ b o, s.heap.get? b = some o → h1.get? b = some o) → (∀ b o, h1.get? b = some o → h2.get? b = some o) →
      h1.objs.size ≤ d → (∃ n, h2.get? d = some (seqObj "list" out.toArray n)) → Q (.ref d) { s with heap := h2 }) :
    wpAny (model P w) A (call (.builtin "sorted") [.ref l]) Q E s := by
  obtain ⟨o, at_l, is_cls, n, is_data⟩ := tup
  refine Calls.call_function_entry kind_sorted plain_sorted entry_sorted (args_sorted1 _) ?_
  unfold Builtin.«sorted»
  refine wpAny_bind (m := checkCount "sorted" 1 1 _) (wpAny_pure (wpAny_bind (wpAny_collect_seq l (.inr rfl) at_l is_cls is_data (fun h1 keep1 => wpAny_bind (wpAny_newList ?_ (by simpa using few))) (by simpa using few))))
  have made : (h1.push (seqObj "list" vs.toArray 0)).get? h1.objs.size = some (seqObj "list" vs.toArray 0) := Heap.get?_push_size _ rfl
  have keep : ∀ b o, s.heap.get? b = some o → (h1.push (seqObj "list" vs.toArray 0)).get? b = some o := fun b o e => Heap.get?_push_of_some _ (keep1 b o e)
  have er' : W.EachIs (fun v b => ∃ as, Reads (W.sortingHeap (h1.push (seqObj "list" vs.toArray 0)) h1.objs.size vs) v (encR b) as) vs bs := er.mono fun _ _ ⟨as, r⟩ => ⟨as, PyProof.Rows.Reads.keeps (fun b o eb => W.sortingHeap_old (Nat.ne_of_lt (Heap.lt_size (keep1 b o eb))) (keep b o eb)) r⟩
  show wpAny _ _ (holding _ (call (.builtin "list.sort") _) >>= _) _ _ _
  have hk : W.Sortable (bs.map encR) := W.Sortable.tuples fun b => ⟨.int b.2.1, b.2.2.map .int, rfl⟩
  have hal : W.AllAlike (bs.map encR) := W.AllAlike.of fun b c => W.alike_ints _ _
  have hu' : ∀ b, b ∈ bs → A.in1.units + 1 + (encR b).depth < cLine := fun b _ => by
    have : (encR b).depth ≤ 1 := by
      unfold encR PyData.depth
      rw [W.depth_ints]
      exact Nat.le_refl _
    show A.units + 1 + 1 + _ < cLine
    omega
  refine wpAny_bind (wpAny_holding (wpAny_call_entry slot_list_sort ⟨_, made, rfl⟩ entry_list_sort (W.list_sort_vals (κ := W.dataKind (W.sortingHeap (h1.push (seqObj "list" vs.toArray 0)) h1.objs.size vs) (bs.map encR)) made (W.SortsAt.data (s := { s with heap := W.sortingHeap (h1.push (seqObj "list" vs.toArray 0)) h1.objs.size vs }) (W.each_map (R := fun v d => ∃ as, Reads (W.sortingHeap (h1.push (seqObj "list" vs.toArray 0)) h1.objs.size vs) v d as) encR er') hal hk (W.bound_map hu')) few ⟨.none, rfl, ?_⟩) (args_list_sort _)))
  have hlen : (W.sortVals (W.dataKind (W.sortingHeap (h1.push (seqObj "list" vs.toArray 0)) h1.objs.size vs) (bs.map encR)) false vs vs).length = bs.length := by rw [W.sortVals_length false rfl]; exact e.length
  have heach := W.sortVals_data false e er' hal
  generalize W.sortVals (W.dataKind (W.sortingHeap (h1.push (seqObj "list" vs.toArray 0)) h1.objs.size vs) (bs.map encR)) false vs vs = out at hlen heach
  obtain ⟨ep, at2⟩ := sortedHeap_at (vs := vs) (out := out.toArray) made
  refine wpAny_pure ⟨_, rfl, q h1 _ _ out hlen heach keep1 (fun b o e => ?_) (Nat.le_refl _) ⟨ep, at2⟩⟩
  have lt := Heap.lt_size e
  rw [sortedHeap_old (Nat.ne_of_lt lt) (by rw [size_push']; exact Nat.lt_succ_of_lt lt)]
  exact Heap.get?_push_of_some _ e
theorem cr_sortR {X : Cx} (hu : X.A.units + 64 < cLine) : CallR X (.builtin "sorted") (rSortR X.K) := by
  intro pins s σ H xs us Q I r h
  obtain ⟨l, bs, rfl, is_l, know, q⟩ := h
  rw [Vals.ref1 r]
  obtain ⟨its, rv, pl, size⟩ := I.list is_l
  have ei : ∀ (bs : List Rw) (its : List Value), Vals (bs.map fun b => V.ref b.1) its → W.EachIs (fun v b => v = Value.ref b.1) its bs := by
    intro bs
    induction bs with
    | nil => intro its rv; cases rv; exact .nil
    | cons b bs ih => intro its rv; cases rv with | cons a t => exact .cons a (ih _ t)
  have ed : ∀ (bs : List Rw) (its : List Value), (∀ b ∈ bs, Dp X.K H (.ref b.1) (encR b)) → Vals (bs.map fun b => V.ref b.1) its → W.EachIs (fun v b => ∃ as, Reads s.heap v (encR b) as) its bs := by
    intro bs
    induction bs with
    | nil => intro its _ rv; cases rv; exact .nil
    | cons b bs ih => intro its kn rv; cases rv with | cons a t => exact .cons (Dp.reads I _ _ _ (kn b List.mem_cons_self) a) (ih _ (fun c m => kn c (List.mem_cons_of_mem _ m)) t)
  have sz : bs.length ≤ sizeLine := by rw [List.length_map] at size; exact size
  refine W.sorted_data (enc := encR) pl.isList (ei bs its rv) (ed bs its know rv) (W.AllAlike.of fun b c => W.alike_ints _ _) (W.Sortable.tuples fun b => ⟨.int b.2.1, b.2.2.map .int, rfl⟩) sz (fun b _ => ?_) fun out len each => ?_
  · have : (encR b).depth ≤ 1 := by
      unfold encR PyData.depth
      rw [W.depth_ints]
      exact Nat.le_refl _
    omega
  · have eo := each_refs each
    have pm : (bs.mergeSort (W.dataLe false encR)).Perm bs := List.mergeSort_perm _ _
    have asc : (bs.mergeSort (W.dataLe false encR)).Pairwise (fun b c => b.row ≤ c.row) := by
      rw [le_rows]
      have := List.pairwise_mergeSort (le := fun p q : Rw => decide (p.row ≤ q.row)) (fun a b c h1 h2 => ?_) (fun a b => ?_) bs
      · exact this.imp fun h => of_decide_eq_true h
      · exact decide_eq_true (List.le_trans (of_decide_eq_true h1) (of_decide_eq_true h2))
      · rcases List.le_total a.row b.row with h | h
        · rw [decide_eq_true h]; rfl
        · rw [decide_eq_true h, Bool.or_true]
    have fresh : H (s.heap.objs.size + 1) = none := I.hok.fresh (Nat.le_succ _)
    obtain ⟨n, at_n⟩ := sortedAll_at s.heap its out.toArray
    refine ⟨.ref (s.heap.objs.size + 1), upd H (s.heap.objs.size + 1) (.lst ((bs.mergeSort (W.dataLe false encR)).map fun b => V.ref b.1)), I.laid (t' := s.toks) (fun b o e => sortedAll_old e) (Nat.le_succ _) ⟨?_, out, n, ?_, at_n⟩, rfl, q _ _ pm asc fresh⟩
    · rw [List.length_map, pm.length_eq]; exact sz
    · rw [eo]
      generalize bs.mergeSort (W.dataLe false encR) = cs
      clear eo pm asc each
      induction cs with
      | nil => exact .nil
      | cons b cs ih => exact .cons rfl ih
def rSortRT (K : PySem.W.Frag) : List V → Hp → VK → Prop := fun xs H Q => ∃ (l : Addr) (bs : List Rw), xs = [V.ref l] ∧ SqT K H l (bs.map fun b => V.ref b.1) ∧ (∀ b ∈ bs, Dp K H (.ref b.1) (encR b)) ∧
  ∀ (cs : List Rw) (p : Addr), cs.Perm bs → cs.Pairwise (fun b c => b.row ≤ c.row) → H p = none → Q (.ref p) (upd H p (.lst (cs.map fun b => V.ref b.1)))
theorem asc_rows (bs : List Rw) : (bs.mergeSort (W.dataLe false encR)).Pairwise (fun b c => b.row ≤ c.row) := by
  rw [le_rows]
  have := List.pairwise_mergeSort (le := fun p q : Rw => decide (p.row ≤ q.row)) (fun a b c h1 h2 => ?_) (fun a b => ?_) bs
  · exact this.imp fun h => of_decide_eq_true h
  · exact decide_eq_true (List.le_trans (of_decide_eq_true h1) (of_decide_eq_true h2))
  · rcases List.le_total a.row b.row with h | h
    · rw [decide_eq_true h]; rfl
    · rw [decide_eq_true h, Bool.or_true]
theorem cr_sortRT {X : Cx} (hu : X.A.units + 64 < cLine) : CallR X (.builtin "sorted") (rSortRT X.K) := by
  intro pins s σ H xs us Q I r h
  obtain ⟨l, bs, rfl, is_l, know, q⟩ := h
  rw [Vals.ref1 r]
  obtain ⟨its, rv, pl, size⟩ := I.tuple is_l
  have sz : bs.length ≤ sizeLine := by rw [List.length_map] at size; exact size
  refine sorted_rowsT pl (by rw [← rv.length]; exact size) (ei_rows bs its rv) (ed_rows I bs its know rv) hu fun h1 h2 d out len each keep1 keep2 le ⟨n, at_d⟩ => ?_
  have eo := each_refs each
  have pm : (bs.mergeSort (W.dataLe false encR)).Perm bs := List.mergeSort_perm _ _
  have I1 : Inv X pins σ H { s with heap := h1 } := I.kept (t' := s.toks) fun b o e => keep1 b o e
  refine ⟨.ref d, upd H d (.lst ((bs.mergeSort (W.dataLe false encR)).map fun b => V.ref b.1)), I1.laid (t' := s.toks) keep2 le ⟨?_, out, n, ?_, at_d⟩, rfl, q _ _ pm (asc_rows bs) (I1.hok.fresh le)⟩
  · rw [List.length_map, pm.length_eq]; exact sz
  · rw [eo]
    generalize bs.mergeSort (W.dataLe false encR) = cs
    clear eo pm each
    induction cs with
    | nil => exact .nil
    | cons b cs ih => exact .cons rfl ih
end F2
set_option Elab.async false
set_option linter.all false
set_option maxRecDepth 100000
set_option maxHeartbeats 4000000
namespace F2
open PySem PySem.Spec PyProof.Rows
open L2
def tDctZ (K : PySem.W.Frag) (t : TA) : TE := fun σ H Q => t σ H fun vs H1 => ∃ (a b : Addr) (ks : List Key) (zs : List V), vs = [V.ref a, V.ref b] ∧ SqL K H1 a (ks.map kV) ∧ SqL K H1 b zs ∧ ks.length = zs.length ∧ ∀ p, H1 p = none → Q (.ref p) (upd H1 p (.dK (mergeK [] (ks.zip zs))))
theorem kv_zip : ∀ {ks : List Key} {zs : List V} {its : List Value}, ks.length = zs.length → Vals zs its → KV (ks.zip zs) (ks.zip its)
  | [], _, _, _, _ => .nil
  | k :: ks, _, _, hl, .cons c d => .cons ⟨rfl, c⟩ (kv_zip (by simpa using hl) d)
section
variable {X : Cx} {x y : Expr} {t : TA} {p p2 q pos : Pos}
theorem pe_dctZ (hg : Gl X "dict") (hm : X.mg "dict" = none) (hg2 : Gl X "zip") (hm2 : X.mg "zip" = none) (hb : bootBuiltins "dict" = some (.type "dict")) (ha : PA X [x, y] t) (hc : X.calm = true)
    (hs : starEach [x, y] X.env = (false, eval x X.env) :: starEach [y] X.env) (hpl : (backTo q (starEach [y] X.env)).any (·.1) = false) :
    PE X (.Call (.Name "dict" p) [.Call (.Name "zip" p2) [x, y] [] q] [] pos) (tDctZ X.K t) := by
  refine ⟨fun pins s σ H Q I h => ?_⟩
  refine Call_ (ld_blt I hg hm hb (PyProof.Rows.callWith_type1 (PyProof.Rows.args_cons ?_ rfl) rfl rfl))
  refine Call_ (ld_blt I hg2 hm2 PyProof.Rows.boot_zip (PyProof.Rows.callWith_type1 (thn (ha.run q pins s σ H _ I h) fun us s1 ⟨vs, H1, I1, r1, q1⟩ => ?_) hs hpl))
  obtain ⟨a, b, ks, zs, ex, hqx, hqy, hl, q1⟩ := q1
  subst ex
  cases r1 with
  | cons r rr =>
  cases rr with
  | cons r' rr =>
  cases rr
  cases r
  cases r'
  obtain ⟨its, rv, p1, z1⟩ := I1.list hqx
  obtain ⟨its2, rv2, p2, z2⟩ := I1.list hqy
  have la : a < s1.heap.objs.size := p1.lt
  have lb : b < s1.heap.objs.size := p2.lt
  refine call_zip_2 p1.isList p2.isList fun h' hz hTI hTO h1 h2 hsz hk => ?_
  refine PyProof.Rows.args_nil ?_
  have lz : its2.length = ks.length := by rw [hl, ← rv2.length]
  have lk : its.length = ks.length := by rw [← rv.length, List.length_map]
  refine PySem.call_dict_pairs (knd := mixKind X.prog X.w) (kvs := ks.zip its2) (PySem.PairArg.zip (s1.heap.objs.size + 4) (s1.heap.objs.size + 2) (s1.heap.objs.size + 3) s1.heap.objs.size (s1.heap.objs.size + 1) a b (PySem.W.ktu_apart s1.heap.objs.size a b la lb) its.toArray its2.toArray) (I1.ok.hd hc) ⟨hz, hTI, ⟨_, _, hTO⟩, h1, h2, p1.isList.at fun o e => hk _ o e, p2.isList.at fun o e => hk _ o e⟩ ⟨by simp [lz, lk], fun i key v e => ?_⟩ (by simp; rw [List.length_map] at z1; omega) fun h'' tk hd' keep => ?_
  · obtain ⟨e1, e2⟩ := e
    have e1 : its[i]? = some key := by simpa using e1
    have e2 : its2[i]? = some v := by simpa using e2
    have hi : i < ks.length := by rw [← lk]; exact (List.getElem?_eq_some_iff.mp e1).1
    obtain ⟨u, eu, ru⟩ := rv.get (i := i) (x := kV ks[i]) (by rw [List.getElem?_map, List.getElem?_eq_getElem hi]; rfl)
    rw [e1] at eu
    cases eu
    exact ⟨ks[i], by rw [List.getElem?_zip_eq_some]; exact ⟨List.getElem?_eq_getElem hi, e2⟩, kV_is (P := X.prog) (w := X.w) ru⟩
  · have kp : ∀ c o, s1.heap.get? c = some o → h''.get? c = some o := fun c o e => by
      have lt := Heap.lt_size e
      refine keep c o ?_ (hk c o e)
      simp only [List.mem_cons, List.not_mem_nil, or_false, not_or]
      exact ⟨Nat.ne_of_lt (Nat.lt_of_lt_of_le lt (Nat.le_add_right _ _)), Nat.ne_of_lt (Nat.lt_of_lt_of_le lt (Nat.le_add_right _ _)), Nat.ne_of_lt lt, Nat.ne_of_lt (Nat.lt_of_lt_of_le lt (Nat.le_add_right _ _))⟩
    have hsz2 : s1.heap.objs.size ≤ h'.objs.size := by omega
    have rel : KV (ks.zip zs) (ks.zip its2) := kv_zip hl rv2
    have hm : (h'.objs.size == sysModules) = false := beq_eq_false_iff_ne.mpr (Nat.ne_of_gt (Nat.lt_of_lt_of_le I1.big hsz2))
    have hlen : (mergeK [] (ks.zip zs)).length ≤ sizeLine := by
      refine Nat.le_trans (length_mergeK _ []) ?_
      rw [List.length_nil, Nat.zero_add, List.length_zip]
      rw [List.length_map] at z1
      omega
    exact ⟨.ref h'.objs.size, upd H1 h'.objs.size (.dK (mergeK [] (ks.zip zs))), I1.laid (t' := tk) kp hsz2 (show ObjOk X.prog X.w _ _ _ (.dK (mergeK [] (ks.zip zs))) from ⟨hlen, hm, merged [] (ks.zip its2), KV.merge rel .nil, hd'⟩), rfl, q1 _ (I1.hok.fresh hsz2)⟩
end
end F2
set_option Elab.async false
set_option linter.all false
set_option maxRecDepth 100000
set_option maxHeartbeats 4000000
namespace F2
open PySem PySem.Spec PyProof.Rows
open L2
def ErO (cls : Value) (a : Addr) : HO := .ext fun h => ∃ (oe : Obj) (vs : Array Value), h.get? a = some oe ∧ L2N.Zn cls none oe ∧ oe.data = .fields vs
theorem erO_ok {P : Program} {w : World} {H : Hp} {h : Heap} {a : Addr} {cls : Value} {oe : Obj} {vs : Array Value} (e : h.get? a = some oe) (z : L2N.Zn cls none oe) (d : oe.data = .fields vs) : ObjOk P w H h a (ErO cls a) :=
  ⟨⟨oe, vs, e, z, d⟩, ⟨oe, e⟩, fun _ _ ⟨o, v, q, r⟩ k => ⟨o, v, k o q, r⟩⟩
def bndT (i : Option Nat) (a : Addr) (σ : L2.St) : L2.St := match i with
  | none => σ
  | some i => σ.set i (some (.ref a))
def clrT (i : Option Nat) (σ : L2.St) : L2.St := match i with
  | none => σ
  | some i => σ.set i none
def endT (i : Option Nat) (D : Ends) : Ends := { nx := fun σ H => D.nx (clrT i σ) H, rt := D.rt, bk := fun σ H => D.bk (clrT i σ) H, ct := fun σ H => D.ct (clrT i σ) H }
abbrev Hnd := Value × Option Nat × (Addr → Value → TS)
def wT (K : PySem.W.Frag) (Wout : WX) (D : Ends) : List Hnd → WX
  | [] => Wout
  | (c, i, ts) :: r => fun cls d σ H => ∃ b, PySem.W.exmOne K cls c = some b ∧ (b = true → d = none ∧ ∀ a, H a = none → ts a cls (endT i D) (bndT i a σ) (upd H a (ErO cls a))) ∧ (b = false → wT K Wout D r cls d σ H)
abbrev suT (X : Cx) (a : Addr) (pn : List (Addr × Obj)) : Cx := X.suite a pn
inductive HdT (X : Cx) : List ExceptHandler → List Hnd → Prop
  | nil : HdT X [] []
  | cons {x : Str} {c : Value} {n : Option Str} {i : Option Nat} {ts : Addr → Value → TS} {b₀ : Stmt} {suite : List Stmt} {np pos' : Pos} {hds : List ExceptHandler} {l : List Hnd} (hc : Names X x c)
      (hn : match n, i with | none, none => True | some n, some i => X.N[i]? = some n ∧ X.env.kindOf n = some .local | _, _ => False)
      (hsu : ∀ (a : Addr) (cls : Value) (pn : List (Addr × Obj)), PSs (suT X a pn) (b₀ :: suite) (ts a cls)) (r : HdT X hds l) :
      HdT X (.ExceptHandler (some (.Name x np)) n (b₀ :: suite) pos' :: hds) ((c, i, ts) :: l)
section
variable {X : Cx} {pins : List (Addr × Obj)} {σ : L2.St} {H : Hp} {s : Shared}
theorem toSuite {a : Addr} {oe : Obj} {vs : Array Value} {cls : Value} (I : Inv X pins σ H s) (ha : s.heap.get? a = some oe) (hz : L2N.Zn cls none oe) (hd : oe.data = .fields vs) (na : H a = none) (nL : a ≠ X.env.locals) (n0 : X.s_0.heap.get? a = none)
    (np : ∀ p ∈ X.pn ++ pins, p.1 ≠ a) : Inv (suT X a (X.pn ++ pins)) [] σ (upd H a (ErO cls a)) s := by
  have nc : ∀ x c, X.env.cells.lookup x = some c → c ≠ a := fun x c e z => by
    obtain ⟨v, o, ho, hc⟩ := I.cell x c e
    rw [z, ha] at ho; cases ho
    rw [hd] at hc; cases hc
  refine ⟨I.ok.suite _ _, I.os, I.bare, ⟨I.base.keep, I.base.slot, fun b o e n hx => ?_, I.base.there, fun b xs e => ?_, fun b o u e => ?_, fun b ps e => ?_⟩, I.loc, I.cell, ?_, fun x c e => ?_, fun p hp => ?_, ?_, I.len⟩
  · rw [upd_ne fun z => by rw [z, n0] at e; cases e]
    exact I.base.free b o e n hx
  · have q := I.base.tups b xs e
    rw [upd_ne (ne_of_none q na)]; exact q
  · have q := I.base.frzs b o u e
    rw [upd_ne (ne_of_none q na)]; exact q
  · obtain ⟨m, q⟩ := I.base.tbls b ps e
    exact ⟨m, by rw [upd_ne (ne_of_none q na)]; exact q⟩
  · rw [upd_ne (Ne.symm nL)]; exact I.free
  · rw [upd_ne (nc x c e)]; exact I.freeC x c e
  · have hp : p ∈ X.pn ++ pins := by
      have : p ∈ (X.pn ++ pins) ++ [] := hp
      rwa [List.append_nil] at this
    obtain ⟨a1, a2, a3, a4, a5⟩ := I.pin p hp
    exact ⟨a1, by rw [upd_ne (np p hp)]; exact a2, a3, a4, a5⟩
  · exact I.hok.laidN (fun _ _ e => e) na (erO_ok ha hz hd)
theorem ofSuite {a : Addr} {pn' : List (Addr × Obj)} (I : Inv (suT X a (X.pn ++ pins)) pn' σ H s) (ok : X.Ok) : Inv X pins σ H s :=
  ⟨ok, I.os, I.bare, I.base, I.loc, I.cell, I.free, I.freeC, fun p hp => I.pin p (List.mem_append_left _ hp), I.hok, I.len⟩
end
section
variable {X : Cx} {body : List Stmt} {h₀ : ExceptHandler} {hds : List ExceptHandler} {l : List Hnd} {pos : Pos} {tb : WX → TS} {Wout : WX}
theorem ps_tryT (hs : X.stack = X.env :: X.outer) (hf : X.env.frame = some X.env.locals) (hex : X.ex = []) (hN : X.N.Nodup) (tk : L2N.Takes X Wout)
    (hb : ∀ (W : WX) (pn : List (Addr × Obj)) (xe : Value → Shared → Prop), L2N.Takes (X.tr pn xe) W → PassesOwn (model X.prog X.w) X.A X.env xe → PSs (X.tr pn xe) body (tb W))
    (hh : HdT X (h₀ :: hds) l) : PS X (.Try body (h₀ :: hds) [] [] pos) (fun D σ H => tb (wT X.K Wout D l) D σ H) := by
  refine ⟨fun pins s σ H D I h => wpAny_Try_except ?_⟩
  have ok := I.ok
  have hfr : X.A.frames = some (X.env :: X.outer) := by rw [ok.frames, hs]
  refine wpAny_mono ((hb (wT X.K Wout D l) (X.pn ++ pins) (fun e s1 => wpAny (model X.prog X.w) X.A (noteFrame e X.env) (fun _ s2 => wpAny (model X.prog X.w) X.A (setFlight e none) (fun _ s3 => wpAny (model X.prog X.w) X.A (handleBy e X.env (h₀ :: hds)) (SP X pins D) X.xe s3) X.xe s2) X.xe s1) (fun u s' xx => ?_) PassesOwn.looking).run [] s σ H D (I.toTry _) h) (fun f s1 hsp => ?_) (fun e s1 he => he)
  · obtain ⟨a, B, sI, pins', σ', H', cls, d, rfl, J', nb, up, sky, na, os, ag, w⟩ := xx
    have J : Inv X pins σ' H' sI := J'.ofTry ok
    have sky' : Sky B (X.env :: X.outer) a (L2N.Zn cls d) X.env.locals s'.heap := by rw [← hs]; exact sky
    show wpAny (model X.prog X.w) X.A (noteFrame (.ref a) X.env) _ _ _
    refine L2N.Sky.land L2N.Zn.steady hfr hf sky' fun h3 fl3 up3 => ?_
    have J3 : Inv X pins σ' H' { s' with heap := h3 } := J.landed nb fl3.1 (up.trans up3) os ag
    obtain ⟨oe3, vs3, he3, hz3, hd3⟩ := fl3.there
    have nfr : a ∉ frs (X.env :: X.outer) := fun hm => by
      obtain ⟨_, o', e', hnf⟩ := fl3.2.2.1.mem hm
      rw [he3] at e'; cases e'
      exact hnf _ hd3
    have nL : a ≠ X.env.locals := fun z => nfr (List.mem_filterMap.mpr ⟨X.env, List.mem_cons_self, by rw [hf, z]⟩)
    have nF : a ∉ X.fs := fun hm => by
      obtain ⟨e, he, q⟩ := List.mem_filterMap.mp hm
      exact nfr (List.mem_filterMap.mpr ⟨e, List.mem_cons_of_mem _ he, q⟩)
    have nI : sI.heap.get? a = none := by
      cases q : sI.heap.get? a with
      | none => rfl
      | some o =>
        have z := nb a o q (by rw [hs]; exact nfr)
        rw [fl3.2.1] at z; cases z
    have n0 : X.s_0.heap.get? a = none := by
      cases q : X.s_0.heap.get? a with
      | none => rfl
      | some o =>
        obtain ⟨o', z⟩ := J.base.there a o q (by rw [hex]; exact fun z => nomatch z)
        rw [nI] at z; cases z
    have npn : ∀ p ∈ X.pn ++ pins, p.1 ≠ a := fun p hp z => by
      have := (J.pin p hp).1
      rw [z, nI] at this; cases this
    have S3 := J3.suite he3 hd3 na nL nF
    have go : ∀ {hds' : List ExceptHandler} {l' : List Hnd}, HdT X hds' l' → wT X.K Wout D l' cls d σ' H' → wpAny (model X.prog X.w) X.A (handleBy (.ref a) X.env hds') (SP X pins D) X.xe { s' with heap := h3 } := by
      intro hds' l' hk
      induction hk with
      | nil =>
        intro w
        refine wpAny_handleBy_nil ?_
        obtain ⟨k1, k2, k3, oe, vs, T, oT, ts', he, hz, hd, h1, hr⟩ := id fl3
        unfold PySem.passOn
        refine wpAny_bind (wpAny_field he hd h1 ?_)
        rw [if_neg (show ¬ ((Value.ref T == Value.none) = true) from by simp)]
        have fin : wpAny (model X.prog X.w) X.A (setFlight (.ref a) X.env.frame) (fun _ s4 => wpAny (model X.prog X.w) X.A (throw (.ref a) : Sem Flow) (SP X pins D) X.xe s4) X.xe { s' with heap := h3 } := by
          rw [hf]
          exact HandSPX.setFlight_upZ fl3 fun h4 hh4 up4 => wpAny_throw (tk _ _ ⟨a, B, sI, pins, σ', H', cls, d, rfl, J, nb, (up.trans up3).trans up4, .inr (.inr (by rw [hs]; exact hh4)), na, os, ag, w⟩)
        first
          | exact wpAny_bind (wpAny_pure (wpAny_bind fin))
          | exact wpAny_bind fin
      | @cons x c n i ts b₀ suite np pos' hds2 l2 hc hn hsu r ih =>
        intro w
        obtain ⟨b, hb1, hyes, hno⟩ := w
        refine wpAny_handleBy_cons (codeAny_handlers_test ?_) (by intro q; cases q)
        have LT : PySem.W.Looks (model X.prog X.w) h3 (typeOf (.ref a)) cls := fun A Q E s k q => wpAny_typeOf_ref (k _ _ he3) (by rw [hz3.1]; exact q)
        have LM := PySem.W.exm_one (M := model X.prog X.w) (J3.kIn) LT hb1
        have test : ∀ {Q : Value → Shared → Prop} {E : Value → Shared → Prop}, Q c { s' with heap := h3 } → wpAny (model X.prog X.w) (X.A.mark (some (.ref a))) (eval (.Name x np) X.env) Q E { s' with heap := h3 } := fun {Q E} q => by
          obtain ⟨hg, hdbg, hm | ⟨hm, hv, hnn⟩⟩ := hc
          · exact ld_glob (X := X.suite a ((a, oe3) :: (X.pn ++ pins))) S3 hg hm q hdbg
          · exact ld_blt (X := X.suite a ((a, oe3) :: (X.pn ++ pins))) S3 hg hm hv q hnn hdbg
        refine test (LM.here ?_)
        cases b with
        | true =>
          obtain ⟨hdn, hy2⟩ := hyes rfl
          subst hdn
          cases n with
          | none =>
            cases i with
            | some _ => exact hn.elim
            | none =>
              refine codeAny_handlers_suite (HandSPX.lands_againZ fl3 fun h4 fl4 up4 => ?_)
              have J4 : Inv X pins σ' H' { s' with heap := h4 } := J.landed nb fl4.1 ((up.trans up3).trans up4) os ag
              obtain ⟨oe4, vs4, he4, hz4, hd4⟩ := fl4.there
              refine wpAny_mono ((hsu a cls (X.pn ++ pins)).run [] _ _ _ _ (toSuite J4 he4 hz4 hd4 na nL n0 npn) (hy2 a na)) (fun f s6 hsp => ?_) (fun _ _ z => False.elim z)
              cases f with
              | next => obtain ⟨σ6, H6, S6, q6⟩ := hsp; exact ⟨_, _, ofSuite S6 ok, q6⟩
              | brk => obtain ⟨σ6, H6, S6, q6⟩ := hsp; exact ⟨_, _, ofSuite S6 ok, q6⟩
              | cont => obtain ⟨σ6, H6, S6, q6⟩ := hsp; exact ⟨_, _, ofSuite S6 ok, q6⟩
              | ret u => obtain ⟨v6, σ6, H6, S6, r6, q6⟩ := hsp; exact ⟨_, _, _, ofSuite S6 ok, r6, q6⟩
          | some n =>
            cases i with
            | none => exact hn.elim
            | some i =>
              obtain ⟨hi, hln⟩ := hn
              refine codeAny_handlers_suite_as (HandSPX.lands_againZ fl3 fun h4 fl4 up4 => ?_)
              have J4 : Inv X pins σ' H' { s' with heap := h4 } := J.landed nb fl4.1 ((up.trans up3).trans up4) os ag
              obtain ⟨oe4, vs4, he4, hz4, hd4⟩ := fl4.there
              refine store_ok (X := suT X a (X.pn ++ pins)) (v := .ref a) (toSuite J4 he4 hz4 hd4 na nL n0 npn) hN hi (.inl hln) rfl (fun s5 S5 => ?_) (.inr hln)
              refine wpAny_mono ((hsu a cls (X.pn ++ pins)).run [] s5 _ _ _ S5 (hy2 a na)) (fun f s6 hsp => ?_) (fun _ _ z => False.elim z)
              have end_ : ∀ {σ6 : L2.St} {H6 : Hp} {Q : Shared → Prop}, Inv (suT X a (X.pn ++ pins)) [] σ6 H6 s6 → (∀ s7, Inv X pins (σ6.set i none) H6 s7 → Q s7) → wpAny (model X.prog X.w) X.A (do bindName X.env n .none; unbindBehindTheSuite X.env n pos') (fun _ s7 => Q s7) X.xe s6 :=
                fun {σ6 H6 Q} S6 hq => gone_ok (ofSuite S6 ok) hN hi hln hq
              cases f with
              | next => obtain ⟨σ6, H6, S6, q6⟩ := hsp; exact end_ S6 fun s7 J7 => ⟨_, _, J7, q6⟩
              | brk => obtain ⟨σ6, H6, S6, q6⟩ := hsp; exact end_ S6 fun s7 J7 => ⟨_, _, J7, q6⟩
              | cont => obtain ⟨σ6, H6, S6, q6⟩ := hsp; exact end_ S6 fun s7 J7 => ⟨_, _, J7, q6⟩
              | ret u => obtain ⟨v6, σ6, H6, S6, r6, q6⟩ := hsp; exact end_ S6 fun s7 J7 => ⟨_, _, _, J7, r6, q6⟩
        | false =>
          show wpAny _ X.A (handleBy (.ref a) X.env hds2) _ _ _
          exact ih (hno rfl)
    exact go hh w
  · cases f with
    | next => obtain ⟨σ', H', J', q⟩ := hsp; exact wpAny_execs_nil ⟨σ', H', J'.ofTry ok, q⟩
    | brk => obtain ⟨σ', H', J', q⟩ := hsp; exact ⟨σ', H', J'.ofTry ok, q⟩
    | cont => obtain ⟨σ', H', J', q⟩ := hsp; exact ⟨σ', H', J'.ofTry ok, q⟩
    | ret u => obtain ⟨v, σ', H', J', r, q⟩ := hsp; exact ⟨v, σ', H', J'.ofTry ok, r, q⟩
end
inductive TyE (K : PySem.W.Frag) (H : Hp) : V → Value → Prop
  | non : TyE K H .non (.type "NoneType")
  | err {a D : Addr} (c : ExcC K D) (e : H a = some (ErO (.ref D) a)) : TyE K H (.ref a) (.ref D)
theorem kitE_of {X : Cx} {pins : List (Addr × Obj)} {σ : L2.St} {H : Hp} {s : Shared} {x : V} {u t : Value} (I : Inv X pins σ H s) (rx : RelV x u) (ty : TyE X.K H x t) : ∃ P : Heap → Prop, PySem.W.KitX X.K u t P ∧ P s.heap ∧ u ≠ .builtin "__main__.__loader__#opaque" := by
  cases ty with
  | non => cases (show u = Value.none from rx); exact ⟨_, PySem.W.kitx_none, True.intro, fun z => nomatch z⟩
  | @err a D c ea =>
    cases (show u = Value.ref a from rx)
    obtain ⟨⟨oe, vs, hg, hz, hv⟩, _, _⟩ := I.hok a _ ea
    have J : PySem.W.InstAt s.heap a oe D none := by
      obtain ⟨oc, od, oda, osl⟩ := oe
      obtain ⟨h1, h2, _⟩ := hz
      dsimp only at h1 h2 hv
      subst h1 h2 hv
      exact ⟨hg, rfl, rfl, trivial⟩
    exact ⟨_, PySem.W.handS_kitx_exc c.hg c.hk c.hs c.hd c.ha c.hn c.ht c.hm, J, fun z => nomatch z⟩
def rIsE1 (K : PySem.W.Frag) : List V → Hp → VK → Prop := fun xs H Q => ∃ (x c : V) (t u : Value) (b : Bool), xs = [x, c] ∧ ClsV c u ∧ TyE K H x t ∧ PySem.W.kitOne K t u = some b ∧ Q (.bl b) H
def rIsEs (K : PySem.W.Frag) : List V → Hp → VK → Prop := fun xs H Q => ∃ (x : V) (tp : Addr) (cs : List V) (t : Value) (us : List Value) (b : Bool), xs = [x, .ref tp] ∧ SqT K H tp cs ∧ Paired ClsV cs us ∧ TyE K H x t ∧ PySem.W.kitAny K t us = some b ∧ Q (.bl b) H
section
variable {X : Cx}
theorem call_isE1 : CallR X (.builtin "isinstance") (rIsE1 X.K) := by
  intro pins s σ H xs us Q I r h
  obtain ⟨x, c, t, u, b, rfl, k, ty, e, q⟩ := h
  obtain ⟨u1, u2, rfl, r1, r2⟩ := vals2 r
  cases k.eq r2
  obtain ⟨P, Z, p, hx⟩ := kitE_of I r1 ty
  exact PySem.W.kia_one Z I.kIn p e hx fun tk => ⟨.bl b, H, I.tok tk, rfl, q⟩
theorem call_isEs : CallR X (.builtin "isinstance") (rIsEs X.K) := by
  intro pins s σ H xs us Q I r h
  obtain ⟨x, tp, cs, t, ws, b, rfl, hT, k, ty, e, q⟩ := h
  obtain ⟨u1, u2, rfl, r1, r2⟩ := vals2 r
  cases (show u2 = Value.ref tp from r2)
  obtain ⟨P, Z, p, hx⟩ := kitE_of I r1 ty
  obtain ⟨its, rv, ⟨⟨oc, od, dt, sl⟩, h1, h2, n, h3⟩, _⟩ := I.tuple hT
  cases ClsV.all k rv
  simp only at h2 h3
  subst h2 h3
  exact PySem.W.kia_tup Z I.kIn p h1 e hx fun tk => ⟨.bl b, H, I.tok tk, rfl, q⟩
theorem pmk0 {C : Addr} {bmB : List Value} {B newId initId : String} {x : Str} {p pos : Pos} (F : ExcBaseFacts B newId initId bmB) (q : PySem.W.excIn X.K C bmB newId = true) (gC : X.mg x = some (.ref C)) (kC : PySem.W.keepIn X.K (.ref C) = true) (r : Raises X (.ref C)) (hg : Gl X x)
    (hdb : (x == ("__debug__" : Str)) = false) : L2N.PMk X (.Call (.Name x p) [] [] pos) (fun _ H Q => Q (.ref C) none H) := by
  intro pins s σ H Q I h
  refine wpAny_Call_Name_kw (ld_glob I hg gC ?_ hdb)
  refine PySem.W.callWith_K0 I.kIn kC ?_
  show wpAny _ _ (call (.ref C) []) _ _ _
  obtain ⟨bm, N, nm, qn, bs, hdct, sn, sub, ab, col, dd, k0, k1, k2, k3, k5, mN, hC, hN, hni, T⟩ := exc_obj I.kIn q
  exact wpAny_call_exc_subT F T hC hN hni (fun h' e hm => L2N.mk_of I hm r h (I.hok.gone hm.new)) (Nat.zero_le _)
theorem takes0N : L2N.Takes X (fun _ _ _ _ => False) := fun _ _ x => by
  obtain ⟨_, _, _, _, _, _, _, _, _, _, _, _, _, _, _, _, z⟩ := x
  exact z.elim
end
section
variable {P : Program} {w : World} {K : PySem.W.Frag} {mg : Str → Option Value} {base : Heap}
end
section
variable {X : Cx} {CX : CXT} {k : Nat} {C f : Addr} {fd : FuncData} {ps : List Str} {sp : Sp} {E : L2.St → XK} {m : Str} {o e : Expr} {es : List Expr} {ta : TE} {t : TA} {apos pos : Pos} {pl : Sem Bool}
def tMethS (C : Addr) (m : Str) (sp : Sp) (E : L2.St → XK) (ta : TE) (t : TA) : TE := fun σ H Q => ta σ H fun x H1 => ∃ a dx fs, x = .ref a ∧ H1 a = some (.ins C dx fs) ∧ fs.lookup m = none ∧ t σ H1 fun vs H2 => sp (x :: vs) H2 Q (E σ)
theorem pe_methS (he : PE X o ta) (c : Cls X.K C) (hm : Meth X.K C m f) (F : FnOk X.prog X.w X.K X.mg X.base CX k f fd ps sp) (hr : Room k X.A) (hb : Binds X.K fd ps []) (hx : ∀ σ, PassesAt CX X σ (E σ)) (ha : PA X (e :: es) t)
    (hst : starEach (e :: es) X.env = (false, eval e X.env) :: starEach es X.env) (hpl : (backTo pos (starEach es X.env)).any (·.1) = false)
    (ht : eval (.Call (.Attribute o m apos) (e :: es) [] pos) X.env = (do let ov ← eval o X.env; standAt apos.atName; let (f, first) ← holding [ov] (getMethod ov m pl); callWith pos f first (backTo pos (starEach (e :: es) X.env)) (backToKw pos (keywordEach [] X.env)))) :
    PE X (.Call (.Attribute o m apos) (e :: es) [] pos) (tMethS C m sp E ta t) := by
  refine ⟨fun pins s σ H Q I h => PySem.W.methodCall_KW (pl := pl) (thn (he.run pins s σ H _ I h) fun u s1 ⟨x, H1, I1, rx, a, dx, fs, ex, ea, l, q⟩ => ?_) ht⟩
  subst ex
  obtain rfl : u = Value.ref a := rx
  exact getmeth_ok I1 ea c hm l (PySem.W.callWith_K (first := [.ref a]) (h₀ := X.base) I.ok.mod.kin hm.kp (thn (ha.run pos pins s1 σ H1 _ I1 q) fun us s2 ⟨vs, H2, I2, r, q2⟩ => ⟨I2.kIn, run_fnS (us := .ref a :: us) (vs := .ref a :: vs) F hr hb (hx σ) I2 (.cons rfl r) q2⟩) hst hpl)
theorem pe_meth0S (he : PE X o ta) (c : Cls X.K C) (hm : Meth X.K C m f) (F : FnOk X.prog X.w X.K X.mg X.base CX k f fd ps sp) (hr : Room k X.A) (hb : Binds X.K fd ps []) (hx : ∀ σ, PassesAt CX X σ (E σ))
    (ht : eval (.Call (.Attribute o m apos) [] [] pos) X.env = (do let ov ← eval o X.env; standAt apos.atName; let (f, first) ← holding [ov] (getMethod ov m pl); callWith pos f first (backTo pos (starEach [] X.env)) (backToKw pos (keywordEach [] X.env)))) :
    PE X (.Call (.Attribute o m apos) [] [] pos) (tMethS C m sp E ta tNil) := by
  refine ⟨fun pins s σ H Q I h => PySem.W.methodCall_KW (pl := pl) (thn (he.run pins s σ H _ I h) fun u s1 ⟨x, H1, I1, rx, a, dx, fs, ex, ea, l, q⟩ => ?_) ht⟩
  subst ex
  obtain rfl : u = Value.ref a := rx
  exact getmeth_ok I1 ea c hm l (PySem.W.callWith_K0 (first := [.ref a]) I1.kIn hm.kp (run_fnS (us := [.ref a]) (vs := [.ref a]) F hr hb (hx σ) I1 (.cons rfl .nil) q))
end
end F2
set_option Elab.async false
set_option linter.all false
set_option maxRecDepth 100000
set_option maxHeartbeats 4000000
namespace F2
open PySem PySem.Spec PyProof.Rows
open L2
def HotH (A : Around) (H : Hp) : Prop := ∃ (cls : Value) (x1 : Addr), A.handled = some (.ref x1) ∧ H x1 = some (ErO cls x1)
theorem HotH.at {X : Cx} {pins : List (Addr × Obj)} {σ : L2.St} {H : Hp} {s : Shared} (c : HotH X.A H) (I : Inv X pins σ H s) : ∃ x1, HotX.HotAt X.A x1 s.heap ∧ ∃ u, H x1 = some u := by
  obtain ⟨cls, x1, hh, e⟩ := c
  obtain ⟨⟨oe, vs, hg, hz, hd⟩, _, _⟩ := I.hok x1 _ e
  exact ⟨x1, ⟨hh, oe, vs, hg, hd, hz.2.2 vs hd⟩, _, e⟩
section
variable {prog : Program} {w : World} {A : Around} {E : Value → Shared → Prop} {s : Shared}
theorem next_list_end_hot {it l x1 : Addr} {i : Nat} {items : Array Value} {Q : Option Value → Shared → Prop} (hot : HotX.HotAt A x1 s.heap) (hx1 : x1 ≠ it)
    (hit : s.heap.IsListIter it l i) (hl : s.heap.IsList l items) (hx : items[i]? = none)
    (hQ : ∀ h', Heap.ExtBut it s.heap h' → Q none { s with heap := h' }) : wpAny (model prog w) A (pyNext (.ref it)) Q E s := by
  obtain ⟨o, ho, hc, hd⟩ := id hit
  obtain ⟨ol, hol, _, nl, hdl⟩ := hl
  obtain ⟨hh, o1, vs1, h1, d1, c1⟩ := hot
  unfold pyNext
  refine wpAny_bind (wpAny_attempt (wpAny_callSpecial?_slot (name := Str.ofString "__next__") hit.typeIs slot_listiter_next
    (wpAny_call_entry slot_listiter_next hit.typeIs entry_listiter_next ?_ (args_listiter_next _))))
  show wpAny _ _ (field (.ref it) 0 >>= _) _ _ s
  refine wpAny_bind (wpAny_field ho hd (x := .ref l) rfl ?_)
  show wpAny _ _ (if (Value.ref l == Value.none) = true then _ else _) _ _ s
  rw [if_neg (show ¬ ((Value.ref l == Value.none) = true) from Bool.false_ne_true)]
  show wpAny _ _ (field (.ref it) 1 >>= _) _ _ s
  refine wpAny_bind (wpAny_field ho hd (x := .int i 0) rfl ?_)
  show wpAny _ _ (seqItems? (.ref l) >>= _) _ _ s
  refine wpAny_bind (wpAny_seqItems hol hdl ?_)
  simp only [Int.toNat_natCast, hx]
  refine wpAny_bind (wpAny_rule (wpAny_bind (wpAny_setField ho hd (by simp) ?_)))
  show wpAny _ _ (newExc (.type "StopIteration") [] >>= _) _ _ _
  refine wpAny_bind ?_
  simp only [newExc, newTuple]
  refine wpAny_bind (wpAny_newObj_type ?_ (by size_fits))
  refine wpAny_bind (m := firstArgMember _ _) (wpAny_of_eq (a := Value.none) (by first | rfl | (simp only [firstArgMember]; rfl)) ?_)
  refine wpAny_newObj_type ?_ (by size_fits)
  refine HotX.raiseNew_hot ⟨hh, o1, vs1, Heap.get?_push_of_some _ (Heap.get?_push_of_some _ (((Heap.SameBut.update ..).2 x1 hx1).trans h1)), d1, c1⟩ (Nat.ne_of_lt (Heap.lt_size (Heap.get?_push_of_some _ (((Heap.SameBut.update ..).2 x1 hx1).trans h1)))) (Heap.get?_push_size _ rfl) rfl (by first | (simp; done) | (simp; omega) | (simp only [Array.size_append]; simp; omega)) ?_
  refine wpAny_bind (wpAny_isInstance (T := "StopIteration") (b := true) ⟨_, Heap.get?_update_self _ (Heap.get?_push_size _ rfl) rfl, rfl⟩ isSubtype_stop ?_)
  refine wpAny_pure (hQ _ fun b o hb e => ?_)
  rw [Heap.get?_update_other _ _ (Nat.ne_of_gt (Heap.lt_size (Heap.get?_push_of_some _ (((Heap.SameBut.update ..).2 b hb).trans e))))]
  exact Heap.get?_push_of_some _ (Heap.get?_push_of_some _ (((Heap.SameBut.update ..).2 b hb).trans e))
theorem next_tuple_end_hot {it t x1 : Addr} {i : Nat} {items : Array Value} {Q : Option Value → Shared → Prop} (hot : HotX.HotAt A x1 s.heap) (hx1 : x1 ≠ it)
    (hit : IsTupIter s.heap it t i) (ht : IsTup s.heap t items) (hx : items[i]? = none)
    (hQ : ∀ h', Heap.ExtBut it s.heap h' → Q none { s with heap := h' }) : wpAny (model prog w) A (pyNext (.ref it)) Q E s := by
  obtain ⟨o, ho, hc, hd⟩ := id hit
  obtain ⟨ol, hol, _, nl, hdl⟩ := ht
  obtain ⟨hh, o1, vs1, h1, d1, c1⟩ := hot
  unfold pyNext
  refine wpAny_bind (wpAny_attempt (wpAny_callSpecial?_slot (name := Str.ofString "__next__") hit.typeIs slot_tupleiter_next
    (wpAny_call_entry slot_tupleiter_next hit.typeIs entry_tupleiter_next ?_ (args_tupleiter_next _))))
  show wpAny _ _ (field (.ref it) 0 >>= _) _ _ s
  refine wpAny_bind (wpAny_field ho hd (x := .ref t) rfl ?_)
  show wpAny _ _ (if (Value.ref t == Value.none) = true then _ else _) _ _ s
  rw [if_neg (show ¬ ((Value.ref t == Value.none) = true) from Bool.false_ne_true)]
  show wpAny _ _ (field (.ref it) 1 >>= _) _ _ s
  refine wpAny_bind (wpAny_field ho hd (x := .int i 0) rfl ?_)
  show wpAny _ _ (seqItems? (.ref t) >>= _) _ _ s
  refine wpAny_bind (wpAny_seqItems hol hdl ?_)
  simp only [Int.toNat_natCast, hx]
  refine wpAny_bind (wpAny_rule (wpAny_bind (wpAny_setField ho hd (by simp) ?_)))
  show wpAny _ _ (newExc (.type "StopIteration") [] >>= _) _ _ _
  refine wpAny_bind ?_
  simp only [newExc, newTuple]
  refine wpAny_bind (wpAny_newObj_type ?_ (by size_fits))
  refine wpAny_bind (m := firstArgMember _ _) (wpAny_of_eq (a := Value.none) (by first | rfl | (simp only [firstArgMember]; rfl)) ?_)
  refine wpAny_newObj_type ?_ (by size_fits)
  refine HotX.raiseNew_hot ⟨hh, o1, vs1, Heap.get?_push_of_some _ (Heap.get?_push_of_some _ (((Heap.SameBut.update ..).2 x1 hx1).trans h1)), d1, c1⟩ (Nat.ne_of_lt (Heap.lt_size (Heap.get?_push_of_some _ (((Heap.SameBut.update ..).2 x1 hx1).trans h1)))) (Heap.get?_push_size _ rfl) rfl (by first | (simp; done) | (simp; omega) | (simp only [Array.size_append]; simp; omega)) ?_
  refine wpAny_bind (wpAny_isInstance (T := "StopIteration") (b := true) ⟨_, Heap.get?_update_self _ (Heap.get?_push_size _ rfl) rfl, rfl⟩ isSubtype_stop ?_)
  refine wpAny_pure (hQ _ fun b o hb e => ?_)
  rw [Heap.get?_update_other _ _ (Nat.ne_of_gt (Heap.lt_size (Heap.get?_push_of_some _ (((Heap.SameBut.update ..).2 b hb).trans e))))]
  exact Heap.get?_push_of_some _ (Heap.get?_push_of_some _ (((Heap.SameBut.update ..).2 b hb).trans e))
theorem HotAt.ext {x1 : Addr} {h h' : Heap} (c : HotX.HotAt A x1 h) (k : ∀ o, h.get? x1 = some o → h'.get? x1 = some o) : HotX.HotAt A x1 h' := by
  obtain ⟨hh, o1, vs1, h1, d1, c1⟩ := c
  exact ⟨hh, o1, vs1, k _ h1, d1, c1⟩
theorem unpackItems_hot {t x1 : Addr} {items : Array Value} {Q : List Value → Shared → Prop} (hot : HotX.HotAt A x1 s.heap) (ht : IsTup s.heap t items)
    (hQ : ∀ h', Heap.ExtBut s.heap.objs.size s.heap h' → Q items.toList { s with heap := h' }) : wpAny (model prog w) A (unpackItems (.ref t) items.size none) Q E s := by
  have hlt : t ≠ s.heap.objs.size := by obtain ⟨o, ho, _⟩ := ht; exact Nat.ne_of_lt (Heap.lt_size ho)
  have hx : x1 ≠ s.heap.objs.size := by obtain ⟨_, o, _, ho, _⟩ := hot; exact Nat.ne_of_lt (Heap.lt_size ho)
  unfold unpackItems
  refine wpAny_bind ?_
  · unfold notIterableAtAll
    refine wpAny_bind (wpAny_specialOf ht.typeIs slot_tuple_iter.lookup ?_)
    refine wpAny_pure ?_
    simp only [Bool.false_eq_true, if_false]
    refine wpAny_bind (wpAny_holding (iter_tuple ht ?_))
    refine wpAny_bind (wpAny_holding (draw_tuple hlt items.size 0 _ _ ⟨_, Heap.get?_push_size _ rfl, rfl, rfl⟩ (ht.push _) (by omega) fun h₁ hit₁ hs₁ => ?_))
    have hall : List.take items.size (List.drop 0 items.toList) = items.toList := by
      rw [List.drop_zero]; exact List.take_of_length_le (by simp)
    rw [hall]
    rw [if_neg (by simp)]
    have ht₁ : IsTup h₁ t items := (ht.push _).extBut hs₁.extBut hlt
    have hot₁ : HotX.HotAt A x1 h₁ := HotAt.ext hot fun o e => hs₁.extBut _ o hx (Heap.get?_push_of_some _ e)
    refine wpAny_bind (wpAny_holding (next_tuple_end_hot hot₁ hx hit₁ ht₁ (by simp) fun h₂ he₂ => ?_))
    simp only [Option.isSome_none, Bool.false_eq_true, if_false]
    refine wpAny_pure (hQ h₂ fun b o hb e => he₂ b o hb (hs₁.extBut b o hb (Heap.get?_push_of_some _ e)))
theorem assign_Tuple_hot {env : Env} {elts : List Expr} {n1 : Nat} {pos : Pos} {t x1 : Addr} {items : Array Value} {Q : Unit → Shared → Prop} (hot : HotX.HotAt A x1 s.heap) (ht : IsTup s.heap t items)
    (hn : (assignEach elts env).length = items.size) (hstar : (assignEach elts env).findIdx? (·.1) = none)
    (h : ∀ h', Heap.ExtBut s.heap.objs.size s.heap h' → wpAny (model prog w) A (assignInOrder ((assignEach elts env).map (·.2)) items.toList) Q E { s with heap := h' }) :
    wpAny (model prog w) A (assign (.Tuple elts n1 pos) env (.ref t)) Q E s := by
  rw [assign_Tuple]
  refine wpAny_bind (wpAny_standAt ?_)
  unfold unpack
  rw [hn, hstar]
  exact wpAny_bind (wpAny_holding (unpackItems_hot hot ht h))
end
theorem pg_tupH {X : Cx} {es : List Expr} {k : Nat} {t : TGs} {n : Nat} {pos : Pos} (h : PGs X es t)
    (hn : (assignEach es X.env).length = n := by rfl) (hst : (assignEach es X.env).findIdx? (·.1) = none := by rfl) : PG X (.Tuple es k pos) (fun v σ H Q => HotH X.A H ∧ gTup X.K n t v σ H Q) := by
  refine ⟨fun pins s σ H v u Q I r hw => ?_⟩
  obtain ⟨hot, a, xs, e1, hq, hl, hw⟩ := hw
  subst e1
  cases r
  obtain ⟨its, rv, ht, hz⟩ := I.tuple hq
  obtain ⟨x1, hat, _⟩ := hot.at I
  refine assign_Tuple_hot hat ht (by simp [hn, ← hl, rv.length]) hst fun h' hx => ?_
  have I1 : Inv X pins σ H { s with heap := h' } := I.kept (t' := s.toks) fun b o e => hx b o (Nat.ne_of_lt (Heap.lt_size e)) e
  exact h.run pins _ σ H xs _ Q I1 (by simpa using rv) hw
structure TurnH (P : Program) (w : World) (K : PySem.W.Frag) (A : Around) (tg : Expr) (J : It) (fp : List Addr) (it : Addr) (tn : Nat → Heap → Prop) : Prop where
  mem : it ∈ fp
  obj : ∀ i h, tn i h → ∀ b ∈ fp, ∃ o, h.get? b = some o ∧ ∀ v, o.data ≠ .cell v
  keep : ∀ i h h', tn i h → (∀ b ∈ fp, ∀ o, h.get? b = some o → h'.get? b = some o) → tn i h'
  item : ∀ (X : Cx), X.prog = P → X.w = w → X.K = K → X.A = A → ∀ (i : Nat) (pins : List (Addr × Obj)) (s : Shared) (σ : L2.St) (H : Hp) (E : Value → Shared → Prop), Inv X pins σ H s → (∀ b ∈ fp, FpOk X pins H b) → tn i s.heap → J.go i H →
    wpAny (model P w) X.A (pyNext (.ref it)) (fun r s1 => ∃ u, r = some u ∧
      wpAny (model P w) X.A (letOwnedTupleGo tg (.ref it) u) (fun _ s2 => ∃ x H', Inv X pins σ H' s2 ∧ RelV x u ∧ J.yld i H x H' ∧ tn (i + 1) s2.heap ∧ ∀ b ∈ fp, H' b = none) E s1) E s
  done : ∀ (X : Cx), X.prog = P → X.w = w → X.K = K → X.A = A → ∀ (i : Nat) (pins : List (Addr × Obj)) (s : Shared) (σ : L2.St) (H : Hp) (E : Value → Shared → Prop), Inv X pins σ H s → (∀ b ∈ fp, FpOk X pins H b) → tn i s.heap → J.stop i H →
    wpAny (model P w) X.A (pyNext (.ref it)) (fun r s1 => r = none ∧ Inv X pins σ H s1) E s
  self : ∀ (A : Around) (i : Nat) (s : Shared) (Q : Value → Shared → Prop) (E : Value → Shared → Prop), tn i s.heap → Q (.ref it) s → wpAny (model P w) A (pyIter (.ref it)) Q E s
def PIEH (X : Cx) (pins : List (Addr × Obj)) (σ : L2.St) (tg : Expr) (R : It → Hp → Prop) (itv : Value) (s2 : Shared) : Prop :=
  ∃ (it : Addr) (fp : List Addr) (tn : Nat → Heap → Prop) (J : It) (H' : Hp), itv = .ref it ∧ Inv X pins σ H' s2 ∧ TurnH X.prog X.w X.K X.A tg J fp it tn ∧ tn 0 s2.heap ∧ (∀ b ∈ fp, FpOk X pins H' b) ∧ R J H'
structure PIH (X : Cx) (tg iter : Expr) (wi : TI) : Prop where
  run : ∀ (pins : List (Addr × Obj)) (s : Shared) (σ : L2.St) (H : Hp) (R : It → Hp → Prop), Inv X pins σ H s → wi σ H R →
    wpAny (model X.prog X.w) X.A (eval iter X.env) (fun v s1 => wpAny (model X.prog X.w) X.A (pyIter v) (PIEH X pins σ tg R) X.xe s1) X.xe s
theorem pih_imp {X : Cx} {tg e : Expr} {t t' : TI} (h : PIH X tg e t) (i : ∀ σ H Q, t' σ H Q → t σ H Q) : PIH X tg e t' := ⟨fun pins s σ H Q I w => h.run pins s σ H Q I (i σ H Q w)⟩
def ItH (A : Around) (J : It) : It := ⟨fun i H => HotH A H ∧ J.go i H, J.yld, fun i H => HotH A H ∧ J.stop i H⟩
theorem turnH_list {P : Program} {w : World} {K : PySem.W.Frag} {A : Around} {tg : Expr} (a it : Addr) : TurnH P w K A tg (ItH A (Itl K a)) [it] it (fun i h => h.IsListIter it a i) where
  mem := by simp
  obj := (turn_list (P := P) (w := w) (K := K) (tg := tg) a it).obj
  keep := (turn_list (P := P) (w := w) (K := K) (tg := tg) a it).keep
  item := by
    intro X hP hw hK hA i pins s σ H E I hf st hg
    subst hP hw hK
    obtain ⟨_, xs, x, hq, hx⟩ := hg
    obtain ⟨its, rv, p, hz⟩ := I.list hq
    obtain ⟨u, hu, ru⟩ := rv.get hx
    obtain ⟨f0, f1, f2, f3, f4, f5⟩ := hf it (by simp)
    refine wpAny_pyNext_list_item st p.isList (x := u) (by simpa using hu) fun h' st' sb => ?_
    have I1 : Inv X pins σ H { s with heap := h' } := I.turned (t' := s.toks) (fun b o hb e => (sb.2 b hb).trans e) f0 f1 f3 f4 f5
    obtain ⟨o, e, c, d⟩ := id st'
    exact ⟨u, rfl, go_of (s := { s with heap := h' }) e c d (by decide) ⟨x, H, I1, ru, ⟨rfl, fun ys hy => by rw [I.list_inj hy hq]; exact hx⟩, st', fun b hb => (hf b hb).1⟩⟩
  done := by
    intro X hP hw hK hA i pins s σ H E I hf st hg
    subst hP hw hK hA
    obtain ⟨hot, xs, hq, hx⟩ := hg
    obtain ⟨its, rv, p, hz⟩ := I.list hq
    obtain ⟨f0, f1, f2, f3, f4, f5⟩ := hf it (by simp)
    have hl := rv.length
    obtain ⟨x1, hat, u1, hu1⟩ := hot.at I
    exact next_list_end_hot hat (ne_of_none hu1 f0) st p.isList (by simp; omega) fun h' eb => ⟨rfl, I.turned (t' := s.toks) (fun b o hb e => eb b o hb e) f0 f1 f3 f4 f5⟩
  self := fun _ _ _ _ _ st h => wpAny_pyIter_listiter st h
theorem turnH_tuple {P : Program} {w : World} {K : PySem.W.Frag} {A : Around} {tg : Expr} (a it : Addr) : TurnH P w K A tg (ItH A (Itt K a)) [it] it (fun i h => h.IsTupleIter it a i) where
  mem := by simp
  obj := (turn_tuple (P := P) (w := w) (K := K) (tg := tg) a it).obj
  keep := (turn_tuple (P := P) (w := w) (K := K) (tg := tg) a it).keep
  item := by
    intro X hP hw hK hA i pins s σ H E I hf st hg
    subst hP hw hK
    obtain ⟨_, xs, x, hq, hx⟩ := hg
    obtain ⟨its, rv, p, hz⟩ := I.tuple hq
    obtain ⟨u, hu, ru⟩ := rv.get hx
    obtain ⟨f0, f1, f2, f3, f4, f5⟩ := hf it (by simp)
    refine wpAny_pyNext_tuple_item st (show s.heap.IsTuple a its.toArray from p) (x := u) (by simpa using hu) fun h' st' sb => ?_
    have I1 : Inv X pins σ H { s with heap := h' } := I.turned (t' := s.toks) (fun b o hb e => (sb.2 b hb).trans e) f0 f1 f3 f4 f5
    obtain ⟨o, e, c, d⟩ := id st'
    exact ⟨u, rfl, go_of (s := { s with heap := h' }) e c d (by decide) ⟨x, H, I1, ru, ⟨rfl, fun ys hy => by rw [I.tuple_inj hy hq]; exact hx⟩, st', fun b hb => (hf b hb).1⟩⟩
  done := by
    intro X hP hw hK hA i pins s σ H E I hf st hg
    subst hP hw hK hA
    obtain ⟨hot, xs, hq, hx⟩ := hg
    obtain ⟨its, rv, p, hz⟩ := I.tuple hq
    obtain ⟨f0, f1, f2, f3, f4, f5⟩ := hf it (by simp)
    have hl := rv.length
    obtain ⟨x1, hat, u1, hu1⟩ := hot.at I
    exact next_tuple_end_hot hat (ne_of_none hu1 f0) st p (by simp; omega) fun h' eb => ⟨rfl, I.turned (t' := s.toks) (fun b o hb e => eb b o hb e) f0 f1 f3 f4 f5⟩
  self := fun _ _ _ _ _ st h => wpAny_pyIter_tupleiter st h
section
variable {X : Cx}
theorem pe_lcH {elt tg iter : Expr} {ifs : List Expr} {scope : Scope} {own : List (Str × Nat)} {pos : Pos} {wi : TI} {g : TG} {tt : TT} {te : TE} (hN : X.N.Nodup) (hi : PIH X tg iter wi) (ok : BlkOk X.N X.env.scope scope own)
    (hg : ∀ (s : Shared) (H : Hp) (C : Addr) (cl : List (Str × Addr)) (fp : List Addr), PG (X.blk s H scope (compEnvC scope cl C X.env) fp) tg g) (ht : ∀ (s : Shared) (H : Hp) (C : Addr) (cl : List (Str × Addr)) (fp : List Addr), PTs (X.blk s H scope (compEnvC scope cl C X.env) fp) ifs tt)
    (he : ∀ (s : Shared) (H : Hp) (C : Addr) (cl : List (Str × Addr)) (fp : List Addr), PE (X.blk s H scope (compEnvC scope cl C X.env) fp) elt te) (hs : ∀ x, foldedSetIterable iter X.env x = pure x := by intro _; rfl) :
    PE X (.ListComp elt [⟨tg, iter, ifs, 0⟩] scope pos) (tLc wi g tt te (own.map (·.2))) := by
  refine ⟨fun pins s σ H Q I h => ?_⟩
  rw [eval_ListComp]
  have hRR : ∀ D C s' m H', Inv X pins σ H' s' → Q (.ref D) H' → s'.heap.Ns C m → FpOk X pins H' C → compPost (model X.prog X.w) X.A X.xe none (EP X pins σ Q) (.ref D) C (.ok .next) s' := fun D C s' m H' I' q hn f => ⟨m, hn, fun h'' sb => by
    obtain ⟨f0, f1, f2, f3, f4, f5⟩ := f
    exact ⟨.ref D, H', I'.turned (t' := s'.toks) (fun b o hb e => (sb.2 b hb).trans e) f0 f1 f3 f4 f5, rfl, q⟩⟩
  have hfree : ∀ y ∈ scope.names, y.2 = .free → ∃ c, X.env.cells.lookup y.1 = some c := fun y hy e => by
    rcases ok.free y hy e with k | k
    · exact I.ok.has _ (.inl k)
    · exact I.ok.has _ (.inr k)
  refine wpAny_comprehension_free (use := none) rfl hs (closure_ok hfree) ok.kind (fun y hy e => by rw [ok.uniq y hy, e])
    (thn (hi.run pins s σ H _ I h) fun xv s1 hx => thn hx fun itv s2 h2 => ?_)
  obtain ⟨it, fp, tn, J, H2, e, I2, T, st2, f2, q⟩ := h2
  subst e
  refine wpAny_newObj_type (newEnv_comp ?_) (by show 0 ≤ sizeLine; decide)
  generalize hD : s2.heap.objs.size = D
  have hDn : H2 D = none := I2.hok.fresh (Nat.le_of_eq hD)
  obtain ⟨W, ⟨m0, w0⟩, turn⟩ := q D hDn
  generalize hs3 : ({ s2 with heap := s2.heap.push { cls := .type "list", data := .seq ([] : List Value).toArray } } : Shared) = s3
  have I3 : Inv X pins σ (upd H2 D (.lst [])) s3 := by
    rw [← hs3]
    refine I2.laid (t' := s2.toks) (fun b o e => Heap.get?_push_of_some _ e) (Nat.le_of_eq hD) ⟨Nat.zero_le _, [], 0, .nil, ?_⟩
    rw [← hD]
    exact Heap.get?_push_size _ rfl
  have h3 : s3.heap = s2.heap.push { cls := .type "list", data := .seq ([] : List Value).toArray } := by rw [← hs3]
  have sz : ∀ b ∈ fp, b < s2.heap.objs.size := fun b hb => by
    obtain ⟨o, e, _⟩ := T.obj _ _ st2 b hb
    exact Heap.lt_size e
  have f3 : ∀ b ∈ fp, FpOk X pins (upd H2 D (.lst [])) b ∧ b < s3.heap.objs.size := fun b hb => by
    have hlt := sz b hb
    refine ⟨⟨?_, (f2 b hb).2⟩, by rw [h3, Heap.size_push]; exact Nat.lt_succ_of_lt hlt⟩
    rw [upd_ne (by rw [← hD]; exact Nat.ne_of_lt hlt)]
    exact (f2 b hb).1
  have st3 : tn 0 s3.heap := T.keep _ _ _ st2 fun b _ o e => by rw [h3]; exact Heap.get?_push_of_some _ e
  have I4 := block_start I3 ok hN f3
  have pg := hg s3 (upd H2 D (.lst [])) s3.heap.objs.size (cellsFrom (s3.heap.objs.size + 1) scope.names (cloFrom X.env.cells scope.names [])) fp
  have pt := ht s3 (upd H2 D (.lst [])) s3.heap.objs.size (cellsFrom (s3.heap.objs.size + 1) scope.names (cloFrom X.env.cells scope.names [])) fp
  have pe := he s3 (upd H2 D (.lst [])) s3.heap.objs.size (cellsFrom (s3.heap.objs.size + 1) scope.names (cloFrom X.env.cells scope.names [])) fp
  show codeAny _ _ (.compStart (.ListComp elt [⟨tg, iter, ifs, 0⟩] scope pos) 0 (.ref it) (.ref D) (compEnvC scope (cellsFrom (s3.heap.objs.size + 1) scope.names (cloFrom X.env.cells scope.names [])) s3.heap.objs.size X.env)) (compPost (model X.prog X.w) X.A X.xe none (EP X pins σ Q) (.ref D) s3.heap.objs.size) { s3 with heap := pushCells (s3.heap.push { cls := .type "dict", data := .dict #[] }) scope.names }
  have nfp : ∀ b ∈ fp, (upd H2 D (.lst [])) b = none := fun b hb => (f3 b hb).1.1
  generalize hce : compEnvC scope (cellsFrom (s3.heap.objs.size + 1) scope.names (cloFrom X.env.cells scope.names [])) s3.heap.objs.size X.env = ce at I4 pg pt pe ⊢
  have cL : ce.locals = s3.heap.objs.size := by subst hce; rfl
  generalize hH3 : upd H2 D (.lst []) = H3 at I3 I4 pg pt pe w0 nfp f3
  generalize hs4 : ({ s3 with heap := pushCells (s3.heap.push { cls := .type "dict", data := .dict #[] }) scope.names } : Shared) = s4 at I4 ⊢
  have st4 : tn 0 s4.heap := T.keep _ _ _ st3 fun b _ o e => by rw [← hs4]; exact pushCells_keeps _ _ _ _ (Heap.get?_push_of_some _ e)
  have stat : ∀ {σ' : L2.St} {H' : Hp} {s' : Shared}, Inv (X.blk s3 H3 scope ce fp) [] σ' H' s' → (∀ b ∈ fp, H' b = none) → ∀ b ∈ fp, FpOk (X.blk s3 H3 scope ce fp) [] H' b := fun {σ' H' s'} I' hn b hb =>
    ⟨hn b hb, (I'.ok.exf b hb).1, I'.ok.exfs b hb, .inl hb, fun x c e => (I'.ok.exf b hb).2 x c e, fun p hp => absurd (show p ∈ ([] : List (Addr × Obj)) ++ [] from hp) (by simp)⟩
  have loop : codeAny (model X.prog X.w) X.A (.compLoop (.ListComp elt [⟨tg, iter, ifs, 0⟩] scope pos) 0 (.ref it) (.ref D) ce) (compPost (model X.prog X.w) X.A X.xe none (EP X pins σ Q) (.ref D) s3.heap.objs.size) s4 := by
    refine compLoop_any (fun n s' => ∃ i H', Inv (X.blk s3 H3 scope ce fp) [] (wipe σ (own.map (·.2))) H' s' ∧ tn i s'.heap ∧ (∀ b ∈ fp, H' b = none) ∧ W i n H') ?_ m0 ⟨0, H3, I4, st4, nfp, w0⟩
    rintro n s5 ⟨i, H5, I5, st5, n5, w5⟩
    rcases turn i n H5 w5 with ⟨stop, qq⟩ | ⟨go, Nx, hNx, step⟩
    · have td := T.done (X.blk s3 H3 scope ce fp) rfl rfl rfl rfl i [] s5 _ H5 (fun _ _ => False) I5 (stat I5 n5) st5 stop
      refine thnF td fun r s6 ⟨hr, I6⟩ => ?_
      subst hr
      have I7 : Inv X pins σ H5 s6 := I3.call' (ch := fp) I6.os I6.base I6.hok I6.bare fun b hb => ⟨(f3 b hb).1.2.2.2.1, (f3 b hb).1.2.1, (f3 b hb).1.2.2.2.2.1, (f3 b hb).1.2.2.2.2.2⟩
      have nC : H5 s3.heap.objs.size = none := by
        have z : H5 ce.locals = none := I6.free
        rw [cL] at z
        exact z
      obtain ⟨m, hn, _⟩ := I6.loc
      have hn : s6.heap.Ns ce.locals m := hn
      rw [cL] at hn
      exact hRR D s3.heap.objs.size s6 m H5 I7 qq hn (I3.fpOk (Nat.le_refl _) nC)
    · have ti := T.item (X.blk s3 H3 scope ce fp) rfl rfl rfl rfl i [] s5 _ H5 (fun _ _ => False) I5 (stat I5 n5) st5 go
      refine thnF ti fun r s6 ⟨u, hr, h6⟩ => ?_
      subst hr
      refine thnF h6 fun _ s7 ⟨x, H7, I7, r7, y7, st7, n7⟩ => ?_
      have I7' := I7.pinned (stat I7 n7) (T.obj _ _ st7)
      refine thnF (pg.run _ s7 _ H7 x u _ I7' r7 (step x H7 y7)) fun _ s8 ⟨σ8, H8, I8, hw8, q8⟩ => ?_
      refine thnF (pt.run _ s8 σ8 H8 _ I8 q8) fun b s9 ⟨H9, I9, q9⟩ => ?_
      have fin : ∀ {s' : Shared} {H' : Hp}, Inv (X.blk s3 H3 scope ce fp) ([] ++ pinsAt fp s7.heap) σ8 H' s' → Nx H' → ∃ m, m < n ∧ ∃ i H', Inv (X.blk s3 H3 scope ce fp) [] (wipe σ (own.map (·.2))) H' s' ∧ tn i s'.heap ∧ (∀ b ∈ fp, H' b = none) ∧ W i m H' := fun {s' H'} I' nx => by
        obtain ⟨m', hm, w'⟩ := hNx H' nx
        have pin' : ∀ b ∈ fp, ∀ o, s7.heap.get? b = some o → s'.heap.get? b = some o ∧ H' b = none := fun b hb o e =>
          let z := I'.pin (b, o) (List.mem_append_right _ (List.mem_append_right _ (mem_pinsAt hb e)))
          ⟨z.1, z.2.1⟩
        have hl : (wipe σ (own.map (·.2))).length = σ8.length := by rw [← hw8, wipe_length]
        refine ⟨m', hm, i + 1, H', (I'.unpinned (pins := [])).weak hl (fun j v e => ?_), T.keep _ _ _ st7 fun b hb o e => (pin' b hb o e).1, fun b hb => ?_, w'⟩
        · rw [← hw8] at e
          exact (wipe_some e).1
        · obtain ⟨o, e, _⟩ := T.obj _ _ st7 b hb
          exact (pin' b hb o e).2
      cases b with
      | false =>
        simp only [Bool.false_eq_true, if_false] at q9 ⊢
        exact fin I9 q9
      | true =>
        simp only [if_true] at q9 ⊢
        refine thnF (pe.run _ s9 σ8 H9 _ I9 q9) fun z s10 ⟨yv, H10, I10, r10, acc, hD10, hz10, nx⟩ => ?_
        exact app_ok (X := X.blk s3 H3 scope ce fp) I10 hD10 hz10 r10 fun s11 I11 => fin I11 nx
  exact codeAny_compStart_list loop (T.self X.A 0 _ _ _ st4 loop)
end
end F2
set_option Elab.async false
set_option linter.all false
set_option maxRecDepth 100000
set_option maxHeartbeats 4000000
namespace F2
open PySem PySem.Spec PyProof.Rows
open L2 RT
theorem nolen_rt : typeLookup (.type "reversed") "__len__" = pure none := by rw [typeLookup_type, builtinLookup_eq_fast]; kernel_rfl
theorem slot_rt_hint : Slot "reversed" "__length_hint__" "reversed.__length_hint__" :=
  .of (owner := "reversed") (n := "__length_hint__") (by rw [typeLookup_type, builtinLookup_eq_fast]; kernel_rfl) (by decide +kernel) (by decide +kernel) (by decide +kernel)
    (by first | exact .inl (by decide +kernel) | exact .inr (by decide +kernel)) (by rw [isSubtype_type]; kernel_rfl)
theorem entry_rt_hint : entryFor table "reversed.__length_hint__" = some Builtin.«reversed.__length_hint__» := entryFor_of_tree (by kernel_rfl)
theorem args_rt_hint (a : Value) : argsOk "reversed.__length_hint__" ⟨[a], []⟩ := by
  unfold argsOk; rw [signature?_of (id := "reversed.__length_hint__") (n := ['_', '_', 't', 'n', 'i', 'h', '_', 'h', 't', 'g', 'n', 'e', 'l', '_', '_']) (o := ['d', 'e', 's', 'r', 'e', 'v', 'e', 'r']) (by kernel_rfl) owner_rt]; kernel_rfl
section
variable {prog : Program} {w : World} {A : Around} {E : Value → Shared → Prop} {s : Shared}
theorem Walks.rt (hh : A.handled = none) (I t : Addr) (hne : t ≠ I) (items : Array Value) (hsz : items.size ≤ sizeLine) :
    Walks prog w A I [I, t] [I] items.size (fun i v => items[items.size - 1 - i]? = some v) (fun i h => i ≤ items.size ∧ IsRt h I t ((items.size : Int) - 1 - (i : Int)) ∧ IsTup h t items) where
  sub := fun b hb => by simp at hb; simp [hb]
  frame := fun _ _ _ x hk => ⟨x.1, x.2.1.at fun o e => hk I (by simp) o e, let ⟨o, ho, r⟩ := x.2.2; ⟨o, hk t (by simp) o ho, r⟩⟩
  item := fun i s Q E hi x hQ => by
    have e : (items.size : Int) - 1 - (i : Int) = ((items.size - 1 - i : Nat) : Int) := by omega
    have hit := x.2.1
    rw [e] at hit
    have hx : items[items.size - 1 - i]? = some (items[items.size - 1 - i]'(by omega)) := Array.getElem?_eq_getElem (by omega)
    refine next_rt_item hit x.2.2 hx hsz fun h' hit' hs' => ?_
    have e2 : ((items.size - 1 - i : Nat) : Int) - 1 = (items.size : Int) - 1 - ((i + 1 : Nat) : Int) := by omega
    rw [e2] at hit'
    exact hQ _ h' (s.toks + 1) hx ⟨hi, hit', let ⟨o, ho, r⟩ := x.2.2; ⟨o, (hs'.2 t hne).trans ho, r⟩⟩ fun b o hb eo => hs'.extBut b o (fun h => hb (by simp [h])) eo
  done := fun s Q E x hQ => by
    have e : (items.size : Int) - 1 - (items.size : Int) = -1 := by omega
    have hit := x.2.1
    rw [e] at hit
    exact next_rt_end hh hit fun h' he' => hQ h' s.toks fun b o hb eo => he' b o (fun h => hb (by simp [h])) eo
  self := fun _ _ _ _ x hQ => iter_rt x.2.1 hQ
theorem hint_rt {it t : Addr} {items : Array Value} {Q : Bool → Shared → Prop} (hit : IsRt s.heap it t ((items.size : Int) - 1)) (ht : IsTup s.heap t items) (hsz : items.size ≤ sizeLine)
    (hQ : ∀ b tk, Q b { s with toks := tk }) : wpAny (model prog w) A (Builtin.List.listLengthHint (.ref it)) Q E s := by
  have hz := hsz
  rw [sizeLine_eq] at hz
  have hT : s.TypeIs (.ref it) "reversed" := IsRt.typeIs hit
  obtain ⟨o, ho, hc, hd⟩ := id hit
  unfold Builtin.List.listLengthHint
  refine wpAny_bind (wpAny_specialOf hT nolen_rt ?_)
  show wpAny _ A (specialOf (Value.ref it) (Str.ofString "__length_hint__") >>= _) _ _ _
  refine wpAny_bind (wpAny_specialOf hT slot_rt_hint.lookup ?_)
  generalize hid : ("reversed.__length_hint__" : String) = id0
  wp_delta
  rw [show splitId id0 = some ("reversed", "__length_hint__") from by subst hid; decide +kernel]
  subst hid
  refine wpAny_bind (wpAny_isInstance (b := true) hT (by rw [isSubtype_type]; kernel_rfl) ?_)
  rw [if_neg (by decide)]
  dsimp only
  rw [if_neg (by decide +kernel)]
  refine wpAny_bind (wpAny_rule ?_)
  rw [slot_rt_hint.bind]
  refine wpAny_bind (wpAny_pure ?_)
  dsimp only
  refine wpAny_bind (wpAny_attempt (wpAny_call_entry slot_rt_hint hT entry_rt_hint ?_ (args_rt_hint _)))
  unfold Builtin.«reversed.__length_hint__»
  refine wpAny_bind (wpAny_of_eq (a := Value.ref it) rfl ?_)
  try dsimp only
  refine wpAny_bind (wpAny_field ho hd (x := .ref t) rfl ?_)
  show wpAny _ _ (if (Value.ref t == Value.none) = true then _ else _) _ _ s
  rw [if_neg (by intro z; cases z)]
  try dsimp only
  refine wpAny_bind (PyProof.Rows.len_tuple ht (by omega) ?_)
  refine wpAny_bind (wpAny_of_eq (a := some ((items.size : Nat) : Int)) rfl ?_)
  try dsimp only
  refine wpAny_bind (wpAny_field ho hd (x := rawInt ((items.size : Int) - 1)) rfl ?_)
  show wpAny _ _ (if ((items.size : Nat) : Int) < ((items.size : Int) - 1) + 1 then _ else retInt (((items.size : Int) - 1) + 1)) _ _ _
  rw [if_neg (by omega), show ((items.size : Int) - 1) + 1 = ((items.size : Nat) : Int) by omega]
  unfold retInt
  refine wpAny_bind (wpAny_mkInt ?_)
  refine wpAny_pure ⟨_, rfl, ?_⟩
  try dsimp only
  have ea : asInt? (Value.int ((items.size : Nat) : Int) (s.toks + 1 + 1)) = pure (some ((items.size : Nat) : Int)) := rfl
  rw [ea]
  refine wpAny_bind ?_
  refine wpAny_pure ?_
  show wpAny _ _ (if (!Builtin.List.listFitsIndex ((items.size : Nat) : Int)) = true then _ else _) _ _ _
  have f1 : Builtin.List.listFitsIndex ((items.size : Nat) : Int) = true := by
    unfold Builtin.List.listFitsIndex
    rw [Bool.and_eq_true, decide_eq_true_eq, decide_eq_true_eq]
    omega
  have f2 : Builtin.List.listTooLong (((items.size : Nat) : Int)).toNat = false := by
    unfold Builtin.List.listTooLong
    rw [Int.toNat_natCast]
    exact decide_eq_false (by omega)
  rw [if_neg (show ¬ ((!Builtin.List.listFitsIndex ((items.size : Nat) : Int)) = true) by rw [f1]; exact Bool.false_ne_true), if_neg (show ¬ (((items.size : Nat) : Int) < 0) by omega), if_neg (show ¬ (Builtin.List.listTooLong (((items.size : Nat) : Int)).toNat = true) by rw [f2]; exact Bool.false_ne_true)]
  exact wpAny_pure (hQ _ _)
theorem collect_rt {it t : Addr} {items : Array Value} {Q : List Value → Shared → Prop} (hh : A.handled = none) (hit : IsRt s.heap it t ((items.size : Int) - 1)) (hl : IsTup s.heap t items) (hne : t ≠ it) (hn : items.size ≤ sizeLine)
    (hQ : ∀ (h' : Heap) (tk : Nat) (acc : Array Value), (∀ b o, b ≠ it → s.heap.get? b = some o → h'.get? b = some o) → ItemsOf (fun i v => items[items.size - 1 - i]? = some v) acc items.size → Q acc.toList { s with heap := h', toks := tk }) :
    wpAny (model prog w) A (collect (.ref it)) Q E s := by
  have W := (Walks.rt (prog := prog) (w := w) (A := A.in1) hh it t hne items hn).toS
  obtain ⟨oi, hoi, _⟩ := id hit
  obtain ⟨ol, hol, _⟩ := id hl
  have hSi : s.heap.objs.size ≠ it := Nat.ne_of_gt (Heap.lt_size hoi)
  have hSl : s.heap.objs.size ≠ t := Nat.ne_of_gt (Heap.lt_size hol)
  have hSf : s.heap.objs.size ∉ [it, t] := by simp only [List.mem_cons, List.not_mem_nil, or_false, not_or]; exact ⟨hSi, hSl⟩
  unfold collect
  refine wpAny_bind (wpAny_runValue (codeAny_builtin F.entry_proto_collect ?_))
  rw [Around.under_plainId F.plain_proto_collect _]
  show wpAny _ A.in1 (newList [] >>= fun l' => again (.builtin "list.__iadd__" ⟨[l', .ref it], []⟩)) _ _ s
  refine wpAny_bind (wpAny_newObj_type ?_)
  refine wpAny_pure ⟨plainId_quiet F.plain_list_iadd _, codeAny_builtin F.entry_list_iadd ?_⟩
  rw [Around.under_plainId F.plain_list_iadd _]
  have hS₁ : (s.heap.push { cls := .type "list", data := .seq ([] : List Value).toArray }).get? s.heap.objs.size = some { cls := .type "list", data := .seq ([] : List Value).toArray } := Heap.get?_push_size _ rfl
  have hit1 : IsRt (s.heap.push { cls := .type "list", data := .seq ([] : List Value).toArray }) it t ((items.size : Int) - 1) := hit.at fun o e => Heap.get?_push_of_some _ e
  have hl1 : IsTup (s.heap.push { cls := .type "list", data := .seq ([] : List Value).toArray }) t items := hl.push _
  have hT : ({ s with heap := s.heap.push { cls := .type "list", data := .seq ([] : List Value).toArray } } : Shared).TypeIs (.ref it) "reversed" := IsRt.typeIs (s := { s with heap := s.heap.push { cls := .type "list", data := .seq ([] : List Value).toArray } }) hit1
  have h1 : Builtin.List.listSameRef (.ref s.heap.objs.size) (.ref it) = false := by simp [Builtin.List.listSameRef, hSi]
  show wpAny _ A.in1 (Builtin.List.listExtendWith (.ref s.heap.objs.size) (.ref it) (.ref s.heap.objs.size)) _ _ _
  unfold Builtin.List.listExtendWith
  refine wpAny_bind (wpAny_typeOf hT ?_)
  rw [if_neg (by rw [h1]; decide)]
  refine wpAny_bind (iter_rt (s := { s with heap := s.heap.push { cls := .type "list", data := .seq ([] : List Value).toArray } }) hit1 ?_)
  refine wpAny_bind (wpAny_holding ?_)
  refine hint_rt (s := { s with heap := s.heap.push { cls := .type "list", data := .seq ([] : List Value).toArray } }) hit1 hl1 hn fun b tk => ?_
  have e0 : ((items.size : Nat) : Int) - 1 - ((0 : Nat) : Int) = (items.size : Int) - 1 := by omega
  have fin : ∀ (h1 : Heap) (a0 : Array Value) (c : Nat), a0 = #[] → h1.get? s.heap.objs.size = some { cls := .type "list", dict := none, data := .seq a0 c, slots := #[] } → (∀ b o, b ≠ s.heap.objs.size → (s.heap.push { cls := .type "list", data := .seq ([] : List Value).toArray }).get? b = some o → h1.get? b = some o) →
      codeAny (model prog w) A (.builtin "list.extend.loop" ⟨[.ref s.heap.objs.size, .ref it, .ref s.heap.objs.size], []⟩) (fun r s' => match r with
        | Except.ok (Flow.ret v) => wpAny (model prog w) A (match v with
            | Value.ref a => do
              let o ← load a
              match o.data with
                | Data.seq xs _ => pure xs.toList
                | _ => unsupported "internal:collect"
            | _ => unsupported "internal:collect") Q E s'
        | Except.ok _ => False
        | Except.error e => E e s') { s with heap := h1, toks := tk } := by
    intro h1 a0 c ea hS oth
    subst ea
    refine codeAny_extend_loopS W hn _ hSf _ items.size 0 _ _ _ rfl (Nat.zero_le _) ⟨Nat.zero_le _, by rw [e0]; exact hit1.at fun o e => oth _ _ (Ne.symm hSi) e, let ⟨o, ho, r⟩ := hl1; ⟨o, oth _ _ (Ne.symm hSl) ho, r⟩⟩ hS (ItemsOf.nil _) fun s' acc' c' hm hS' hacc => ?_
    show wpAny _ A (load s.heap.objs.size >>= _) _ _ s'
    refine wpAny_bind (wpAny_load hS' ?_)
    refine wpAny_pure ?_
    rw [Moved.eq_with hm]
    refine hQ s'.heap s'.toks acc' (fun b o hb e => hm.heap b o (fun hmem => ?_) (oth b o (fun z => by rw [z] at e; exact absurd (Heap.lt_size e) (Nat.lt_irrefl _)) (Heap.get?_push_of_some _ e))) hacc
    rcases List.mem_cons.mp hmem with e' | hmem
    · exact absurd (Heap.lt_size e) (by rw [e']; exact Nat.lt_irrefl _)
    · exact hb (List.mem_singleton.mp hmem)
  cases b with
  | false =>
    rw [if_neg (by decide +kernel)]
    exact wpAny_pure ⟨plainId_quiet F.plain_extend_loop _, fin _ _ _ rfl hS₁ fun b o hb e => e⟩
  | true =>
    rw [if_pos (by rfl)]
    refine wpAny_bind (wpAny_rule ?_)
    refine wpAny_bind ?_
    show wpAny _ A.in1 (updateSeq s.heap.objs.size (·.push .none) >>= fun _ => updateSeq s.heap.objs.size (·.pop)) _ _ _
    refine wpAny_bind (wpAny_updateSeq hS₁ rfl ?_)
    have hS₂ := Heap.get?_update_self (Obj.mapSeq (·.push Value.none)) hS₁ rfl
    refine wpAny_updateSeq hS₂ rfl ?_
    have hS₃ := Heap.get?_update_self (Obj.mapSeq (·.pop)) hS₂ rfl
    exact wpAny_pure ⟨plainId_quiet F.plain_extend_loop _, fin _ _ _ rfl hS₃ fun b o hb e => (Heap.get?_update_other _ _ (Ne.symm hb)).trans ((Heap.get?_update_other _ _ (Ne.symm hb)).trans e)⟩
theorem code_tuple_new_rt {it t : Addr} {items : Array Value} {Q₁ : Value → Shared → Prop} (hh : A.handled = none) (hit : IsRt s.heap it t ((items.size : Int) - 1)) (hl : IsTup s.heap t items) (hne : t ≠ it) (hn : items.size ≤ sizeLine)
    (h : ∀ (h' : Heap) (tk : Nat) (acc : Array Value), (∀ b o, b ≠ it → s.heap.get? b = some o → h'.get? b = some o) → ItemsOf (fun i v => items[items.size - 1 - i]? = some v) acc items.size →
      Q₁ (.ref h'.objs.size) { s with heap := h'.push { cls := .type "tuple", data := .seq acc }, toks := tk }) :
    codeAny (model prog w) A (.call (.builtin "tuple.__new__") ⟨[.type "tuple", .ref it], []⟩) (wants Q₁ E) s := by
  refine codeAny_of_tree ?_
  show wpAny _ A.in1 (do checkBuiltinCall "tuple.__new__" ⟨[.type "tuple", .ref it], []⟩; again (.builtin "tuple.__new__" ⟨[.type "tuple", .ref it], []⟩)) _ _ s
  refine wpAny_bind (wpAny_of_eq (F.newCall_tuple_1 _) (wpAny_pure ⟨plainId_quiet F.plain_tuple_new _, codeAny_builtin F.entry_tuple_new ?_⟩))
  rw [Around.under_plainId F.plain_tuple_new _]
  have hsub := sub_tuple_self
  have hinit := init_tuple_lookup
  have hmh := madeHere_tuple
  have hTI : s.TypeIs (.ref it) "reversed" := IsRt.typeIs hit
  have hh1 : A.in1.handled = none := hh
  wp_walk using wpAny_typeOf hTI, collect_rt (A := A.in1) hh1 hit hl hne hn
  intro h' tk acc hk hacc
  show wpAny _ _ (Builtin.Tuple.tupleExact acc.toList.toArray >>= fun v => ret v) _ _ _
  unfold Builtin.Tuple.tupleExact
  refine wpAny_bind (wpAny_newObj_type ?_ (by show acc.toList.toArray.size ≤ sizeLine; simp only [Array.toArray_toList]; rw [hacc.1]; exact hn))
  refine wpAny_pure ?_
  have e : acc.toList.toArray = acc := by simp
  rw [e]
  exact h h' tk acc hk hacc
theorem call_tuple_rt {it t : Addr} {items : Array Value} {Q : Value → Shared → Prop} (hh : A.handled = none) (hit : IsRt s.heap it t ((items.size : Int) - 1)) (hl : IsTup s.heap t items) (hne : t ≠ it) (hn : items.size ≤ sizeLine)
    (hQ : ∀ (h' : Heap) (tk : Nat) (acc : Array Value), (∀ b o, b ≠ it → s.heap.get? b = some o → h'.get? b = some o) → ItemsOf (fun i v => items[items.size - 1 - i]? = some v) acc items.size →
      Q (.ref h'.objs.size) { s with heap := h'.push { cls := .type "tuple", data := .seq acc }, toks := tk }) :
    wpAny (model prog w) A (call (.type "tuple") [.ref it]) Q E s := by
  refine callType_codes (Q₁ := fun obj s₁ => s₁.TypeIs obj "tuple" ∧ Q obj s₁) F.called_tuple (F.typeCall_tuple_1 _) F.entry_object_init
    (code_tuple_new_rt (A := A.in1) hh hit hl hne hn fun h' tk acc hk hacc => ⟨⟨_, Heap.get?_push_size _ rfl, rfl⟩, hQ h' tk acc hk hacc⟩) fun obj s₁ h₁ => ?_
  exact ⟨h₁.1, F.args_object_init_2 obj _, object_init_meets F.called_tuple.init.lookup F.called_tuple.made (by decide) prog w A.in1 _ s₁ ⟨h₁.1, rfl, h₁.2⟩⟩
end
section
variable {X : Cx}
theorem tup_revT {e : Expr} {te : TE} {p p2 pos pos2 : Pos} (hc : X.calm = true) (hg : Gl X "tuple") (hm : X.mg "tuple" = none) (hg2 : Gl X "reversed") (hm2 : X.mg "reversed" = none) (he : PE X e te)
    (na : starEach [e] X.env = (false, eval e X.env) :: starEach [] X.env) :
    PE X (.Call (.Name "tuple" p) [.Call (.Name "reversed" p2) [e] [] pos2] [] pos) (fun σ H Q => te σ H fun v H1 => ∃ a xs, v = .ref a ∧ SqT X.K H1 a xs ∧ newS xs.reverse H1 Q) := by
  have na2 : starEach [.Call (.Name "reversed" p2) [e] [] pos2] X.env = (false, eval (.Call (.Name "reversed" p2) [e] [] pos2) X.env) :: starEach [] X.env := rfl
  refine ⟨fun pins s σ H Q I h => Call_ (ld_blt I hg hm boot_tuple (PyProof.Rows.callWith_type1 (args_cons (Call_ (ld_blt I hg2 hm2 PyProof.Rows.boot_reversed (PyProof.Rows.callWith_type1 (args_cons (thn (he.run pins s σ H _ I h) fun u s1 ⟨v, H1, I1, r1, q1⟩ => args_nil ?_) na) na rfl))) na2) na2 rfl))⟩
  obtain ⟨a, xs, ev, hq, q⟩ := q1
  subst ev
  obtain rfl : u = Value.ref a := r1
  obtain ⟨us, rv, pl, hz⟩ := I1.tuple hq
  have hz2 := hz
  have hzs : us.toArray.size ≤ sizeLine := by rw [List.size_toArray, ← rv.length]; exact hz
  refine call_reversed_tup pl (fun A E Q k => PyProof.Rows.len_tuple pl (by have := hzs; rw [sizeLine_eq] at this; omega) k) (args_nil ?_)
  have J2 : Inv X pins σ H1 { s1 with heap := s1.heap.push (rtObj a ((us.toArray.size : Int) - 1)), toks := s1.toks + 1 + 1 } := I1.kept (t' := s1.toks + 1 + 1) fun b o e => Heap.get?_push_of_some _ e
  obtain ⟨f0, f1, _, f3, f4, f5⟩ := I1.fpOk (H' := H1) (b := s1.heap.objs.size) (Nat.le_refl _) (I1.hok.fresh (Nat.le_refl _))
  obtain ⟨ol, hol, _⟩ := id pl
  refine call_tuple_rt (s := { s1 with heap := s1.heap.push (rtObj a ((us.toArray.size : Int) - 1)), toks := s1.toks + 1 + 1 }) (I1.ok.hd hc) ⟨_, Heap.get?_push_size _ rfl, rfl, rfl⟩ (pl.push _) (Nat.ne_of_lt (Heap.lt_size hol)) hzs fun h' tk acc hk hi => ?_
  have J3 : Inv X pins σ H1 { s1 with heap := h', toks := tk } := J2.turned (t' := tk) (fun b o hb e => hk b o hb e) f0 f1 f3 f4 f5
  have := laidS (tk := tk) J3 (vals_rev rv hi) (by rw [List.length_reverse]; exact hz) q
  rw [Array.toArray_toList] at this
  exact this
end
section
variable {prog : Program} {w : World} {A : Around} {E : Value → Shared → Prop} {s : Shared}
def b2i (b : Bool) : Int := if b = true then 1 else 0
theorem listPart_bool {M : Model} {b : Bool} {Q : Value → Shared → Prop} (h : Q (rawPart (some (b2i b))) s) : wpAny M A (listPart (.bool b)) Q E s := by
  unfold listPart
  rw [if_neg (show ¬ ((Value.bool b == Value.none) = true) from Bool.false_ne_true)]
  refine wpAny_bind (wpAny_specialOf (T := "bool") (PySem.typeIs_bool s b) PySem.F.slot_bool_index.lookup ?_)
  simp only [Option.isNone_some, Bool.false_eq_true, if_false]
  exact wpAny_bind (wpAny_of_eq (a := b2i b) (by cases b <;> rfl) (wpAny_pure h))
theorem getItem_list_sliceB {l sl : Addr} {items : Array Value} {b : Bool} {Q : Value → Shared → Prop} (hl : s.heap.IsList l items)
    (hs : s.heap.IsSliceOf sl (.bool b) .none .none)
    (h : Q (.ref s.heap.objs.size) { s with heap := s.heap.push { cls := .type "list", data := .seq (slicePick items (some (b2i b)) none none) } })
    (hsz : items.size ≤ sizeLine) : wpAny (model prog w) A (getItem (.ref l) (.ref sl)) Q E s := by
  obtain ⟨o, ho, hc, ne, hd⟩ := id hl
  obtain ⟨os, hos, hcs, hds⟩ := id hs
  have hTs : s.TypeIs (.ref sl) "slice" := ⟨os, hos, hcs⟩
  unfold getItem
  try with_reducible refine wpAny_holding ?_
  first | refine wpAny_bind (wpAny_pure ?_) | skip
  refine wpAny_bind (wpAny_sequenceKey hl.typeIs (by decide) ?_)
  refine wpAny_bind (wpAny_callSpecial?_slot (name := Str.ofString "__getitem__") hl.typeIs slot_list_getitem
    (wpAny_call_entry slot_list_getitem hl.typeIs entry_list_getitem ?_ (args_list_getitem _ _)))
  show wpAny _ _ (Builtin.List.listSubscript? (.ref sl) >>= _) _ _ s
  refine wpAny_bind ?_
  · unfold Builtin.List.listSubscript?
    refine wpAny_bind (wpAny_specialOf hTs slice_no_index ?_)
    simp only [Option.isNone_none, if_true]
    refine wpAny_pure ?_
    show wpAny _ _ (typeOf (.ref sl) >>= _) _ _ s
    refine wpAny_bind (wpAny_typeOf hTs ?_)
    rw [if_neg (by decide)]
    rw [listSliceParts_eq]
    have hstep : ¬ ((rawPart none == rawInt 0) = true) := Bool.false_ne_true
    refine wpAny_bind (wpAny_bind (wpAny_field hos hds (x := .none) rfl (wpAny_bind (wpAny_listPart .none ?_))))
    rw [if_neg hstep]
    refine wpAny_bind (wpAny_field hos hds (x := .bool b) rfl (wpAny_bind (listPart_bool ?_)))
    refine wpAny_bind (wpAny_field hos hds (x := .none) rfl (wpAny_bind (wpAny_listPart .none (wpAny_pure ?_))))
    refine wpAny_bind (m := Builtin.List.listItems (.ref l)) ?_
    · unfold Builtin.List.listItems
      refine wpAny_bind (wpAny_seqItems ho hd (wpAny_pure ?_))
      refine wpAny_bind (wpAny_of_eq (sliceIndices_raw (some (b2i b)) none none items.size (by simp)) ?_)
      refine wpAny_bind (wpAny_newObj_type (wpAny_pure ⟨_, rfl, wpAny_pure h⟩) (Nat.le_trans (slicePick_size_le items (some (b2i b)) none none) hsz))
end
theorem range_get {α : Type} : ∀ xs : List α, (List.range xs.length).filterMap (xs[·]?) = xs
  | [] => rfl
  | a :: t => by
    rw [List.length_cons, List.range_succ_eq_map, List.filterMap_cons, List.filterMap_map]
    have ih := range_get t
    have e : ((fun x => (a :: t)[x]?) ∘ Nat.succ) = fun x => t[x]? := by funext x; simp
    rw [e, ih]
    rfl
def cutB {α : Type} (b : Bool) (xs : List α) : List α := if b = true then xs.drop 1 else xs
theorem pickB_eq {α : Type} {b : Bool} {xs : List α} : pickA xs (some (b2i b)) 1 = cutB b xs := by
  unfold pickA
  cases b with
  | false =>
    have e : sliceBounds (some (b2i false)) none (some 1) xs.length = (((0 : Nat) : Int), ((xs.length : Nat) : Int), 1) := by
      unfold sliceBounds b2i
      simp
      omega
    rw [e]
    show List.filterMap _ (sliceRange ((0 : Nat) : Int) ((xs.length : Nat) : Int) 1) = xs
    rw [sliceRange_one, List.filterMap_map]
    have e2 : ((fun x => xs[x]?) ∘ fun x => 0 + x) = fun x => xs[x]? := by funext x; simp
    rw [e2, Nat.sub_zero, range_get]
  | true =>
    cases xs with
    | nil => rfl
    | cons a t =>
      have e : sliceBounds (some (b2i true)) none (some 1) (a :: t).length = (((1 : Nat) : Int), (((a :: t).length : Nat) : Int), 1) := by
        unfold sliceBounds b2i
        simp
        omega
      rw [e]
      show List.filterMap _ (sliceRange ((1 : Nat) : Int) (((a :: t).length : Nat) : Int) 1) = t
      rw [sliceRange_one, List.filterMap_map]
      have e2 : ((fun x => (a :: t)[x]?) ∘ fun x => 1 + x) = fun x => t[x]? := by
        funext x
        show (a :: t)[1 + x]? = t[x]?
        rw [Nat.add_comm, List.getElem?_cons_succ]
      rw [e2, List.length_cons, Nat.add_sub_cancel, range_get]
def tSlB (K : PySem.W.Frag) (te tm : TE) : TE := fun σ H Q => te σ H fun x H1 => tm σ H1 fun m H2 => ∃ a xs b, x = .ref a ∧ m = .bl b ∧ SqL K H2 a xs ∧ ∀ p, H2 p = none → Q (.ref p) (upd H2 p (.lst (cutB b xs)))
theorem pe_slB {X : Cx} {e m : Expr} {te tm : TE} {p2 pos : Pos} (he : PE X e te) (hm : PE X m tm) : PE X (.Subscript e (.Slice (some m) none none p2) pos) (tSlB X.K te tm) := by
  refine ⟨fun pins s σ H Q I h => ?_⟩
  refine Subscript_ (thn (he.run pins s σ H _ I h) fun v s1 ⟨x, H1, I1, r1, q1⟩ => ?_)
  refine wpAny_Slice ?_
  rw [evalPart_some]
  refine thn (hm.run pins s1 σ H1 _ I1 q1) fun u s3 ⟨y, H3, I3, r3, a, xs, b, ex, ey, hs, q3⟩ => ?_
  rw [evalPart_none]
  refine wpAny_pure ?_
  refine wpAny_pure ?_
  subst ex; subst ey
  cases r3
  cases r1
  have I4 : Inv X pins σ H3 { s3 with heap := s3.heap.push { cls := .type "slice", data := .fields #[.bool b, .none, .none] } } := I3.kept (t' := s3.toks) fun b ob q => Heap.get?_push_of_some _ q
  obtain ⟨its, r, ht, hz⟩ := I4.list hs
  have hlen := r.length
  show wpAny (model X.prog X.w) X.A (subscriptTail e (.Slice (some m) none none p2) (.ref a) (.ref s3.heap.objs.size)) (EP X pins σ Q) X.xe { s3 with heap := s3.heap.push { cls := .type "slice", data := .fields #[.bool b, .none, .none] } }
  refine tail_any (ops := [.ref s3.heap.objs.size, .ref a]) ht.isList.typeIs (PySem.slot_list_getitem.lookup) ?_ (by cases m <;> rfl)
  have sz : its.toArray.size ≤ sizeLine := by rw [List.size_toArray]; omega
  refine getItem_list_sliceB ht.isList (Heap.IsSliceOf.new _ (.bool b) .none .none) ?_ sz
  have e1 : (slicePick its.toArray (some (b2i b)) none none).toList = (sliceRange (sliceBounds (some (b2i b)) none (some 1) xs.length).1 (sliceBounds (some (b2i b)) none (some 1) xs.length).2.1 (sliceBounds (some (b2i b)) none (some 1) xs.length).2.2).filterMap (its.toArray[·]?) := by
    unfold slicePick
    rw [List.size_toArray, ← hlen]
    rfl
  have rp : Vals (pickA xs (some (b2i b)) 1) (slicePick its.toArray (some (b2i b)) none none).toList := by rw [e1]; exact vals_pick r _
  rw [pickB_eq] at rp
  refine ⟨.ref _, _, I4.laid (t' := s3.toks) (o := .lst (cutB b xs)) (fun b ob q => Heap.get?_push_of_some _ q) (Nat.le_refl _) ?_, rfl, q3 _ (I4.hok.fresh (Nat.le_refl _))⟩
  refine ⟨?_, _, 0, rp, ?_⟩
  · rw [rp.length, Array.length_toList]
    exact Nat.le_trans (slicePick_size_le _ _ _ _) sz
  · rw [Array.toArray_toList]; exact Heap.get?_push_size _ rfl
end F2
set_option Elab.async false
set_option linter.all false
set_option maxRecDepth 100000
set_option maxHeartbeats 1000000
namespace F2
open PySem PySem.Spec PyProof.Rows
open L2
inductive Va where
  | non | bl (b : Bool) | int (i : Int) | str (x : Str) | tup (xs : List Va) | fls (xs : List Va) | ref (a : Addr)
inductive Ob where
  | lst (xs : List Va) | dk (kvs : List (Key × Va)) | st (S : Int → Bool) (n : Nat) | ins (C : Str) (fs : List (Str × Va)) | err (C : Str) | fdk (kvs : List (Key × Va))
abbrev Ah := Addr → Option Ob
def put (h : Ah) (a : Addr) (o : Ob) : Ah := fun b => if b = a then some o else h b
theorem put_same {h : Ah} {a : Addr} {o : Ob} : put h a o a = some o := if_pos rfl
theorem put_ne {h : Ah} {a b : Addr} {o : Ob} (n : b ≠ a) : put h a o b = h b := if_neg n
abbrev Sa := List (Option Va)
structure Gx where
  K : PySem.W.Frag
  CA : Str → Addr
  hot : Option Addr
  T : List (Addr × Str)
abbrev gx (K : PySem.W.Frag) (CA : Str → Addr) : Gx := ⟨K, CA, none, []⟩
abbrev Gx.h (g : Gx) (a : Addr) : Gx := ⟨g.K, g.CA, some a, g.T⟩
structure GI (g : Gx) (H : Hp) : Prop where
  h : ∀ a, g.hot = some a → ∃ cls, H a = some (ErO cls a)
  t : LamX.Tabs g.T H
def FrzL (K : PySem.W.Frag) (H : Hp) (a : Addr) (xs : List V) : Prop :=
  (∃ o, H a = some (.frz o (.lst xs))) ∨
    ∃ (o : Obj) (its : Array Value) (n : Nat), K.lookup a = some o ∧ o.cls = .type "list" ∧ o.dict = none ∧ o.data = .seq its n ∧ its.size ≤ sizeLine ∧ Vals xs its.toList
theorem FrzL.sq {K : PySem.W.Frag} {H : Hp} {a : Addr} {xs : List V} (h : FrzL K H a xs) : SqL K H a xs := by
  rcases h with ⟨o, h⟩ | h
  · exact .inl (.inr ⟨o, h⟩)
  · exact .inr h
mutual
inductive RV (g : Gx) (H : Hp) : Va → V → Prop
  | non : RV g H .non .non
  | bl (b : Bool) : RV g H (.bl b) (.bl b)
  | int (i : Int) : RV g H (.int i) (.int i)
  | str (x : Str) : RV g H (.str x) (.str x)
  | ref (a : Addr) : RV g H (.ref a) (.ref a)
  | tup {p : Addr} {xs : List Va} {ys : List V} : TupS H p ys → RVs g H xs ys → RV g H (.tup xs) (.ref p)
  | fls {p : Addr} {xs : List Va} {ys : List V} : FrzL g.K H p ys → RVs g H xs ys → RV g H (.fls xs) (.ref p)
inductive RVs (g : Gx) (H : Hp) : List Va → List V → Prop
  | nil : RVs g H [] []
  | cons {v : Va} {y : V} {vs : List Va} {ys : List V} : RV g H v y → RVs g H vs ys → RVs g H (v :: vs) (y :: ys)
end
structure Ext (H H' : Hp) : Prop where
  t : ∀ b xs, H b = some (.tup xs) → H' b = some (.tup xs)
  f : ∀ b o u, H b = some (.frz o u) → H' b = some (.frz o u)
theorem Ext.refl {H : Hp} : Ext H H := ⟨fun _ _ h => h, fun _ _ _ h => h⟩
theorem Ext.trans {H H' H2 : Hp} (a : Ext H H') (b : Ext H' H2) : Ext H H2 := ⟨fun c xs h => b.t c xs (a.t c xs h), fun c o u h => b.f c o u (a.f c o u h)⟩
def Mt (H : Hp) (p : Addr) : Prop := ((∀ xs, H p ≠ some (.tup xs)) ∧ ∀ o u, H p ≠ some (.frz o u)) ∧ (∀ φ, H p ≠ some (.ext φ)) ∧ ∀ ps, H p ≠ some (.tbl ps)
theorem Mt.none {H : Hp} {p : Addr} (h : H p = none) : Mt H p := ⟨⟨fun _ e => (by rw [h] at e; cases e), fun _ _ e => (by rw [h] at e; cases e)⟩, fun _ e => (by rw [h] at e; cases e), fun _ e => (by rw [h] at e; cases e)⟩
theorem Mt.lst {H : Hp} {p : Addr} {xs : List V} (h : H p = some (.lst xs)) : Mt H p := ⟨⟨fun _ e => (by rw [h] at e; cases e), fun _ _ e => (by rw [h] at e; cases e)⟩, fun _ e => (by rw [h] at e; cases e), fun _ e => (by rw [h] at e; cases e)⟩
theorem Mt.dk {H : Hp} {p : Addr} {xs : List (Key × V)} (h : H p = some (.dK xs)) : Mt H p := ⟨⟨fun _ e => (by rw [h] at e; cases e), fun _ _ e => (by rw [h] at e; cases e)⟩, fun _ e => (by rw [h] at e; cases e), fun _ e => (by rw [h] at e; cases e)⟩
theorem Mt.ins {H : Hp} {p C dx : Addr} {fs : List (Str × V)} (h : H p = some (.ins C dx fs)) : Mt H p := ⟨⟨fun _ e => (by rw [h] at e; cases e), fun _ _ e => (by rw [h] at e; cases e)⟩, fun _ e => (by rw [h] at e; cases e), fun _ e => (by rw [h] at e; cases e)⟩
theorem Ext.upd {H : Hp} {p : Addr} {o : HO} (m : Mt H p) : Ext H (L2.upd H p o) :=
  ⟨fun b xs h => (by rw [upd_ne (show b ≠ p from fun e => m.1.1 xs (e ▸ h))]; exact h), fun b o u h => (by rw [upd_ne (show b ≠ p from fun e => m.1.2 o u (e ▸ h))]; exact h)⟩
theorem GI.upd {g : Gx} {H : Hp} {p : Addr} {u : HO} (i : GI g H) (m : (∀ φ, H p ≠ some (.ext φ)) ∧ ∀ ps, H p ≠ some (.tbl ps)) : GI g (L2.upd H p u) := by
  refine ⟨fun a e => ?_, fun q hq => ?_⟩
  · obtain ⟨cls, z⟩ := i.h a e
    exact ⟨cls, by rw [upd_ne (show a ≠ p from fun e => m.1 _ (e ▸ z))]; exact z⟩
  · obtain ⟨ps, h1, h2, h3⟩ := i.t q hq
    refine ⟨ps, by rw [upd_ne (show q.1 ≠ p from fun e => m.2 _ (e ▸ h1))]; exact h1, h2, fun pos cv hc => ?_⟩
    obtain ⟨c, e1, e2⟩ := h3 pos cv hc
    exact ⟨c, e1, by rw [upd_ne (show c ≠ p from fun e => m.1 _ (e ▸ e2))]; exact e2⟩
theorem GI.none {K : PySem.W.Frag} {CA : Str → Addr} {H : Hp} : GI (gx K CA) H := ⟨fun _ e => (nomatch e), fun _ e => (nomatch e)⟩
theorem GI.calm {g : Gx} {H : Hp} (i : LamX.Tabs g.T H) (e : g.hot = .none) : GI g H := ⟨fun _ z => (by rw [e] at z; cases z), i⟩
theorem TupS.ext {H H' : Hp} {p : Addr} {ys : List V} (e : Ext H H') (h : TupS H p ys) : TupS H' p ys := by
  obtain ⟨o, h, c⟩ := h
  exact ⟨o, e.f _ _ _ h, c⟩
theorem TupS.new {H : Hp} {p : Addr} {ys : List V} {o : Obj} (c : o.cls = .type "tuple") (d : o.dict = none) : TupS (upd H p (.frz o (.tup ys))) p ys := ⟨o, upd_same, c, d⟩
theorem FrzL.ext {K : PySem.W.Frag} {H H' : Hp} {a : Addr} {xs : List V} (e : Ext H H') (h : FrzL K H a xs) : FrzL K H' a xs := by
  rcases h with ⟨o, h⟩ | h
  · exact .inl ⟨o, e.f _ _ _ h⟩
  · exact .inr h
mutual
theorem RV.ext {g : Gx} {H H' : Hp} (e : Ext H H') : ∀ {v : Va} {x : V}, RV g H v x → RV g H' v x
  | _, _, .non => .non
  | _, _, .bl b => .bl b
  | _, _, .int i => .int i
  | _, _, .str x => .str x
  | _, _, .ref a => .ref a
  | _, _, .tup h r => .tup (h.ext e) (RVs.ext e r)
  | _, _, .fls h r => .fls (h.ext e) (RVs.ext e r)
theorem RVs.ext {g : Gx} {H H' : Hp} (e : Ext H H') : ∀ {v : List Va} {x : List V}, RVs g H v x → RVs g H' v x
  | _, _, .nil => .nil
  | _, _, .cons a r => .cons (RV.ext e a) (RVs.ext e r)
end
section
variable {g : Gx} {H H' : Hp}
theorem RVs.length : ∀ {v : List Va} {x : List V}, RVs g H v x → v.length = x.length
  | _, _, .nil => rfl
  | _, _, .cons _ r => by rw [List.length_cons, List.length_cons, RVs.length r]
theorem RVs.get : ∀ {v : List Va} {x : List V} {i : Nat} {y : V}, RVs g H v x → x[i]? = some y → ∃ u, v[i]? = some u ∧ RV g H u y
  | _, _, _, _, .nil, e => by simp at e
  | _, _, 0, _, .cons a r, e => by simp at e; subst e; exact ⟨_, rfl, a⟩
  | _, _, i + 1, y, .cons a r, e => by
    obtain ⟨u, h1, h2⟩ := RVs.get (i := i) (y := y) r (by simpa using e)
    exact ⟨u, by simpa using h1, h2⟩
theorem RVs.got : ∀ {v : List Va} {x : List V} {i : Nat} {u : Va}, RVs g H v x → v[i]? = some u → ∃ y, x[i]? = some y ∧ RV g H u y
  | _, _, _, _, .nil, e => by simp at e
  | _, _, 0, _, .cons a r, e => by simp at e; subst e; exact ⟨_, rfl, a⟩
  | _, _, i + 1, y, .cons a r, e => by
    obtain ⟨u, h1, h2⟩ := RVs.got (i := i) (u := y) r (by simpa using e)
    exact ⟨u, by simpa using h1, h2⟩
theorem RVs.append : ∀ {v w : List Va} {x y : List V}, RVs g H v x → RVs g H w y → RVs g H (v ++ w) (x ++ y)
  | _, _, _, _, .nil, s => s
  | _, _, _, _, .cons a r, s => .cons a (RVs.append r s)
theorem RVs.take : ∀ {v : List Va} {x : List V} (n : Nat), RVs g H v x → RVs g H (v.take n) (x.take n)
  | _, _, 0, _ => .nil
  | _, _, _ + 1, .nil => .nil
  | _, _, n + 1, .cons a r => .cons a (RVs.take n r)
theorem RVs.drop : ∀ {v : List Va} {x : List V} (n : Nat), RVs g H v x → RVs g H (v.drop n) (x.drop n)
  | _, _, 0, r => r
  | _, _, _ + 1, .nil => .nil
  | _, _, n + 1, .cons _ r => RVs.drop n r
theorem RVs.set {u : Va} {y : V} (q : RV g H u y) : ∀ {v : List Va} {x : List V} (n : Nat), RVs g H v x → RVs g H (v.set n u) (x.set n y)
  | _, _, _, .nil => .nil
  | _, _, 0, .cons _ r => .cons q r
  | _, _, n + 1, .cons a r => .cons a (RVs.set q n r)
theorem RVs.reverse : ∀ {v : List Va} {x : List V}, RVs g H v x → RVs g H v.reverse x.reverse
  | _, _, .nil => .nil
  | _, _, .cons a r => by rw [List.reverse_cons, List.reverse_cons]; exact RVs.append (RVs.reverse r) (.cons a .nil)
theorem RVs.dropLast : ∀ {v : List Va} {x : List V}, RVs g H v x → RVs g H v.dropLast x.dropLast
  | _, _, .nil => .nil
  | _, _, .cons _ .nil => .nil
  | _, _, .cons a (.cons b r) => .cons a (RVs.dropLast (.cons b r))
theorem RVs.eraseIdx : ∀ {v : List Va} {x : List V} (n : Nat), RVs g H v x → RVs g H (v.eraseIdx n) (x.eraseIdx n)
  | _, _, _, .nil => .nil
  | _, _, 0, .cons _ r => r
  | _, _, n + 1, .cons a r => .cons a (RVs.eraseIdx n r)
theorem RVs.rep {v : List Va} {x : List V} (r : RVs g H v x) : ∀ k : Nat, RVs g H (List.replicate k v).flatten (List.replicate k x).flatten
  | 0 => .nil
  | k + 1 => by rw [List.replicate_succ, List.replicate_succ, List.flatten_cons, List.flatten_cons]; exact r.append (RVs.rep r k)
theorem RVs.one {v : Va} {x : List V} (r : RVs g H [v] x) : ∃ y, x = [y] ∧ RV g H v y := by
  cases r with | cons a r => cases r; exact ⟨_, rfl, a⟩
theorem RVs.two {v w : Va} {x : List V} (r : RVs g H [v, w] x) : ∃ y z, x = [y, z] ∧ RV g H v y ∧ RV g H w z := by
  cases r with | cons a r => cases r with | cons b r => cases r; exact ⟨_, _, rfl, a, b⟩
theorem RVs.ints : ∀ {ns : List Int} {x : List V}, RVs g H (ns.map Va.int) x → x = ns.map V.int
  | [], _, r => by cases r; rfl
  | n :: ns, _, r => by
    cases r with | cons a r => cases a; rw [List.map_cons, RVs.ints r]
theorem RVs.of_ints : ∀ (ns : List Int), RVs g H (ns.map Va.int) (ns.map V.int)
  | [] => .nil
  | n :: ns => .cons (.int n) (RVs.of_ints ns)
end
inductive RW (g : Gx) (H : Hp) : Va → V → Prop
  | of {v : Va} {y : V} : RV g H v y → RW g H v y
  | two {p : Addr} {xs : List Va} {ys : List V} : H p = some (.tup ys) → RVs g H xs ys → RW g H (.tup xs) (.ref p)
inductive RFs (g : Gx) (H : Hp) {κ : Type} : List (κ × Va) → List (κ × V) → Prop
  | nil : RFs g H [] []
  | cons {f : κ} {v : Va} {y : V} {vs : List (κ × Va)} {ys : List (κ × V)} : RV g H v y → RFs g H vs ys → RFs g H ((f, v) :: vs) ((f, y) :: ys)
theorem RFs.ext {g : Gx} {H H' : Hp} {κ : Type} (e : Ext H H') : ∀ {v : List (κ × Va)} {x : List (κ × V)}, RFs g H v x → RFs g H' v x
  | _, _, .nil => .nil
  | _, _, .cons a r => .cons (a.ext e) (RFs.ext e r)
def RO (g : Gx) (H : Hp) (a : Addr) : Ob → Prop
  | .lst xs => ∃ ys, H a = some (.lst ys) ∧ RVs g H xs ys
  | .dk kvs => ∃ ys, H a = some (.dK ys) ∧ RFs g H kvs ys
  | .st S n => H a = some (.set S n)
  | .ins C fs => ∃ dx ys, H a = some (.ins (g.CA C) dx ys) ∧ RFs g H fs ys
  | .err C => H a = some (ErO (.ref (g.CA C)) a)
  | .fdk kvs => ∃ o ys, H a = some (.frz o (.dK ys)) ∧ RFs g H kvs ys
structure RH (g : Gx) (Z : Hp) (H : Hp) (h : Ah) : Prop where
  o : ∀ a o, h a = some o → RO g H a o
  z : ∀ a u, Z a = some u → h a = none ∧ H a = some u
  i : GI g H
  n : ∀ a ps, Z a ≠ some (.tbl ps)
theorem RO.some {g : Gx} {H : Hp} {a : Addr} {o : Ob} (r : RO g H a o) : ∃ u, H a = some u := by
  cases o with
  | lst xs => obtain ⟨ys, h, _⟩ := r; exact ⟨_, h⟩
  | dk kvs => obtain ⟨ys, h, _⟩ := r; exact ⟨_, h⟩
  | st S n => exact ⟨_, r⟩
  | ins C fs => obtain ⟨dx, ys, h, _⟩ := r; exact ⟨_, h⟩
  | err C => exact ⟨_, r⟩
  | fdk kvs => obtain ⟨o, ys, h, _⟩ := r; exact ⟨_, h⟩
theorem RO.keep {g : Gx} {H H' : Hp} {a : Addr} {o : Ob} (r : RO g H a o) (e : Ext H H') (q : H' a = H a) : RO g H' a o := by
  cases o with
  | lst xs => obtain ⟨ys, h, r⟩ := r; exact ⟨ys, q.trans h, r.ext e⟩
  | dk kvs => obtain ⟨ys, h, r⟩ := r; exact ⟨ys, q.trans h, r.ext e⟩
  | st S n => exact q.trans r
  | ins C fs => obtain ⟨dx, ys, h, r⟩ := r; exact ⟨dx, ys, q.trans h, r.ext e⟩
  | err C => exact q.trans r
  | fdk kvs => obtain ⟨o, ys, h, r⟩ := r; exact ⟨o, ys, q.trans h, r.ext e⟩
section
variable {g : Gx} {Z : Hp} {H : Hp} {h : Ah}
theorem RH.fresh (r : RH g Z H h) {p : Addr} (n : H p = none) : h p = none := by
  cases q : h p with
  | none => rfl
  | some o => obtain ⟨u, e⟩ := (r.o p o q).some; rw [n] at e; cases e
theorem RH.new (r : RH g Z H h) {p : Addr} {u : HO} (n : H p = none) : RH g Z (upd H p u) h := by
  refine ⟨fun a o e => ?_, fun a w za => ⟨(r.z a w za).1, ?_⟩, r.i.upd (Mt.none n).2, r.n⟩
  · refine (r.o a o e).keep (.upd (.none n)) (upd_ne fun z => ?_)
    subst z
    rw [r.fresh n] at e; cases e
  · rw [upd_ne fun z => ?_]
    · exact (r.z a w za).2
    · subst z; have := (r.z a w za).2; rw [n] at this; cases this
theorem RH.put0 (r : RH g Z H h) {p : Addr} {u : HO} {o : Ob} (m : Mt H p) (nz : Z p = none) (n : RO g (upd H p u) p o) : RH g Z (upd H p u) (put h p o) := by
  refine ⟨fun a o' e => ?_, fun a w za => ?_, r.i.upd m.2, r.n⟩
  · by_cases z : a = p
    · subst z; rw [put_same] at e; cases e; exact n
    · rw [put_ne z] at e
      exact (r.o a o' e).keep (.upd m) (upd_ne z)
  · have ne : a ≠ p := fun z => by subst z; rw [nz] at za; cases za
    rw [put_ne ne, upd_ne ne]
    exact r.z a w za
theorem RH.zn (r : RH g Z H h) {p : Addr} (n : H p = none) : Z p = none := by
  cases q : Z p with
  | none => rfl
  | some u => have := (r.z p u q).2; rw [n] at this; cases this
theorem RH.alloc (r : RH g Z H h) {p : Addr} {u : HO} {o : Ob} (n : H p = none) (ro : RO g (upd H p u) p o) : RH g Z (upd H p u) (put h p o) :=
  r.put0 (.none n) (r.zn n) ro
theorem RH.write (r : RH g Z H h) {p : Addr} {u : HO} {o o' : Ob} (m : Mt H p) (hp : h p = some o') (ro : RO g (upd H p u) p o) : RH g Z (upd H p u) (put h p o) := by
  refine r.put0 m ?_ ro
  cases q : Z p with
  | none => rfl
  | some u => have := (r.z p u q).1; rw [hp] at this; cases this
theorem RH.sub (r : RH g Z H h) {h' : Ah} (s : ∀ a o, h' a = some o → h a = some o) : RH g Z H h' := by
  refine ⟨fun a o e => r.o a o (s a o e), fun a w za => ⟨?_, (r.z a w za).2⟩, r.i, r.n⟩
  cases q : h' a with
  | none => rfl
  | some o =>
    have e := s a o q
    rw [(r.z a w za).1] at e
    cases e
theorem RH.hide (r : RH g Z H h) {p : Addr} {u : HO} (n : H p = none) (nt : ∀ ps, u ≠ .tbl ps := by intro _ z; cases z) : RH g (upd Z p u) (upd H p u) h := by
  have r' := r.new (u := u) n
  refine ⟨r'.o, fun a w za => ?_, r'.i, fun a ps za => ?_⟩
  rotate_left
  · by_cases e : a = p
    · subst e; rw [upd_same] at za; exact nt ps (Option.some.inj za)
    · rw [upd_ne e] at za; exact r.n a ps za
  by_cases e : a = p
  · subst e; rw [upd_same] at za; cases za; exact ⟨r.fresh n, upd_same⟩
  · rw [upd_ne e] at za; exact r'.z a w za
theorem RH.hidden {p : Addr} {u : HO} (r : RH g (upd Z p u) H h) : h p = none ∧ H p = some u := r.z p u upd_same
theorem RH.turn {p : Addr} {u u' : HO} (r : RH g (upd Z p u) H h) (m : Mt H p) (nt : ∀ ps, u' ≠ .tbl ps := by intro _ z; cases z) : RH g (upd Z p u') (upd H p u') h := by
  refine ⟨fun a o e => ?_, fun a w za => ?_, r.i.upd m.2, fun a ps za => ?_⟩
  · have ne : a ≠ p := fun z => by subst z; rw [r.hidden.1] at e; cases e
    exact (r.o a o e).keep (.upd m) (upd_ne ne)
  · by_cases e : a = p
    · subst e; rw [upd_same] at za; cases za; exact ⟨r.hidden.1, upd_same⟩
    · rw [upd_ne e] at za ⊢; exact r.z a w (by rw [upd_ne e]; exact za)
  · by_cases e : a = p
    · subst e; rw [upd_same] at za; exact nt ps (Option.some.inj za)
    · rw [upd_ne e] at za; exact r.n a ps (by rw [upd_ne e]; exact za)
theorem RH.shown {p : Addr} {u : HO} {o : Ob} (r : RH g (upd Z p u) H h) (nz : Z p = none) (ro : RO g H p o) : RH g Z H (put h p o) := by
  refine ⟨fun a o' e => ?_, fun a w za => ?_, r.i, fun a ps za => ?_⟩
  · by_cases z : a = p
    · subst z; rw [put_same] at e; cases e; exact ro
    · rw [put_ne z] at e; exact r.o a o' e
  · have ne : a ≠ p := fun z => by subst z; rw [nz] at za; cases za
    rw [put_ne ne]
    exact r.z a w (by rw [upd_ne ne]; exact za)
  · by_cases e : a = p
    · subst e; rw [nz] at za; cases za
    · exact r.n a ps (by rw [upd_ne e]; exact za)
end
section
variable {g g' : Gx} {Z : Hp} {H : Hp} {h : Ah}
mutual
theorem RV.chg (k : g.K = g'.K) : ∀ {v : Va} {x : V}, RV g H v x → RV g' H v x
  | _, _, .non => .non
  | _, _, .bl b => .bl b
  | _, _, .int i => .int i
  | _, _, .str x => .str x
  | _, _, .ref a => .ref a
  | _, _, .tup h r => .tup h (RVs.chg k r)
  | _, _, .fls h r => .fls (k ▸ h) (RVs.chg k r)
theorem RVs.chg (k : g.K = g'.K) : ∀ {v : List Va} {x : List V}, RVs g H v x → RVs g' H v x
  | _, _, .nil => .nil
  | _, _, .cons a r => .cons (RV.chg k a) (RVs.chg k r)
end
theorem RFs.chg (k : g.K = g'.K) {κ : Type} : ∀ {v : List (κ × Va)} {x : List (κ × V)}, RFs g H v x → RFs g' H v x
  | _, _, .nil => .nil
  | _, _, .cons a r => .cons (a.chg k) (RFs.chg k r)
theorem RO.chg (k : g.K = g'.K) (c : g.CA = g'.CA) {a : Addr} {o : Ob} (r : RO g H a o) : RO g' H a o := by
  cases o with
  | lst xs => obtain ⟨ys, h, r⟩ := r; exact ⟨ys, h, r.chg k⟩
  | dk kvs => obtain ⟨ys, h, r⟩ := r; exact ⟨ys, h, r.chg k⟩
  | st S n => exact r
  | ins C fs => obtain ⟨dx, ys, h, r⟩ := r; exact ⟨dx, ys, c ▸ h, r.chg k⟩
  | err C => exact (show H a = Option.some (ErO (.ref (g'.CA C)) a) from c ▸ r)
  | fdk kvs => obtain ⟨o, ys, h, r⟩ := r; exact ⟨o, ys, h, r.chg k⟩
theorem RH.chg (k : g.K = g'.K) (c : g.CA = g'.CA) (r : RH g Z H h) (i : GI g' H) : RH g' Z H h := ⟨fun a o e => (r.o a o e).chg k c, r.z, i, r.n⟩
theorem RH.into {a : Addr} {cls : Value} (r : RH g Z H h) (e : H a = some (ErO cls a)) : RH (g.h a) Z H h := RH.chg (g := g) (g' := g.h a) rfl rfl r ⟨fun b z => by cases z; exact ⟨cls, e⟩, r.i.t⟩
theorem RH.outof {a : Addr} (n : g.hot = none) (r : RH (g.h a) Z H h) : RH g Z H h := RH.chg (g := g.h a) (g' := g) rfl rfl r (GI.calm r.i.t n)
end
theorem newS_of {g : Gx} {Z : Hp} {H : Hp} {h : Ah} {xs : List Va} {ys : List V} {Qa : Va → Ah → Prop} {Q : VK} (rh : RH g Z H h) (rx : RVs g H xs ys) (op : Qa (.tup xs) h)
    (k : ∀ u h' z H', Qa u h' → Ext H H' → RV g H' u z → RH g Z H' h' → Q z H') : newS ys H Q := fun p o np oc od =>
  have ex : Ext H (upd H p (.frz o (.tup ys))) := .upd (.none np)
  k _ _ _ _ op ex (.tup (.new oc od) (rx.ext ex)) (rh.new np)
def RS (g : Gx) (H : Hp) (ρ : Sa) (σ : L2.St) : Prop := ρ.length = σ.length ∧ ∀ (i : Nat) (v : Va), ρ[i]? = some (some v) → ∃ x, σ[i]? = some (some x) ∧ RV g H v x
theorem RS.chg {g g' : Gx} {H : Hp} {ρ : Sa} {σ : L2.St} (k : g.K = g'.K) (r : RS g H ρ σ) : RS g' H ρ σ := ⟨r.1, fun i v h => let ⟨x, a, b⟩ := r.2 i v h; ⟨x, a, b.chg k⟩⟩
theorem RS.ext {g : Gx} {H H' : Hp} {ρ : Sa} {σ : L2.St} (r : RS g H ρ σ) (e : Ext H H') : RS g H' ρ σ := ⟨r.1, fun i v h => let ⟨x, a, b⟩ := r.2 i v h; ⟨x, a, b.ext e⟩⟩
theorem RS.set {g : Gx} {H : Hp} {ρ : Sa} {σ : L2.St} (r : RS g H ρ σ) {v : Va} {x : V} (q : RV g H v x) (i : Nat) : RS g H (ρ.set i (some v)) (σ.set i (some x)) := by
  refine ⟨by rw [List.length_set, List.length_set]; exact r.1, fun j u e => ?_⟩
  by_cases z : i = j
  · subst z
    by_cases hl : i < ρ.length
    · rw [List.getElem?_set_self hl] at e
      cases e
      exact ⟨x, List.getElem?_set_self (r.1 ▸ hl), q⟩
    · rw [List.getElem?_eq_none (by rw [List.length_set]; omega)] at e; cases e
  · rw [List.getElem?_set_ne z] at e ⊢
    exact r.2 j u e
def wipeA (ρ : Sa) : List Nat → Sa
  | [] => ρ
  | v :: vs => (wipeA ρ vs).set v none
theorem RS.wipe {g : Gx} {H : Hp} {ρ : Sa} {σ : L2.St} (r : RS g H ρ σ) : ∀ vs : List Nat, RS g H (wipeA ρ vs) (L2.wipe σ vs)
  | [] => r
  | w :: vs => by
    have ih := RS.wipe r vs
    refine ⟨by unfold wipeA L2.wipe; rw [List.length_set, List.length_set]; exact ih.1, fun j u e => ?_⟩
    unfold wipeA at e
    unfold L2.wipe
    by_cases z : w = j
    · subst z
      by_cases hl : w < (wipeA ρ vs).length
      · rw [List.getElem?_set_self hl] at e; cases e
      · rw [List.getElem?_eq_none (by rw [List.length_set]; omega)] at e; cases e
    · rw [List.getElem?_set_ne z] at e ⊢
      exact ih.2 j u e
abbrev KA := Va → Ah → Prop
abbrev TEa := Sa → Ah → KA → Prop
abbrev TTa := Sa → Ah → (Bool → Ah → Prop) → Prop
abbrev TAa := Sa → Ah → (List Va → Ah → Prop) → Prop
structure Enda where
  nx : Sa → Ah → Prop
  rt : KA
  ex : Str → Sa → Ah → Prop := fun _ _ _ => False
abbrev TSa := Enda → Sa → Ah → Prop
abbrev ASp := List Va → Ah → KA → Prop
abbrev XEa := Str → Ah → Prop
abbrev TXa := Sa → Ah → KA → XEa → Prop
abbrev XSp := List Va → Ah → KA → XEa → Prop
def cE (g : Gx) (t : TEa) : TE := fun σ H Q => ∃ ρ h Qa Z, RS g H ρ σ ∧ RH g Z H h ∧ t ρ h Qa ∧ ∀ v h' x H', Qa v h' → Ext H H' → RV g H' v x → RH g Z H' h' → Q x H'
def cT (g : Gx) (t : TTa) : TT := fun σ H Q => ∃ ρ h Qa Z, RS g H ρ σ ∧ RH g Z H h ∧ t ρ h Qa ∧ ∀ b h' H', Qa b h' → Ext H H' → RH g Z H' h' → Q b H'
def cA (g : Gx) (t : TAa) : TA := fun σ H Q => ∃ ρ h Qa Z, RS g H ρ σ ∧ RH g Z H h ∧ t ρ h Qa ∧ ∀ vs h' xs H', Qa vs h' → Ext H H' → RVs g H' vs xs → RH g Z H' h' → Q xs H'
def cX (g : Gx) (W : WX) (t : TXa) : TE := fun σ H Q => ∃ ρ h Qa Ea Z, RS g H ρ σ ∧ RH g Z H h ∧ t ρ h Qa Ea ∧ (∀ v h' x H', Qa v h' → Ext H H' → RV g H' v x → RH g Z H' h' → Q x H') ∧ ∀ C h' H', Ea C h' → Ext H H' → RH g Z H' h' → W (.ref (g.CA C)) none σ H'
def cS (g : Gx) (W : WX) (t : TSa) : TS := fun D σ H => ∃ ρ h Da Z, RS g H ρ σ ∧ RH g Z H h ∧ t Da ρ h ∧ (∀ ρ' h' σ' H', Da.nx ρ' h' → Ext H H' → RS g H' ρ' σ' → RH g Z H' h' → D.nx σ' H') ∧
  (∀ v h' x H', Da.rt v h' → Ext H H' → RV g H' v x → RH g Z H' h' → D.rt x H') ∧ ∀ C ρ' h' σ' H', Da.ex C ρ' h' → Ext H H' → RS g H' ρ' σ' → RH g Z H' h' → W (.ref (g.CA C)) none σ' H'
def cSpX (g : Gx) (sp : XSp) : Sp := fun vs H Q E => ∃ avs h Qa Ea Z, RVs g H avs vs ∧ RH g Z H h ∧ sp avs h Qa Ea ∧ (∀ v h' x H', Qa v h' → Ext H H' → RV g H' v x → RH g Z H' h' → Q x H') ∧ ∀ C h' H', Ea C h' → Ext H H' → RH g Z H' h' → E (.ref (g.CA C)) none H'
def cSp (g : Gx) (sp : ASp) : Sp := fun vs H Q _ => ∃ avs h Qa Z, RVs g H avs vs ∧ RH g Z H h ∧ sp avs h Qa ∧ ∀ v h' x H', Qa v h' → Ext H H' → RV g H' v x → RH g Z H' h' → Q x H'
theorem pe_imp {X : Cx} {e : Expr} {t t' : TE} (h : PE X e t) (i : ∀ σ H Q, t' σ H Q → t σ H Q) : PE X e t' := ⟨fun pins s σ H Q I w => h.run pins s σ H Q I (i σ H Q w)⟩
theorem pt_imp {X : Cx} {e : Expr} {t t' : TT} (h : PT X e t) (i : ∀ σ H Q, t' σ H Q → t σ H Q) : PT X e t' := ⟨fun pins s σ H Q I w => h.run pins s σ H Q I (i σ H Q w)⟩
theorem pa_imp {X : Cx} {e : List Expr} {t t' : TA} (h : PA X e t) (i : ∀ σ H Q, t' σ H Q → t σ H Q) : PA X e t' := ⟨fun pos pins s σ H Q I w => h.run pos pins s σ H Q I (i σ H Q w)⟩
theorem ps_imp {X : Cx} {e : Stmt} {t t' : TS} (h : PS X e t) (i : ∀ D σ H, t' D σ H → t D σ H) : PS X e t' := ⟨fun pins s σ H Q I w => h.run pins s σ H Q I (i Q σ H w)⟩
theorem pss_imp {X : Cx} {e : List Stmt} {t t' : TS} (h : PSs X e t) (i : ∀ D σ H, t' D σ H → t D σ H) : PSs X e t' := ⟨fun pins s σ H Q I w => h.run pins s σ H Q I (i Q σ H w)⟩
theorem pi_imp {X : Cx} {tg e : Expr} {t t' : TI} (h : PI X tg e t) (i : ∀ σ H Q, t' σ H Q → t σ H Q) : PI X tg e t' := ⟨fun pins s σ H Q I w => h.run pins s σ H Q I (i σ H Q w)⟩
theorem pg_imp {X : Cx} {tg : Expr} {t t' : TG} (h : PG X tg t) (i : ∀ v σ H Q, t' v σ H Q → t v σ H Q) : PG X tg t' := ⟨fun pins s σ H v u Q I r w => h.run pins s σ H v u Q I r (i v σ H Q w)⟩
end F2
set_option Elab.async false
set_option linter.all false
set_option maxRecDepth 100000
set_option maxHeartbeats 1000000
namespace F2
open PySem PySem.Spec PyProof.Rows
open L2
def OpA (g : Gx) (r : R2) (op : Va → Va → Ah → KA → Prop) : Prop := ∀ (Z : Hp) (v w : Va) (x y : V) (h : Ah) (H : Hp) (Qa : KA) (Q : VK), RV g H v x → RV g H w y → RH g Z H h → op v w h Qa →
  (∀ u h' z H', Qa u h' → Ext H H' → RV g H' u z → RH g Z H' h' → Q z H') → r x y H Q
theorem op_false {X : Cx} {f : Value → Value → Sem Value} : OpR X f (fun _ _ _ _ => False) := by
  intro pins s σ H x y v u Q I rx ry h
  exact h.elim
theorem opr_imp {X : Cx} {f : Value → Value → Sem Value} {r r' : R2} (h : OpR X f r) (i : ∀ x y H Q, r' x y H Q → r x y H Q) : OpR X f r' := by
  intro pins s σ H x y v u Q I rx ry w
  exact h pins s σ H x y v u Q I rx ry (i x y H Q w)
theorem op_catT0 {X : Cx} : OpR X (binaryOp .Add) (fun x y H Q => ∃ a b ys, x = .ref a ∧ y = .ref b ∧ SqT X.K H a [] ∧ SqT X.K H b ys ∧ Q (.ref b) H) := by
  intro pins s σ H x y v u Q I rx ry h
  obtain ⟨a, b, ys, rfl, rfl, ha, hb, q⟩ := h
  cases rx
  cases ry
  obtain ⟨its, r1, p1, _⟩ := I.tuple ha
  obtain ⟨its2, r2, p2, _⟩ := I.tuple hb
  obtain ⟨⟨cls, dd, data, sl⟩, ho, hc, n, hd⟩ := id p1
  obtain ⟨⟨cls2, dd2, data2, sl2⟩, ho2, hc2, n2, hd2⟩ := id p2
  simp only at hc hd hc2 hd2
  subst hc hd hc2 hd2
  have e : its = [] := r1.nil_iff.mpr rfl
  exact concat_meets ⟨_, ho, rfl⟩ ⟨_, ho2, rfl⟩ noFill_tuple_add seq_tuple_add PySem.F.slot_tuple_add PySem.F.entry_tuple_add (PySem.F.args_tuple_add_2 _ _)
      (tuple_addW0 a b its.toArray its2.toArray n n2 dd dd2 sl sl2 (by simp [e])) ⟨ho, ho2, .ref b, H, I, rfl, q⟩
def aAdd : Va → Va → Ah → KA → Prop
  | .int i, .int j, h, Q => Q (.int (i + j)) h
  | .str a, .str b, h, Q => a.length + b.length ≤ sizeLine ∧ Q (.str (a ++ b)) h
  | .tup xs, .tup ys, h, Q => xs.length + ys.length ≤ sizeLine ∧ Q (.tup (xs ++ ys)) h
  | .ref a, .ref b, h, Q => ∃ xs ys, h a = some (.lst xs) ∧ h b = some (.lst ys) ∧ xs.length + ys.length ≤ sizeLine ∧ ∀ p, h p = none → Q (.ref p) (put h p (.lst (xs ++ ys)))
  | _, _, _, _ => False
def rAddA (K : PySem.W.Frag) : R2 := fun x y H Q => rI0 (fun i j => .int (i + j)) x y H Q ∨ (∃ i j, x = .str i ∧ y = .str j ∧ i.length + j.length ≤ sizeLine ∧ Q (.str (i ++ j)) H) ∨ rCatS K x y H Q ∨
  (∃ a b ys, x = .ref a ∧ y = .ref b ∧ SqT K H a [] ∧ SqT K H b ys ∧ Q (.ref b) H) ∨ rCat x y H Q
theorem op_addA {X : Cx} : OpR X (binaryOp .Add) (rAddA X.K) := op_add.or (op_add_str.or (op_catS.or (op_catT0.or op_cat)))
theorem opa_add {g : Gx} : OpA g (rAddA g.K) aAdd := by
  intro Z v w x y h H Qa Q rv rw' rh op k
  cases v with
  | int i => cases w with
    | int j => cases rv; cases rw'; exact .inl ⟨i, j, rfl, rfl, k _ _ _ _ op .refl (.int _) rh⟩
    | _ => exact op.elim
  | str a => cases w with
    | str b => cases rv; cases rw'; exact .inr (.inl ⟨a, b, rfl, rfl, op.1, k _ _ _ _ op.2 .refl (.str _) rh⟩)
    | _ => exact op.elim
  | tup xs => cases w with
    | tup ys =>
      obtain ⟨hz, op⟩ := op
      cases rv with | tup hp rx => cases rw' with | tup hp2 ry =>
      rename_i p xs' p2 ys'
      by_cases h0 : xs' = []
      · subst h0
        cases rx
        exact .inr (.inr (.inr (.inl ⟨p, p2, _, rfl, rfl, hp.sq, hp2.sq, k _ _ _ _ op .refl (.tup hp2 ry) rh⟩)))
      · refine .inr (.inr (.inl ⟨p, p2, _, _, rfl, rfl, hp.sq, hp2.sq, h0, by rw [← rx.length, ← ry.length]; exact hz, fun e => ?_, fun _ => newS_of rh (rx.append ry) op k⟩))
        subst e
        cases ry
        rw [List.append_nil] at op
        exact k _ _ _ _ op .refl (.tup hp rx) rh
    | _ => exact op.elim
  | ref a => cases w with
    | ref b =>
      obtain ⟨xs, ys, ha, hb, hz, op⟩ := op
      cases rv
      cases rw'
      obtain ⟨xs', ha', rx⟩ := rh.o _ _ ha
      obtain ⟨ys', hb', ry⟩ := rh.o _ _ hb
      refine .inr (.inr (.inr (.inr ⟨a, b, _, _, rfl, rfl, ha', hb', by rw [← rx.length, ← ry.length]; exact hz, fun q nq => ?_⟩)))
      have ex : Ext H (upd H q (.lst (xs' ++ ys'))) := .upd (.none nq)
      exact k _ _ _ _ (op q (rh.fresh nq)) ex (.ref q) (rh.alloc nq ⟨_, upd_same, (rx.append ry).ext ex⟩)
    | _ => exact op.elim
  | _ => exact op.elim
def aInt (C : Int → Int → Prop) (f : Int → Int → Int) : Va → Va → Ah → KA → Prop
  | .int i, .int j, h, Q => C i j ∧ Q (.int (f i j)) h
  | _, _, _, _ => False
theorem opa_int {g : Gx} {C : Int → Int → Prop} {f : Int → Int → Int} : OpA g (rI C fun i j => .int (f i j)) (aInt C f) := by
  intro Z v w x y h H Qa Q rv rw' rh op k
  cases v with
  | int i => cases w with
    | int j => cases rv; cases rw'; exact ⟨i, j, rfl, rfl, op.1, k _ _ _ _ op.2 .refl (.int _) rh⟩
    | _ => exact op.elim
  | _ => exact op.elim
theorem op_int0 {X : Cx} {f : Value → Value → Sem Value} {F : Int → Int → Int} (h : OpR X f (rI0 fun i j => .int (F i j))) : OpR X f (rI (fun _ _ => True) fun i j => .int (F i j)) :=
  opr_imp h fun x y H Q ⟨i, j, a, b, _, c⟩ => ⟨i, j, a, b, c⟩
def aMul : Va → Va → Ah → KA → Prop
  | .int i, .int j, h, Q => CMul i j ∧ Q (.int (i * j)) h
  | .ref a, .int k, h, Q => ∃ xs, h a = some (.lst xs) ∧ -(2 ^ 63) ≤ k ∧ k < 2 ^ 63 ∧ xs.length * k.toNat ≤ sizeLine ∧ ∀ p, h p = none → Q (.ref p) (put h p (.lst (List.replicate k.toNat xs).flatten))
  | .tup xs, .int k, h, Q => -1000 ≤ k ∧ k ≤ 1000 ∧ xs.length ≤ 1000 ∧ Q (.tup (List.replicate k.toNat xs).flatten) h
  | _, _, _, _ => False
def rMulA (K : PySem.W.Frag) : R2 := fun x y H Q => rI CMul (fun i j => .int (i * j)) x y H Q ∨ rRep x y H Q ∨ rMulS K x y H Q ∨ rRepE K x y H Q
theorem op_mulA {X : Cx} : OpR X (binaryOp .Mult) (rMulA X.K) := op_mul.or (op_rep.or (op_mulS.or op_repE))
theorem opa_mul {g : Gx} : OpA g (rMulA g.K) aMul := by
  intro Z v w x y h H Qa Q rv rw' rh op k
  cases v with
  | int i => cases w with
    | int j => cases rv; cases rw'; exact .inl ⟨i, j, rfl, rfl, op.1, k _ _ _ _ op.2 .refl (.int _) rh⟩
    | _ => exact op.elim
  | tup xs => cases w with
    | int j =>
      obtain ⟨h1, h2, h3, op⟩ := op
      cases rw'
      cases rv with | tup hp rx =>
      rename_i p xs'
      have new : newS (List.replicate j.toNat xs').flatten H Q := newS_of rh (rx.rep _) op k
      by_cases c : xs' ≠ [] ∧ 2 ≤ j
      · exact .inr (.inr (.inl ⟨p, j, _, rfl, rfl, hp.sq, c.1, c.2, h2, by rw [← rx.length]; exact h3, new⟩))
      · refine .inr (.inr (.inr ⟨p, j, _, rfl, rfl, hp.sq, h2, h1, fun e => ?_, fun ne j0 => ?_, ?_⟩))
        · have z : (List.replicate j.toNat xs).flatten = xs := by
            rcases e with e | e
            · subst e; cases rx; simp
            · subst e; simp
          rw [z] at op
          exact k _ _ _ _ op .refl (.tup hp rx) rh
        · have z : j.toNat = 0 := by omega
          rw [z] at new
          exact new
        · by_cases e : xs' = []
          · exact .inl e
          · right
            have : ¬ (2 ≤ j) := fun z => c ⟨e, z⟩
            omega
    | _ => exact op.elim
  | ref a => cases w with
    | int j =>
      obtain ⟨xs, ha, h1, h2, hz, op⟩ := op
      cases rv
      cases rw'
      obtain ⟨xs', ha', rx⟩ := rh.o _ _ ha
      refine .inr (.inl ⟨a, j, _, rfl, rfl, ha', h1, h2, by rw [← rx.length]; exact hz, fun q nq => ?_⟩)
      have ex : Ext H (upd H q (.lst (List.replicate j.toNat xs').flatten)) := .upd (.none nq)
      exact k _ _ _ _ (op q (rh.fresh nq)) ex (.ref q) (rh.alloc nq ⟨_, upd_same, (rx.rep _).ext ex⟩)
    | _ => exact op.elim
  | _ => exact op.elim
def aBin : Operator → Va → Va → Ah → KA → Prop
  | .Add => aAdd
  | .Sub => aInt (fun _ _ => True) fun i j => i - j
  | .Mult => aMul
  | .FloorDiv => aInt CDiv fun i j => i / j
  | .Mod => aInt (fun _ j => 0 < j) fun i j => i % j
  | .Pow => aInt CPow fun i j => i ^ j.toNat
  | .RShift => aInt (fun _ j => 0 ≤ j) fun i j => i / 2 ^ j.toNat
  | .LShift => aInt CPow fun i j => i * 2 ^ j.toNat
  | .BitAnd => aInt (fun _ _ => True) fun i j => Builtin.bitAnd i j
  | _ => fun _ _ _ _ => False
def rBin (K : PySem.W.Frag) : Operator → R2
  | .Add => rAddA K
  | .Sub => rI (fun _ _ => True) fun i j => .int (i - j)
  | .Mult => rMulA K
  | .FloorDiv => rI CDiv fun i j => .int (i / j)
  | .Mod => rI (fun _ j => 0 < j) fun i j => .int (i % j)
  | .Pow => rI CPow fun i j => .int (i ^ j.toNat)
  | .RShift => rI (fun _ j => 0 ≤ j) fun i j => .int (i / 2 ^ j.toNat)
  | .LShift => rI CPow fun i j => .int (i * 2 ^ j.toNat)
  | .BitAnd => rI (fun _ _ => True) fun i j => .int (Builtin.bitAnd i j)
  | _ => fun _ _ _ _ => False
theorem op_bin {X : Cx} : ∀ o : Operator, OpR X (binaryOp o) (rBin X.K o)
  | .Add => op_addA
  | .Sub => op_int0 op_sub
  | .Mult => op_mulA
  | .FloorDiv => op_fdiv
  | .Mod => op_mod
  | .Pow => op_pow
  | .RShift => op_shr
  | .LShift => op_shl
  | .BitAnd => op_int0 op_and
  | .MatMult | .Div | .BitOr | .BitXor => op_false
theorem opa_false {g : Gx} : OpA g (fun _ _ _ _ => False) (fun _ _ _ _ => False) := fun _ _ _ _ _ _ _ _ _ _ _ _ op _ => op
theorem opa_bin {g : Gx} : ∀ o : Operator, OpA g (rBin g.K o) (aBin o)
  | .Add => opa_add
  | .Sub => opa_int
  | .Mult => opa_mul
  | .FloorDiv => opa_int
  | .Mod => opa_int
  | .Pow => opa_int
  | .RShift => opa_int
  | .LShift => opa_int
  | .BitAnd => opa_int
  | .MatMult | .Div | .BitOr | .BitXor => opa_false
mutual
inductive Da (h : Ah) : Va → PyData → Prop
  | non : Da h .non .none
  | bl (b : Bool) : Da h (.bl b) (.bool b)
  | int (i : Int) : Da h (.int i) (.int i)
  | str (x : Str) : Da h (.str x) (.str x)
  | tup {xs : List Va} {ds : List PyData} : Das h xs ds → Da h (.tup xs) (.tuple ds)
  | lst {a : Addr} {xs : List Va} {ds : List PyData} : h a = some (.lst xs) → Das h xs ds → Da h (.ref a) (.list ds)
inductive Das (h : Ah) : List Va → List PyData → Prop
  | nil : Das h [] []
  | cons {v : Va} {vs : List Va} {d : PyData} {ds : List PyData} : Da h v d → Das h vs ds → Das h (v :: vs) (d :: ds)
end
mutual
theorem Da.dp {g : Gx} {Z : Hp} {H : Hp} {h : Ah} (rh : RH g Z H h) : ∀ {v : Va} {d : PyData} {x : V}, Da h v d → RV g H v x → Dp g.K H x d
  | _, _, _, .non, r => by cases r; exact .non
  | _, _, _, .bl b, r => by cases r; exact .bl b
  | _, _, _, .int i, r => by cases r; exact .int i
  | _, _, _, .str s, r => by cases r; exact .str s
  | _, _, _, .tup ds, r => by cases r with | tup hp rx => exact .tup (hp.sq) (Das.dp rh ds rx)
  | _, _, _, .lst e ds, r => by
    cases r
    obtain ⟨ys, h1, rx⟩ := rh.o _ _ e
    exact .lst (SqL.of h1) (Das.dp rh ds rx)
theorem Das.dp {g : Gx} {Z : Hp} {H : Hp} {h : Ah} (rh : RH g Z H h) : ∀ {v : List Va} {d : List PyData} {x : List V}, Das h v d → RVs g H v x → DpAll g.K H x d
  | _, _, _, .nil, r => by cases r; exact .nil
  | _, _, _, .cons a b, r => by cases r with | cons c d => exact .cons (Da.dp rh a c) (Das.dp rh b d)
end
def aEq0 (v w : Va) (h : Ah) (k : Bool → Prop) : Prop := ∃ d e, Da h v d ∧ Da h w e ∧ SeqAt.shaped d = true ∧ SeqAt.shaped e = true ∧ k (PyData.eqv d e)
def aEqL (v w : Va) (h : Ah) (k : Bool → Prop) : Prop := (∃ xs : List Va, v = .tup xs ∧ w = .tup [] ∧ k xs.isEmpty) ∨
  ∃ (a b : Addr) (xs ys : List Va), v = .ref a ∧ w = .ref b ∧ h a = some (.lst xs) ∧ h b = some (.lst ys) ∧ xs.length ≠ ys.length ∧ k false
def aEq (v w : Va) (h : Ah) (k : Bool → Prop) : Prop := aEq0 v w h k ∨ aEqL v w h k
theorem aEq.of {v w : Va} {h : Ah} {k : Bool → Prop} (q : aEq0 v w h k) : aEq v w h k := .inl q
theorem aEq.tup {xs : List Va} {h : Ah} {k : Bool → Prop} (q : k xs.isEmpty) : aEq (.tup xs) (.tup []) h k := .inr (.inl ⟨xs, rfl, rfl, q⟩)
def rEqL (K : PySem.W.Frag) (neg : Bool) : R2 := fun x y H Q => (∃ a b xs, x = .ref a ∧ y = .ref b ∧ SqT K H a xs ∧ SqT K H b [] ∧ Q (.bl (xor neg xs.isEmpty)) H) ∨
  ∃ a b xs ys, x = .ref a ∧ y = .ref b ∧ SqL K H a xs ∧ SqL K H b ys ∧ xs.length ≠ ys.length ∧ Q (.bl neg) H
theorem vals_len {vs : List V} : ∀ {us : List Value}, Vals vs us → us.length = vs.length := by
  intro us h
  induction h with
  | nil => rfl
  | cons _ _ ih => rw [List.length_cons, List.length_cons, ih]
theorem op_eqL {X : Cx} (hu : X.A.units < cLine) : OpR X (compareOp .Eq) (rEqL X.K false) := by
  intro pins s σ H x y v u Q I rx ry h
  rcases h with ⟨a, b, xs, rfl, rfl, ha, hb, q⟩ | ⟨a, b, xs, ys, rfl, rfl, ha, hb, n, q⟩
  · cases rx; cases ry
    obtain ⟨its, rv, ⟨o, ho, hc, n, hd⟩, _⟩ := I.tuple ha
    obtain ⟨its', rv', ⟨o', ho', hc', n', hd'⟩, _⟩ := I.tuple hb
    have e1 := vals_len rv
    have e2 := vals_len rv'
    have e3 : its'.toArray.size = 0 := by simpa using e2
    have e4 : its.toArray.size = xs.length := by simpa using e1
    have t := SeqAt.RcAt.tuples (s := s) (A := X.A) (e := fun _ => false) ⟨o, ho, hc, n, hd⟩ ⟨o', ho', hc', n', hd'⟩ hu (fun j h1 h2 => by omega)
    rw [e3, e4, Nat.min_zero] at t
    refine t _ _ _ _ ⟨.bl _, H, I, rfl, ?_⟩
    cases xs with
    | nil => exact q
    | cons z zs => exact q
  · cases rx; cases ry
    obtain ⟨its, rv, ⟨o, m, ho, hc, _, hd⟩, _⟩ := I.list ha
    obtain ⟨its', rv', ⟨o', m', ho', hc', _, hd'⟩, _⟩ := I.list hb
    have e1 : its.length = xs.length := vals_len rv
    have e2 : its'.length = ys.length := vals_len rv'
    exact SeqAt.RcAt.lists_lengths (s := s) (A := X.A) ⟨o, ho, hc, m, hd⟩ ⟨o', ho', hc', m', hd'⟩ (by simpa [e1, e2] using n) hu _ _ _ _ ⟨.bl _, H, I, rfl, q⟩
theorem op_neL {X : Cx} (hu : X.A.units < cLine) : OpR X (compareOp .NotEq) (rEqL X.K true) := by
  intro pins s σ H x y v u Q I rx ry h
  rcases h with ⟨a, b, xs, rfl, rfl, ha, hb, q⟩ | ⟨a, b, xs, ys, rfl, rfl, ha, hb, n, q⟩
  · cases rx; cases ry
    obtain ⟨its, rv, ⟨o, ho, hc, n, hd⟩, _⟩ := I.tuple ha
    obtain ⟨its', rv', ⟨o', ho', hc', n', hd'⟩, _⟩ := I.tuple hb
    have e3 : its'.toArray.size = 0 := by simpa using vals_len rv'
    have e4 : its.toArray.size = xs.length := by simpa using vals_len rv
    have t := SeqAt.RcNeAt.tuples (s := s) (A := X.A) (e := fun _ => false) ⟨o, ho, hc, n, hd⟩ ⟨o', ho', hc', n', hd'⟩ hu (fun j h1 h2 => by omega)
    rw [e3, e4, Nat.min_zero] at t
    refine t _ _ _ _ ⟨.bl _, H, I, rfl, ?_⟩
    cases xs with
    | nil => exact q
    | cons z zs => exact q
  · cases rx; cases ry
    obtain ⟨its, rv, ⟨o, m, ho, hc, _, hd⟩, _⟩ := I.list ha
    obtain ⟨its', rv', ⟨o', m', ho', hc', _, hd'⟩, _⟩ := I.list hb
    have e1 : its.length = xs.length := vals_len rv
    have e2 : its'.length = ys.length := vals_len rv'
    exact SeqAt.RcNeAt.lists_lengths (s := s) (A := X.A) ⟨o, ho, hc, m, hd⟩ ⟨o', ho', hc', m', hd'⟩ (by simpa [e1, e2] using n) hu _ _ _ _ ⟨.bl _, H, I, rfl, q⟩
theorem eqL_of {g : Gx} {Z : Hp} {neg : Bool} {v w : Va} {x y : V} {h : Ah} {H : Hp} {k : Bool → Prop} {Q : VK} (rv : RV g H v x) (rw' : RV g H w y) (rh : RH g Z H h) (op : aEqL v w h k) (q : ∀ b, k b → Q (.bl (xor neg b)) H) : rEqL g.K neg x y H Q := by
  rcases op with ⟨xs, rfl, rfl, kq⟩ | ⟨a, b, xs, ys, rfl, rfl, ha, hb, n, kq⟩
  · cases rv with | tup hp rx => cases rw' with | tup hp2 ry =>
    cases ry
    refine .inl ⟨_, _, _, rfl, rfl, hp.sq, hp2.sq, ?_⟩
    have := q _ kq
    cases rx <;> exact this
  · cases rv; cases rw'
    obtain ⟨us, h1, rx⟩ := rh.o _ _ ha
    obtain ⟨ws, h2, ry⟩ := rh.o _ _ hb
    refine .inr ⟨_, _, _, _, rfl, rfl, SqL.of h1, SqL.of h2, ?_, ?_⟩
    · rw [← rx.length, ← ry.length]; exact n
    · have := q _ kq; rw [Bool.xor_false] at this; exact this
def flatA : Va → Bool
  | .non => true
  | .bl _ => true
  | .int _ => true
  | .str _ => true
  | _ => false
def eqA : Va → Va → Bool
  | .non, .non => true
  | .bl a, .bl b => a == b
  | .bl a, .int b => (if a then 1 else 0) == b
  | .int a, .bl b => a == (if b then 1 else 0)
  | .int a, .int b => a == b
  | .str a, .str b => a == b
  | _, _ => false
theorem flat_of {g : Gx} {H : Hp} {v : Va} {x : V} (r : RV g H v x) (f : flatA v = true) : flatV x = true := by
  cases r <;> first | rfl | exact absurd f Bool.false_ne_true
theorem flats_of {g : Gx} {H : Hp} : ∀ {v : List Va} {x : List V}, RVs g H v x → v.all flatA = true → x.all flatV = true
  | _, _, .nil, _ => rfl
  | _, _, .cons a r, f => by
    rw [List.all_cons, Bool.and_eq_true] at f ⊢
    exact ⟨flat_of a f.1, flats_of r f.2⟩
theorem eqV_of {g : Gx} {H : Hp} {v w : Va} {x y : V} (r : RV g H v x) (q : RV g H w y) (f : flatA v = true) (f2 : flatA w = true) : eqV x y = eqA v w := by
  cases r <;> cases q <;> first | rfl | exact absurd f Bool.false_ne_true | exact absurd f2 Bool.false_ne_true
def inA (v : Va) (ws : List Va) : Bool := ws.any fun w => eqA w v
theorem inV_of {g : Gx} {H : Hp} {v : Va} {x : V} (r : RV g H v x) (f : flatA v = true) : ∀ {ws : List Va} {ys : List V}, RVs g H ws ys → ws.all flatA = true → inV x ys = inA v ws
  | _, _, .nil, _ => rfl
  | _, _, .cons a s, f2 => by
    rw [List.all_cons, Bool.and_eq_true] at f2
    have ih := inV_of r f s f2.2
    unfold inV inA at ih ⊢
    rw [List.any_cons, List.any_cons, ih, eqV_of a r f2.1 f]
def keyA : Va → Option Key
  | .int i => some (.inl i)
  | .str x => some (.inr x)
  | _ => none
theorem key_of {g : Gx} {H : Hp} {v : Va} {x : V} {k : Key} (r : RV g H v x) (e : keyA v = some k) : x = kV k := by
  cases r <;> first | (cases e; rfl) | cases e
def valA {κ : Type} [DecidableEq κ] (kvs : List (κ × Va)) (k : κ) : Option Va := (kvs.find? fun kv => decide (kv.1 = k)).map (·.2)
def putA {κ : Type} [DecidableEq κ] (kvs : List (κ × Va)) (k : κ) (v : Va) : List (κ × Va) :=
  if (kvs.any fun kv => decide (kv.1 = k)) = true then kvs.map (fun kv => if kv.1 = k then (kv.1, v) else kv) else kvs ++ [(k, v)]
section
variable {g : Gx} {H : Hp} {κ : Type} [DecidableEq κ]
theorem RFs.length : ∀ {v : List (κ × Va)} {x : List (κ × V)}, RFs g H v x → v.length = x.length
  | _, _, .nil => rfl
  | _, _, .cons _ r => by rw [List.length_cons, List.length_cons, RFs.length r]
theorem RFs.val (k : κ) : ∀ {v : List (κ × Va)} {x : List (κ × V)}, RFs g H v x → (valA v k = none ∧ valV x k = none) ∨ ∃ u y, valA v k = some u ∧ valV x k = some y ∧ RV g H u y
  | _, _, .nil => .inl ⟨rfl, rfl⟩
  | _, _, .cons (f := f) (v := v) (y := y) (vs := vs) (ys := ys) a r => by
    by_cases e : f = k
    · exact .inr ⟨v, y, by simp [valA, List.find?_cons, e], by simp [valV, List.find?_cons, e], a⟩
    · have h1 : valA ((f, v) :: vs) k = valA vs k := by simp [valA, List.find?_cons, e]
      have h2 : valV ((f, y) :: ys) k = valV ys k := by simp [valV, List.find?_cons, e]
      rw [h1, h2]
      exact RFs.val k r
theorem RFs.any (k : κ) : ∀ {v : List (κ × Va)} {x : List (κ × V)}, RFs g H v x → (v.any fun kv => decide (kv.1 = k)) = x.any fun kv => decide (kv.1 = k)
  | _, _, .nil => rfl
  | _, _, .cons a r => by rw [List.any_cons, List.any_cons, RFs.any k r]
theorem RFs.app : ∀ {v w : List (κ × Va)} {x y : List (κ × V)}, RFs g H v x → RFs g H w y → RFs g H (v ++ w) (x ++ y)
  | _, _, _, _, .nil, s => s
  | _, _, _, _, .cons a r, s => .cons a (RFs.app r s)
theorem RFs.rep {k : κ} {u : Va} {z : V} (q : RV g H u z) : ∀ {v : List (κ × Va)} {x : List (κ × V)}, RFs g H v x → RFs g H (v.map fun kv => if kv.1 = k then (kv.1, u) else kv) (x.map fun kv => if kv.1 = k then (kv.1, z) else kv)
  | _, _, .nil => .nil
  | _, _, .cons (f := f) a r => by
    rw [List.map_cons, List.map_cons]
    by_cases e : f = k
    · simp only [e, if_true]; exact .cons q (RFs.rep q r)
    · simp only [e, if_false]; exact .cons a (RFs.rep q r)
theorem RFs.put {k : κ} {u : Va} {z : V} (q : RV g H u z) {v : List (κ × Va)} {x : List (κ × V)} (r : RFs g H v x) : RFs g H (putA v k u) (putK x k z) := by
  unfold putA putK
  rw [r.any k]
  split
  · exact r.rep q
  · exact r.app (.cons q .nil)
theorem RFs.keys : ∀ {v : List (κ × Va)} {x : List (κ × V)}, RFs g H v x → v.map (·.1) = x.map (·.1)
  | _, _, .nil => rfl
  | _, _, .cons a r => by rw [List.map_cons, List.map_cons, RFs.keys r]
end
def aIn : Va → Va → Ah → (Bool → Prop) → Prop
  | v, .tup ws, _, k => flatA v = true ∧ ws.all flatA = true ∧ k (inA v ws)
  | v, .ref a, h, k => (∃ ws, h a = some (.lst ws) ∧ flatA v = true ∧ ws.all flatA = true ∧ k (inA v ws)) ∨ (∃ kvs ky, h a = some (.dk kvs) ∧ keyA v = some ky ∧ k (valA kvs ky).isSome)
  | .str x, .str y, _, k => k (!(Builtin.Str.occurrences y x 0 y.length 1).isEmpty)
  | _, _, _, _ => False
def aLt : Va → Va → Ah → (Bool → Prop) → Prop
  | .int i, .int j, _, k => k (decide (i < j))
  | .tup xs, .tup ys, _, k => ∃ ns ms, xs = ns.map Va.int ∧ ys = ms.map Va.int ∧ k (HT.lexLt ns ms)
  | _, _, _, _ => False
def aIntB (f : Int → Int → Bool) : Va → Va → Ah → (Bool → Prop) → Prop
  | .int i, .int j, _, k => k (f i j)
  | _, _, _, _ => False
def isNon : Va → Bool
  | .non => true
  | _ => false
def isBlA : Va → Bool → Bool
  | .bl a, b => decide (a = b)
  | _, _ => false
def isBlV : V → Bool → Bool
  | .bl a, b => decide (a = b)
  | _, _ => false
def okBl : V → Bool
  | .non | .bl _ | .int _ | .str _ | .ref _ => true
  | _ => false
theorem okBl_of {g : Gx} {H : Hp} {v : Va} {x : V} (r : RV g H v x) : okBl x = true := by cases r <;> rfl
theorem plainBl {x : V} {v : Value} {b : Bool} (rx : L2.RelV x v) (h : okBl x = true) : plainIs v (.bool b) = true := by
  cases x with
  | non => cases (show v = Value.none from rx); rfl
  | bl a => cases (show v = Value.bool a from rx); rfl
  | int i => obtain ⟨t, rfl⟩ := rx; rfl
  | str i => obtain ⟨t, rfl⟩ := rx; rfl
  | ref a => cases (show v = Value.ref a from rx); rfl
  | _ => cases h
theorem isBl_of {g : Gx} {H : Hp} {v : Va} {x : V} {b : Bool} (r : RV g H v x) : isBlV x b = isBlA v b := by cases r <;> rfl
theorem is_blV {x : V} {v : Value} {b : Bool} (rx : L2.RelV x v) : (v == Value.bool b) = isBlV x b := by
  cases x with
  | bl a =>
    cases (show v = Value.bool a from rx)
    cases a <;> cases b <;> rfl
  | _ => first
    | (cases rx; rfl)
    | (obtain ⟨t, rfl⟩ := rx; rfl)
    | (obtain ⟨t, rfl, _⟩ := rx; rfl)
section
variable {X : Cx}
theorem op_is_blA : OpR X (compareOp .Is) (fun x y H Q => ∃ b, y = .bl b ∧ okBl x = true ∧ Q (.bl (isBlV x b)) H) := by
  intro pins s σ H x y v u Q I rx ry h
  obtain ⟨b, rfl, ok, q⟩ := h
  cases (show u = Value.bool b from ry)
  refine wpAny_is_plain (plainBl rx ok) ⟨.bl (isBlV x b), H, I, ?_, q⟩
  rw [is_blV rx]; rfl
theorem op_isnot_blA : OpR X (compareOp .IsNot) (fun x y H Q => ∃ b, y = .bl b ∧ okBl x = true ∧ Q (.bl (!isBlV x b)) H) := by
  intro pins s σ H x y v u Q I rx ry h
  obtain ⟨b, rfl, ok, q⟩ := h
  cases (show u = Value.bool b from ry)
  refine wpAny_isNot_plain (plainBl rx ok) ⟨.bl (!isBlV x b), H, I, ?_, q⟩
  rw [is_blV rx]; rfl
end
def aIs : Va → Va → Ah → (Bool → Prop) → Prop
  | v, .non, _, k => k (isNon v)
  | v, .bl b, _, k => k (isBlA v b)
  | _, _, _, _ => False
def aCmp : CmpOp → Va → Va → Ah → (Bool → Prop) → Prop
  | .Eq => aEq
  | .NotEq => fun v w h k => aEq v w h fun b => k (!b)
  | .Lt => aLt
  | .LtE => aIntB fun i j => decide (i ≤ j)
  | .Gt => aIntB fun i j => decide (j < i)
  | .GtE => aIntB fun i j => decide (j ≤ i)
  | .Is => aIs
  | .IsNot => fun v w h k => aIs v w h fun b => k (!b)
  | .In => aIn
  | .NotIn => fun v w h k => aIn v w h fun b => k (!b)
def rInA (K : PySem.W.Frag) : R2 := fun x y H Q => rIn K false x y H Q ∨ (∃ a o, y = .ref a ∧ DGet H a x o ∧ Q (.bl o.isSome) H) ∨ (∃ i j, x = .str i ∧ y = .str j ∧ Q (.bl (!(Builtin.Str.occurrences j i 0 j.length 1).isEmpty)) H)
def rNotInA (K : PySem.W.Frag) : R2 := fun x y H Q => rIn K true x y H Q ∨ (∃ a o, y = .ref a ∧ DGet H a x o ∧ Q (.bl (!o.isSome)) H) ∨ (∃ i j, x = .str i ∧ y = .str j ∧ Q (.bl (!(!(Builtin.Str.occurrences j i 0 j.length 1).isEmpty))) H)
theorem op_dIn {X : Cx} (hu : X.A.units + 1 < cLine) : OpR X (compareOp .In) (fun x y H Q => ∃ a o, y = .ref a ∧ DGet H a x o ∧ Q (.bl o.isSome) H) := by
  intro pins s σ H x y v u Q I rx ry h
  obtain ⟨a, o, rfl, d, q⟩ := h
  cases ry
  exact d_in hu I d rx fun s' I' => ⟨.bl o.isSome, H, I', rfl, q⟩
theorem op_dNotIn {X : Cx} (hu : X.A.units + 1 < cLine) : OpR X (compareOp .NotIn) (fun x y H Q => ∃ a o, y = .ref a ∧ DGet H a x o ∧ Q (.bl (!o.isSome)) H) := by
  intro pins s σ H x y v u Q I rx ry h
  obtain ⟨a, o, rfl, d, q⟩ := h
  cases ry
  exact d_notIn hu I d rx fun s' I' => ⟨.bl (!o.isSome), H, I', rfl, q⟩
def rCmp (K : PySem.W.Frag) : CmpOp → R2
  | .Eq => fun x y H Q => rEqD K x y H Q ∨ rEqL K false x y H Q
  | .NotEq => fun x y H Q => rNeD K x y H Q ∨ rEqL K true x y H Q
  | .Lt => fun x y H Q => rI0 (fun i j => .bl (decide (i < j))) x y H Q ∨ rLtT K x y H Q
  | .LtE => rI0 fun i j => .bl (decide (i ≤ j))
  | .Gt => rI0 fun i j => .bl (decide (j < i))
  | .GtE => rI0 fun i j => .bl (decide (j ≤ i))
  | .Is => fun x y H Q => (y = .non ∧ Q (.bl (decide (x = .non))) H) ∨ (∃ b, y = .bl b ∧ okBl x = true ∧ Q (.bl (isBlV x b)) H)
  | .IsNot => fun x y H Q => (y = .non ∧ Q (.bl (!decide (x = .non))) H) ∨ (∃ b, y = .bl b ∧ okBl x = true ∧ Q (.bl (!isBlV x b)) H)
  | .In => rInA K
  | .NotIn => rNotInA K
theorem op_cmp {X : Cx} (hu : X.A.units + 64 < cLine) : ∀ o : CmpOp, OpR X (compareOp o) (rCmp X.K o)
  | .Eq => (op_eqD hu).or (op_eqL (by omega))
  | .NotEq => (op_neD hu).or (op_neL (by omega))
  | .Lt => op_lt.or (op_ltT (by omega))
  | .LtE => op_le
  | .Gt => op_gt
  | .GtE => op_ge
  | .Is => op_isN.or op_is_blA
  | .IsNot => op_notN.or op_isnot_blA
  | .In => op_in_seq.or ((op_dIn (by omega)).or op_in_str)
  | .NotIn => op_notIn_seq.or ((op_dNotIn (by omega)).or op_notIn_str)
def CmA (g : Gx) (r : R2) (op : Va → Va → Ah → (Bool → Prop) → Prop) : Prop := ∀ (Z : Hp) (v w : Va) (x y : V) (h : Ah) (H : Hp) (k : Bool → Prop) (Q : VK), RV g H v x → RV g H w y → RH g Z H h → op v w h k →
  (∀ b, k b → Q (.bl b) H) → r x y H Q
theorem non_of {g : Gx} {H : Hp} {v : Va} {x : V} (r : RV g H v x) : decide (x = .non) = isNon v := by
  cases r <;> rfl
theorem cma_int {g : Gx} {f : Int → Int → Bool} : CmA g (rI0 fun i j => .bl (f i j)) (aIntB f) := by
  intro Z v w x y h H k Q rv rw' rh op q
  cases v with
  | int i => cases w with
    | int j => cases rv; cases rw'; exact ⟨i, j, rfl, rfl, q _ op⟩
    | _ => exact op.elim
  | _ => exact op.elim
theorem cma_lt {g : Gx} : CmA g (rCmp g.K .Lt) aLt := by
  intro Z v w x y h H k Q rv rw' rh op q
  cases v with
  | int i => cases w with
    | int j => cases rv; cases rw'; exact .inl ⟨i, j, rfl, rfl, q _ op⟩
    | _ => exact op.elim
  | tup xs => cases w with
    | tup ys =>
      obtain ⟨ns, ms, rfl, rfl, op⟩ := op
      cases rv with | tup hp rx => cases rw' with | tup hp2 ry =>
      rw [rx.ints] at hp
      rw [ry.ints] at hp2
      exact .inr ⟨_, _, ns, ms, rfl, rfl, hp.sq, hp2.sq, q _ op⟩
    | _ => exact op.elim
  | _ => exact op.elim
theorem cma_in {g : Gx} {Z : Hp} {neg : Bool} {v w : Va} {x y : V} {h : Ah} {H : Hp} {k : Bool → Prop} {Q : VK} (rv : RV g H v x) (rw' : RV g H w y) (rh : RH g Z H h) (op : aIn v w h k) (q : ∀ b, k b → Q (.bl (if neg then !b else b)) H) :
    rIn g.K neg x y H Q ∨ (∃ a o, y = .ref a ∧ DGet H a x o ∧ Q (.bl (if neg then !o.isSome else o.isSome)) H) ∨ (∃ i j, x = .str i ∧ y = .str j ∧ Q (.bl (if neg then !(!(Builtin.Str.occurrences j i 0 j.length 1).isEmpty) else !(Builtin.Str.occurrences j i 0 j.length 1).isEmpty)) H) := by
  cases w with
  | tup ws =>
    have op : flatA v = true ∧ ws.all flatA = true ∧ k (inA v ws) := by cases v <;> exact op
    cases rw' with | tup hp rx =>
    refine .inl ⟨_, _, rfl, .inr (hp.sq), flat_of rv op.1, flats_of rx op.2.1, ?_⟩
    rw [inV_of rv op.1 rx op.2.1]
    exact q _ op.2.2
  | ref a =>
    have op : (∃ ws, h a = some (.lst ws) ∧ flatA v = true ∧ ws.all flatA = true ∧ k (inA v ws)) ∨ (∃ kvs ky, h a = some (.dk kvs) ∧ keyA v = some ky ∧ k (valA kvs ky).isSome) := by cases v <;> exact op
    cases rw'
    rcases op with ⟨ws, ha, f1, f2, op⟩ | ⟨kvs, ky, ha, ek, op⟩
    · obtain ⟨ys, ha', rx⟩ := rh.o _ _ ha
      refine .inl ⟨_, _, rfl, .inl (SqL.of ha'), flat_of rv f1, flats_of rx f2, ?_⟩
      rw [inV_of rv f1 rx f2]
      exact q _ op
    · obtain ⟨ys, ha', rx⟩ := rh.o _ _ ha
      have e := key_of rv ek
      subst e
      refine .inr (.inl ⟨a, valV ys ky, rfl, DGet.k ha', ?_⟩)
      have e2 : (valV ys ky).isSome = (valA kvs ky).isSome := by
        rcases rx.val ky with ⟨a1, a2⟩ | ⟨u, z, a1, a2, _⟩
        · rw [a1, a2]; rfl
        · rw [a1, a2]; rfl
      rw [e2]
      exact q _ op
  | str z => cases v with
    | str z2 => cases rv; cases rw'; exact .inr (.inr ⟨_, _, rfl, rfl, q _ op⟩)
    | _ => exact op.elim
  | _ => cases v <;> exact op.elim
theorem cma_cmp {g : Gx} : ∀ o : CmpOp, CmA g (rCmp g.K o) (aCmp o)
  | .Eq => fun Z v w x y h H k Q rv rw' rh op q => by
    rcases op with ⟨d, e, a, b, c, f, op⟩ | op
    · exact .inl ⟨d, e, a.dp rh rv, b.dp rh rw', c, f, q _ op⟩
    · exact .inr (eqL_of rv rw' rh op fun b kb => by rw [Bool.false_xor]; exact q _ kb)
  | .NotEq => fun Z v w x y h H k Q rv rw' rh op q => by
    rcases op with ⟨d, e, a, b, c, f, op⟩ | op
    · exact .inl ⟨d, e, a.dp rh rv, b.dp rh rw', c, f, q _ op⟩
    · exact .inr (eqL_of rv rw' rh op fun b kb => by rw [Bool.true_xor]; exact q _ kb)
  | .Lt => cma_lt
  | .LtE => cma_int
  | .Gt => cma_int
  | .GtE => cma_int
  | .Is => fun Z v w x y h H k Q rv rw' rh op q => by
    cases w with
    | non =>
      have op : k (isNon v) := by cases v <;> exact op
      cases rw'
      refine .inl ⟨rfl, ?_⟩
      rw [non_of rv]
      exact q _ op
    | bl b =>
      have op : k (isBlA v b) := by cases v <;> exact op
      cases rw'
      exact .inr ⟨b, rfl, okBl_of rv, by rw [isBl_of rv]; exact q _ op⟩
    | _ => cases v <;> exact op.elim
  | .IsNot => fun Z v w x y h H k Q rv rw' rh op q => by
    cases w with
    | non =>
      have op : k (!isNon v) := by cases v <;> exact op
      cases rw'
      refine .inl ⟨rfl, ?_⟩
      rw [non_of rv]
      exact q _ op
    | bl b =>
      have op : k (!isBlA v b) := by cases v <;> exact op
      cases rw'
      exact .inr ⟨b, rfl, okBl_of rv, by rw [isBl_of rv]; exact q _ op⟩
    | _ => cases v <;> exact op.elim
  | .In => fun Z v w x y h H k Q rv rw' rh op q => cma_in (neg := false) rv rw' rh op q
  | .NotIn => fun Z v w x y h H k Q rv rw' rh op q => cma_in (neg := true) (k := fun b => k (!b)) rv rw' rh op (fun b kb => q _ kb)
def aTru : Va → Ah → (Bool → Prop) → Prop
  | .non, _, k => k false
  | .bl b, _, k => k b
  | .int i, _, k => k (i != 0)
  | .str s, _, k => s.length ≤ sizeLine ∧ k ((s.length : Int) != 0)
  | .tup xs, _, k => k (!xs.isEmpty)
  | .fls xs, _, k => k (!xs.isEmpty)
  | .ref a, h, k => (∃ xs, h a = some (.lst xs) ∧ k (!xs.isEmpty)) ∨ ∃ kvs, h a = some (.dk kvs) ∧ k (!kvs.isEmpty)
theorem RVs.empty {g : Gx} {H : Hp} {xs : List Va} {ys : List V} (r : RVs g H xs ys) : ys.isEmpty = xs.isEmpty := by cases r <;> rfl
theorem tru_of {g : Gx} {Z : Hp} {v : Va} {x : V} {h : Ah} {H : Hp} {k : Bool → Prop} (rv : RV g H v x) (rh : RH g Z H h) (op : aTru v h k) : ∃ b, TruV g.K x H b ∧ k b := by
  cases v with
  | non => cases rv; exact ⟨_, rfl, op⟩
  | bl b => cases rv; exact ⟨_, rfl, op⟩
  | int i => cases rv; exact ⟨_, rfl, op⟩
  | str s => cases rv; exact ⟨_, ⟨op.1, rfl⟩, op.2⟩
  | tup xs => cases rv with | tup hp rx => exact ⟨_, .inr (.inl ⟨_, hp.sq, by rw [rx.empty]⟩), op⟩
  | fls xs => cases rv with | fls hp rx => exact ⟨_, .inl ⟨_, hp.sq, by rw [rx.empty]⟩, op⟩
  | ref a =>
    cases rv
    rcases op with ⟨xs, ha, op⟩ | ⟨kvs, ha, op⟩
    · obtain ⟨ys, ha', rx⟩ := rh.o _ _ ha
      exact ⟨_, .inl ⟨_, SqL.of ha', by rw [rx.empty]⟩, op⟩
    · obtain ⟨ys, ha', rx⟩ := rh.o _ _ ha
      exact ⟨_, .inr (.inr ⟨_, ha', by cases rx <;> rfl⟩), op⟩
theorem atI_of {g : Gx} {H : Hp} {xs : List Va} {ys : List V} {i : Int} {u : Va} (r : RVs g H xs ys) (e : atI xs i = some u) : ∃ y, atI ys i = some y ∧ RV g H u y := by
  unfold atI at e ⊢
  rw [← r.length]
  cases q : ixN xs.length i with
  | none => rw [q] at e; cases e
  | some j =>
    rw [q] at e
    obtain ⟨y, e2, r2⟩ := r.got (i := j) (u := u) e
    exact ⟨y, e2, r2⟩
def aIx : Va → Va → Ah → KA → Prop
  | .tup xs, .int i, h, Q => ∃ u, atI xs i = some u ∧ Q u h
  | .fls xs, .int i, h, Q => ∃ u, atI xs i = some u ∧ Q u h
  | .str z, .int i, h, Q => z.length ≤ sizeLine ∧ ∃ c, atI z.cps.toList i = some c ∧ Q (.str ⟨#[c]⟩) h
  | .ref a, w, h, Q => (∃ xs i u, h a = some (.lst xs) ∧ w = .int i ∧ atI xs i = some u ∧ Q u h) ∨ ∃ kvs ky u, (h a = some (.dk kvs) ∨ h a = some (.fdk kvs)) ∧ keyA w = some ky ∧ valA kvs ky = some u ∧ Q u h
  | _, _, _, _ => False
def rIxA (K : PySem.W.Frag) : R2 := fun x y H Q => rIx K x y H Q ∨ ∃ a v, x = .ref a ∧ DGet H a y (some v) ∧ Q v H
theorem ix_dict {X : Cx} (hu : X.A.units + 1 < cLine) : IxR X (fun x y H Q => ∃ a v, x = .ref a ∧ DGet H a y (some v) ∧ Q v H) := by
  intro value slice pins s σ H x y v u Q I rx ry h hs
  obtain ⟨a, w, rfl, d, q⟩ := h
  cases rx
  exact tail_any (dict_typeIs I d) PySem.F.slot_dict_getitem.lookup (d_getItem hu I d ry fun w' s' I' rw' => ⟨w, H, I', rw', q⟩) hs
theorem ix_any {X : Cx} (hu : X.A.units + 1 < cLine) : IxR X (rIxA X.K) := ix_seq.or (ix_dict hu)
theorem opa_ix {g : Gx} : OpA g (rIxA g.K) aIx := by
  intro Z v w x y h H Qa Q rv rw' rh op k
  cases v with
  | tup xs => cases w with
    | int i =>
      obtain ⟨u, e, op⟩ := op
      cases rv with | tup hp rx =>
      cases rw'
      obtain ⟨z, e2, r2⟩ := atI_of rx e
      exact .inl (.inr (.inl ⟨_, _, i, z, rfl, rfl, hp.sq, e2, k _ _ _ _ op .refl r2 rh⟩))
    | _ => exact op.elim
  | fls xs => cases w with
    | int i =>
      obtain ⟨u, e, op⟩ := op
      cases rv with | fls hp rx =>
      cases rw'
      obtain ⟨z, e2, r2⟩ := atI_of rx e
      exact .inl (.inl ⟨_, _, i, z, rfl, rfl, hp.sq, e2, k _ _ _ _ op .refl r2 rh⟩)
    | _ => exact op.elim
  | str z => cases w with
    | int i =>
      obtain ⟨hz, c, e, op⟩ := op
      cases rv
      cases rw'
      exact .inl (.inr (.inr ⟨_, i, c, rfl, rfl, hz, e, k _ _ _ _ op .refl (.str _) rh⟩))
    | _ => exact op.elim
  | ref a =>
    have op : (∃ xs i u, h a = some (.lst xs) ∧ w = .int i ∧ atI xs i = some u ∧ Qa u h) ∨ ∃ kvs ky u, (h a = some (.dk kvs) ∨ h a = some (.fdk kvs)) ∧ keyA w = some ky ∧ valA kvs ky = some u ∧ Qa u h := by cases w <;> exact op
    cases rv
    rcases op with ⟨xs, i, u, ha, rfl, e, op⟩ | ⟨kvs, ky, u, ha, ek, e, op⟩
    · obtain ⟨ys, ha', rx⟩ := rh.o _ _ ha
      cases rw'
      obtain ⟨z, e2, r2⟩ := atI_of rx e
      exact .inl (.inl ⟨_, _, i, z, rfl, rfl, SqL.of ha', e2, k _ _ _ _ op .refl r2 rh⟩)
    · obtain ⟨ys, ha', rx⟩ : ∃ ys, Rd H a (.dK ys) ∧ RFs g H kvs ys := by
        rcases ha with ha | ha
        · obtain ⟨ys, ha', rx⟩ := rh.o _ _ ha
          exact ⟨ys, .inl ha', rx⟩
        · obtain ⟨o, ys, ha', rx⟩ := rh.o _ _ ha
          exact ⟨ys, .inr ⟨o, ha'⟩, rx⟩
      have e1 := key_of rw' ek
      subst e1
      rcases rx.val ky with ⟨a1, a2⟩ | ⟨u', z, a1, a2, r2⟩
      · rw [a1] at e; cases e
      · rw [a1] at e; cases e
        have g1 : DGet H a (kV ky) (valV ys ky) := .inl ⟨ys, ky, ha', rfl, rfl⟩
        rw [a2] at g1
        exact .inr ⟨a, z, rfl, g1, k _ _ _ _ op .refl r2 rh⟩
  | _ => cases w <;> exact op.elim
def cutA (xs : List Va) (lo hi : Option Int) : List Va := (xs.drop (HT.sIx xs.length 0 lo)).take (HT.sIx xs.length xs.length hi - HT.sIx xs.length 0 lo)
theorem RVs.cut {g : Gx} {H : Hp} {xs : List Va} {ys : List V} (r : RVs g H xs ys) (lo hi : Option Int) : RVs g H (cutA xs lo hi) (cutV ys lo hi) := by
  unfold cutA cutV
  rw [r.length]
  exact (r.drop _).take _
def aSl (v : Va) (lo hi : Option Int) (h : Ah) (Q : KA) : Prop := match v with
  | .tup xs => Q (.tup (cutA xs lo hi)) h
  | .fls xs => ∀ p, h p = none → Q (.ref p) (put h p (.lst (cutA xs lo hi)))
  | .str z => z.length ≤ sizeLine ∧ Q (.str (cutS z lo hi)) h
  | .ref a => ∃ xs, h a = some (.lst xs) ∧ ∀ p, h p = none → Q (.ref p) (put h p (.lst (cutA xs lo hi)))
  | _ => False
def rSlA (K : PySem.W.Frag) : V → Option Int → Option Int → Hp → VK → Prop := fun x lo hi H Q => rSlL K x lo hi H Q ∨ rCutS K x lo hi H Q ∨
  (∃ a xs, x = .ref a ∧ SqT K H a xs ∧ (HT.sIx xs.length 0 lo = 0 ∧ HT.sIx xs.length xs.length hi = xs.length) ∧ Q (.ref a) H) ∨ (∃ z, x = .str z ∧ z.length ≤ sizeLine ∧ Q (.str (cutS z lo hi)) H)
theorem sla {g : Gx} {Z : Hp} {v : Va} {x : V} {lo hi : Option Int} {h : Ah} {H : Hp} {Qa : KA} {Q : VK} (rv : RV g H v x) (rh : RH g Z H h) (op : aSl v lo hi h Qa)
    (k : ∀ u h' z H', Qa u h' → Ext H H' → RV g H' u z → RH g Z H' h' → Q z H') : rSlA g.K x lo hi H Q := by
  have new : ∀ {xs : List Va} {ys : List V}, RVs g H xs ys → (∀ p, h p = none → Qa (.ref p) (put h p (.lst (cutA xs lo hi)))) → ∀ q, H q = none → Q (.ref q) (upd H q (.lst (cutV ys lo hi))) := fun {xs ys} rx op q nq => by
    have ex : Ext H (upd H q (.lst (cutV ys lo hi))) := .upd (.none nq)
    exact k _ _ _ _ (op q (rh.fresh nq)) ex (.ref q) (rh.alloc nq ⟨_, upd_same, (rx.cut lo hi).ext ex⟩)
  cases v with
  | tup xs =>
    cases rv with | tup hp rx =>
    rename_i p ys
    by_cases w : HT.sIx ys.length 0 lo = 0 ∧ HT.sIx ys.length ys.length hi = ys.length
    · refine .inr (.inr (.inl ⟨p, ys, rfl, hp.sq, w, ?_⟩))
      have e : cutA xs lo hi = xs := by
        unfold cutA
        rw [rx.length, w.1, w.2, ← rx.length]
        simp
      have op : Qa (.tup (cutA xs lo hi)) h := op
      rw [e] at op
      exact k _ _ _ _ op .refl (.tup hp rx) rh
    · refine .inr (.inl ⟨p, ys, rfl, hp.sq, w, newS_of rh (rx.cut lo hi) op k⟩)
  | fls xs => cases rv with | fls hp rx => exact .inl ⟨_, _, rfl, hp.sq, new rx op⟩
  | str z => cases rv; exact .inr (.inr (.inr ⟨z, rfl, op.1, k _ _ _ _ op.2 .refl (.str _) rh⟩))
  | ref a =>
    obtain ⟨xs, ha, op⟩ := op
    cases rv
    obtain ⟨ys, ha', rx⟩ := rh.o _ _ ha
    exact .inl ⟨_, _, rfl, SqL.of ha', new rx op⟩
  | _ => exact op.elim
theorem sl_any {X : Cx} : SlR X (rSlA X.K) := sl_list.or (sl_cutS.or (sl_tupW.or sl_str))
end F2
set_option Elab.async false
set_option linter.all false
set_option maxRecDepth 100000
set_option maxHeartbeats 2000000
namespace F2
open PySem PySem.Spec PyProof.Rows
open L2
def rStrD (K : PySem.W.Frag) : List V → Hp → VK → Prop := fun xs H Q => ∃ (a : Addr) (d : PyData), xs = [V.ref a] ∧ Dp K H (.ref a) d ∧ d.showable = true ∧ d.hasDict = false ∧ d.shown.length ≤ sizeLine ∧ d.depth ≤ 60 ∧ Q (.str d.shown) H
theorem cr_strD {X : Cx} (hu : X.A.units + 64 < cLine) (hg : X.A.guards = some []) : CallR X (.type "str") (rStrD X.K) := by
  intro pins s σ H xs us Q I r h
  obtain ⟨a, d, rfl, hd, h1, h2, h3, h4, q⟩ := h
  rw [Vals.ref1 r]
  obtain ⟨as, rd⟩ := Dp.reads I d _ _ hd (show RelV (.ref a) (.ref a) from rfl)
  exact str_of_reads rd h1 (PyData.noDict_hsm h2) hg (by omega) (fun _ _ e => e) (fun h' u tk keep => ⟨.str d.shown, H, I.kept (t' := tk) keep, ⟨u, rfl⟩, q⟩) h3
def isCon : Va → Prop
  | .tup _ => True
  | .ref _ => True
  | _ => False
def aStrD (v : Va) (h : Ah) (Q : KA) : Prop := isCon v ∧ ∃ d, Da h v d ∧ d.showable = true ∧ d.hasDict = false ∧ d.shown.length ≤ sizeLine ∧ d.depth ≤ 60 ∧ Q (.str d.shown) h
def rInD (K : PySem.W.Frag) : R2 := fun x y H Q => ∃ (a : Addr) (d : PyData) (ds : List PyData), y = .ref a ∧ Dp K H x d ∧ Dp K H (.ref a) (.list ds) ∧ PyData.plainAll ds = true ∧ d.plain = true ∧ d.depth ≤ 60 ∧ Q (.bl (ds.any fun y => PyData.eqv y d)) H
theorem op_inD {X : Cx} (hu : X.A.units + 64 < cLine) : OpR X (compareOp .In) (rInD X.K) := by
  intro pins s σ H x y v u Q I rx ry h
  obtain ⟨a, d, ds, rfl, h1, h2, h3, h4, h5, q⟩ := h
  obtain ⟨as, r1⟩ := Dp.reads I d x v h1 rx
  obtain ⟨bs, r2⟩ := Dp.reads I _ _ u h2 ry
  exact SeqAt.in_list_data r2 r1 h3 h4 (by have := Nat.min_le_right (PyData.depthAll ds) d.depth; omega) ⟨.bl _, H, I, rfl, q⟩
def aInD (v w : Va) (h : Ah) (k : Bool → Prop) : Prop := match w with
  | .ref a => ∃ (d : PyData) (ds : List PyData), Da h v d ∧ Da h (.ref a) (.list ds) ∧ PyData.plainAll ds = true ∧ d.plain = true ∧ d.depth ≤ 60 ∧ k (ds.any fun y => PyData.eqv y d)
  | _ => False
theorem cma_inD {g : Gx} : CmA g (rInD g.K) aInD := by
  intro Z v w x y h H k Q rv rw' rh op q
  cases w with
  | ref a =>
    obtain ⟨d, ds, h1, h2, h3, h4, h5, op⟩ := op
    cases rw'
    exact ⟨a, d, ds, rfl, h1.dp rh rv, h2.dp rh (.ref a), h3, h4, h5, q _ op⟩
  | _ => exact op.elim
def rGtT (K : PySem.W.Frag) : R2 := fun x y H Q => ∃ (a b : Addr) (ns ms : List Int), x = .ref a ∧ y = .ref b ∧ SqT K H a (ns.map V.int) ∧ SqT K H b (ms.map V.int) ∧ Q (.bl (decide (ms < ns))) H
theorem dpInts {K : PySem.W.Frag} {H : Hp} : ∀ ns : List Int, DpAll K H (ns.map V.int) (ns.map PyData.int)
  | [] => .nil
  | n :: ns => .cons (.int n) (dpInts ns)
theorem op_gtT {X : Cx} (hu : X.A.units + 64 < cLine) : OpR X (compareOp .Gt) (rGtT X.K) := by
  intro pins s σ H x y v u Q I rx ry h
  obtain ⟨a, b, ns, ms, rfl, rfl, ha, hb, q⟩ := h
  obtain ⟨as, r1⟩ := Dp.reads I _ _ v (.tup ha (dpInts ns)) rx
  obtain ⟨bs, r2⟩ := Dp.reads I _ _ u (.tup hb (dpInts ms)) ry
  have e : PySem.W.dataLt (.tuple (ms.map .int)) (.tuple (ns.map .int)) = decide (ms < ns) := by
    rw [PySem.W.dataLt_tuple]
    show PySem.W.rowLt (ms.map .int) (ns.map .int) = _
    rw [PySem.W.dataLt_ints]
  refine PySem.W.rcGt_alike _ _ X.A s _ _ as bs r1 r2 (PySem.W.alike_ints _ _) (fun z => by cases z) ?_ X.prog X.w _ _ ?_
  · have h1 : (PyData.tuple (ns.map PyData.int)).depth ≤ 1 := by
      unfold PyData.depth
      rw [PySem.W.depth_ints]
      exact Nat.le_refl _
    have := Nat.min_le_left (PyData.tuple (ns.map PyData.int)).depth (PyData.tuple (ms.map PyData.int)).depth
    omega
  · rw [e]
    exact ⟨.bl _, H, I, rfl, q⟩
def aGtT (v w : Va) (h : Ah) (k : Bool → Prop) : Prop := match v with
  | .tup xs => match w with
    | .tup ys => ∃ ns ms : List Int, xs = ns.map Va.int ∧ ys = ms.map Va.int ∧ k (decide (ms < ns))
    | _ => False
  | _ => False
theorem cma_gtT {g : Gx} : CmA g (rGtT g.K) aGtT := by
  intro Z v w x y h H k Q rv rw' rh op q
  cases v with
  | tup xs =>
    cases w with
    | tup ys =>
      obtain ⟨ns, ms, rfl, rfl, op⟩ := op
      cases rv with | tup hp rx =>
      cases rw' with | tup hq ry =>
      obtain rfl := rx.ints
      obtain rfl := ry.ints
      exact ⟨_, _, ns, ms, rfl, rfl, hp.sq, hq.sq, q _ op⟩
    | _ => exact op.elim
  | _ => exact op.elim
end F2
set_option Elab.async false
set_option linter.all false
set_option maxRecDepth 100000
set_option maxHeartbeats 1000000
namespace F2
open PySem PySem.Spec PyProof.Rows
open L2
inductive B1 where
  | len | list | tuple | int | bool | max | min | sum | sorted | all | str | sortD | sortS | sortP
def B1.nm : B1 → Str
  | .len => "len" | .list => "list" | .tuple => "tuple" | .int => "int" | .bool => "bool" | .max => "max" | .min => "min" | .sum => "sum" | .sorted => "sorted" | .all => "all" | .str => "str" | .sortD => "sorted" | .sortS => "sorted" | .sortP => "sorted"
def B1.val : B1 → Value
  | .len => .builtin "len" | .list => .type "list" | .tuple => .type "tuple" | .int => .type "int" | .bool => .type "bool" | .max => .builtin "max" | .min => .builtin "min" | .sum => .builtin "sum"
  | .sorted => .builtin "sorted" | .all => .builtin "all" | .str => .type "str" | .sortD => .builtin "sorted" | .sortS => .builtin "sorted" | .sortP => .builtin "sorted"
theorem B1.boot : ∀ f : B1, bootBuiltins f.nm = some f.val
  | .len => by decide +kernel
  | .list => by decide +kernel
  | .tuple => by decide +kernel
  | .int => by decide +kernel
  | .bool => by decide +kernel
  | .max => by decide +kernel
  | .min => by decide +kernel
  | .sum => by decide +kernel
  | .sorted => by decide +kernel
  | .all => by decide +kernel
  | .str => by decide +kernel
  | .sortD => by decide +kernel
  | .sortS => by decide +kernel
  | .sortP => by decide +kernel
def prV (p : Int × Int) : Va := .tup [.int p.1, .int p.2]
def atL (v : Va) (h : Ah) (k : List Va → Prop) : Prop := match v with
  | .tup xs => k xs
  | .fls xs => k xs
  | .ref a => ∃ xs, h a = some (.lst xs) ∧ k xs
  | _ => False
def newL (xs : List Va) (h : Ah) (Q : KA) : Prop := ∀ p, h p = none → Q (.ref p) (put h p (.lst xs))
def a1 : B1 → Va → Ah → KA → Prop
  | .len, v, h, Q => match v with
    | .str s => s.length ≤ sizeLine ∧ Q (.int s.length) h
    | .tup xs => Q (.int xs.length) h
    | .fls xs => Q (.int xs.length) h
    | .ref a => (∃ xs, h a = some (.lst xs) ∧ Q (.int xs.length) h) ∨ ∃ kvs, h a = some (.dk kvs) ∧ Q (.int kvs.length) h
    | _ => False
  | .list, v, h, Q => match v with
    | .tup xs => newL xs h Q
    | .fls xs => newL xs h Q
    | .ref a => (∃ xs, h a = some (.lst xs) ∧ newL xs h Q) ∨ ∃ kvs, h a = some (.dk kvs) ∧ newL (kvs.map fun p => match p.1 with | .inl i => Va.int i | .inr x => Va.str x) h Q
    | _ => False
  | .tuple, v, h, Q => match v with
    | .tup xs => Q (.tup xs) h
    | .ref a => ∃ xs, h a = some (.lst xs) ∧ Q (.tup xs) h
    | _ => False
  | .int, v, h, Q => match v with
    | .int i => Q (.int i) h
    | .bl b => Q (.int (if b then 1 else 0)) h
    | _ => False
  | .bool, v, h, Q => match v with
    | .int i => Q (.bl (i != 0)) h
    | .bl b => Q (.bl b) h
    | _ => False
  | .max, v, h, Q => atL v h fun xs => ∃ ns : List Int, xs = ns.map Va.int ∧ 0 < ns.length ∧ ∀ m, m ∈ ns → (∀ y, y ∈ ns → y ≤ m) → Q (.int m) h
  | .min, v, h, Q => atL v h fun xs => ∃ ns : List Int, xs = ns.map Va.int ∧ 0 < ns.length ∧ ∀ m, m ∈ ns → (∀ y, y ∈ ns → m ≤ y) → Q (.int m) h
  | .sum, v, h, Q => atL v h fun xs => ∃ ns : List Int, xs = ns.map Va.int ∧ Q (.int ns.sum) h
  | .sorted, v, h, Q => match v with
    | .ref a => ∃ ns : List Int, h a = some (.lst (ns.map Va.int)) ∧ ∀ ns' : List Int, ns'.Perm ns → ns'.Pairwise (· ≤ ·) → newL (ns'.map Va.int) h Q
    | .tup xs => ∃ ns : List Int, xs = ns.map Va.int ∧ ∀ ns' : List Int, ns'.Perm ns → ns'.Pairwise (· ≤ ·) → newL (ns'.map Va.int) h Q
    | _ => False
  | .all, v, h, Q => match v with
    | .ref a => ∃ bs : List Bool, h a = some (.lst (bs.map Va.bl)) ∧ Q (.bl (bs.all id)) h
    | _ => False
  | .str, v, h, Q => match v with
    | .int i => i.natAbs.log2 < 1920 ∧ Q (.str (toString i)) h
    | .non => Q (.str "None") h
    | _ => False
  | .sortD, v, h, Q => match v with
    | .ref a => ∃ (kvs : List (Key × Va)) (ns : List Int), h a = some (.dk kvs) ∧ (kvs.map fun p => match p.1 with | .inl i => Va.int i | .inr x => Va.str x) = ns.map Va.int ∧ ∀ ns' : List Int, ns'.Perm ns → ns'.Pairwise (· ≤ ·) → newL (ns'.map Va.int) h Q
    | _ => False
  | .sortS, v, h, Q => match v with
    | .ref a => ∃ ss : List Str, h a = some (.lst (ss.map Va.str)) ∧ ss.length < 64 ∧ ∀ ss' : List Str, ss'.Perm ss → sortedS ss' = true → newL (ss'.map Va.str) h Q
    | _ => False
  | .sortP, v, h, Q => match v with
    | .ref a => ∃ ps : List (Int × Int), h a = some (.lst (ps.map prV)) ∧ ∀ ps' : List (Int × Int), ps'.Perm ps → ps'.Pairwise (fun p q => SrtO.lexB q p = false) → newL (ps'.map prV) h Q
    | .tup xs => ∃ ps : List (Int × Int), xs = ps.map prV ∧ ∀ ps' : List (Int × Int), ps'.Perm ps → ps'.Pairwise (fun p q => SrtO.lexB q p = false) → newL (ps'.map prV) h Q
    | _ => False
def r1 (K : PySem.W.Frag) : B1 → List V → Hp → VK → Prop
  | .len => fun xs H Q => (∃ x n, xs = [x] ∧ LenV K x H n ∧ Q (.int n) H) ∨ ∃ a kvs, xs = [.ref a] ∧ H a = some (.dK kvs) ∧ Q (.int kvs.length) H
  | .list => fun xs H Q => (∃ p ys, xs = [.ref p] ∧ (SqL K H p ys ∨ SqT K H p ys) ∧ ∀ l, H l = none → Q (.ref l) (upd H l (.lst ys))) ∨ rListD xs H Q
  | .tuple => fun xs H Q => ∃ p ys, xs = [.ref p] ∧ ((SqL K H p ys ∧ newS ys H Q) ∨ (SqT K H p ys ∧ Q (.ref p) H))
  | .int => fun xs H Q => (∃ i, xs = [.int i] ∧ Q (.int i) H) ∨ ∃ k, xs = [.bl k] ∧ Q (.int (if k then 1 else 0)) H
  | .bool => fun xs H Q => (∃ i, xs = [.int i] ∧ Q (.bl (i != 0)) H) ∨ ∃ k, xs = [.bl k] ∧ Q (.bl k) H
  | .max => fun xs H Q => rMax K xs H Q ∨ rMaxT K xs H Q
  | .min => fun xs H Q => rMin K xs H Q ∨ rMinT K xs H Q
  | .sum => fun xs H Q => rSum K xs H Q ∨ rSumT K xs H Q
  | .sorted => fun xs H Q => rSortedI K xs H Q ∨ rSortedT K xs H Q
  | .all => rAll K
  | .str => fun xs H Q => (∃ i, xs = [.int i] ∧ i.natAbs.log2 < 1920 ∧ Q (.str (toString i)) H) ∨ (xs = [.non] ∧ Q (.str "None") H)
  | .sortD => rSortedD
  | .sortS => rSortedS K
  | .sortP => fun xs H Q => rSortPS K xs H Q ∨ rSortPT K xs H Q
theorem call_str_none {X : Cx} : CallR X (.type "str") (fun xs H Q => xs = [.non] ∧ Q (.str "None") H) := by
  intro pins s σ H xs us Q I r h
  obtain ⟨rfl, q⟩ := h
  obtain ⟨u, rfl, rfl⟩ := vals1 r
  exact PySem.P.str_of_none ⟨.str _, H, I.tok _, ⟨_, rfl⟩, q⟩
theorem cr1 {X : Cx} (hc : X.calm = true) : ∀ f : B1, CallR X f.val (r1 X.K f)
  | .len => call_len.or call_lenD
  | .list => call_list_of.or (call_list_dK hc)
  | .tuple => tup_of
  | .int => call_int1
  | .bool => call_bool1
  | .max => (cr_max hc).or (cr_maxT hc)
  | .min => (cr_min hc).or (cr_minT hc)
  | .sum => (cr_sum hc).or (cr_sumT hc)
  | .sorted => cr_sortedI.or cr_sortedT
  | .all => cr_all hc
  | .str => call_str_int.or call_str_none
  | .sortD => cr_sortedD hc
  | .sortS => cr_sortedS
  | .sortP => cr_sortPS.or cr_sortPT
def kA : Key → Va
  | .inl i => .int i
  | .inr x => .str x
theorem RVs.keys {g : Gx} {H : Hp} : ∀ {v : List (Key × Va)} {x : List (Key × V)}, RFs g H v x → RVs g H (v.map fun p => match p.1 with | .inl i => Va.int i | .inr x => Va.str x) (x.map fun kv => kV kv.1)
  | _, _, .nil => .nil
  | _, _, .cons (f := f) a r => by
    rw [List.map_cons, List.map_cons]
    refine .cons ?_ (RVs.keys r)
    cases f with
    | inl i => exact .int i
    | inr x => exact .str x
theorem RVs.bls {g : Gx} {H : Hp} : ∀ {bs : List Bool} {x : List V}, RVs g H (bs.map Va.bl) x → x = bs.map V.bl
  | [], _, r => by cases r; rfl
  | n :: ns, _, r => by
    cases r with | cons a r => cases a; rw [List.map_cons, RVs.bls r]
theorem RVs.strs {g : Gx} {H : Hp} : ∀ {bs : List Str} {x : List V}, RVs g H (bs.map Va.str) x → x = bs.map V.str
  | [], _, r => by cases r; rfl
  | n :: ns, _, r => by
    cases r with | cons a r => cases a; rw [List.map_cons, RVs.strs r]
theorem RVs.of_strs {g : Gx} {H : Hp} : ∀ (ns : List Str), RVs g H (ns.map Va.str) (ns.map V.str)
  | [] => .nil
  | n :: ns => .cons (.str n) (RVs.of_strs ns)
def kP (H : Hp) : V → Int × Int
  | .ref t => match H t with
    | some (.frz _ (.tup [.int a, .int b])) => (a, b)
    | _ => (0, 0)
  | _ => (0, 0)
theorem RVs.pairs {g : Gx} {H : Hp} : ∀ {ps : List (Int × Int)} {x : List V}, RVs g H (ps.map prV) x → x.map (kP H) = ps ∧ ∀ y ∈ x, ∃ t, y = V.ref t ∧ TupS H t [.int (kP H y).1, .int (kP H y).2]
  | [], _, r => by cases r; exact ⟨rfl, fun _ h => (nomatch h)⟩
  | p :: ps, _, r => by
    cases r with | cons a r =>
    obtain ⟨e, f⟩ := RVs.pairs r
    cases a with | tup hp rx =>
    cases rx with | cons r1 rx =>
    cases rx with | cons r2 rx =>
    cases rx
    cases r1
    cases r2
    rename_i t
    have ek : kP H (V.ref t) = p := by obtain ⟨o, hp, _⟩ := hp; unfold kP; simp only [hp]
    refine ⟨by rw [List.map_cons, ek, e], fun y hy => ?_⟩
    rcases List.mem_cons.mp hy with rfl | hy
    · exact ⟨_, rfl, by rw [ek]; exact hp⟩
    · exact f y hy
theorem RVs.of_pairs {g : Gx} {H : Hp} : ∀ (ys : List V), (∀ y ∈ ys, ∃ t, y = V.ref t ∧ TupS H t [.int (kP H y).1, .int (kP H y).2]) → RVs g H ((ys.map (kP H)).map prV) ys
  | [], _ => .nil
  | y :: ys, h => by
    obtain ⟨t, e, ht⟩ := h y List.mem_cons_self
    rw [List.map_cons, List.map_cons]
    refine .cons ?_ (RVs.of_pairs ys fun z hz => h z (List.mem_cons_of_mem _ hz))
    generalize kP H y = p at ht
    subst e
    exact .tup ht (.cons (.int _) (.cons (.int _) .nil))
theorem newL_of {g : Gx} {Z : Hp} {H : Hp} {h : Ah} {xs : List Va} {ys : List V} {Qa : KA} {Q : VK} (rh : RH g Z H h) (rx : RVs g H xs ys) (op : newL xs h Qa)
    (k : ∀ u h' z H', Qa u h' → Ext H H' → RV g H' u z → RH g Z H' h' → Q z H') : ∀ l, H l = none → Q (.ref l) (upd H l (.lst ys)) := fun l nl => by
  have ex : Ext H (upd H l (.lst ys)) := .upd (.none nl)
  exact k _ _ _ _ (op l (rh.fresh nl)) ex (.ref l) (rh.alloc nl ⟨_, upd_same, rx.ext ex⟩)
theorem atL_of {g : Gx} {Z : Hp} {v : Va} {x : V} {h : Ah} {H : Hp} {k : List Va → Prop} (rv : RV g H v x) (rh : RH g Z H h) (op : atL v h k) :
    ∃ xs, ((∃ ys p, x = .ref p ∧ SqL g.K H p ys ∧ RVs g H xs ys) ∨ ∃ ys p, x = .ref p ∧ SqT g.K H p ys ∧ RVs g H xs ys) ∧ k xs := by
  cases v with
  | tup xs => cases rv with | tup hp rx => exact ⟨_, .inr ⟨_, _, rfl, hp.sq, rx⟩, op⟩
  | fls xs => cases rv with | fls hp rx => exact ⟨_, .inl ⟨_, _, rfl, hp.sq, rx⟩, op⟩
  | ref a =>
    cases rv
    obtain ⟨xs, ha, op⟩ := op
    obtain ⟨ys, ha', rx⟩ := rh.o _ _ ha
    exact ⟨_, .inl ⟨_, _, rfl, SqL.of ha', rx⟩, op⟩
  | _ => exact op.elim
theorem call1 {g : Gx} {Z : Hp} {f : B1} {v : Va} {x : V} {h : Ah} {H : Hp} {Qa : KA} {Q : VK} (rv : RV g H v x) (rh : RH g Z H h) (op : a1 f v h Qa)
    (k : ∀ u h' z H', Qa u h' → Ext H H' → RV g H' u z → RH g Z H' h' → Q z H') : r1 g.K f [x] H Q := by
  have same : ∀ {u : Va} {z : V}, Qa u h → RV g H u z → Q z H := fun q r => k _ _ _ _ q .refl r rh
  cases f with
  | len => cases v with
    | str s => cases rv; exact .inl ⟨_, _, rfl, ⟨op.1, rfl⟩, same op.2 (.int _)⟩
    | tup xs => cases rv with | tup hp rx => exact .inl ⟨_, _, rfl, .inr ⟨_, hp.sq, rx.length⟩, same op (.int _)⟩
    | fls xs => cases rv with | fls hp rx => exact .inl ⟨_, _, rfl, .inl ⟨_, hp.sq, rx.length⟩, same op (.int _)⟩
    | ref a =>
      cases rv
      rcases op with ⟨xs, ha, op⟩ | ⟨kvs, ha, op⟩
      · obtain ⟨ys, ha', rx⟩ := rh.o _ _ ha
        exact .inl ⟨_, _, rfl, .inl ⟨_, SqL.of ha', rx.length⟩, same op (.int _)⟩
      · obtain ⟨ys, ha', rx⟩ := rh.o _ _ ha
        refine .inr ⟨_, _, rfl, ha', same op ?_⟩
        rw [rx.length]; exact .int _
    | _ => exact op.elim
  | list => cases v with
    | tup xs => cases rv with | tup hp rx => exact .inl ⟨_, _, rfl, .inr (hp.sq), newL_of rh rx op k⟩
    | fls xs => cases rv with | fls hp rx => exact .inl ⟨_, _, rfl, .inl hp.sq, newL_of rh rx op k⟩
    | ref a =>
      cases rv
      rcases op with ⟨xs, ha, op⟩ | ⟨kvs, ha, op⟩
      · obtain ⟨ys, ha', rx⟩ := rh.o _ _ ha
        exact .inl ⟨_, _, rfl, .inl (SqL.of ha'), newL_of rh rx op k⟩
      · obtain ⟨ys, ha', rx⟩ := rh.o _ _ ha
        exact .inr ⟨_, _, rfl, ha', newL_of rh (RVs.keys rx) op k⟩
    | _ => exact op.elim
  | tuple => cases v with
    | tup xs => cases rv with | tup hp rx => exact ⟨_, _, rfl, .inr ⟨hp.sq, same op (.tup hp rx)⟩⟩
    | ref a =>
      cases rv
      obtain ⟨xs, ha, op⟩ := op
      obtain ⟨ys, ha', rx⟩ := rh.o _ _ ha
      refine ⟨_, _, rfl, .inl ⟨SqL.of ha', newS_of rh rx op k⟩⟩
    | _ => exact op.elim
  | int => cases v with
    | int i => cases rv; exact .inl ⟨_, rfl, same op (.int _)⟩
    | bl b => cases rv; exact .inr ⟨_, rfl, same op (.int _)⟩
    | _ => exact op.elim
  | bool => cases v with
    | int i => cases rv; exact .inl ⟨_, rfl, same op (.bl _)⟩
    | bl b => cases rv; exact .inr ⟨_, rfl, same op (.bl _)⟩
    | _ => exact op.elim
  | max =>
    obtain ⟨xs, hx, ns, rfl, hl, op⟩ := atL_of rv rh op
    rcases hx with ⟨ys, p, rfl, hp, rx⟩ | ⟨ys, p, rfl, hp, rx⟩
    · rw [rx.ints] at hp
      exact .inl ⟨_, ns, rfl, hp, hl, fun m h1 h2 => same (op m h1 h2) (.int _)⟩
    · rw [rx.ints] at hp
      exact .inr ⟨_, ns, rfl, hp, hl, fun m h1 h2 => same (op m h1 h2) (.int _)⟩
  | min =>
    obtain ⟨xs, hx, ns, rfl, hl, op⟩ := atL_of rv rh op
    rcases hx with ⟨ys, p, rfl, hp, rx⟩ | ⟨ys, p, rfl, hp, rx⟩
    · rw [rx.ints] at hp
      exact .inl ⟨_, ns, rfl, hp, hl, fun m h1 h2 => same (op m h1 h2) (.int _)⟩
    · rw [rx.ints] at hp
      exact .inr ⟨_, ns, rfl, hp, hl, fun m h1 h2 => same (op m h1 h2) (.int _)⟩
  | sum =>
    obtain ⟨xs, hx, ns, rfl, op⟩ := atL_of rv rh op
    rcases hx with ⟨ys, p, rfl, hp, rx⟩ | ⟨ys, p, rfl, hp, rx⟩
    · rw [rx.ints] at hp
      exact .inl ⟨_, ns, rfl, hp, same op (.int _)⟩
    · rw [rx.ints] at hp
      exact .inr ⟨_, ns, rfl, hp, same op (.int _)⟩
  | sorted => cases v with
    | ref a =>
      cases rv
      obtain ⟨ns, ha, op⟩ := op
      obtain ⟨ys, ha', rx⟩ := rh.o _ _ ha
      rw [rx.ints] at ha'
      exact .inl ⟨_, ns, rfl, SqL.of ha', fun ns' p h1 h2 np => newL_of rh (RVs.of_ints ns') (op ns' h1 h2) k p np⟩
    | tup xs =>
      obtain ⟨ns, rfl, op⟩ := op
      cases rv with
      | tup hp rx =>
        rw [rx.ints] at hp
        exact .inr ⟨_, ns, rfl, hp.sq, fun ns' p h1 h2 np => newL_of rh (RVs.of_ints ns') (op ns' h1 h2) k p np⟩
    | _ => exact op.elim
  | all => cases v with
    | ref a =>
      cases rv
      obtain ⟨bs, ha, op⟩ := op
      obtain ⟨ys, ha', rx⟩ := rh.o _ _ ha
      rw [rx.bls] at ha'
      exact ⟨_, bs, rfl, SqL.of ha', same op (.bl _)⟩
    | _ => exact op.elim
  | str => cases v with
    | int i => cases rv; exact .inl ⟨_, rfl, op.1, same op.2 (.str _)⟩
    | non => cases rv; exact .inr ⟨rfl, same op (.str _)⟩
    | _ => exact op.elim
  | sortD => cases v with
    | ref a =>
      cases rv
      obtain ⟨kvs, ns, ha, ek, op⟩ := op
      obtain ⟨ys, ha', rx⟩ := rh.o _ _ ha
      have rk := RVs.keys rx
      rw [ek] at rk
      exact ⟨_, _, ns, rfl, ha', rk.ints, fun ns' p h1 h2 np => newL_of rh (RVs.of_ints ns') (op ns' h1 h2) k p np⟩
    | _ => exact op.elim
  | sortS => cases v with
    | ref a =>
      cases rv
      obtain ⟨ss, ha, hl, op⟩ := op
      obtain ⟨ys, ha', rx⟩ := rh.o _ _ ha
      rw [rx.strs] at ha'
      exact ⟨_, ss, rfl, SqL.of ha', hl, fun ss' p h1 h2 np => newL_of rh (RVs.of_strs ss') (op ss' h1 h2) k p np⟩
    | _ => exact op.elim
  | sortP => cases v with
    | ref a =>
      cases rv
      obtain ⟨ps, ha, op⟩ := op
      obtain ⟨ys, ha', rx⟩ := rh.o _ _ ha
      obtain ⟨e, f⟩ := rx.pairs
      refine .inl ⟨_, ys, kP H, rfl, SqL.of ha', (fun y hy => let ⟨t, e, ht⟩ := f y hy; ⟨t, e, ht.sq⟩), fun zs p h1 h2 np => ?_⟩
      refine newL_of rh (RVs.of_pairs zs fun z hz => f z (h2.perm.mem_iff.mp hz)) (op (zs.map (kP H)) (by rw [← e]; exact h2.perm.map _) ?_) k p np
      rw [List.pairwise_map]
      exact h1
    | tup xs =>
      obtain ⟨ps, rfl, op⟩ := op
      cases rv with | tup hq rx =>
      obtain ⟨e, f⟩ := rx.pairs
      refine .inr ⟨_, _, kP H, rfl, hq.sq, (fun y hy => let ⟨t, e, ht⟩ := f y hy; ⟨t, e, ht.sq⟩), fun zs p h1 h2 np => ?_⟩
      refine newL_of rh (RVs.of_pairs zs fun z hz => f z (h2.perm.mem_iff.mp hz)) (op (zs.map (kP H)) (by rw [← e]; exact h2.perm.map _) ?_) k p np
      rw [List.pairwise_map]
      exact h1
    | _ => exact op.elim
inductive M1 where
  | append | extend | count | index
def a2 (mx : Bool) : Va → Va → Ah → KA → Prop
  | .int i, .int j, h, Q => Q (.int (if mx then (if j > i then j else i) else (if j < i then j else i))) h
  | _, _, _, _ => False
def isSub (a T : String) : Bool := a == T || (a == "bool" && T == "int")
def tyA (v : Va) (h : Ah) (k : String → Prop) : Prop := match v with
  | .non => k "NoneType"
  | .bl _ => k "bool"
  | .int _ => k "int"
  | .str _ => k "str"
  | .tup _ => k "tuple"
  | .fls _ => False
  | .ref a => (∃ xs, h a = some (.lst xs) ∧ k "list") ∨ ∃ kvs, h a = some (.dk kvs) ∧ k "dict"
def tyNames : List String := ["int", "bool", "tuple", "str", "list", "dict"]
theorem kit_sub {K : PySem.W.Frag} {a T : String} (ha : a ∈ ["NoneType", "bool", "int", "str", "tuple", "list", "dict"]) (hT : T ∈ tyNames) : PySem.W.kitOne K (.type a) (.type T) = some (isSub a T) := by
  refine kit_ty ?_
  have all : (["NoneType", "bool", "int", "str", "tuple", "list", "dict"].all fun a => tyNames.all fun T => decide (kitB a T = some (isSub a T))) = true := by decide +kernel
  rw [List.all_eq_true] at all
  have h1 := all a ha
  rw [List.all_eq_true] at h1
  exact of_decide_eq_true (h1 T hT)
theorem isi_of {g : Gx} {Z : Hp} {v : Va} {x : V} {T : String} {h : Ah} {H : Hp} {k : String → Prop} (rv : RV g H v x) (rh : RH g Z H h) (hT : T ∈ tyNames) (op : tyA v h k) :
    ∃ t a, TyX g.K H x t ∧ PySem.W.kitOne g.K t (.type T) = some (isSub a T) ∧ k a := by
  cases v with
  | non => cases rv; exact ⟨_, _, .base .non, kit_sub (by decide) hT, op⟩
  | bl b => cases rv; exact ⟨_, _, .base (.bl b), kit_sub (by decide) hT, op⟩
  | int i => cases rv; exact ⟨_, _, .base (.int i), kit_sub (by decide) hT, op⟩
  | str s => cases rv; exact ⟨_, _, .base (.str s), kit_sub (by decide) hT, op⟩
  | tup xs => cases rv with | tup hp rx => exact ⟨_, _, .fTuple hp.choose_spec.1, kit_sub (by decide) hT, op⟩
  | fls xs => exact op.elim
  | ref a =>
    cases rv
    rcases op with ⟨xs, ha, op⟩ | ⟨kvs, ha, op⟩
    · obtain ⟨ys, ha', rx⟩ := rh.o _ _ ha
      exact ⟨_, _, .base (.lst ha'), kit_sub (by decide) hT, op⟩
    · obtain ⟨ys, ha', rx⟩ := rh.o _ _ ha
      exact ⟨_, _, .base (.dK ha'), kit_sub (by decide) hT, op⟩
end F2
set_option Elab.async false
set_option linter.all false
set_option maxRecDepth 100000
set_option maxHeartbeats 1000000
namespace F2
open PySem PySem.Spec PyProof.Rows
open L2
mutual
inductive Tg where
  | nm (i : Nat)
  | tp (ts : Tgs)
inductive Tgs where
  | nil
  | cons (t : Tg) (ts : Tgs)
end
inductive Sm where | edw | split | join | index
  deriving DecidableEq
def Sm.nm : Sm → Str
  | .edw => "endswith"
  | .split => "split"
  | .join => "join"
  | .index => "index"
mutual
inductive E where
  | var (i : Nat) | int (n : Int) | bl (b : Bool) | non | str (s : Str)
  | gint (x : Str) (n : Int) | gstr (x : Str) (s : Str) | gdef (x : Str) (a : Addr) | rpl (a : E) (y z : Str)
  | bin (o : Operator) (a b : E)
  | neg (a : E) | not (a : E)
  | cmp (o : CmpOp) (a b : E)
  | chn (o o' : CmpOp) (a b c : E)
  | and (a b : E) | or (a b : E)
  | ife (c a b : E)
  | tup (es : Es) | lst (es : Es) | dct0 | sm (f : Sm) (o a : E)
  | ix (a i : E)
  | sl (a : E) (lo hi : Po)
  | b1 (f : B1) (a : E)
  | b2 (mx : Bool) (a b : E)
  | isi (a : E) (T : String)
  | lrev (a : E) | trev (a : E)
  | lset (a : E) | sset (a : E) | ssetT (a : E) | sortR (a : E) | sumL (a b : E) | dctZ (a b : E) | trvT (a : E) | slB (a b : E) | strD (a : E) | inD (a b : E) | gtT (a b : E) | dct1 (a b : E) | dctL (a : E)
  | lrg (r : Rg) | trg (r : Rg)
  | call (f : Str) (sp : ASp) (es : Es) | callG (f : Str) (sp : ASp) (es : Es) | callH (f : Str) (sp : ASp) (es : Es)
  | rsl (a m : E) | orv (a b : E) | stp (a : E) (lo : Po) (m : E) | srtR (a : E)
  | app (o a : E) | ext (o a : E) | pop (o : E) | popAt (o a : E) | get (o a b : E) | cnt (o a : E) | idx (o a : E) | idxD (o a : E) | rem (o a : E) | ins (o a b : E) | rvs (o : E) | get1 (o a : E) | isE (a : E) (kn cs : List Str)
  | fld (C : Str) (o : E) (f : Str)
  | om (C m : Str) (sp : ASp) (o : E) (es : Es)
  | mk (C : Str) (sp : ASp) (es : Es)
  | comp (own : List (Str × Nat)) (elt : E) (tg : Tg) (it : I) (c : Po)
inductive Es where
  | nil
  | cons (e : E) (es : Es)
inductive Po where
  | no
  | at (e : E)
inductive Rg where
  | one (b : E)
  | two (a b : E)
inductive I where
  | seq (e : E)
  | rg (r : Rg)
  | enum (e : E)
  | zip (a b : E)
  | dn (a b : E)
  | txt (e : E)
end
inductive Xe where
  | call (f : Str) (sp : XSp) (es : Es)
  | om (C m : Str) (sp : XSp) (o : E) (es : Es)
  | lst2 (a : E) (x : Xe)
  | ix (x : Xe) (i : E)
  | cl (f : Str) (sp : ASp) (x : Xe)
  | cal2 (i : Nat) (a : Addr) (sp : XSp) (b : Addr) (tp : XSp) (es : Es)
  | b1 (f : B1) (x : Xe)
  | comp (own : List (Str × Nat)) (elt : E) (tg : Tg) (x : Xe) (c : Po)
mutual
inductive S where
  | asg (t : Tg) (e : E)
  | asgL (ts : Tgs) (e : E)
  | sub (o i e : E)
  | augS (o i e : E)
  | fld (C : Str) (o : E) (f : Str) (e : E)
  | par (i j : Nat) (a b : E)
  | par3 (i j l : Nat) (a b c : E)
  | swp (o i p j e : E)
  | aug (i : Nat) (e : E)
  | ret (e : E) | retn | ex (e : E)
  | ite (c : E) (a b : Ss)
  | whl (c : E) (b : Ss)
  | for_ (t : Tg) (it : I) (b : Ss)
  | pass | never
  | asgX (t : Tg) (x : Xe) | exX (x : Xe) | retX (x : Xe)
  | rse (C : Str)
  | try_ (kn : List Str) (b : Ss) (hs : Hs)
  | forD (t : Tg) (i : Nat) (b : Ss)
inductive Ss where
  | nil
  | cons (s : S) (ss : Ss)
inductive Hs where
  | nil
  | cons (C : Str) (i : Option Nat) (su : Ss) (r : Hs)
end
def gv (ρ : Sa) (i : Nat) (k : Va → Prop) : Prop := match ρ[i]? with
  | some (some v) => k v
  | _ => False
mutual
def bnd : Tg → Va → Sa → (Sa → Prop) → Prop
  | .nm i, v, ρ, k => k (ρ.set i (some v))
  | .tp ts, v, ρ, k => match v with
    | .tup xs => bnds ts xs ρ k
    | _ => False
def bnds : Tgs → List Va → Sa → (Sa → Prop) → Prop
  | .nil, [], ρ, k => k ρ
  | .cons t ts, x :: xs, ρ, k => bnd t x ρ fun ρ' => bnds ts xs ρ' k
  | _, _, _, _ => False
end
def loop (gd : Ah → Prop) (f : Va → Sa → Ah → (Sa → Ah → Prop) → Prop) : List Va → Sa → Ah → (Sa → Ah → Prop) → Prop
  | [], ρ, h, k => k ρ h
  | x :: xs, ρ, h, k => f x ρ h fun ρ' h' => gd h' ∧ loop gd f xs ρ' h' k
def comps (gd : Ah → Prop) (f : Va → Ah → (Option Va → Ah → Prop) → Prop) : List Va → List Va → Ah → (List Va → Ah → Prop) → Prop
  | [], acc, h, k => k acc h
  | x :: xs, acc, h, k => f x h fun r h' => gd h' ∧ comps gd f xs (acc ++ r.toList) h' k
def turns (c : TTa) (b : TSa) (D : Enda) : Nat → Sa → Ah → Prop
  | 0, _, _ => False
  | n + 1, ρ, h => c ρ h fun t h' => if t = true then b { D with nx := fun ρ' h'' => turns c b D n ρ' h'' } ρ h' else D.nx ρ h'
def rgA (a b : Int) : List Va := (List.range (b - a).toNat).map fun i => Va.int (a + (i : Nat))
def aSeq (v : Va) (h : Ah) (R : List Va → (Ah → Prop) → Prop) : Prop := match v with
  | .tup xs => R xs fun _ => True
  | .ref a => ∃ xs, h a = some (.lst xs) ∧ R xs fun h' => h' a = some (.lst xs)
  | _ => False
def aZip (v w : Va) (h : Ah) (R : List Va → (Ah → Prop) → Prop) : Prop := match v with
  | .tup xs => match w with
    | .tup ys => R (List.zipWith (fun x y => Va.tup [x, y]) xs ys) fun _ => True
    | .ref b => ∃ ys, h b = some (.lst ys) ∧ R (List.zipWith (fun x y => Va.tup [x, y]) xs ys) fun h' => h' b = some (.lst ys)
    | _ => False
  | .ref a => match w with
    | .tup ys => ∃ xs, h a = some (.lst xs) ∧ R (List.zipWith (fun x y => Va.tup [x, y]) xs ys) fun h' => h' a = some (.lst xs)
    | .ref b => ∃ xs ys, h a = some (.lst xs) ∧ h b = some (.lst ys) ∧ R (List.zipWith (fun x y => Va.tup [x, y]) xs ys) fun h' => h' a = some (.lst xs) ∧ h' b = some (.lst ys)
    | _ => False
  | _ => False
def aAppend (v w : Va) (h : Ah) (Q : KA) : Prop := match v with
  | .ref a => ∃ xs, h a = some (.lst xs) ∧ xs.length < sizeLine ∧ Q .non (put h a (.lst (xs ++ [w])))
  | _ => False
def aExtend (v w : Va) (h : Ah) (Q : KA) : Prop := match v, w with
  | .ref a, .ref b => ∃ xs ys, h a = some (.lst xs) ∧ h b = some (.lst ys) ∧ xs.length + ys.length ≤ sizeLine ∧ Q .non (put h a (.lst (xs ++ ys)))
  | _, _ => False
def aPop (v : Va) (h : Ah) (Q : KA) : Prop := match v with
  | .ref a => ∃ xs u, h a = some (.lst xs) ∧ xs[xs.length - 1]? = some u ∧ Q u (put h a (.lst xs.dropLast))
  | _ => False
def aPopAt (v w : Va) (h : Ah) (Q : KA) : Prop := match v, w with
  | .ref a, .int i => ∃ xs k u, h a = some (.lst xs) ∧ -(2 ^ 63) ≤ i ∧ i < 2 ^ 63 ∧ seqIndex? i xs.length = some k ∧ xs[k]? = some u ∧ Q u (put h a (.lst (xs.eraseIdx k)))
  | _, _ => False
def aGet (v w d : Va) (h : Ah) (Q : KA) : Prop := match v with
  | .ref a => ∃ kvs ky, h a = some (.dk kvs) ∧ keyA w = some ky ∧ Q ((valA kvs ky).getD d) h
  | _ => False
def aCnt (v w : Va) (h : Ah) (Q : KA) : Prop := match v with
  | .ref a => ∃ xs : List Va, h a = some (.lst xs) ∧ flatA w = true ∧ xs.all flatA = true ∧ Q (.int ((xs.countP fun z => eqA z w) : Nat)) h
  | .tup xs => flatA w = true ∧ xs.all flatA = true ∧ Q (.int ((xs.countP fun z => eqA z w) : Nat)) h
  | _ => False
def aIdx (v w : Va) (h : Ah) (Q : KA) : Prop := match v with
  | .ref a => ∃ (xs : List Va) (j : Nat) (z : Va), h a = some (.lst xs) ∧ flatA w = true ∧ xs.all flatA = true ∧ xs[j]? = some z ∧ eqA z w = true ∧ (∀ (m : Nat) (z' : Va), m < j → xs[m]? = some z' → eqA z' w = false) ∧ Q (.int (j : Nat)) h
  | .tup xs => ∃ (j : Nat) (z : Va), flatA w = true ∧ xs.all flatA = true ∧ xs[j]? = some z ∧ eqA z w = true ∧ (∀ (m : Nat) (z' : Va), m < j → xs[m]? = some z' → eqA z' w = false) ∧ Q (.int (j : Nat)) h
  | _ => False
def aIdxD (v w : Va) (h : Ah) (Q : KA) : Prop := match v with
  | .tup xs => ∃ (ds : List PyData) (d : PyData) (j : Nat) (z : PyData), Das h xs ds ∧ Da h w d ∧ PyData.canLayAll0 ds = true ∧ d.canLay0 = true ∧ d.depth ≤ 60 ∧ ds[j]? = some z ∧ PyData.eqv z d = true ∧ (∀ (m : Nat) (z' : PyData), m < j → ds[m]? = some z' → PyData.eqv z' d = false) ∧ Q (.int (j : Nat)) h
  | _ => False
def aRem (v w : Va) (h : Ah) (Q : KA) : Prop := match v with
  | .ref a => ∃ (xs : List Va) (ds : List PyData) (d : PyData) (j : Nat) (z : PyData), h a = some (.lst xs) ∧ Das h xs ds ∧ Da h w d ∧ PyData.canLayAll0 ds = true ∧ d.canLay0 = true ∧ d.depth ≤ 60 ∧ ds[j]? = some z ∧ PyData.eqv z d = true ∧ (∀ (m : Nat) (z' : PyData), m < j → ds[m]? = some z' → PyData.eqv z' d = false) ∧ Q .non (put h a (.lst (xs.eraseIdx j)))
  | _ => False
def isT (v : Va) : Prop := ∃ xs, v = .tup xs
def aIns (v w u : Va) (h : Ah) (Q : KA) : Prop := match v, w with
  | .ref a, .int i => ∃ xs, h a = some (.lst xs) ∧ xs.length < sizeLine ∧ 0 ≤ i ∧ i < 2 ^ 63 ∧ Q .non (put h a (.lst (xs.take i.toNat ++ [u] ++ xs.drop i.toNat)))
  | _, _ => False
def aRvs (v : Va) (h : Ah) (Q : KA) : Prop := match v with
  | .ref a => ∃ xs, h a = some (.lst xs) ∧ Q .non (put h a (.lst xs.reverse))
  | _ => False
def aFld (C : Str) (v : Va) (f : Str) (h : Ah) (Q : KA) : Prop := match v with
  | .ref a => ∃ fs u, h a = some (.ins C fs) ∧ fs.lookup f = some u ∧ Q u h
  | _ => False
def putFA (f : Str) (v : Va) : List (Str × Va) → List (Str × Va)
  | [] => [(f, v)]
  | (g, u) :: r => if g = f then (g, v) :: r else (g, u) :: putFA f v r
def aSetF (C : Str) (v : Va) (f : Str) (u : Va) (h : Ah) (k : Ah → Prop) : Prop := match v with
  | .ref a => ∃ fs, h a = some (.ins C fs) ∧ fs.length < 1000 ∧ k (put h a (.ins C (putFA f u fs)))
  | _ => False
def aSet (v w u : Va) (h : Ah) (k : Ah → Prop) : Prop := match v with
  | .ref a => (∃ xs i j, h a = some (.lst xs) ∧ w = .int i ∧ ixN xs.length i = some j ∧ k (put h a (.lst (xs.set j u)))) ∨
      ∃ kvs ky, h a = some (.dk kvs) ∧ keyA w = some ky ∧ kvs.length < sizeLine ∧ k (put h a (.dk (putA kvs ky u)))
  | _ => False
def aRpl (v : Va) (y z : Str) (h : Ah) (Q : KA) : Prop := ∃ s : Str, ((∃ i : Int, v = .int i ∧ i.natAbs.log2 < 1920 ∧ s = toString i) ∨ (v = .non ∧ s = "None")) ∧ s.length + (s.length + 1) * z.length ≤ 16777216 ∧ Q (.str (Txt.replace s y z)) h
def sgA (z : Str) : List Va := z.cps.toList.map fun c => Va.str ⟨#[c]⟩
def isS (v : Va) : Prop := ∃ a, v = .str a
def aSm (f : Sm) (v w : Va) (h : Ah) (Q : KA) : Prop := match f with
  | .edw => ∃ a b, v = .str a ∧ w = .str b ∧ Q (.bl (Txt.endswith a b)) h
  | .split => ∃ a b, v = .str a ∧ w = .str b ∧ (b.length == 0) = false ∧ a.length + 2 ≤ sizeLine ∧ newL ((Txt.split a b).map Va.str) h Q
  | .join => ∃ a p, ∃ ys : List Str, v = .str a ∧ w = .ref p ∧ h p = some (.lst (ys.map Va.str)) ∧ (ys.map (·.length)).sum + ys.length * a.length ≤ 16777216 ∧ Q (.str (Txt.join a ys)) h
  | .index => ∃ a b i rest, v = .str a ∧ w = .str b ∧ Builtin.Str.occurrences a b 0 a.length 1 = i :: rest ∧ Q (.int (i : Nat)) h
def aLset (v : Va) (h : Ah) (Q : KA) : Prop := atL v h fun xs => ∃ ns : List Int, xs = ns.map Va.int ∧ ns.length ≤ 4000 ∧ ∀ ms : List Int, ms.Nodup → (∀ k, k ∈ ms ↔ k ∈ ns) → Q (.int (ms.length : Nat)) h
def aRsl (v w : Va) (h : Ah) (Q : KA) : Prop := w = .int (-1) ∧ match v with
  | .tup xs => Q (.tup xs.reverse) h
  | _ => False
def aStp (v : Va) (lo : Option Int) (w : Va) (h : Ah) (Q : KA) : Prop := match w with
  | .int st => st ≠ 0 ∧ match v with
    | .fls xs => newL (pickA xs lo st) h Q
    | .ref a => ∃ xs, h a = some (.lst xs) ∧ newL (pickA xs lo st) h Q
    | _ => False
  | _ => False
def aSrtR (v : Va) (h : Ah) (Q : KA) : Prop := match v with
  | .ref a => ∃ ns : List Int, h a = some (.lst (ns.map Va.int)) ∧ ∀ ns' : List Int, ns'.Perm ns → ns'.Pairwise (· ≥ ·) → newL (ns'.map Va.int) h Q
  | _ => False
def rowI (r : List Int) : Va := .tup (r.map Va.int)
def aSortR (v : Va) (h : Ah) (Q : KA) : Prop := match v with
  | .ref a => ∃ rs : List (List Int), h a = some (.lst (rs.map rowI)) ∧ (∀ r ∈ rs, r ≠ []) ∧ ∀ rs' : List (List Int), rs'.Perm rs → rs'.Pairwise (· ≤ ·) → newL (rs'.map rowI) h Q
  | .tup xs => ∃ rs : List (List Int), xs = rs.map rowI ∧ (∀ r ∈ rs, r ≠ []) ∧ ∀ rs' : List (List Int), rs'.Perm rs → rs'.Pairwise (· ≤ ·) → newL (rs'.map rowI) h Q
  | _ => False
def aSumL (v w : Va) (h : Ah) (Q : KA) : Prop := match v with
  | .ref l => ∃ (z : Addr) (as : List Addr) (rows : List (List Va)), w = .ref z ∧ h l = some (.lst (as.map Va.ref)) ∧ h z = some (.lst []) ∧ as.length = rows.length ∧ (∀ (i : Nat) (a : Addr) (r : List Va), as[i]? = some a → rows[i]? = some r → h a = some (.lst r)) ∧ rows.flatten.length ≤ sizeLine ∧
    (rows.flatten = [] → Q (.ref z) h) ∧ newL rows.flatten h Q
  | _ => False
def aSsetT (v : Va) (h : Ah) (Q : KA) : Prop := match v with
  | .tup xs => ∃ ps : List (Int × Int), xs = ps.map prV ∧ ps.length < 64 ∧ (∀ p ∈ ps, (0 ≤ p.1 ∧ p.1 < 64) ∧ (0 ≤ p.2 ∧ p.2 < 64)) ∧ ∀ ps' : List (Int × Int), (∀ p, p ∈ ps' ↔ p ∈ ps) → ps'.Pairwise lessP → newL (ps'.map prV) h Q
  | _ => False
def aSset (v : Va) (h : Ah) (Q : KA) : Prop := atL v h fun xs => ∃ ns us : List Int, xs = ns.map Va.int ∧ ns.length ≤ 4000 ∧ us.length < 4000 ∧ (∀ k ∈ ns, k ∈ us) ∧ ∀ ms : List Int, ms.Pairwise (· < ·) → (∀ k, k ∈ ms ↔ k ∈ ns) → newL (ms.map Va.int) h Q
def aDct1 (v w : Va) (h : Ah) (Q : KA) : Prop := ∃ ky, keyA v = some ky ∧ ∀ p, h p = none → Q (.ref p) (put h p (.dk [(ky, w)]))
def mergeA (kvs more : List (Key × Va)) : List (Key × Va) := more.foldl (fun acc kv => putA acc kv.1 kv.2) kvs
def aDctZ (v w : Va) (h : Ah) (Q : KA) : Prop := match v with
  | .ref a => ∃ (b : Addr) (ks : List Key) (zs : List Va), w = .ref b ∧ h a = some (.lst (ks.map kA)) ∧ h b = some (.lst zs) ∧ ks.length = zs.length ∧ ∀ p, h p = none → Q (.ref p) (put h p (.dk (mergeA [] (ks.zip zs))))
  | _ => False
def aTrvT (v : Va) (h : Ah) (Q : KA) : Prop := match v with
  | .tup xs => Q (.tup xs.reverse) h
  | _ => False
def aSlB (v w : Va) (h : Ah) (Q : KA) : Prop := match v with
  | .ref a => ∃ (b : Bool) (xs : List Va), w = .bl b ∧ h a = some (.lst xs) ∧ newL (cutB b xs) h Q
  | _ => False
def aDctL (v : Va) (h : Ah) (Q : KA) : Prop := match v with
  | .ref a => ∃ kvs : List (Key × Va), h a = some (.lst (kvs.map fun kv => Va.tup [kA kv.1, kv.2])) ∧ ∀ p, h p = none → Q (.ref p) (put h p (.dk (mergeA [] kvs)))
  | _ => False
def excSub (C D : Str) : Bool := C == D || D == ("WebsError" : Str) || D == ("ValueError" : Str)
def aIsE (kn cs : List Str) (v : Va) (h : Ah) (Q : KA) : Prop := match v with
  | .non => Q (.bl false) h
  | .ref p => ∃ C, h p = some (.err C) ∧ C ∈ kn ∧ Q (.bl (cs.any fun D => excSub C D)) h
  | _ => False
def aInt1 (v : Va) (k : Int → Prop) : Prop := match v with
  | .int i => k i
  | _ => False
def aBool (v : Va) (k : Bool → Prop) : Prop := match v with
  | .bl b => k b
  | _ => False
def isL (v : Va) (h : Ah) : Prop := ∃ a xs, v = .ref a ∧ h a = some (.lst xs)
def isLT (v : Va) (h : Ah) : Prop := (∃ xs, v = .tup xs) ∨ isL v h
def dnA (a b : Int) : List Va := (List.range (a - b).toNat).map fun i => Va.int (a - (i : Nat))
def isC (C m : Str) (v : Va) (h : Ah) : Prop := ∃ a fs, v = .ref a ∧ h a = some (.ins C fs) ∧ fs.lookup m = none
def isDk (v : Va) (h : Ah) : Prop := ∃ a kvs, v = .ref a ∧ h a = some (.dk kvs)
mutual
def rdE : E → TEa
  | .var i => fun ρ h Q => gv ρ i fun v => Q v h
  | .int n => fun _ h Q => Q (.int n) h
  | .bl b => fun _ h Q => Q (.bl b) h
  | .non => fun _ h Q => Q .non h
  | .str s => fun _ h Q => Q (.str s) h
  | .gint _ n => fun _ h Q => Q (.int n) h
  | .gstr _ s => fun _ h Q => Q (.str s) h
  | .gdef _ a => fun _ h Q => Q (.ref a) h
  | .rpl a y z => fun ρ h Q => rdE a ρ h fun v h1 => aRpl v y z h1 Q
  | .bin o a b => fun ρ h Q => rdE a ρ h fun v h1 => rdE b ρ h1 fun w h2 => aBin o v w h2 Q
  | .neg a => fun ρ h Q => rdE a ρ h fun v h1 => aInt1 v fun i => Q (.int (-i)) h1
  | .not a => fun ρ h Q => rdE a ρ h fun v h1 => aBool v fun b => Q (.bl (!b)) h1
  | .cmp o a b => fun ρ h Q => rdE a ρ h fun v h1 => rdE b ρ h1 fun w h2 => aCmp o v w h2 fun b => Q (.bl b) h2
  | .chn o o' a b c => fun ρ h Q => rdE a ρ h fun v h1 => rdE b ρ h1 fun w h2 => aCmp o v w h2 fun t => if t = true then rdE c ρ h2 fun u h3 => aCmp o' w u h3 fun t' => Q (.bl t') h3 else Q (.bl false) h2
  | .and a b => fun ρ h Q => rdE a ρ h fun v h1 => aBool v fun c => if c = true then rdE b ρ h1 Q else Q (.bl false) h1
  | .or a b => fun ρ h Q => rdE a ρ h fun v h1 => aBool v fun c => if c = true then Q (.bl true) h1 else rdE b ρ h1 Q
  | .ife c a b => fun ρ h Q => rdT c ρ h fun t h1 => if t = true then rdE a ρ h1 Q else rdE b ρ h1 Q
  | .tup es => fun ρ h Q => rdEs es ρ h fun vs h1 => vs.length ≤ sizeLine ∧ Q (.tup vs) h1
  | .lst es => fun ρ h Q => rdEs es ρ h fun vs h1 => vs.length ≤ sizeLine ∧ newL vs h1 Q
  | .dct0 => fun _ h Q => ∀ p, h p = none → Q (.ref p) (put h p (.dk []))
  | .sm f o a => fun ρ h Q => rdE o ρ h fun v h1 => isS v ∧ rdE a ρ h1 fun w h2 => aSm f v w h2 Q
  | .ix a i => fun ρ h Q => rdE a ρ h fun v h1 => rdE i ρ h1 fun w h2 => aIx v w h2 Q
  | .sl a lo hi => fun ρ h Q => rdE a ρ h fun v h1 => rdP lo ρ h1 fun l h2 => rdP hi ρ h2 fun u h3 => aSl v l u h3 Q
  | .b1 f a => fun ρ h Q => rdE a ρ h fun v h1 => a1 f v h1 Q
  | .b2 mx a b => fun ρ h Q => rdE a ρ h fun v h1 => rdE b ρ h1 fun w h2 => a2 mx v w h2 Q
  | .isi a T => fun ρ h Q => rdE a ρ h fun v h1 => tyA v h1 fun s => Q (.bl (isSub s T)) h1
  | .lrev a => fun ρ h Q => rdE a ρ h fun v h1 => match v with
    | .ref p => ∃ xs, h1 p = some (.lst xs) ∧ newL xs.reverse h1 Q
    | _ => False
  | .trev a => fun ρ h Q => rdE a ρ h fun v h1 => match v with
    | .ref p => ∃ xs, h1 p = some (.lst xs) ∧ Q (.tup xs.reverse) h1
    | _ => False
  | .orv a b => fun ρ h Q => rdE a ρ h fun v h1 => aTru v h1 fun c => if c = true then Q v h1 else rdE b ρ h1 Q
  | .rsl a m => fun ρ h Q => rdE a ρ h fun v h1 => rdE m ρ h1 fun w h2 => aRsl v w h2 Q
  | .stp a lo m => fun ρ h Q => rdE a ρ h fun v h1 => rdP lo ρ h1 fun l h2 => rdE m ρ h2 fun w h3 => aStp v l w h3 Q
  | .srtR a => fun ρ h Q => rdE a ρ h fun v h1 => aSrtR v h1 Q
  | .lset a => fun ρ h Q => rdE a ρ h fun v h1 => aLset v h1 Q
  | .sset a => fun ρ h Q => rdE a ρ h fun v h1 => aSset v h1 Q
  | .sortR a => fun ρ h Q => rdE a ρ h fun v h1 => aSortR v h1 Q
  | .dctZ a b => fun ρ h Q => rdE a ρ h fun v h1 => rdE b ρ h1 fun w h2 => aDctZ v w h2 Q
  | .trvT a => fun ρ h Q => rdE a ρ h fun v h1 => aTrvT v h1 Q
  | .slB a b => fun ρ h Q => rdE a ρ h fun v h1 => rdE b ρ h1 fun w h2 => aSlB v w h2 Q
  | .sumL a b => fun ρ h Q => rdE a ρ h fun v h1 => rdE b ρ h1 fun w h2 => aSumL v w h2 Q
  | .strD a => fun ρ h Q => rdE a ρ h fun v h1 => aStrD v h1 Q
  | .inD a b => fun ρ h Q => rdE a ρ h fun v h1 => rdE b ρ h1 fun w h2 => aInD v w h2 fun b => Q (.bl b) h2
  | .gtT a b => fun ρ h Q => rdE a ρ h fun v h1 => rdE b ρ h1 fun w h2 => aGtT v w h2 fun b => Q (.bl b) h2
  | .ssetT a => fun ρ h Q => rdE a ρ h fun v h1 => aSsetT v h1 Q
  | .dct1 a b => fun ρ h Q => rdE a ρ h fun v h1 => rdE b ρ h1 fun w h2 => aDct1 v w h2 Q
  | .dctL a => fun ρ h Q => rdE a ρ h fun v h1 => aDctL v h1 Q
  | .lrg r => fun ρ h Q => rdR r ρ h fun x y h2 => RgOk x y ∧ newL (rgA x y) h2 Q
  | .trg r => fun ρ h Q => rdR r ρ h fun x y h2 => RgOk x y ∧ Q (.tup (rgA x y)) h2
  | .call _ sp es => fun ρ h Q => rdEs es ρ h fun vs h1 => sp vs h1 Q
  | .callG _ sp es => fun ρ h Q => rdEs es ρ h fun vs h1 => sp vs h1 Q
  | .callH _ sp es => fun ρ h Q => rdEs es ρ h fun vs h1 => sp vs h1 Q
  | .app o a => fun ρ h Q => rdE o ρ h fun v h1 => isL v h1 ∧ rdE a ρ h1 fun w h2 => aAppend v w h2 Q
  | .ext o a => fun ρ h Q => rdE o ρ h fun v h1 => isL v h1 ∧ rdE a ρ h1 fun w h2 => aExtend v w h2 Q
  | .pop o => fun ρ h Q => rdE o ρ h fun v h1 => aPop v h1 Q
  | .popAt o a => fun ρ h Q => rdE o ρ h fun v h1 => isL v h1 ∧ rdE a ρ h1 fun w h2 => aPopAt v w h2 Q
  | .get o a b => fun ρ h Q => rdE o ρ h fun v h1 => isDk v h1 ∧ rdE a ρ h1 fun w h2 => rdE b ρ h2 fun u h3 => aGet v w u h3 Q
  | .ins o a b => fun ρ h Q => rdE o ρ h fun v h1 => isL v h1 ∧ rdE a ρ h1 fun w h2 => rdE b ρ h2 fun u h3 => aIns v w u h3 Q
  | .rvs o => fun ρ h Q => rdE o ρ h fun v h1 => aRvs v h1 Q
  | .get1 o a => fun ρ h Q => rdE o ρ h fun v h1 => isDk v h1 ∧ rdE a ρ h1 fun w h2 => aGet v w .non h2 Q
  | .cnt o a => fun ρ h Q => rdE o ρ h fun v h1 => isLT v h1 ∧ rdE a ρ h1 fun w h2 => aCnt v w h2 Q
  | .idxD o a => fun ρ h Q => rdE o ρ h fun v h1 => isT v ∧ rdE a ρ h1 fun w h2 => aIdxD v w h2 Q
  | .rem o a => fun ρ h Q => rdE o ρ h fun v h1 => isL v h1 ∧ rdE a ρ h1 fun w h2 => aRem v w h2 Q
  | .idx o a => fun ρ h Q => rdE o ρ h fun v h1 => isLT v h1 ∧ rdE a ρ h1 fun w h2 => aIdx v w h2 Q
  | .fld C o f => fun ρ h Q => rdE o ρ h fun v h1 => aFld C v f h1 Q
  | .om C m sp o es => fun ρ h Q => rdE o ρ h fun v h1 => isC C m v h1 ∧ rdEs es ρ h1 fun vs h2 => sp (v :: vs) h2 Q
  | .isE a kn cs => fun ρ h Q => rdE a ρ h fun v h1 => aIsE kn cs v h1 Q
  | .mk C sp es => fun ρ h Q => rdEs es ρ h fun vs h1 => ∀ x, h1 x = none → sp (.ref x :: vs) (put h1 x (.ins C [])) fun v h2 => v = .non ∧ Q (.ref x) h2
  | .comp own elt tg it c => fun ρ h Q => rdI it ρ h fun xs gd h1 => xs.length ≤ sizeLine ∧
      comps gd (fun x h' k => bnd tg x (wipeA ρ (own.map (·.2))) fun ρ2 => rdC c ρ2 h' fun b h2 => if b = true then rdE elt ρ2 h2 fun y h3 => k (some y) h3 else k none h2) xs [] h1 fun acc h2 => newL acc h2 Q
def rdT : E → TTa
  | .not a => fun ρ h Q => rdT a ρ h fun b h1 => Q (!b) h1
  | .and a b => fun ρ h Q => rdT a ρ h fun c h1 => if c = true then rdT b ρ h1 Q else Q false h1
  | .or a b => fun ρ h Q => rdT a ρ h fun c h1 => if c = true then Q true h1 else rdT b ρ h1 Q
  | .cmp o a b => fun ρ h Q => rdE a ρ h fun v h1 => rdE b ρ h1 fun w h2 => aCmp o v w h2 fun b => Q b h2
  | .inD a b => fun ρ h Q => rdE a ρ h fun v h1 => rdE b ρ h1 fun w h2 => aInD v w h2 fun b => Q b h2
  | .gtT a b => fun ρ h Q => rdE a ρ h fun v h1 => rdE b ρ h1 fun w h2 => aGtT v w h2 fun b => Q b h2
  | .chn o o' a b c => fun ρ h Q => rdE a ρ h fun v h1 => rdE b ρ h1 fun w h2 => aCmp o v w h2 fun t => if t = true then rdE c ρ h2 fun u h3 => aCmp o' w u h3 fun t' => Q t' h3 else Q false h2
  | .var i => fun ρ h Q => gv ρ i fun v => aTru v h fun b => Q b h
  | .bl b => fun _ h Q => Q b h
  | .b1 f a => fun ρ h Q => rdE a ρ h fun v h1 => a1 f v h1 fun u h2 => aTru u h2 fun b => Q b h2
  | .sm f o a => fun ρ h Q => rdE o ρ h fun v h1 => isS v ∧ rdE a ρ h1 fun w h2 => aSm f v w h2 fun u h3 => aTru u h3 fun b => Q b h3
  | .isi a T => fun ρ h Q => rdE a ρ h fun v h1 => tyA v h1 fun s => Q (isSub s T) h1
  | .call _ sp es => fun ρ h Q => rdEs es ρ h fun vs h1 => sp vs h1 fun u h2 => aTru u h2 fun b => Q b h2
  | .callG _ sp es => fun ρ h Q => rdEs es ρ h fun vs h1 => sp vs h1 fun u h2 => aTru u h2 fun b => Q b h2
  | .ix a i => fun ρ h Q => rdE a ρ h fun v h1 => rdE i ρ h1 fun w h2 => aIx v w h2 fun u h3 => aTru u h3 fun b => Q b h3
  | .fld C o f => fun ρ h Q => rdE o ρ h fun v h1 => aFld C v f h1 fun u h3 => aTru u h3 fun b => Q b h3
  | .isE a kn cs => fun ρ h Q => rdE a ρ h fun v h1 => aIsE kn cs v h1 fun u h3 => aTru u h3 fun b => Q b h3
  | .om C m sp o es => fun ρ h Q => rdE o ρ h fun v h1 => isC C m v h1 ∧ rdEs es ρ h1 fun vs h2 => sp (v :: vs) h2 fun u h3 => aTru u h3 fun b => Q b h3
  | .bin o a b => fun ρ h Q => rdE a ρ h fun v h1 => rdE b ρ h1 fun w h2 => aBin o v w h2 fun u h3 => aTru u h3 fun b => Q b h3
  | _ => fun _ _ _ => False
def rdEs : Es → TAa
  | .nil => fun _ h Q => Q [] h
  | .cons e es => fun ρ h Q => rdE e ρ h fun v h1 => rdEs es ρ h1 fun vs h2 => Q (v :: vs) h2
def rdP : Po → Sa → Ah → (Option Int → Ah → Prop) → Prop
  | .no => fun _ h Q => Q none h
  | .at e => fun ρ h Q => rdE e ρ h fun v h1 => aInt1 v fun i => Q (some i) h1
def rdR : Rg → Sa → Ah → (Int → Int → Ah → Prop) → Prop
  | .one b => fun ρ h Q => rdE b ρ h fun v h1 => aInt1 v fun j => Q 0 j h1
  | .two a b => fun ρ h Q => rdE a ρ h fun v h1 => rdE b ρ h1 fun w h2 => aInt1 v fun i => aInt1 w fun j => Q i j h2
def rdC : Po → TTa
  | .no => fun _ h Q => Q true h
  | .at e => fun ρ h Q => rdT e ρ h Q
def rdI : I → Sa → Ah → (List Va → (Ah → Prop) → Ah → Prop) → Prop
  | .seq e => fun ρ h R => rdE e ρ h fun v h1 => aSeq v h1 fun xs gd => R xs gd h1
  | .rg r => fun ρ h R => rdR r ρ h fun x y h2 => (-(2 ^ 62) ≤ x ∧ x < 2 ^ 62 ∧ -(2 ^ 62) ≤ y ∧ y < 2 ^ 62) ∧ R (rgA x y) (fun _ => True) h2
  | .enum e => fun ρ h R => rdE e ρ h fun v h1 => aSeq v h1 fun xs gd => R (xs.zipIdx.map fun p => Va.tup [.int (p.2 : Nat), p.1]) gd h1
  | .zip a b => fun ρ h R => rdE a ρ h fun v h1 => rdE b ρ h1 fun w h2 => aZip v w h2 fun xs gd => R xs gd h2
  | .txt e => fun ρ h R => rdE e ρ h fun v h1 => ∃ z, v = .str z ∧ R (sgA z) (fun _ => True) h1
  | .dn a b => fun ρ h R => rdE a ρ h fun v h1 => rdE b ρ h1 fun w h2 => aInt1 v fun x => aInt1 w fun y => (-(2 ^ 62) ≤ x ∧ x < 2 ^ 62 ∧ -(2 ^ 62) ≤ y ∧ y < 2 ^ 62) ∧ R (dnA x y) (fun _ => True) h2
end
def aGetL (v w : Va) (h : Ah) (k : Va → Prop) : Prop := ∃ (p : Addr) (xs : List Va) (j : Nat) (u : Va), v = .ref p ∧ w = .int (j : Nat) ∧ h p = some (.lst xs) ∧ xs[j]? = some u ∧ j < 2 ^ 62 ∧ k u
def rdX : Xe → TXa
  | .call _ sp es => fun ρ h Q E => rdEs es ρ h fun vs h1 => sp vs h1 Q E
  | .om C m sp o es => fun ρ h Q E => rdE o ρ h fun v h1 => isC C m v h1 ∧ rdEs es ρ h1 fun vs h2 => sp (v :: vs) h2 Q E
  | .lst2 a x => fun ρ h Q E => rdE a ρ h fun v h1 => rdX x ρ h1 (fun w h2 => newL [v, w] h2 Q) E
  | .ix x i => fun ρ h Q E => rdX x ρ h (fun v h1 => rdE i ρ h1 fun w h2 => aIx v w h2 Q) E
  | .cl _ sp x => fun ρ h Q E => rdX x ρ h (fun v h1 => sp [v] h1 Q) E
  | .cal2 i a sp b tp es => fun ρ h Q E => gv ρ i fun v => (v = .ref a ∧ rdEs es ρ h fun vs h1 => sp vs h1 Q E) ∨ (v = .ref b ∧ rdEs es ρ h fun vs h1 => tp vs h1 Q E)
  | .b1 f x => fun ρ h Q E => rdX x ρ h (fun v h1 => a1 f v h1 Q) E
  | .comp own elt tg x c => fun ρ h Q E => rdX x ρ h (fun v h1 => aSeq v h1 fun xs gd => xs.length ≤ sizeLine ∧
      comps gd (fun x h' k => bnd tg x (wipeA ρ (own.map (·.2))) fun ρ2 => rdC c ρ2 h' fun b h2 => if b = true then rdE elt ρ2 h2 fun y h3 => k (some y) h3 else k none h2) xs [] h1 fun acc h2 => newL acc h2 Q) E
def bndA (i : Option Nat) (a : Addr) (ρ : Sa) : Sa := match i with
  | none => ρ
  | some i => ρ.set i (some (.ref a))
def clrA (i : Option Nat) (ρ : Sa) : Sa := match i with
  | none => ρ
  | some i => ρ.set i none
def keysV (kvs : List (Key × Va)) : List Va := kvs.map fun p => match p.1 with | .inl i => Va.int i | .inr x => Va.str x
def aLst (v : Va) (h : Ah) (k : List Va → Prop) : Prop := match v with
  | .ref a => ∃ xs, h a = some (.lst xs) ∧ k xs
  | _ => False
mutual
def rdS : S → TSa
  | .asgL ts e => fun D ρ h => rdE e ρ h fun v h1 => aLst v h1 fun xs => bnds ts xs ρ fun ρ' => D.nx ρ' h1
  | .asg t e => fun D ρ h => rdE e ρ h fun v h1 => bnd t v ρ fun ρ' => D.nx ρ' h1
  | .sub o i e => fun D ρ h => rdE e ρ h fun u h1 => rdE o ρ h1 fun v h2 => rdE i ρ h2 fun w h3 => aSet v w u h3 fun h4 => D.nx ρ h4
  | .augS o i e => fun D ρ h => rdE o ρ h fun v h1 => rdE i ρ h1 fun w h2 => aGetL v w h2 fun u => rdE e ρ h2 fun z h3 => aInt1 u fun a => aInt1 z fun b => aSet v w (.int (a + b)) h3 fun h4 => D.nx ρ h4
  | .fld C o f e => fun D ρ h => rdE e ρ h fun u h1 => rdE o ρ h1 fun v h2 => aSetF C v f u h2 fun h3 => D.nx ρ h3
  | .swp o i p j e => fun D ρ h => rdE e ρ h fun u h1 => ∃ u1 u2, u = .tup [u1, u2] ∧ rdE o ρ h1 fun v h2 => rdE i ρ h2 fun w h3 => aSet v w u1 h3 fun h4 => rdE p ρ h4 fun v2 h5 => rdE j ρ h5 fun w2 h6 => aSet v2 w2 u2 h6 fun h7 => D.nx ρ h7
  | .par3 i j l a b c => fun D ρ h => rdE a ρ h fun u h1 => rdE b ρ h1 fun v h2 => rdE c ρ h2 fun w h3 => D.nx (((ρ.set i (some u)).set j (some v)).set l (some w)) h3
  | .par i j a b => fun D ρ h => rdE a ρ h fun v h1 => rdE b ρ h1 fun w h2 => D.nx ((ρ.set i (some v)).set j (some w)) h2
  | .aug i e => fun D ρ h => gv ρ i fun v => rdE e ρ h fun w h1 => aInt1 v fun x => aInt1 w fun y => D.nx (ρ.set i (some (.int (x + y)))) h1
  | .ret e => fun D ρ h => rdE e ρ h D.rt
  | .retn => fun D _ h => D.rt .non h
  | .ex e => fun D ρ h => rdE e ρ h fun _ h1 => D.nx ρ h1
  | .ite c a b => fun D ρ h => rdT c ρ h fun t h1 => if t = true then rdSs a D ρ h1 else rdSs b D ρ h1
  | .whl c b => fun D ρ h => ∃ n, turns (rdT c) (rdSs b) D n ρ h
  | .for_ t it b => fun D ρ h => rdI it ρ h fun xs gd h1 => loop gd (fun x ρ1 h2 k => bnd t x ρ1 fun ρ2 => rdSs b { D with nx := k } ρ2 h2) xs ρ h1 D.nx
  | .pass => fun D ρ h => D.nx ρ h
  | .never => fun _ _ _ => False
  | .asgX t x => fun D ρ h => rdX x ρ h (fun v h1 => bnd t v ρ fun ρ' => D.nx ρ' h1) fun C h1 => D.ex C ρ h1
  | .exX x => fun D ρ h => rdX x ρ h (fun _ h1 => D.nx ρ h1) fun C h1 => D.ex C ρ h1
  | .retX x => fun D ρ h => rdX x ρ h D.rt fun C h1 => D.ex C ρ h1
  | .rse C => fun D ρ h => D.ex C ρ h
  | .try_ kn b hs => fun D ρ h => rdSs b { D with ex := fun C ρ' h' => C ∈ kn ∧ rdHs hs D C ρ' h' } ρ h
  | .forD t i b => fun D ρ h => gv ρ i fun v => ∃ a kvs, v = .ref a ∧ h a = some (.dk kvs) ∧
      loop (fun h' => h' a = some (.fdk kvs)) (fun x ρ1 h2 k => bnd t x ρ1 fun ρ2 => rdSs b { nx := k, rt := fun v h' => h' a = some (.fdk kvs) ∧ D.rt v (put h' a (.dk kvs)) } ρ2 h2) (keysV kvs) ρ (put h a (.fdk kvs)) fun ρ' h' => D.nx ρ' (put h' a (.dk kvs))
def rdHs : Hs → Enda → Str → Sa → Ah → Prop
  | .nil => fun D C ρ h => D.ex C ρ h
  | .cons C' i su r => fun D C ρ h => if excSub C C' = true then ∀ a, h a = none → rdSs su { nx := fun ρ' h' => D.nx (clrA i ρ') h', rt := D.rt } (bndA i a ρ) (put h a (.err C)) else rdHs r D C ρ h
def rdSs : Ss → TSa
  | .nil => fun D ρ h => D.nx ρ h
  | .cons s ss => fun D ρ h => rdS s { D with nx := fun ρ' h' => rdSs ss D ρ' h' } ρ h
end
end F2
set_option Elab.async false
set_option linter.all false
set_option maxRecDepth 100000
set_option maxHeartbeats 2000000
namespace F2
open PySem PySem.Spec PyProof.Rows
open L2
def isStar : Expr → Bool
  | .Starred _ _ => true
  | _ => false
def isSlc : Expr → Bool
  | .Slice _ _ _ _ => true
  | _ => false
def isCmpr : Expr → Bool
  | .ListComp _ _ _ _ => true
  | .SetComp _ _ _ _ => true
  | .DictComp _ _ _ _ _ => true
  | _ => false
def isSetD : Expr → Bool
  | .Set _ _ _ => true
  | _ => false
def isTupD : Expr → Bool
  | .Tuple _ _ _ => true
  | .List _ _ => true
  | _ => false
def noSw (sc : Scope) : Expr → Bool
  | .Tuple ts _ _ => ts.any fun t => match t with
    | .Name n _ => !(sc.names.lookup n == some .local)
    | _ => true
  | _ => false
def isBop : Expr → Bool
  | .BoolOp _ _ _ => true
  | _ => false
def isTst : Expr → Bool
  | .UnaryOp .Not _ _ => true
  | .BoolOp _ _ _ => true
  | .IfExp _ _ _ _ => true
  | .Compare _ _ _ _ => true
  | _ => false
def isCall0 : Expr → Bool
  | .Call (.Name _ _) [] [] _ => true
  | _ => false
def isTrueC : Expr → Bool
  | .Constant (.bool b) _ _ => b
  | _ => false
theorem trueC_ok {e : Expr} (h : isTrueC e = true) : ∃ k p, e = .Constant (.bool true) k p := by
  unfold isTrueC at h
  split at h
  · subst h; exact ⟨_, _, rfl⟩
  · cases h
def isRev : List Keyword → Bool
  | [] => false
  | k :: r => r.isEmpty && decide (k.arg = some ("reverse" : Str)) && isTrueC k.value
theorem rev_ok {ks : List Keyword} (h : isRev ks = true) : ∃ k p q, ks = [⟨some ("reverse" : Str), .Constant (.bool true) k p, q⟩] := by
  cases ks with
  | nil => cases h
  | cons a r =>
    have h : (r.isEmpty && decide (a.arg = some ("reverse" : Str)) && isTrueC a.value) = true := h
    simp only [Bool.and_eq_true, decide_eq_true_eq, List.isEmpty_iff] at h
    obtain ⟨⟨rfl, h1⟩, h3⟩ := h
    obtain ⟨k, p, h2⟩ := trueC_ok h3
    clear h3
    obtain ⟨x, v, q⟩ := a
    simp only at h1 h2
    subst h1; subst h2
    exact ⟨k, p, q, rfl⟩
theorem star_ok {e : Expr} (h : isStar e = false) (es : List Expr) (env : Env) : starEach (e :: es) env = (false, eval e env) :: starEach es env := by
  cases e <;> first | rfl | cases (show true = false from h)
theorem star_all (pos : Pos) (env : Env) : ∀ {es : List Expr}, (es.all fun e => !isStar e) = true → (backTo pos (starEach es env)).any (·.1) = false
  | [], _ => rfl
  | e :: es, h => by
    rw [List.all_cons, Bool.and_eq_true] at h
    have h1 : isStar e = false := by simpa using h.1
    rw [star_ok h1]
    show (false || (backTo pos (starEach es env)).any (·.1)) = false
    rw [star_all pos env h.2]
    rfl
theorem slc_ok {e : Expr} (h : isSlc e = false) : PlainIx e := by
  intro o i
  cases e <;> first | rfl | cases (show true = false from h)
theorem set_ok {e : Expr} (h : isSetD e = false) (env : Env) (x : Value) : foldedSetIterable e env x = pure x := by
  cases e <;> first | rfl | cases (show true = false from h)
theorem mark_ok {e : Expr} (h : isSetD e = false) (op : CmpOp) : behindInMarks op e = false := by
  cases e <;> first | rfl | cases (show true = false from h)
theorem tst_ok {e : Expr} (h : isTst e = false) (env : Env) (whole : Sem Value) : PySem.isTrue e env whole = (do let v ← whole; standAt e.pos; holding [v] (truthy v)) := by
  cases e with
  | UnaryOp op x p => cases op <;> first | rfl | cases (show true = false from h)
  | BoolOp _ _ _ => cases (show true = false from h)
  | IfExp _ _ _ _ => cases (show true = false from h)
  | Compare _ _ _ _ => cases (show true = false from h)
  | _ => rfl
theorem swap_ok {e : Expr} (h : isCmpr e = false) (t : Option Expr) (l : Nat) (env : Env) : swapsWith e t l env = pure false := by
  cases e <;> first | rfl | cases (show true = false from h)
theorem swap_at {e x : Expr} {m : Str} {p : Pos} (l : Nat) (env : Env) : swapsWith e (some (.Attribute x m p)) l env = pure false := by
  cases e <;> rfl
theorem swap_ix {e x y : Expr} {p : Pos} (l : Nat) (env : Env) : swapsWith e (some (.Subscript x y p)) l env = pure false := by
  cases e <;> rfl
theorem base_ok {e : Expr} (h : isCall0 e = false) (f : Str) (env : Env) (w : Sem Value) : attributeBase e f env w = w := by
  unfold attributeBase
  split
  · cases (show true = false from h)
  · rfl
def visB (sc : Scope) (x : Str) : Bool := match sc.names.lookup x with
  | some .local => true
  | some .cell => true
  | some .free => true
  | _ => false
theorem vis_ok {sc : Scope} {x : Str} (h : visB sc x = true) : Vis sc x := by
  unfold visB at h
  split at h
  · exact .inl (by assumption)
  · exact .inr (.inl (by assumption))
  · exact .inr (.inr (by assumption))
  · cases h
def locB (sc : Scope) (fn : Str → Bool) (x : Str) : Bool := match sc.names.lookup x with
  | some .local => true
  | some .cell => fn x
  | _ => false
theorem loc_ok {sc : Scope} {fn : Str → Bool} {x : Str} (h : locB sc fn x = true) : Loc sc x ∧ (fn x = true ∨ sc.names.lookup x = some .local) := by
  unfold locB at h
  split at h
  · rename_i e; exact ⟨.inl e, .inr e⟩
  · rename_i e; exact ⟨.inr e, .inl h⟩
  · cases h
def glB (sc : Scope) (x : Str) : Bool := match sc.names.lookup x with
  | some .globalImplicit => true
  | _ => false
theorem gl_ok {sc : Scope} {x : Str} (h : glB sc x = true) : sc.names.lookup x = some .globalImplicit := by
  unfold glB at h
  split at h
  · assumption
  · cases h
def okN (x : Str) : Bool := !(x == ("__debug__" : Str)) && !(x == ("__classdict__" : Str))
theorem okN_ok {x : Str} (h : okN x = true) : (x == ("__debug__" : Str)) = false ∧ (x == ("__classdict__" : Str)) = false := by
  unfold okN at h
  rw [Bool.and_eq_true] at h
  exact ⟨by simpa using h.1, by simpa using h.2⟩
mutual
def chkTg (N : List Str) (sc : Scope) (fn : Str → Bool) : Tg → Expr → Bool
  | .nm i, e => match e with
    | .Name x _ => decide (N[i]? = some x) && locB sc fn x
    | _ => false
  | .tp ts, e => match e with
    | .Tuple es _ _ => chkTgs N sc fn ts es
    | _ => false
def chkTgs (N : List Str) (sc : Scope) (fn : Str → Bool) : Tgs → List Expr → Bool
  | .nil, es => es.isEmpty
  | .cons t ts, es => match es with
    | e :: r => chkTg N sc fn t e && chkTgs N sc fn ts r
    | [] => false
end
mutual
def tgIx : Tg → List Nat
  | .nm i => [i]
  | .tp ts => tgsIx ts
def tgsIx : Tgs → List Nat
  | .nil => []
  | .cons t ts => tgIx t ++ tgsIx ts
end
def chkNs (sc : Scope) : List Str → List Expr → Bool
  | [], es => es.isEmpty
  | c :: cs, es => match es with
    | .Name z _ :: r => decide (z = c) && glB sc z && okN z && chkNs sc cs r
    | _ => false
def chkK (sc : Scope) (cs : List Str) : Expr → Bool
  | .Name z _ => decide (cs = [z]) && glB sc z && okN z
  | .Tuple es _ _ => chkNs sc cs es
  | _ => false
mutual
def chkE (N : List Str) : E → Scope → Expr → Bool
  | .var i, sc, e => match e with
    | .Name x _ => decide (N[i]? = some x) && visB sc x && okN x
    | _ => false
  | .int n, _, e => match e with
    | .Constant (.int m) _ _ => decide (n = m)
    | _ => false
  | .bl b, _, e => match e with
    | .Constant (.bool c) _ _ => decide (b = c)
    | _ => false
  | .non, _, e => match e with
    | .Constant .none _ _ => true
    | _ => false
  | .str s, _, e => match e with
    | .Constant (.str t) _ _ => decide (s = t)
    | _ => false
  | .gstr x _, sc, e => match e with
    | .Name y _ => decide (x = y) && glB sc y && okN y
    | _ => false
  | .gdef x _, sc, e => match e with
    | .Name y _ => decide (x = y) && glB sc y && okN y
    | _ => false
  | .rpl a y z, sc, e => match e with
    | .Call (.Attribute (.Call (.Name x _) [t] [] _) m p) [.Constant (.str y') _ _, .Constant (.str z') _ _] [] q => decide (x = ("str" : Str)) && decide (m = ("replace" : Str)) && decide (y' = y) && decide (z' = z) && !(y == z) && glB sc x && (p.endLine == q.line) && !isStar t && chkE N a sc t
    | _ => false
  | .gint x _, sc, e => match e with
    | .Name y _ => decide (x = y) && glB sc y && okN y
    | _ => false
  | .bin o a b, sc, e => match e with
    | .BinOp x o' y _ => decide (o = o') && chkE N a sc x && chkE N b sc y
    | _ => false
  | .neg a, sc, e => match e with
    | .UnaryOp .USub x _ => chkE N a sc x
    | _ => false
  | .not a, sc, e => match e with
    | .UnaryOp .Not x _ => chkE N a sc x
    | _ => false
  | .cmp o a b, sc, e => match e with
    | .Compare x [o'] [y] _ => decide (o = o') && !isSetD y && chkE N a sc x && chkE N b sc y
    | _ => false
  | .chn o p a b c, sc, e => match e with
    | .Compare x [o', p'] [y, z] _ => decide (o = o') && decide (p = p') && !isSetD z && chkE N a sc x && chkE N b sc y && chkE N c sc z
    | _ => false
  | .and a b, sc, e => match e with
    | .BoolOp .And (x :: y :: r) p => chkE N a sc x && (match r with | [] => chkE N b sc y | z :: r' => chkE N b sc (.BoolOp .And (y :: z :: r') p))
    | _ => false
  | .or a b, sc, e => match e with
    | .BoolOp .Or (x :: y :: r) p => chkE N a sc x && (match r with | [] => chkE N b sc y | z :: r' => chkE N b sc (.BoolOp .Or (y :: z :: r') p))
    | _ => false
  | .ife c a b, sc, e => match e with
    | .IfExp x y z _ => chkT N c sc x && chkE N a sc y && chkE N b sc z
    | _ => false
  | .tup es, sc, e => match e with
    | .Tuple xs _ _ => chkEs N es sc xs
    | _ => false
  | .lst es, sc, e => match e with
    | .List xs _ => chkEs N es sc xs
    | _ => false
  | .sm f o a, sc, e => match e with
    | .Call (.Attribute x m p) [y] [] q => decide (m = f.nm) && !isCall0 x && (p.endLine == q.line) && !isStar y && chkE N o sc x && chkE N a sc y
    | _ => false
  | .dct0, _, e => match e with
    | .Dict [] [] _ => true
    | _ => false
  | .ix a i, sc, e => match e with
    | .Subscript x y _ => !isSlc y && chkE N a sc x && chkE N i sc y
    | _ => false
  | .sl a lo hi, sc, e => match e with
    | .Subscript x (.Slice l u none _) _ => chkE N a sc x && chkP N lo sc l && chkP N hi sc u
    | _ => false
  | .b1 f a, sc, e => match e with
    | .Call (.Name x _) [y] [] _ => decide (x = f.nm) && glB sc x && !isStar y && chkE N a sc y
    | _ => false
  | .b2 mx a b, sc, e => match e with
    | .Call (.Name x _) [y, z] [] _ => decide (x = (if mx then "max" else "min" : Str)) && glB sc x && !isStar y && !isStar z && chkE N a sc y && chkE N b sc z
    | _ => false
  | .isi a T, sc, e => match e with
    | .Call (.Name x _) [y, .Name z _] [] _ => decide (x = ("isinstance" : Str)) && glB sc x && glB sc z && decide (z = Str.ofString T) && tyNames.contains T && !isStar y && chkE N a sc y
    | _ => false
  | .lrev a, sc, e => match e with
    | .Call (.Name x _) [.Call (.Name y _) [z] [] _] [] _ => decide (x = ("list" : Str)) && decide (y = ("reversed" : Str)) && glB sc x && glB sc y && !isStar z && chkE N a sc z
    | _ => false
  | .trev a, sc, e => match e with
    | .Call (.Name x _) [.Call (.Name y _) [z] [] _] [] _ => decide (x = ("tuple" : Str)) && decide (y = ("reversed" : Str)) && glB sc x && glB sc y && !isStar z && chkE N a sc z
    | _ => false
  | .lset a, sc, e => match e with
    | .Call (.Name x _) [.Call (.Name y _) [z] [] _] [] _ => decide (x = ("len" : Str)) && decide (y = ("set" : Str)) && glB sc x && glB sc y && !isStar z && chkE N a sc z
    | _ => false
  | .sset a, sc, e => match e with
    | .Call (.Name x _) [.Call (.Name y _) [z] [] _] [] _ => decide (x = ("sorted" : Str)) && decide (y = ("set" : Str)) && glB sc x && glB sc y && !isStar z && chkE N a sc z
    | _ => false
  | .sortR a, sc, e => match e with
    | .Call (.Name x _) [z] [] _ => decide (x = ("sorted" : Str)) && glB sc x && !isStar z && chkE N a sc z
    | _ => false
  | .strD a, sc, e => match e with
    | .Call (.Name x _) [z] [] _ => decide (x = ("str" : Str)) && glB sc x && !isStar z && chkE N a sc z
    | _ => false
  | .inD a b, sc, e => match e with
    | .Compare x [o'] [y] _ => decide (CmpOp.In = o') && !isSetD y && chkE N a sc x && chkE N b sc y
    | _ => false
  | .gtT a b, sc, e => match e with
    | .Compare x [o'] [y] _ => decide (CmpOp.Gt = o') && !isSetD y && chkE N a sc x && chkE N b sc y
    | _ => false
  | .dctZ a b, sc, e => match e with
    | .Call (.Name x _) [.Call (.Name y _) [z, w] [] _] [] _ => decide (x = ("dict" : Str)) && decide (y = ("zip" : Str)) && glB sc x && glB sc y && !isStar z && !isStar w && chkE N a sc z && chkE N b sc w
    | _ => false
  | .trvT a, sc, e => match e with
    | .Call (.Name x _) [.Call (.Name y _) [z] [] _] [] _ => decide (x = ("tuple" : Str)) && decide (y = ("reversed" : Str)) && glB sc x && glB sc y && !isStar z && chkE N a sc z
    | _ => false
  | .slB a m, sc, e => match e with
    | .Subscript x (.Slice (some y) none none _) _ => chkE N a sc x && chkE N m sc y
    | _ => false
  | .sumL a b, sc, e => match e with
    | .Call (.Name x _) [z, w] [] _ => decide (x = ("sum" : Str)) && glB sc x && !isStar z && !isStar w && chkE N a sc z && chkE N b sc w
    | _ => false
  | .ssetT a, sc, e => match e with
    | .Call (.Name x _) [.Call (.Name y _) [z] [] _] [] _ => decide (x = ("sorted" : Str)) && decide (y = ("set" : Str)) && glB sc x && glB sc y && !isStar z && chkE N a sc z
    | _ => false
  | .dct1 a b, sc, e => match e with
    | .Dict [some x] [y] _ => chkE N a sc x && chkE N b sc y
    | _ => false
  | .dctL a, sc, e => match e with
    | .Call (.Name x _) [y] [] _ => decide (x = ("dict" : Str)) && glB sc x && !isStar y && chkE N a sc y
    | _ => false
  | .lrg q, sc, e => match e with
    | .Call (.Name x _) [r] [] _ => decide (x = ("list" : Str)) && glB sc x && !isStar r && chkR N q sc r
    | _ => false
  | .trg q, sc, e => match e with
    | .Call (.Name x _) [r] [] _ => decide (x = ("tuple" : Str)) && glB sc x && !isStar r && chkR N q sc r
    | _ => false
  | .call f _ es, sc, e => match e with
    | .Call (.Name x _) xs [] _ => decide (x = f) && glB sc x && okN x && (xs.all fun y => !isStar y) && chkEs N es sc xs
    | _ => false
  | .callG f _ es, sc, e => match e with
    | .Call (.Name x _) xs [] _ => decide (x = f) && glB sc x && okN x && (xs.all fun y => !isStar y) && chkEs N es sc xs
    | _ => false
  | .callH f _ es, sc, e => match e with
    | .Call (.Name x _) xs [] _ => decide (x = f) && glB sc x && okN x && (xs.all fun y => !isStar y) && chkEs N es sc xs
    | _ => false
  | .app o a, sc, e => match e with
    | .Call (.Attribute x m p) [y] [] q => decide (m = ("append" : Str)) && !isCall0 x && (p.endLine == q.line) && !isStar y && chkE N o sc x && chkE N a sc y
    | _ => false
  | .ext o a, sc, e => match e with
    | .Call (.Attribute x m p) [y] [] q => decide (m = ("extend" : Str)) && !isCall0 x && (p.endLine == q.line) && !isStar y && chkE N o sc x && chkE N a sc y
    | _ => false
  | .pop o, sc, e => match e with
    | .Call (.Attribute x m p) [] [] q => decide (m = ("pop" : Str)) && !isCall0 x && (p.endLine == q.line) && chkE N o sc x
    | _ => false
  | .orv a b, sc, e => match e with
    | .BoolOp .Or [x, y] _ => chkE N a sc x && chkE N b sc y
    | _ => false
  | .rsl a m, sc, e => match e with
    | .Subscript x (.Slice none none (some y) _) _ => chkE N a sc x && chkE N m sc y
    | _ => false
  | .stp a lo m, sc, e => match e with
    | .Subscript x (.Slice l none (some y) _) _ => chkE N a sc x && chkP N lo sc l && chkE N m sc y
    | _ => false
  | .srtR a, sc, e => match e with
    | .Call (.Name x _) [y] ks _ => decide (x = ("sorted" : Str)) && isRev ks && glB sc x && !isStar y && chkE N a sc y
    | _ => false
  | .popAt o a, sc, e => match e with
    | .Call (.Attribute x m p) [y] [] q => decide (m = ("pop" : Str)) && !isCall0 x && (p.endLine == q.line) && !isStar y && chkE N o sc x && chkE N a sc y
    | _ => false
  | .get o a b, sc, e => match e with
    | .Call (.Attribute x m p) [y, z] [] q => decide (m = ("get" : Str)) && !isCall0 x && (p.endLine == q.line) && !isStar y && !isStar z && chkE N o sc x && chkE N a sc y && chkE N b sc z
    | _ => false
  | .ins o a b, sc, e => match e with
    | .Call (.Attribute x m p) [y, z] [] q => decide (m = ("insert" : Str)) && !isCall0 x && (p.endLine == q.line) && !isStar y && !isStar z && chkE N o sc x && chkE N a sc y && chkE N b sc z
    | _ => false
  | .rvs o, sc, e => match e with
    | .Call (.Attribute x m p) [] [] q => decide (m = ("reverse" : Str)) && !isCall0 x && (p.endLine == q.line) && chkE N o sc x
    | _ => false
  | .get1 o a, sc, e => match e with
    | .Call (.Attribute x m p) [y] [] q => decide (m = ("get" : Str)) && !isCall0 x && (p.endLine == q.line) && !isStar y && chkE N o sc x && chkE N a sc y
    | _ => false
  | .isE a _ cs, sc, e => match e with
    | .Call (.Name x _) [y, c] [] _ => decide (x = ("isinstance" : Str)) && glB sc x && !isStar y && chkE N a sc y && chkK sc cs c && !cs.isEmpty && decide (cs.length ≤ 1000)
    | _ => false
  | .cnt o a, sc, e => match e with
    | .Call (.Attribute x m p) [y] [] q => decide (m = ("count" : Str)) && !isCall0 x && (p.endLine == q.line) && !isStar y && chkE N o sc x && chkE N a sc y
    | _ => false
  | .idx o a, sc, e => match e with
    | .Call (.Attribute x m p) [y] [] q => decide (m = ("index" : Str)) && !isCall0 x && (p.endLine == q.line) && !isStar y && chkE N o sc x && chkE N a sc y
    | _ => false
  | .idxD o a, sc, e => match e with
    | .Call (.Attribute x m p) [y] [] q => decide (m = ("index" : Str)) && !isCall0 x && (p.endLine == q.line) && !isStar y && chkE N o sc x && chkE N a sc y
    | _ => false
  | .rem o a, sc, e => match e with
    | .Call (.Attribute x m p) [y] [] q => decide (m = ("remove" : Str)) && !isCall0 x && (p.endLine == q.line) && !isStar y && chkE N o sc x && chkE N a sc y
    | _ => false
  | .fld _ o f, sc, e => match e with
    | .Attribute x m _ => decide (m = f) && !isCall0 x && chkE N o sc x
    | _ => false
  | .om _ m _ o es, sc, e => match e with
    | .Call (.Attribute x m' p) xs [] q => decide (m' = m) && !isCall0 x && (p.endLine == q.line) && (xs.all fun y => !isStar y) && decide (xs.length < 30) && chkE N o sc x && chkEs N es sc xs
    | _ => false
  | .mk C _ es, sc, e => match e with
    | .Call (.Name x _) xs [] _ => decide (x = C) && glB sc x && okN x && (xs.all fun y => !isStar y) && chkEs N es sc xs
    | _ => false
  | .comp own elt tg it c, sc, e => match e with
    | .ListComp y [⟨t, i, ifs, 0⟩] scope _ => blkC N sc scope own && ((tgIx tg).all fun i => (own.map (·.2)).contains i) && !isSetD i && chkI N it sc t i && chkTg N (relS scope sc) (fun x => scope.names.lookup x == some .cell) tg t && chkC N c (relS scope sc) ifs && chkE N elt (relS scope sc) y
    | _ => false
def chkT (N : List Str) : E → Scope → Expr → Bool
  | .not a, sc, e => match e with
    | .UnaryOp .Not x _ => chkT N a sc x
    | _ => false
  | .and a b, sc, e => match e with
    | .BoolOp .And (x :: y :: r) p => chkT N a sc x && (match r with | [] => chkT N b sc y | z :: r' => chkT N b sc (.BoolOp .And (y :: z :: r') p))
    | _ => false
  | .or a b, sc, e => match e with
    | .BoolOp .Or (x :: y :: r) p => chkT N a sc x && (match r with | [] => chkT N b sc y | z :: r' => chkT N b sc (.BoolOp .Or (y :: z :: r') p))
    | _ => false
  | .inD a b, sc, e => match e with
    | .Compare x [o'] [y] _ => decide (CmpOp.In = o') && !isSetD y && chkE N a sc x && chkE N b sc y
    | _ => false
  | .gtT a b, sc, e => match e with
    | .Compare x [o'] [y] _ => decide (CmpOp.Gt = o') && !isSetD y && chkE N a sc x && chkE N b sc y
    | _ => false
  | .cmp o a b, sc, e => match e with
    | .Compare x [o'] [y] _ => decide (o = o') && !isSetD y && chkE N a sc x && chkE N b sc y
    | _ => false
  | .chn o p a b c, sc, e => match e with
    | .Compare x [o', p'] [y, z] _ => decide (o = o') && decide (p = p') && !isSetD z && chkE N a sc x && chkE N b sc y && chkE N c sc z
    | _ => false
  | .var i, sc, e => match e with
    | .Name x _ => decide (N[i]? = some x) && visB sc x && okN x
    | _ => false
  | .bl b, _, e => match e with
    | .Constant (.bool c) _ _ => decide (b = c)
    | _ => false
  | .b1 f a, sc, e => match e with
    | .Call (.Name x _) [y] [] _ => decide (x = f.nm) && glB sc x && !isStar y && chkE N a sc y
    | _ => false
  | .isi a T, sc, e => match e with
    | .Call (.Name x _) [y, .Name z _] [] _ => decide (x = ("isinstance" : Str)) && glB sc x && glB sc z && decide (z = Str.ofString T) && tyNames.contains T && !isStar y && chkE N a sc y
    | _ => false
  | .call f _ es, sc, e => match e with
    | .Call (.Name x _) xs [] _ => decide (x = f) && glB sc x && okN x && (xs.all fun y => !isStar y) && chkEs N es sc xs
    | _ => false
  | .callG f _ es, sc, e => match e with
    | .Call (.Name x _) xs [] _ => decide (x = f) && glB sc x && okN x && (xs.all fun y => !isStar y) && chkEs N es sc xs
    | _ => false
  | .ix a i, sc, e => match e with
    | .Subscript x y _ => !isSlc y && chkE N a sc x && chkE N i sc y
    | _ => false
  | .fld _ o f, sc, e => match e with
    | .Attribute x m _ => decide (m = f) && !isCall0 x && chkE N o sc x
    | _ => false
  | .isE a _ cs, sc, e => match e with
    | .Call (.Name x _) [y, c] [] _ => decide (x = ("isinstance" : Str)) && glB sc x && !isStar y && chkE N a sc y && chkK sc cs c && !cs.isEmpty && decide (cs.length ≤ 1000)
    | _ => false
  | .om _ m _ o es, sc, e => match e with
    | .Call (.Attribute x m' p) xs [] q => decide (m' = m) && !isCall0 x && (p.endLine == q.line) && (xs.all fun y => !isStar y) && decide (xs.length < 30) && chkE N o sc x && chkEs N es sc xs
    | _ => false
  | .sm f o a, sc, e => match e with
    | .Call (.Attribute x m p) [y] [] q => decide (m = f.nm) && !isCall0 x && (p.endLine == q.line) && !isStar y && chkE N o sc x && chkE N a sc y
    | _ => false
  | .bin o a b, sc, e => match e with
    | .BinOp x o' y _ => decide (o = o') && chkE N a sc x && chkE N b sc y
    | _ => false
  | _, _, _ => false
def chkEs (N : List Str) : Es → Scope → List Expr → Bool
  | .nil, _, xs => xs.isEmpty
  | .cons e es, sc, xs => match xs with
    | x :: r => !isStar x && chkE N e sc x && chkEs N es sc r
    | [] => false
def chkP (N : List Str) : Po → Scope → Option Expr → Bool
  | .no, _, x => x.isNone
  | .at e, sc, x => match x with
    | some y => chkE N e sc y
    | none => false
def chkC (N : List Str) : Po → Scope → List Expr → Bool
  | .no, _, x => x.isEmpty
  | .at e, sc, x => match x with
    | [y] => chkT N e sc y
    | _ => false
def chkR (N : List Str) : Rg → Scope → Expr → Bool
  | .one f, sc, e => match e with
    | .Call (.Name x _) [y] [] _ => decide (x = ("range" : Str)) && glB sc x && !isStar y && chkE N f sc y
    | _ => false
  | .two f' f, sc, e => match e with
    | .Call (.Name x _) [z, y] [] _ => decide (x = ("range" : Str)) && glB sc x && !isStar y && !isStar z && chkE N f' sc z && chkE N f sc y
    | _ => false
def chkI (N : List Str) : I → Scope → Expr → Expr → Bool
  | .seq e, sc, _, x => chkE N e sc x
  | .txt e, sc, _, x => chkE N e sc x
  | .rg r, sc, _, x => chkR N r sc x
  | .enum e, sc, t, x => match t, x with
    | .Tuple _ _ _, .Call (.Name y _) [z] [] _ => decide (y = ("enumerate" : Str)) && glB sc y && !isStar z && chkE N e sc z
    | _, _ => false
  | .zip a b, sc, t, x => match t, x with
    | .Tuple _ _ _, .Call (.Name y _) [z, w] [] _ => decide (y = ("zip" : Str)) && glB sc y && !isStar z && !isStar w && chkE N a sc z && chkE N b sc w
    | _, _ => false
  | .dn a b, sc, _, x => match x with
    | .Call (.Name y _) [z, w, .UnaryOp .USub (.Constant (.int c) _ _) _] [] _ => decide (y = ("range" : Str)) && decide (c = 1) && glB sc y && !isStar z && !isStar w && chkE N a sc z && chkE N b sc w
    | _ => false
end
def chkX (N : List Str) (sc : Scope) : Xe → Expr → Bool
  | .call f _ es, e => match e with
    | .Call (.Name x _) xs [] _ => decide (x = f) && glB sc x && okN x && !xs.isEmpty && (xs.all fun y => !isStar y) && chkEs N es sc xs
    | _ => false
  | .om _ m _ o es, e => match e with
    | .Call (.Attribute x m' p) xs [] q => decide (m' = m) && !isCall0 x && (p.endLine == q.line) && (xs.all fun y => !isStar y) && decide (xs.length < 30) && chkE N o sc x && chkEs N es sc xs
    | _ => false
  | .cal2 i _ _ _ _ es, e => match e with
    | .Call (.Name x _) xs [] _ => decide (N[i]? = some x) && visB sc x && okN x && !xs.isEmpty && (xs.all fun y => !isStar y) && chkEs N es sc xs
    | _ => false
  | .lst2 a x, e => match e with
    | .List [y, z] _ => !isStar y && !isStar z && chkE N a sc y && chkX N sc x z
    | _ => false
  | .ix x i, e => match e with
    | .Subscript y z _ => !isSlc z && chkX N sc x y && chkE N i sc z
    | _ => false
  | .cl f _ x, e => match e with
    | .Call (.Name y _) [z] [] _ => decide (y = f) && glB sc y && okN y && !isStar z && chkX N sc x z
    | _ => false
  | .b1 f x, e => match e with
    | .Call (.Name y _) [z] [] _ => decide (y = f.nm) && glB sc y && !isStar z && chkX N sc x z
    | _ => false
  | .comp own elt tg x c, e => match e with
    | .ListComp y [⟨t, i, ifs, 0⟩] scope _ => blkC N sc scope own && ((tgIx tg).all fun i => (own.map (·.2)).contains i) && !isSetD i && chkX N sc x i && chkTg N (relS scope sc) (fun x => scope.names.lookup x == some .cell) tg t && chkC N c (relS scope sc) ifs && chkE N elt (relS scope sc) y
    | _ => false
def isVarE : E → Bool
  | .var _ => true
  | _ => false
def hotTgs : Tgs → Bool
  | .nil => true
  | .cons (.nm _) ts => hotTgs ts
  | .cons _ _ => false
def hotTg : Tg → Bool
  | .nm _ => true
  | .tp ts => hotTgs ts
def hotE : E → Bool
  | .var _ | .int _ | .bl _ | .non | .str _ => true
  | .isE a _ _ => hotE a
  | .and a b | .or a b | .bin _ a b => hotE a && hotE b
  | .not a => hotE a
  | .lst es | .tup es => hotEs es
  | .callH _ _ es => hotEs es
  | .comp _ elt tg it c => isVarE elt && hotTg tg && (match it with | .seq e => isVarE e | _ => false) && (match c with | .no => true | .at e => isVarE e)
  | _ => false
where hotEs : Es → Bool
  | .nil => true
  | .cons e es => hotE e && hotEs es
def isCmpE : E → Bool
  | .comp _ _ _ _ _ => true
  | _ => false
def hotSs : Ss → Bool
  | .nil => true
  | .cons (.asg (.nm _) e) ss => (hotE e && !isCmpE e) && hotSs ss
  | .cons (.ret e) ss => hotE e && hotSs ss
  | .cons .never ss => hotSs ss
  | .cons _ _ => false
def isMsg : List Expr → Bool
  | [] => true
  | [.Constant (.str _) _ _] => true
  | _ => false
mutual
def chkS (N : List Str) (sc : Scope) : S → Stmt → Bool
  | .asg t e, s => match s with
    | .Assign [x] y _ => chkTg N sc (fun _ => true) t x && chkE N e sc y && !(isTupD x && isTupD y && !noSw sc x) && !(isTupD x && isCmpr y)
    | _ => false
  | .asgL ts e, s => match s with
    | .Assign [.Tuple es _ _] y _ => chkTgs N sc (fun _ => true) ts es && chkE N e sc y && !isTupD y && !isCmpr y
    | _ => false
  | .sub o i e, s => match s with
    | .Assign [.Subscript x y _] z _ => !isSlc y && chkE N o sc x && chkE N i sc y && chkE N e sc z
    | _ => false
  | .augS o i e, s => match s with
    | .AugAssign (.Subscript x y _) .Add z _ => !isSlc y && chkE N o sc x && chkE N i sc y && chkE N e sc z
    | _ => false
  | .fld _ o f e, s => match s with
    | .Assign [.Attribute x m _] z _ => decide (m = f) && chkE N o sc x && chkE N e sc z
    | _ => false
  | .swp o i p j e, s => match s with
    | .Assign [.Tuple [.Subscript x y _, .Subscript x2 y2 _] _ _] z _ => !isSlc y && !isSlc y2 && !isCmpr z && chkE N o sc x && chkE N i sc y && chkE N p sc x2 && chkE N j sc y2 && chkE N e sc z
    | _ => false
  | .par3 i j l a b c, s => match s with
    | .Assign [.Tuple [.Name x p1, .Name y p2, .Name t p3] _ _] (.Tuple [z, w, v] _ _) _ => (p2.line == p1.line) && (p3.line == p1.line) && !(y == x) && !(t == x) && !(t == y) && !([z, w, v].all (foldedForSure 8)) && !([z, w, v].all (constantsAlone 8)) && decide (N[i]? = some x) && decide (N[j]? = some y) && decide (N[l]? = some t) && decide (i ≠ j) && decide (i ≠ l) && decide (j ≠ l) &&
      decide (sc.names.lookup x = some .local) && decide (sc.names.lookup y = some .local) && decide (sc.names.lookup t = some .local) && !isStar z && !isStar w && !isStar v && chkE N a sc z && chkE N b sc w && chkE N c sc v
    | _ => false
  | .par i j a b, s => match s with
    | .Assign [.Tuple [.Name x p1, .Name y p2] _ _] (.Tuple [z, w] _ _) _ => (p1.line == p1.line) && (p2.line == p1.line) && !(y == x) && !([z, w].all (foldedForSure 8)) && !([z, w].all (constantsAlone 8)) && decide (N[i]? = some x) && decide (N[j]? = some y) && decide (i ≠ j) && decide (sc.names.lookup x = some .local) && decide (sc.names.lookup y = some .local) && !isStar z && !isStar w && chkE N a sc z && chkE N b sc w
    | _ => false
  | .aug i e, s => match s with
    | .AugAssign (.Name x _) .Add y _ => decide (N[i]? = some x) && locB sc (fun _ => true) x && chkE N e sc y
    | _ => false
  | .ret e, s => match s with
    | .Return (some x) _ => chkE N e sc x
    | _ => false
  | .retn, s => match s with
    | .Return none _ => true
    | _ => false
  | .ex e, s => match s with
    | .Expr x _ => !isCmpr x && chkE N e sc x
    | _ => false
  | .ite c a b, s => match s with
    | .If x y z _ => chkT N c sc x && chkSs N sc a y && chkSs N sc b z
    | _ => false
  | .whl c b, s => match s with
    | .While x y [] _ => chkT N c sc x && chkSs N sc b y
    | _ => false
  | .for_ t it b, s => match s with
    | .For x y z [] _ => !isSetD y && chkTg N sc (fun _ => true) t x && chkI N it sc x y && chkSs N sc b z
    | _ => false
  | .pass, s => match s with
    | .Pass _ => true
    | _ => false
  | .never, _ => true
  | .asgX t x, s => match s with
    | .Assign [y] z _ => chkTg N sc (fun _ => true) t y && chkX N sc x z && !(isTupD y && isTupD z) && !isCmpr z
    | _ => false
  | .exX x, s => match s with
    | .Expr z _ => !isCmpr z && chkX N sc x z
    | _ => false
  | .retX x, s => match s with
    | .Return (some z) _ => chkX N sc x z
    | _ => false
  | .rse C, s => match s with
    | .Raise (some (.Call (.Name x _) xs [] _)) none _ => decide (x = C) && glB sc x && okN x && isMsg xs
    | _ => false
  | .try_ _ b hs, s => match s with
    | .Try y (h0 :: r) [] [] _ => chkSs N sc b y && chkHs N sc hs (h0 :: r)
    | _ => false
  | .forD t i b, s => match s with
    | .For x (.Name y _) z [] _ => decide (N[i]? = some y) && visB sc y && okN y && chkTg N sc (fun _ => true) t x && chkSs N sc b z
    | _ => false
def chkHs (N : List Str) (sc : Scope) : Hs → List ExceptHandler → Bool
  | .nil, xs => xs.isEmpty
  | .cons C i su r, xs => match xs with
    | .ExceptHandler (some (.Name x _)) n (y :: ys) _ :: more => decide (x = C) && glB sc x && okN x && (match n, i with | none, none => true | some n, some i => decide (N[i]? = some n) && decide (sc.names.lookup n = some .local) | _, _ => false) && hotSs su && chkSs N sc su (y :: ys) && chkHs N sc r more
    | _ => false
def chkSs (N : List Str) (sc : Scope) : Ss → List Stmt → Bool
  | .nil, xs => xs.isEmpty
  | .cons s ss, xs => match xs with
    | x :: r => chkS N sc s x && chkSs N sc ss r
    | [] => false
end
end F2
set_option Elab.async false
set_option linter.all false
set_option maxRecDepth 100000
set_option maxHeartbeats 4000000
namespace F2
open PySem PySem.Spec PyProof.Rows
open L2
structure FnG (P : Program) (w : World) (K : PySem.W.Frag) (mg : Str → Option Value) (base : Heap) (k : Nat) (f : Addr) (fd : FuncData) (ps : List Str) (sp : Sp) : Prop where
  len : ∀ vs H Q E, sp vs H Q E → vs.length = ps.length
  run : ∀ (A : Around) (outer : List Env) (s : Shared) (H : Hp) (args : Args) (us : List Value) (vs : List V) (Q : VK) (E : XK), A.guards = some [] → Room k A → Env0 P w K mg base A outer s H → BindsTo s fd args (ps.zip us) → Vals vs us → sp vs H Q E →
    codeAny (model P w) A (.call (.ref f) args) (CR CX0 outer P w H s Q E) s
structure RoomZ (k : Nat) (A : Around) : Prop where
  dp : A.depth + 3 * k + 5 < recursionLimit
  un : A.units + 16 * k + 200 < cLine
theorem Room.z {k : Nat} {A : Around} (r : Room k A) : RoomZ k A := ⟨r.dp, r.un⟩
theorem RoomZ.depth {k : Nat} {A : Around} (r : RoomZ k A) : A.depth < recursionLimit := by have := r.dp; omega
theorem RoomZ.mono {j k : Nat} {A : Around} (r : RoomZ k A) (h : j ≤ k) : RoomZ j A := ⟨by have := r.dp; omega, by have := r.un; omega⟩
structure FnZ (P : Program) (w : World) (K : PySem.W.Frag) (mg : Str → Option Value) (base : Heap) (k : Nat) (f : Addr) (fd : FuncData) (ps : List Str) (spf : Addr → Sp) : Prop where
  len : ∀ a vs H Q E, spf a vs H Q E → vs.length = ps.length
  run : ∀ (A : Around) (outer : List Env) (s : Shared) (H : Hp) (args : Args) (us : List Value) (vs : List V) (Q : VK) (E : XK) (a : Addr), RoomZ k A → A.handled = some (.ref a) → Env0 P w K mg base A outer s H → BindsTo s fd args (ps.zip us) → Vals vs us → spf a vs H Q E →
    codeAny (model P w) A (.call (.ref f) args) (CR CX0 outer P w H s Q E) s
theorem FnG.mono {P : Program} {w : World} {K : PySem.W.Frag} {mg : Str → Option Value} {base : Heap} {j k : Nat} {f : Addr} {fd : FuncData} {ps : List Str} {sp : Sp} (F : FnG P w K mg base j f fd ps sp) (h : j ≤ k) : FnG P w K mg base k f fd ps sp :=
  ⟨F.len, fun A outer s H args us vs Q E hg hr => F.run A outer s H args us vs Q E hg (hr.mono h)⟩
theorem FnZ.mono {P : Program} {w : World} {K : PySem.W.Frag} {mg : Str → Option Value} {base : Heap} {j k : Nat} {f : Addr} {fd : FuncData} {ps : List Str} {sp : Addr → Sp} (F : FnZ P w K mg base j f fd ps sp) (h : j ≤ k) : FnZ P w K mg base k f fd ps sp :=
  ⟨F.len, fun A outer s H args us vs Q E a hr => F.run A outer s H args us vs Q E a (hr.mono h)⟩
section
variable {X : Cx} {k : Nat} {f : Addr} {fd : FuncData} {ps : List Str} {sp : Sp} {spf : Addr → Sp} {E : XK} {x : Str} {p pos : Pos} {e : Expr} {es : List Expr} {t : TA} {a0 : Addr}
theorem run_fnG {pins : List (Addr × Obj)} {σ : L2.St} {H : Hp} {s : Shared} {Q : VK} {us : List Value} {vs : List V} (F : FnG X.prog X.w X.K X.mg X.base k f fd ps sp) (hg : X.A.guards = some []) (hr : Room k X.A) (hb : Binds X.K fd ps [])
    (I : Inv X pins σ H s) (r : Vals vs us) (h : sp vs H Q E) : wpAny (model X.prog X.w) X.A (call (.ref f) us) (EP X pins σ Q) X.xe s := by
  have hl : us.length = ps.length := by rw [← r.length]; exact F.len _ _ _ _ h
  have b := hb s us I.kIn (by rw [List.append_nil]; exact hl)
  rw [List.append_nil] at b
  refine wpAny_call (codeAny_mono (F.run X.A X.stack s H ⟨us, []⟩ us vs Q E hg hr I.env0 b r h) fun r s' hq => ?_)
  cases r with
  | error e => exact False.elim hq
  | ok fl =>
    cases fl with
    | ret u => exact I.after hq
    | next => exact False.elim hq
    | brk => exact False.elim hq
    | cont => exact False.elim hq
theorem run_fnZ {pins : List (Addr × Obj)} {σ : L2.St} {H : Hp} {s : Shared} {Q : VK} {us : List Value} {vs : List V} (F : FnZ X.prog X.w X.K X.mg X.base k f fd ps spf) (hA : X.A.handled = some (.ref a0)) (hr : RoomZ k X.A) (hb : Binds X.K fd ps [])
    (I : Inv X pins σ H s) (r : Vals vs us) (h : spf a0 vs H Q E) : wpAny (model X.prog X.w) X.A (call (.ref f) us) (EP X pins σ Q) X.xe s := by
  have hl : us.length = ps.length := by rw [← r.length]; exact F.len _ _ _ _ _ h
  have b := hb s us I.kIn (by rw [List.append_nil]; exact hl)
  rw [List.append_nil] at b
  refine wpAny_call (codeAny_mono (F.run X.A X.stack s H ⟨us, []⟩ us vs Q E a0 hr hA I.env0 b r h) fun r s' hq => ?_)
  cases r with
  | error e => exact False.elim hq
  | ok fl =>
    cases fl with
    | ret u => exact I.after hq
    | next => exact False.elim hq
    | brk => exact False.elim hq
    | cont => exact False.elim hq
theorem pe_callG (F : FnG X.prog X.w X.K X.mg X.base k f fd ps sp) (gd : X.A.guards = some []) (hr : Room k X.A) (hg : Gl X x) (hm : X.mg x = some (.ref f)) (hk : PySem.W.keepIn X.K (.ref f) = true) (hb : Binds X.K fd ps [])
    (ha : PA X (e :: es) t) (hdb : (x == ("__debug__" : Str)) = false := by decide) (he : starEach (e :: es) X.env = (false, eval e X.env) :: starEach es X.env := by rfl) (hpl : (backTo pos (starEach es X.env)).any (·.1) = false := by rfl) :
    PE X (.Call (.Name x p) (e :: es) [] pos) (tCall sp [] E t) := by
  refine ⟨fun pins s σ H Q I h => ?_⟩
  refine wpAny_Call_Name_kw (ld_glob I hg hm ?_ hdb)
  refine PySem.W.callWith_K (h₀ := X.base) I.ok.mod.kin hk (thn (ha.run pos pins s σ H _ I h) fun us s1 ⟨vs, H1, I1, r, q⟩ => ⟨I1.kIn, ?_⟩) he hpl
  have q := show _ from q; simp only [List.append_nil] at q
  exact run_fnG F gd hr hb I1 r q
theorem pe_callG0 (F : FnG X.prog X.w X.K X.mg X.base k f fd ps sp) (gd : X.A.guards = some []) (hr : Room k X.A) (hg : Gl X x) (hm : X.mg x = some (.ref f)) (hk : PySem.W.keepIn X.K (.ref f) = true) (hb : Binds X.K fd ps [])
    (hdb : (x == ("__debug__" : Str)) = false := by decide) : PE X (.Call (.Name x p) [] [] pos) (tCall sp [] E tNil) := by
  refine ⟨fun pins s σ H Q I h => ?_⟩
  refine wpAny_Call_Name_kw (ld_glob I hg hm ?_ hdb)
  exact PySem.W.callWith_K0 I.kIn hk (run_fnG (us := []) F gd hr hb I .nil h)
theorem pe_callZ (F : FnZ X.prog X.w X.K X.mg X.base k f fd ps spf) (hA : X.A.handled = some (.ref a0)) (hr : RoomZ k X.A) (hg : Gl X x) (hm : X.mg x = some (.ref f)) (hk : PySem.W.keepIn X.K (.ref f) = true) (hb : Binds X.K fd ps [])
    (ha : PA X (e :: es) t) (hdb : (x == ("__debug__" : Str)) = false := by decide) (he : starEach (e :: es) X.env = (false, eval e X.env) :: starEach es X.env := by rfl) (hpl : (backTo pos (starEach es X.env)).any (·.1) = false := by rfl) :
    PE X (.Call (.Name x p) (e :: es) [] pos) (tCall (spf a0) [] E t) := by
  refine ⟨fun pins s σ H Q I h => ?_⟩
  refine wpAny_Call_Name_kw (ld_glob I hg hm ?_ hdb)
  refine PySem.W.callWith_K (h₀ := X.base) I.ok.mod.kin hk (thn (ha.run pos pins s σ H _ I h) fun us s1 ⟨vs, H1, I1, r, q⟩ => ⟨I1.kIn, ?_⟩) he hpl
  have q := show _ from q; simp only [List.append_nil] at q
  exact run_fnZ F hA hr hb I1 r q
theorem pe_callZ0 (F : FnZ X.prog X.w X.K X.mg X.base k f fd ps spf) (hA : X.A.handled = some (.ref a0)) (hr : RoomZ k X.A) (hg : Gl X x) (hm : X.mg x = some (.ref f)) (hk : PySem.W.keepIn X.K (.ref f) = true) (hb : Binds X.K fd ps [])
    (hdb : (x == ("__debug__" : Str)) = false := by decide) : PE X (.Call (.Name x p) [] [] pos) (tCall (spf a0) [] E tNil) := by
  refine ⟨fun pins s σ H Q I h => ?_⟩
  refine wpAny_Call_Name_kw (ld_glob I hg hm ?_ hdb)
  exact PySem.W.callWith_K0 I.kIn hk (run_fnZ (us := []) F hA hr hb I .nil h)
end
end F2
set_option Elab.async false
set_option linter.all false
set_option maxRecDepth 100000
set_option maxHeartbeats 2000000
namespace F2
open PySem PySem.Spec PyProof.Rows
open L2
def bNames : List Str := ["len", "list", "tuple", "int", "bool", "max", "min", "sum", "sorted", "all", "str", "isinstance", "reversed", "range", "enumerate", "zip", "dict", "set"]
inductive Need where
  | fn (f : Str) (sp : ASp)
  | con (x : Str) (n : Int)
  | mth (C m : Str) (sp : ASp)
  | mk (C : Str) (sp : ASp)
  | fld (C f : Str)
  | fnX (f : Str) (sp : XSp)
  | mthX (C m : Str) (sp : XSp)
  | exc (C : Str)
  | hnd (D : Str)
  | exm (C D : Str)
  | isx (C D : Str)
  | isn (D : Str)
  | cos (x : Str) (s : Str)
  | gd (x : Str) (a : Addr)
  | fnA (a : Addr) (sp : XSp)
  | grd
  | fnG (f : Str) (sp : ASp)
  | fnZ (f : Str) (sp : ASp)
def cvV (g : Gx) (D : Str) : V := if D = ("ValueError" : Str) then .ty "ValueError" else .ref (g.CA D)
def cvU (g : Gx) (D : Str) : Value := if D = ("ValueError" : Str) then .type "ValueError" else .ref (g.CA D)
theorem cv_ok {g : Gx} {D : Str} : ClsV (cvV g D) (cvU g D) := by
  unfold cvV cvU
  split
  · exact .ty _
  · exact .own _
def veMro : List Value := [.type "ValueError", .type "Exception", .type "BaseException", .type "object"]
def NdP (g : Gx) (k : Nat) (P : Program) (w : World) (K : PySem.W.Frag) (mg : Str → Option Value) (base : Heap) : Need → Prop
  | .fn f sp => ∃ a fd ps, FnOk P w K mg base CX0 k a fd ps (cSp g sp) ∧ mg f = some (.ref a) ∧ PySem.W.keepIn K (.ref a) = true ∧ Binds K fd ps []
  | .con x n => ∃ t, mg x = some (.int n t)
  | .gd x a => mg x = some (.ref a)
  | .fnA a sp => ∃ fd ps, FnOk P w K mg base (L2N.CX P w) k a fd ps (cSpX g sp) ∧ PySem.W.keepIn K (.ref a) = true ∧ Binds K fd ps []
  | .cos x s => ∃ t, mg x = some (.str s t)
  | .mth C m sp => ∃ a fd ps, Cls K (g.CA C) ∧ Meth K (g.CA C) m a ∧ FnOk P w K mg base CX0 k a fd ps (cSp g sp) ∧ Binds K fd ps []
  | .mk C sp => ∃ j a fd ps, k = j + 1 ∧ Mk K (g.CA C) a ∧ FnOk P w K mg base CX0 j a fd ps (cSp g sp) ∧ mg C = some (.ref (g.CA C)) ∧ Binds K fd ps []
  | .fld C f => Cls K (g.CA C) ∧ NoAttr K (g.CA C) f
  | .fnX f sp => ∃ a fd ps, FnOk P w K mg base (L2N.CX P w) k a fd ps (cSpX g sp) ∧ mg f = some (.ref a) ∧ PySem.W.keepIn K (.ref a) = true ∧ Binds K fd ps []
  | .mthX C m sp => ∃ a fd ps, Cls K (g.CA C) ∧ Meth K (g.CA C) m a ∧ FnOk P w K mg base (L2N.CX P w) k a fd ps (cSpX g sp) ∧ Binds K fd ps []
  | .exc C => mg C = some (.ref (g.CA C)) ∧ PySem.W.excIn K (g.CA C) veMro "ValueError.__new__" = true ∧ PySem.W.keepIn K (.ref (g.CA C)) = true ∧ PySem.W.subIn K (.ref (g.CA C)) (.type "BaseException") = some true ∧ PySem.W.typeIn K (.ref (g.CA C)) = some (.type "type")
  | .hnd D => mg D = some (.ref (g.CA D))
  | .exm C D => PySem.W.exmOne K (.ref (g.CA C)) (.ref (g.CA D)) = some (excSub C D)
  | .isx C D => ExcC K (g.CA C) ∧ PySem.W.kitOne K (.ref (g.CA C)) (cvU g D) = some (excSub C D)
  | .isn D => (if D = ("ValueError" : Str) then mg D = none else mg D = some (.ref (g.CA D))) ∧ PySem.W.kitOne K (.type "NoneType") (cvU g D) = some false
  | .grd => False
  | .fnG _ _ => False
  | .fnZ f sp => ∃ a fd ps, FnOk P w K mg base CX0 k a fd ps (cSp g sp) ∧ FnZ P w K mg base k a fd ps (fun a0 => cSp (g.h a0) sp) ∧ mg f = some (.ref a) ∧ PySem.W.keepIn K (.ref a) = true ∧ Binds K fd ps []
@[reducible] def Nd (g : Gx) (k : Nat) (X : Cx) : Need → Prop
  | .grd => X.A.guards = some []
  | .fnG f sp => X.A.guards = some [] ∧ ∃ a fd ps, FnG X.prog X.w X.K X.mg X.base k a fd ps (cSp g sp) ∧ X.mg f = some (.ref a) ∧ PySem.W.keepIn X.K (.ref a) = true ∧ Binds X.K fd ps []
  | .fnZ f sp => (X.A.depth + 3 * k + 5 < recursionLimit ∧ X.A.units + 16 * k + 200 < cLine) ∧ NdP g k X.prog X.w X.K X.mg X.base (.fnZ f sp)
  | q => NdP g k X.prog X.w X.K X.mg X.base q
theorem NdP.nd {g : Gx} {k : Nat} {X : Cx} (r : RoomZ k X.A) : ∀ {q : Need}, NdP g k X.prog X.w X.K X.mg X.base q → Nd g k X q
  | .grd, h => h.elim
  | .fnG _ _, h => h.elim
  | .fnZ _ _, h => ⟨⟨r.dp, r.un⟩, h⟩
  | .fn _ _, h | .con _ _, h | .gd _ _, h | .fnA _ _, h | .cos _ _, h | .mth _ _ _, h | .mk _ _, h | .fld _ _, h | .fnX _ _, h | .mthX _ _ _, h | .exc _, h | .hnd _, h | .exm _ _, h | .isx _ _, h | .isn _, h => h
structure Good (g : Gx) (k : Nat) (X : Cx) (N : List Str) (sc : Scope) : Prop where
  hK : X.K = g.K
  hN : X.N = N
  hsc : X.env.scope = sc
  nd : N.Nodup
  calm : X.calm = true
  po : PassesOwn (model X.prog X.w) X.A X.env X.xe
  room : Room k X.A
  bl : ∀ n ∈ bNames, X.mg n = none
  hn : g.hot = none
structure GoodH (g : Gx) (X : Cx) (N : List Str) (sc : Scope) : Prop where
  hK : X.K = g.K
  hN : X.N = N
  hsc : X.env.scope = sc
  nd : N.Nodup
  bl : ∀ n ∈ bNames, X.mg n = none
section
variable {g : Gx} {k : Nat} {X : Cx} {N : List Str} {sc : Scope}
theorem Good.H (G : Good g k X N sc) : GoodH g X N sc := ⟨G.hK, G.hN, G.hsc, G.nd, G.bl⟩
theorem GoodH.gl (G : GoodH g X N sc) {x : Str} (h : glB sc x = true) : Gl X x := by
  show X.env.scope.names.lookup x = _
  rw [G.hsc]; exact gl_ok h
theorem Good.gl (G : Good g k X N sc) {x : Str} (h : glB sc x = true) : Gl X x := by
  show X.env.scope.names.lookup x = _
  rw [G.hsc]; exact gl_ok h
theorem Good.blk (G : Good g k X N sc) (s : Shared) (H : Hp) (scope : Scope) (C : Addr) (cl : List (Str × Addr)) (fp : List Addr) : Good g k (X.blk s H scope (compEnvC scope cl C X.env) fp) N (relS scope sc) where
  hK := G.hK
  hN := G.hN
  hsc := by rw [← G.hsc]; rfl
  nd := G.nd
  calm := G.calm
  po := PassesOwn.never
  room := G.room
  bl := G.bl
  hn := G.hn
theorem GoodH.blk (G : GoodH g X N sc) (s : Shared) (H : Hp) (scope : Scope) (C : Addr) (cl : List (Str × Addr)) (fp : List Addr) : GoodH g (X.blk s H scope (compEnvC scope cl C X.env) fp) N (relS scope sc) where
  hK := G.hK
  hN := G.hN
  hsc := by rw [← G.hsc]; rfl
  nd := G.nd
  bl := G.bl
theorem gv_of {ρ : Sa} {i : Nat} {q : Va → Prop} (h : gv ρ i q) : ∃ v, ρ[i]? = some (some v) ∧ q v := by
  unfold gv at h
  split at h
  · exact ⟨_, by assumption, h⟩
  · exact h.elim
variable {x y z : Expr} {ta tb tc : TEa} {pos : Pos}
theorem ae_var (G : Good g k X N sc) {i : Nat} {n : Str} (h1 : N[i]? = some n) (h2 : visB sc n = true) (h3 : okN n = true) : PE X (.Name n pos) (cE g (rdE (.var i))) := by
  refine pe_imp (pe_var (i := i) (by rw [G.hN]; exact h1) (by rw [G.hsc]; exact vis_ok h2) (okN_ok h3).1 (okN_ok h3).2) fun σ H Q ⟨ρ, h, Qa, Z, rs, rh, op, q⟩ => ?_
  obtain ⟨v, e, op⟩ := gv_of op
  obtain ⟨u, e2, r⟩ := rs.2 i v e
  exact ⟨u, e2, q _ _ _ _ op .refl r rh⟩
theorem ah_var (G : GoodH g X N sc) {i : Nat} {n : Str} (h1 : N[i]? = some n) (h2 : visB sc n = true) (h3 : okN n = true) : PE X (.Name n pos) (cE g (rdE (.var i))) := by
  refine pe_imp (pe_var (i := i) (by rw [G.hN]; exact h1) (by rw [G.hsc]; exact vis_ok h2) (okN_ok h3).1 (okN_ok h3).2) fun σ H Q ⟨ρ, h, Qa, Z, rs, rh, op, q⟩ => ?_
  obtain ⟨v, e, op⟩ := gv_of op
  obtain ⟨u, e2, r⟩ := rs.2 i v e
  exact ⟨u, e2, q _ _ _ _ op .refl r rh⟩
theorem ae_const {v : Va} {u : V} {t : TEa} (h : PE X x (tC u)) (r : ∀ H, RV g H v u) (ht : ∀ ρ h Q, t ρ h Q → Q v h) : PE X x (cE g t) :=
  pe_imp h fun σ H Q ⟨ρ, h, Qa, Z, rs, rh, op, q⟩ => q _ _ _ _ (ht _ _ _ op) .refl (r H) rh
theorem two_of {r : R2} {op : Va → Va → Ah → KA → Prop} (oa : OpA g r op) {σ : L2.St} {H : Hp} {Q : VK} (h : cE g (fun ρ h Q => ta ρ h fun v h1 => tb ρ h1 fun w h2 => op v w h2 Q) σ H Q) : tOp r (cE g ta) (cE g tb) σ H Q := by
  obtain ⟨ρ, h, Qa, Z, rs, rh, op, q⟩ := h
  refine ⟨ρ, h, _, Z, rs, rh, op, fun v h1 x1 H1 op1 e1 r1 rh1 => ?_⟩
  refine ⟨ρ, h1, _, Z, rs.ext e1, rh1, op1, fun w h2 x2 H2 op2 e2 r2 rh2 => ?_⟩
  exact oa Z v w x1 x2 h2 H2 Qa Q (r1.ext e2) r2 rh2 op2 fun u h' z H' qa e r rh' => q u h' z H' qa ((e1.trans e2).trans e) r rh'
theorem ae_bin (G : Good g k X N sc) {o : Operator} (ha : PE X x (cE g ta)) (hb : PE X y (cE g tb)) : PE X (.BinOp x o y pos) (cE g fun ρ h Q => ta ρ h fun v h1 => tb ρ h1 fun w h2 => aBin o v w h2 Q) :=
  pe_imp (pe_op (op_bin o) ha hb) fun σ H Q h => two_of (by rw [G.hK]; exact opa_bin o) h
theorem ah_bin (G : GoodH g X N sc) {o : Operator} (ha : PE X x (cE g ta)) (hb : PE X y (cE g tb)) : PE X (.BinOp x o y pos) (cE g fun ρ h Q => ta ρ h fun v h1 => tb ρ h1 fun w h2 => aBin o v w h2 Q) :=
  pe_imp (pe_op (op_bin o) ha hb) fun σ H Q h => two_of (by rw [G.hK]; exact opa_bin o) h
theorem ae_neg (ha : PE X x (cE g ta)) : PE X (.UnaryOp .USub x pos) (cE g fun ρ h Q => ta ρ h fun v h1 => aInt1 v fun i => Q (.int (-i)) h1) := by
  refine pe_imp (pe_un un_neg ha) fun σ H Q ⟨ρ, h, Qa, Z, rs, rh, op, q⟩ => ⟨ρ, h, _, Z, rs, rh, op, fun v h1 x1 H1 op1 e1 r1 rh1 => ?_⟩
  cases v with
  | int i => cases r1; exact ⟨i, rfl, q _ _ _ _ op1 e1 (.int _) rh1⟩
  | _ => exact op1.elim
theorem ae_not (ha : PE X x (cE g ta)) : PE X (.UnaryOp .Not x pos) (cE g fun ρ h Q => ta ρ h fun v h1 => aBool v fun b => Q (.bl (!b)) h1) := by
  refine pe_imp (pe_not ha) fun σ H Q ⟨ρ, h, Qa, Z, rs, rh, op, q⟩ => ⟨ρ, h, _, Z, rs, rh, op, fun v h1 x1 H1 op1 e1 r1 rh1 => ?_⟩
  cases v with
  | bl i => cases r1; exact ⟨i, rfl, q _ _ _ _ op1 e1 (.bl _) rh1⟩
  | _ => exact op1.elim
theorem cmp_of {r : R2} {op : Va → Va → Ah → (Bool → Prop) → Prop} (oa : CmA g r op) {σ : L2.St} {H : Hp} {Q : VK} {ρ : Sa} {h : Ah} {Z : Hp} {K : Bool → Ah → Prop} (rs : RS g H ρ σ) (rh : RH g Z H h)
    (w : ta ρ h fun v h1 => tb ρ h1 fun w h2 => op v w h2 fun b => K b h2) (q : ∀ b h' H', K b h' → Ext H H' → RH g Z H' h' → Q (.bl b) H') : tOp r (cE g ta) (cE g tb) σ H Q := by
  refine ⟨ρ, h, _, Z, rs, rh, w, fun v h1 x1 H1 op1 e1 r1 rh1 => ?_⟩
  refine ⟨ρ, h1, _, Z, rs.ext e1, rh1, op1, fun w h2 x2 H2 op2 e2 r2 rh2 => ?_⟩
  exact oa Z v w x1 x2 h2 H2 _ Q (r1.ext e2) r2 rh2 op2 fun b kb => q b h2 H2 kb (e1.trans e2) rh2
theorem ae_cmp (G : Good g k X N sc) {o : CmpOp} (ha : PE X x (cE g ta)) (hb : PE X y (cE g tb)) (hm : isSetD y = false) :
    PE X (.Compare x [o] [y] pos) (cE g fun ρ h Q => ta ρ h fun v h1 => tb ρ h1 fun w h2 => aCmp o v w h2 fun b => Q (.bl b) h2) :=
  pe_imp (pe_cmpR (op_cmp G.room.units o) ha hb (mark_ok hm o)) fun σ H Q ⟨ρ, h, Qa, Z, rs, rh, op, q⟩ =>
    cmp_of (K := fun b h2 => Qa (.bl b) h2) (by rw [G.hK]; exact cma_cmp o) rs rh op fun b h' H' qa e rh' => q _ _ _ _ qa e (.bl b) rh'
theorem at_cmp (G : Good g k X N sc) {o : CmpOp} (ha : PE X x (cE g ta)) (hb : PE X y (cE g tb)) (hm : isSetD y = false) :
    PT X (.Compare x [o] [y] pos) (cT g fun ρ h Q => ta ρ h fun v h1 => tb ρ h1 fun w h2 => aCmp o v w h2 fun b => Q b h2) :=
  pt_imp (pt_cmpR (op_cmp G.room.units o) ha hb (mark_ok hm o)) fun σ H Q ⟨ρ, h, Qa, Z, rs, rh, op, q⟩ =>
    cmp_of (K := fun b h2 => Qa b h2) (by rw [G.hK]; exact cma_cmp o) rs rh op fun b h' H' qa e rh' => ⟨b, rfl, q _ _ _ qa e rh'⟩
theorem last_ok {o o' : CmpOp} (hm : isSetD z = false) : lastMarks [o, o'] [y, z] = false := mark_ok hm o'
theorem chn_of (G : Good g k X N sc) {o o' : CmpOp} {σ : L2.St} {H : Hp} {Q : VK} {ρ : Sa} {h : Ah} {Z : Hp} {K : Bool → Ah → Prop} (rs : RS g H ρ σ) (rh : RH g Z H h)
    (w : ta ρ h fun v h1 => tb ρ h1 fun w h2 => aCmp o v w h2 fun t => if t = true then tc ρ h2 fun u h3 => aCmp o' w u h3 fun t' => K t' h3 else K false h2)
    (q : ∀ b h' H', K b h' → Ext H H' → RH g Z H' h' → Q (.bl b) H') : tChain (rCmp X.K o) (rCmp X.K o') (cE g ta) (cE g tb) (cE g tc) σ H Q := by
  refine ⟨ρ, h, _, Z, rs, rh, w, fun v h1 x1 H1 op1 e1 r1 rh1 => ?_⟩
  refine ⟨ρ, h1, _, Z, rs.ext e1, rh1, op1, fun w h2 x2 H2 op2 e2 r2 rh2 => ?_⟩
  rw [G.hK]
  refine cma_cmp o Z v w x1 x2 h2 H2 _ _ (r1.ext e2) r2 rh2 op2 fun b kb => ⟨b, rfl, ?_⟩
  cases b with
  | false => rw [if_neg Bool.false_ne_true] at kb ⊢; exact q _ _ _ kb (e1.trans e2) rh2
  | true =>
    rw [if_pos rfl] at kb ⊢
    refine ⟨ρ, h2, _, Z, rs.ext (e1.trans e2), rh2, kb, fun u h3 x3 H3 op3 e3 r3 rh3 => ?_⟩
    exact cma_cmp o' Z w u x2 x3 h3 H3 _ _ (r2.ext e3) r3 rh3 op3 fun b kb => q _ _ _ kb ((e1.trans e2).trans e3) rh3
theorem ae_chn (G : Good g k X N sc) {o o' : CmpOp} (ha : PE X x (cE g ta)) (hb : PE X y (cE g tb)) (hc : PE X z (cE g tc)) (hm : isSetD z = false) :
    PE X (.Compare x [o, o'] [y, z] pos) (cE g fun ρ h Q => ta ρ h fun v h1 => tb ρ h1 fun w h2 => aCmp o v w h2 fun t => if t = true then tc ρ h2 fun u h3 => aCmp o' w u h3 fun t' => Q (.bl t') h3 else Q (.bl false) h2) :=
  pe_imp (pe_chain (op_cmp G.room.units o) (op_cmp G.room.units o') ha hb hc (last_ok hm)) fun σ H Q ⟨ρ, h, Qa, Z, rs, rh, op, q⟩ =>
    chn_of G (K := fun b h2 => Qa (.bl b) h2) rs rh op fun b h' H' qa e rh' => q _ _ _ _ qa e (.bl b) rh'
theorem at_chn (G : Good g k X N sc) {o o' : CmpOp} (ha : PE X x (cE g ta)) (hb : PE X y (cE g tb)) (hc : PE X z (cE g tc)) (hm : isSetD z = false) :
    PT X (.Compare x [o, o'] [y, z] pos) (cT g fun ρ h Q => ta ρ h fun v h1 => tb ρ h1 fun w h2 => aCmp o v w h2 fun t => if t = true then tc ρ h2 fun u h3 => aCmp o' w u h3 fun t' => Q t' h3 else Q false h2) :=
  pt_imp (pt_chain (op_cmp G.room.units o) (op_cmp G.room.units o') ha hb hc (last_ok hm)) fun σ H Q ⟨ρ, h, Qa, Z, rs, rh, op, q⟩ =>
    chn_of G (K := fun b h2 => Qa b h2) rs rh op fun b h' H' qa e rh' => ⟨b, rfl, q _ _ _ qa e rh'⟩
theorem ae_and {r : List Expr} (ha : PE X x (cE g ta)) (hb : PE X (.BoolOp .And (y :: r) pos) (cE g tb)) :
    PE X (.BoolOp .And (x :: y :: r) pos) (cE g fun ρ h Q => ta ρ h fun v h1 => aBool v fun c => if c = true then tb ρ h1 Q else Q (.bl false) h1) := by
  refine pe_imp (pe_and ha hb) fun σ H Q ⟨ρ, h, Qa, Z, rs, rh, op, q⟩ => ⟨ρ, h, _, Z, rs, rh, op, fun v h1 x1 H1 op1 e1 r1 rh1 => ?_⟩
  cases v with
  | bl c =>
    cases r1
    refine ⟨c, rfl, ?_⟩
    have op1 : if c = true then tb ρ h1 Qa else Qa (.bl false) h1 := op1
    cases c with
    | false => rw [if_neg Bool.false_ne_true] at op1 ⊢; exact q _ _ _ _ op1 e1 (.bl _) rh1
    | true => rw [if_pos rfl] at op1 ⊢; exact ⟨ρ, h1, _, Z, rs.ext e1, rh1, op1, fun v2 h2 x2 H2 op2 e2 r2 rh2 => q _ _ _ _ op2 (e1.trans e2) r2 rh2⟩
  | _ => exact op1.elim
theorem ae_or {r : List Expr} (ha : PE X x (cE g ta)) (hb : PE X (.BoolOp .Or (y :: r) pos) (cE g tb)) :
    PE X (.BoolOp .Or (x :: y :: r) pos) (cE g fun ρ h Q => ta ρ h fun v h1 => aBool v fun c => if c = true then Q (.bl true) h1 else tb ρ h1 Q) := by
  refine pe_imp (pe_or ha hb) fun σ H Q ⟨ρ, h, Qa, Z, rs, rh, op, q⟩ => ⟨ρ, h, _, Z, rs, rh, op, fun v h1 x1 H1 op1 e1 r1 rh1 => ?_⟩
  cases v with
  | bl c =>
    cases r1
    refine ⟨c, rfl, ?_⟩
    have op1 : if c = true then Qa (.bl true) h1 else tb ρ h1 Qa := op1
    cases c with
    | true => rw [if_pos rfl] at op1 ⊢; exact q _ _ _ _ op1 e1 (.bl _) rh1
    | false => rw [if_neg Bool.false_ne_true] at op1 ⊢; exact ⟨ρ, h1, _, Z, rs.ext e1, rh1, op1, fun v2 h2 x2 H2 op2 e2 r2 rh2 => q _ _ _ _ op2 (e1.trans e2) r2 rh2⟩
  | _ => exact op1.elim
variable {tt tu : TTa}
theorem ae_ife (hc : PT X x (cT g tt)) (ha : PE X y (cE g ta)) (hb : PE X z (cE g tb)) : PE X (.IfExp x y z pos) (cE g fun ρ h Q => tt ρ h fun t h1 => if t = true then ta ρ h1 Q else tb ρ h1 Q) := by
  refine pe_imp (pe_ifExp hc ha hb) fun σ H Q ⟨ρ, h, Qa, Z, rs, rh, op, q⟩ => ⟨ρ, h, _, Z, rs, rh, op, fun b h1 H1 op1 e1 rh1 => ?_⟩
  cases b with
  | true => rw [if_pos rfl] at op1 ⊢; exact ⟨ρ, h1, _, Z, rs.ext e1, rh1, op1, fun v2 h2 x2 H2 op2 e2 r2 rh2 => q _ _ _ _ op2 (e1.trans e2) r2 rh2⟩
  | false => rw [if_neg Bool.false_ne_true] at op1 ⊢; exact ⟨ρ, h1, _, Z, rs.ext e1, rh1, op1, fun v2 h2 x2 H2 op2 e2 r2 rh2 => q _ _ _ _ op2 (e1.trans e2) r2 rh2⟩
theorem at_not (hc : PT X x (cT g tt)) : PT X (.UnaryOp .Not x pos) (cT g fun ρ h Q => tt ρ h fun b h1 => Q (!b) h1) :=
  pt_imp (pt_not hc) fun σ H Q ⟨ρ, h, Qa, Z, rs, rh, op, q⟩ => ⟨ρ, h, _, Z, rs, rh, op, fun b h1 H1 op1 e1 rh1 => q _ _ _ op1 e1 rh1⟩
theorem pw_imp {e : Expr} {t t' : TT} (h : PW X e t) (i : ∀ σ H Q, t' σ H Q → t σ H Q) : PW X e t' := ⟨fun wh pins s σ H Q I w => h.run wh pins s σ H Q I (i σ H Q w)⟩
theorem aw_and {r : List Expr} (ha : PT X x (cT g tt)) (hb : PW X (.BoolOp .And (y :: r) pos) (cT g tu)) :
    PW X (.BoolOp .And (x :: y :: r) pos) (cT g fun ρ h Q => tt ρ h fun c h1 => if c = true then tu ρ h1 Q else Q false h1) := by
  refine pw_imp (pw_and ha hb) fun σ H Q ⟨ρ, h, Qa, Z, rs, rh, op, q⟩ => ⟨ρ, h, _, Z, rs, rh, op, fun b h1 H1 op1 e1 rh1 => ?_⟩
  cases b with
  | true => rw [if_pos rfl] at op1 ⊢; exact ⟨ρ, h1, _, Z, rs.ext e1, rh1, op1, fun b h2 H2 op2 e2 rh2 => q _ _ _ op2 (e1.trans e2) rh2⟩
  | false => rw [if_neg Bool.false_ne_true] at op1 ⊢; exact q _ _ _ op1 e1 rh1
theorem aw_or {r : List Expr} (ha : PT X x (cT g tt)) (hb : PW X (.BoolOp .Or (y :: r) pos) (cT g tu)) :
    PW X (.BoolOp .Or (x :: y :: r) pos) (cT g fun ρ h Q => tt ρ h fun c h1 => if c = true then Q true h1 else tu ρ h1 Q) := by
  refine pw_imp (pw_or ha hb) fun σ H Q ⟨ρ, h, Qa, Z, rs, rh, op, q⟩ => ⟨ρ, h, _, Z, rs, rh, op, fun b h1 H1 op1 e1 rh1 => ?_⟩
  cases b with
  | true => rw [if_pos rfl] at op1 ⊢; exact q _ _ _ op1 e1 rh1
  | false => rw [if_neg Bool.false_ne_true] at op1 ⊢; exact ⟨ρ, h1, _, Z, rs.ext e1, rh1, op1, fun b h2 H2 op2 e2 rh2 => q _ _ _ op2 (e1.trans e2) rh2⟩
theorem at_tru (G : Good g k X N sc) (ha : PE X x (cE g ta)) (hx : isTst x = false) : PT X x (cT g fun ρ h Q => ta ρ h fun v h1 => aTru v h1 fun b => Q b h1) := by
  refine pt_imp (pt_truth ha fun wh => tst_ok hx X.env wh) fun σ H Q ⟨ρ, h, Qa, Z, rs, rh, op, q⟩ => ⟨ρ, h, _, Z, rs, rh, op, fun v h1 x1 H1 op1 e1 r1 rh1 => ?_⟩
  rw [G.hK]
  obtain ⟨b, t, kb⟩ := tru_of r1 rh1 op1
  exact ⟨b, t, q _ _ _ kb e1 rh1⟩
theorem ah_tru (G : GoodH g X N sc) (ha : PE X x (cE g ta)) (hx : isTst x = false) : PT X x (cT g fun ρ h Q => ta ρ h fun v h1 => aTru v h1 fun b => Q b h1) := by
  refine pt_imp (pt_truth ha fun wh => tst_ok hx X.env wh) fun σ H Q ⟨ρ, h, Qa, Z, rs, rh, op, q⟩ => ⟨ρ, h, _, Z, rs, rh, op, fun v h1 x1 H1 op1 e1 r1 rh1 => ?_⟩
  rw [G.hK]
  obtain ⟨b, t, kb⟩ := tru_of r1 rh1 op1
  exact ⟨b, t, q _ _ _ kb e1 rh1⟩
theorem aa_nil : PA X [] (cA g fun _ h Q => Q [] h) := pa_imp pa_nil fun σ H Q ⟨ρ, h, Qa, Z, rs, rh, op, q⟩ => q _ _ _ _ op .refl .nil rh
theorem aa_cons {tas : TAa} {es : List Expr} (ha : PE X x (cE g ta)) (hb : PA X es (cA g tas)) (hs : isStar x = false) : PA X (x :: es) (cA g fun ρ h Q => ta ρ h fun v h1 => tas ρ h1 fun vs h2 => Q (v :: vs) h2) :=
  pa_imp (pa_cons ha hb (star_ok hs es X.env)) fun σ H Q ⟨ρ, h, Qa, Z, rs, rh, op, q⟩ => ⟨ρ, h, _, Z, rs, rh, op, fun v h1 x1 H1 op1 e1 r1 rh1 =>
    ⟨ρ, h1, _, Z, rs.ext e1, rh1, op1, fun vs h2 x2 H2 op2 e2 r2 rh2 => q _ _ _ _ op2 (e1.trans e2) (.cons (r1.ext e2) r2) rh2⟩⟩
theorem ae_tup {tas : TAa} {es : List Expr} {n : Nat} (ha : PA X es (cA g tas)) : PE X (.Tuple es n pos) (cE g fun ρ h Q => tas ρ h fun vs h1 => vs.length ≤ sizeLine ∧ Q (.tup vs) h1) :=
  pe_imp (tup_disp ha) fun σ H Q ⟨ρ, h, Qa, Z, rs, rh, op, q⟩ => ⟨ρ, h, _, Z, rs, rh, op, fun vs h1 xs H1 op1 e1 r1 rh1 => ⟨by rw [← r1.length]; exact op1.1, newS_of rh1 r1 op1.2 fun u h' z H' qa e r rh' => q _ _ _ _ qa (e1.trans e) r rh'⟩⟩
theorem ae_lst {tas : TAa} {es : List Expr} (ha : PA X es (cA g tas)) : PE X (.List es pos) (cE g fun ρ h Q => tas ρ h fun vs h1 => vs.length ≤ sizeLine ∧ newL vs h1 Q) :=
  pe_imp (pe_lst ha) fun σ H Q ⟨ρ, h, Qa, Z, rs, rh, op, q⟩ => ⟨ρ, h, _, Z, rs, rh, op, fun vs h1 xs H1 op1 e1 r1 rh1 => ⟨by rw [← r1.length]; exact op1.1,
    newL_of rh1 r1 op1.2 fun u h' z H' qa e r rh' => q _ _ _ _ qa (e1.trans e) r rh'⟩⟩
theorem ae_dct0 : PE X (.Dict [] [] pos) (cE g fun _ h Q => ∀ p, h p = none → Q (.ref p) (put h p (.dk []))) :=
  pe_imp pe_dnewK fun σ H Q ⟨ρ, h, Qa, Z, rs, rh, op, q⟩ p np => by
    have ex : Ext H (upd H p (.dK [])) := .upd (.none np)
    exact q _ _ _ _ (op p (rh.fresh np)) ex (.ref p) (rh.alloc np ⟨_, upd_same, .nil⟩)
theorem ae_ix (G : Good g k X N sc) (ha : PE X x (cE g ta)) (hb : PE X y (cE g tb)) (hs : isSlc y = false) : PE X (.Subscript x y pos) (cE g fun ρ h Q => ta ρ h fun v h1 => tb ρ h1 fun w h2 => aIx v w h2 Q) :=
  pe_imp (pe_ix (ix_any (by have := G.room.units; omega)) ha hb (slc_ok hs)) fun σ H Q h => two_of (by rw [G.hK]; exact opa_ix) h
def cP (g : Gx) (t : Sa → Ah → (Option Int → Ah → Prop) → Prop) : TO := fun σ H Q => ∃ ρ h Qa Z, RS g H ρ σ ∧ RH g Z H h ∧ t ρ h Qa ∧ ∀ o h' H', Qa o h' → Ext H H' → RH g Z H' h' → Q o H'
theorem po_imp {e : Option Expr} {t t' : TO} (h : PO X e t) (i : ∀ σ H Q, t' σ H Q → t σ H Q) : PO X e t' := ⟨fun pins s σ H Q I w => h.run pins s σ H Q I (i σ H Q w)⟩
theorem ap_no : PO X none (cP g fun _ h Q => Q none h) := po_imp po_none fun σ H Q ⟨ρ, h, Qa, Z, rs, rh, op, q⟩ => q _ _ _ op .refl rh
theorem ap_at (ha : PE X x (cE g ta)) : PO X (some x) (cP g fun ρ h Q => ta ρ h fun v h1 => aInt1 v fun i => Q (some i) h1) := by
  refine po_imp (po_some ha) fun σ H Q ⟨ρ, h, Qa, Z, rs, rh, op, q⟩ => ⟨ρ, h, _, Z, rs, rh, op, fun v h1 x1 H1 op1 e1 r1 rh1 => ?_⟩
  cases v with
  | int i => cases r1; exact ⟨i, rfl, q _ _ _ op1 e1 rh1⟩
  | _ => exact op1.elim
theorem ae_sl (G : Good g k X N sc) {l u : Option Expr} {tl th : Sa → Ah → (Option Int → Ah → Prop) → Prop} {p2 : Pos} (ha : PE X x (cE g ta)) (hl : PO X l (cP g tl)) (hu : PO X u (cP g th)) :
    PE X (.Subscript x (.Slice l u none p2) pos) (cE g fun ρ h Q => ta ρ h fun v h1 => tl ρ h1 fun l h2 => th ρ h2 fun u h3 => aSl v l u h3 Q) := by
  refine pe_imp (pe_slice sl_any ha hl hu) fun σ H Q ⟨ρ, h, Qa, Z, rs, rh, op, q⟩ => ⟨ρ, h, _, Z, rs, rh, op, fun v h1 x1 H1 op1 e1 r1 rh1 => ⟨ρ, h1, _, Z, rs.ext e1, rh1, op1, fun l h2 H2 op2 e2 rh2 => ⟨ρ, h2, _, Z, rs.ext (e1.trans e2), rh2, op2, fun u h3 H3 op3 e3 rh3 => ?_⟩⟩⟩
  rw [G.hK]
  exact sla (r1.ext (e2.trans e3)) rh3 op3 fun w h' z H' qa e r rh' => q _ _ _ _ qa ((e1.trans (e2.trans e3)).trans e) r rh'
theorem ae_orv (G : Good g k X N sc) (ha : PE X x (cE g ta)) (hb : PE X y (cE g tb)) :
    PE X (.BoolOp .Or [x, y] pos) (cE g fun ρ h Q => ta ρ h fun v h1 => aTru v h1 fun c => if c = true then Q v h1 else tb ρ h1 Q) := by
  refine pe_imp (pe_orT ha (pe_one hb)) fun σ H Q ⟨ρ, h, Qa, Z, rs, rh, op, q⟩ => ⟨ρ, h, _, Z, rs, rh, op, fun v h1 x1 H1 op1 e1 r1 rh1 => ?_⟩
  rw [G.hK]
  obtain ⟨b, t, kb⟩ := tru_of r1 rh1 op1
  refine ⟨b, t, ?_⟩
  cases b with
  | true => rw [if_pos rfl] at kb ⊢; exact q _ _ _ _ kb e1 r1 rh1
  | false => rw [if_neg Bool.false_ne_true] at kb ⊢; exact ⟨ρ, h1, _, Z, rs.ext e1, rh1, kb, fun v2 h2 x2 H2 op2 e2 r2 rh2 => q _ _ _ _ op2 (e1.trans e2) r2 rh2⟩
theorem ae_rsl (G : Good g k X N sc) {p2 : Pos} (ha : PE X x (cE g ta)) (hb : PE X y (cE g tb)) :
    PE X (.Subscript x (.Slice none none (some y) p2) pos) (cE g fun ρ h Q => ta ρ h fun v h1 => tb ρ h1 fun w h2 => aRsl v w h2 Q) := by
  refine pe_imp (pe_rev ha hb) fun σ H Q ⟨ρ, h, Qa, Z, rs, rh, op, q⟩ => ⟨ρ, h, _, Z, rs, rh, op, fun v h1 x1 H1 op1 e1 r1 rh1 => ⟨ρ, h1, _, Z, rs.ext e1, rh1, op1, fun w h2 x2 H2 op2 e2 r2 rh2 => ?_⟩⟩
  obtain ⟨rfl, op2⟩ := op2
  cases r2
  cases v with
  | tup xs =>
    cases r1 with
    | @tup _ _ ys hp rx =>
      rw [G.hK]
      exact ⟨rfl, _, _, rfl, (hp.ext e2).sq, newS_of rh2 (rx.ext e2).reverse op2 fun u h' z H' qa e r rh' => q _ _ _ _ qa ((e1.trans e2).trans e) r rh'⟩
  | _ => exact op2.elim
theorem RVs.pick {H : Hp} {v : List Va} {x : List V} (r : RVs g H v x) : ∀ is : List Nat, RVs g H (is.filterMap (v[·]?)) (is.filterMap (x[·]?))
  | [] => .nil
  | i :: is => by
    have ih := RVs.pick r is
    cases e : v[i]? with
    | none =>
      have q : x[i]? = none := by
        rw [List.getElem?_eq_none_iff] at e ⊢
        rw [← r.length]; exact e
      rw [List.filterMap_cons, List.filterMap_cons, e, q]
      exact ih
    | some u =>
      obtain ⟨y, hy, ry⟩ := r.got e
      rw [List.filterMap_cons, List.filterMap_cons, e, hy]
      exact .cons ry ih
theorem RVs.pickA {H : Hp} {v : List Va} {x : List V} (r : RVs g H v x) (lo : Option Int) (st : Int) : RVs g H (F2.pickA v lo st) (F2.pickA x lo st) := by
  unfold F2.pickA
  rw [r.length]
  exact r.pick _
theorem ae_stp (G : Good g k X N sc) {l : Option Expr} {tl : Sa → Ah → (Option Int → Ah → Prop) → Prop} {p2 : Pos} (ha : PE X x (cE g ta)) (hl : PO X l (cP g tl)) (hm : PE X y (cE g tb)) :
    PE X (.Subscript x (.Slice l none (some y) p2) pos) (cE g fun ρ h Q => ta ρ h fun v h1 => tl ρ h1 fun l h2 => tb ρ h2 fun w h3 => aStp v l w h3 Q) := by
  refine pe_imp (pe_stp ha hl hm) fun σ H Q ⟨ρ, h, Qa, Z, rs, rh, op, q⟩ => ⟨ρ, h, _, Z, rs, rh, op, fun v h1 x1 H1 op1 e1 r1 rh1 => ⟨ρ, h1, _, Z, rs.ext e1, rh1, op1, fun l h2 H2 op2 e2 rh2 => ⟨ρ, h2, _, Z, rs.ext (e1.trans e2), rh2, op2, fun w h3 x3 H3 op3 e3 r3 rh3 => ?_⟩⟩⟩
  rw [G.hK]
  have e := e1.trans (e2.trans e3)
  cases w with
  | int st =>
    obtain ⟨h0, op3⟩ := op3
    cases r3
    have r1' := r1.ext (e2.trans e3)
    cases v with
    | fls xs =>
      cases r1' with
      | fls hp rx => exact ⟨_, _, st, rfl, rfl, h0, hp.sq, newL_of rh3 (rx.pickA l st) op3 fun u h' z H' qa e' r rh' => q _ _ _ _ qa (e.trans e') r rh'⟩
    | ref a =>
      obtain ⟨xs, hx, op3⟩ := op3
      cases r1'
      obtain ⟨ys, hy, rx⟩ := rh3.o _ _ hx
      exact ⟨_, _, st, rfl, rfl, h0, SqL.of hy, newL_of rh3 (rx.pickA l st) op3 fun u h' z H' qa e' r rh' => q _ _ _ _ qa (e.trans e') r rh'⟩
    | _ => exact op3.elim
  | _ => exact op3.elim
theorem ae_srtR (G : Good g k X N sc) {p pk pc : Pos} {kk : Nat} (ha : PE X x (cE g ta)) (hg : glB sc "sorted" = true) (hs : isStar x = false) :
    PE X (.Call (.Name "sorted" p) [x] [⟨some "reverse", .Constant (.bool true) kk pc, pk⟩] pos) (cE g fun ρ h Q => ta ρ h fun v h1 => aSrtR v h1 Q) := by
  refine pe_imp (pe_callBK (cr_sortedRev (b := true)) (G.gl hg) (G.bl _ (by decide +kernel)) (by decide +kernel) (pa_cons ha pa_nil (star_ok hs [] X.env)) (pk_cons pe_bl pk_nil) (by decide) (by decide) (by rw [star_ok hs [] X.env]; rfl) (by rw [star_ok hs [] X.env]; rfl)) fun σ H Q ⟨ρ, h, Qa, Z, rs, rh, op, q⟩ => ⟨ρ, h, _, Z, rs, rh, op, fun v h1 x1 H1 op1 e1 r1 rh1 => ?_⟩
  cases v with
  | ref a =>
    obtain ⟨ns, hx, op1⟩ := op1
    cases r1
    obtain ⟨ys, hy, rx⟩ := rh1.o _ _ hx
    rw [rx.ints] at hy
    rw [G.hK]
    exact ⟨_, ns, rfl, rfl, SqL.of hy, fun ns' p h1 h2 np => newL_of rh1 (RVs.of_ints ns') (op1 ns' h1 h2) (fun u h' z H' qa e r rh' => q _ _ _ _ qa (e1.trans e) r rh') p np⟩
  | _ => exact op1.elim
theorem pe_callAny {nm : Str} {v : Value} {r : List V → Hp → VK → Prop} {t : TA} {p : Pos} {es : List Expr} (hv : (∃ id, v = .builtin id) ∨ ∃ T, v = .type T) (hc : CallR X v r) (hg : Gl X nm) (hm : X.mg nm = none) (hb : bootBuiltins nm = some v) (ha : PA X (x :: es) t) (hn : nm ≠ "__name__") (hd : (nm == ("__debug__" : Str)) = false)
    (he : isStar x = false) (hpl : (es.all fun e => !isStar e) = true) : PE X (.Call (.Name nm p) (x :: es) [] pos) (tCB r t) := by
  rcases hv with ⟨id, rfl⟩ | ⟨T, rfl⟩
  · exact pe_callB hc hg hm hb ha hn hd (star_ok he es X.env) (star_all pos X.env hpl)
  · exact pe_callTy hc hg hm hb ha hn hd (star_ok he es X.env) (star_all pos X.env hpl)
theorem B1.kind : ∀ f : B1, (∃ id, f.val = .builtin id) ∨ ∃ T, f.val = .type T
  | .len => .inl ⟨_, rfl⟩ | .list => .inr ⟨_, rfl⟩ | .tuple => .inr ⟨_, rfl⟩ | .int => .inr ⟨_, rfl⟩ | .bool => .inr ⟨_, rfl⟩ | .max => .inl ⟨_, rfl⟩ | .min => .inl ⟨_, rfl⟩ | .sum => .inl ⟨_, rfl⟩
  | .sorted => .inl ⟨_, rfl⟩ | .all => .inl ⟨_, rfl⟩ | .str => .inr ⟨_, rfl⟩ | .sortD => .inl ⟨_, rfl⟩ | .sortS => .inl ⟨_, rfl⟩ | .sortP => .inl ⟨_, rfl⟩
theorem B1.mem : ∀ f : B1, f.nm ∈ bNames
  | .len => by decide +kernel | .list => by decide +kernel | .tuple => by decide +kernel | .int => by decide +kernel | .bool => by decide +kernel | .max => by decide +kernel | .min => by decide +kernel | .sum => by decide +kernel
  | .sorted => by decide +kernel | .all => by decide +kernel | .str => by decide +kernel | .sortD => by decide +kernel | .sortS => by decide +kernel | .sortP => by decide +kernel
theorem bN_ok {n : Str} (h : n ∈ bNames) : n ≠ "__name__" ∧ (n == ("__debug__" : Str)) = false := by
  have a : (bNames.all fun n => decide (n ≠ "__name__") && !(n == ("__debug__" : Str))) = true := by decide +kernel
  rw [List.all_eq_true] at a
  have := a n h
  rw [Bool.and_eq_true] at this
  exact ⟨of_decide_eq_true this.1, by simpa using this.2⟩
theorem ae_b1 (G : Good g k X N sc) {f : B1} {p : Pos} (ha : PE X x (cE g ta)) (hg : glB sc f.nm = true) (hs : isStar x = false) :
    PE X (.Call (.Name f.nm p) [x] [] pos) (cE g fun ρ h Q => ta ρ h fun v h1 => a1 f v h1 Q) := by
  refine pe_imp (pe_callAny f.kind (cr1 G.calm f) (G.gl hg) (G.bl _ f.mem) f.boot (pa_cons ha pa_nil (star_ok hs [] X.env)) (bN_ok f.mem).1 (bN_ok f.mem).2 hs rfl) fun σ H Q ⟨ρ, h, Qa, Z, rs, rh, op, q⟩ => ⟨ρ, h, _, Z, rs, rh, op, fun v h1 x1 H1 op1 e1 r1 rh1 => ?_⟩
  show F2.r1 X.K f [x1] H1 Q
  rw [G.hK]
  exact call1 r1 rh1 op1 fun u h' z H' qa e r rh' => q _ _ _ _ qa (e1.trans e) r rh'
theorem ae_b2 (G : Good g k X N sc) {mx : Bool} {nm : Str} {p : Pos} (hn : nm = (if mx then "max" else "min" : Str)) (ha : PE X x (cE g ta)) (hb : PE X y (cE g tb)) (hg : glB sc nm = true) (hs : isStar x = false) (hs2 : isStar y = false) :
    PE X (.Call (.Name nm p) [x, y] [] pos) (cE g fun ρ h Q => ta ρ h fun v h1 => tb ρ h1 fun w h2 => a2 mx v w h2 Q) := by
  have pa := pa_cons ha (pa_cons hb pa_nil (star_ok hs2 [] X.env)) (star_ok hs [y] X.env)
  have pl : ([y].all fun e => !isStar e) = true := by simp [hs2]
  cases mx with
  | true =>
    have hn : nm = "max" := hn
    subst hn
    refine pe_imp (pe_callAny (.inl ⟨_, rfl⟩) (call_max2 G.calm) (G.gl hg) (G.bl _ (by decide +kernel)) (by decide +kernel) pa (by decide) (by decide) hs pl) fun σ H Q ⟨ρ, h, Qa, Z, rs, rh, op, q⟩ =>
      ⟨ρ, h, _, Z, rs, rh, op, fun v h1 x1 H1 op1 e1 r1 rh1 => ⟨ρ, h1, _, Z, rs.ext e1, rh1, op1, fun w h2 x2 H2 op2 e2 r2 rh2 => ?_⟩⟩
    cases v with
    | int i => cases w with
      | int j => cases r1; cases r2; exact ⟨i, j, rfl, q _ _ _ _ op2 (e1.trans e2) (.int _) rh2⟩
      | _ => exact op2.elim
    | _ => exact op2.elim
  | false =>
    have hn : nm = "min" := hn
    subst hn
    refine pe_imp (pe_callAny (.inl ⟨_, rfl⟩) (call_min2 G.calm) (G.gl hg) (G.bl _ (by decide +kernel)) (by decide +kernel) pa (by decide) (by decide) hs pl) fun σ H Q ⟨ρ, h, Qa, Z, rs, rh, op, q⟩ =>
      ⟨ρ, h, _, Z, rs, rh, op, fun v h1 x1 H1 op1 e1 r1 rh1 => ⟨ρ, h1, _, Z, rs.ext e1, rh1, op1, fun w h2 x2 H2 op2 e2 r2 rh2 => ?_⟩⟩
    cases v with
    | int i => cases w with
      | int j => cases r1; cases r2; exact ⟨i, j, rfl, q _ _ _ _ op2 (e1.trans e2) (.int _) rh2⟩
      | _ => exact op2.elim
    | _ => exact op2.elim
theorem ty_boot {T : String} (h : T ∈ tyNames) : bootBuiltins (Str.ofString T) = some (.type T) ∧ Str.ofString T ∈ bNames := by
  have a : (tyNames.all fun T => decide (bootBuiltins (Str.ofString T) = some (.type T) ∧ Str.ofString T ∈ bNames)) = true := by decide +kernel
  rw [List.all_eq_true] at a
  exact of_decide_eq_true (a T h)
theorem ae_isi (G : Good g k X N sc) {T : String} {p p2 : Pos} (hT : T ∈ tyNames) (ha : PE X x (cE g ta)) (hg : glB sc "isinstance" = true) (hg2 : glB sc (Str.ofString T) = true) (hs : isStar x = false) :
    PE X (.Call (.Name "isinstance" p) [x, .Name (Str.ofString T) p2] [] pos) (cE g fun ρ h Q => ta ρ h fun v h1 => tyA v h1 fun s => Q (.bl (isSub s T)) h1) := by
  have hb := bN_ok (ty_boot hT).2
  have pc : PE X (.Name (Str.ofString T) p2) (tC (.ty T)) := pe_bltn (G.gl hg2) (G.bl _ (ty_boot hT).2) (ty_boot hT).1 rfl hb.1 hb.2
  have pa := pa_cons ha (pa_cons pc pa_nil rfl) (star_ok hs [.Name (Str.ofString T) p2] X.env)
  refine pe_imp (pe_callAny (.inl ⟨_, rfl⟩) call_isi (G.gl hg) (G.bl _ (by decide +kernel)) (by decide +kernel) pa (by decide) (by decide) hs rfl) fun σ H Q ⟨ρ, h, Qa, Z, rs, rh, op, q⟩ =>
    ⟨ρ, h, _, Z, rs, rh, op, fun v h1 x1 H1 op1 e1 r1 rh1 => ?_⟩
  obtain ⟨t, a, ty, kt, op2⟩ := isi_of r1 rh1 hT op1
  show rIsi X.K [x1, .ty T] H1 Q
  rw [G.hK]
  exact ⟨x1, .ty T, t, .type T, _, rfl, .ty T, ty, kt, q _ _ _ _ op2 e1 (.bl _) rh1⟩
theorem pe_cls (G : GoodH g X N sc) {D : Str} {p : Pos} (nd : Nd g k X (.isn D)) (hg : glB sc D = true) (hn : okN D = true) : PE X (.Name D p) (tC (cvV g D)) := by
  have nd := nd.1
  unfold cvV
  split at nd
  · rename_i e
    subst e
    rw [if_pos rfl]
    exact pe_bltn (G.gl hg) nd (by decide +kernel) rfl (by decide) (by decide)
  · rename_i e
    rw [if_neg e]
    exact pe_glob (v := .ref (g.CA D)) (G.gl hg) nd rfl (okN_ok hn).1
theorem tyE_of (G : GoodH g X N sc) {Z : Hp} {kn cs : List Str} {v : Va} {x1 : V} {h : Ah} {H : Hp} {Qa : KA} (nx : ∀ C ∈ kn, ∀ D ∈ cs, Nd g k X (.isx C D)) (nn : ∀ D ∈ cs, Nd g k X (.isn D)) (ne : cs ≠ []) (rv : RV g H v x1) (rh : RH g Z H h) (op : aIsE kn cs v h Qa) :
    ∃ t, TyE g.K H x1 t ∧ (∀ D, cs = [D] → ∃ b, PySem.W.kitOne g.K t (cvU g D) = some b ∧ Qa (.bl b) h) ∧ ∃ b, PySem.W.kitAny g.K t (cs.map (cvU g)) = some b ∧ Qa (.bl b) h := by
  cases v with
  | non =>
    cases rv
    refine ⟨_, .non, fun D e => ⟨false, ?_, op⟩, false, ?_, op⟩
    · have := (nn D (by rw [e]; exact List.mem_cons_self)).2
      rw [G.hK] at this; exact this
    · clear ne nx op
      induction cs with
      | nil => exact kitAny_nil
      | cons D cs ih =>
        have := (nn D List.mem_cons_self).2
        rw [G.hK] at this
        exact kitAny_cons this (fun _ => ih fun D hD => nn D (List.mem_cons_of_mem _ hD)) (fun z => nomatch z)
  | ref p =>
    cases rv
    obtain ⟨C, hp, hC, op⟩ := op
    have hp' : H p = some (ErO (.ref (g.CA C)) p) := rh.o _ _ hp
    have ec : ExcC g.K (g.CA C) := by
      cases cs with
      | nil => exact absurd rfl ne
      | cons D cs =>
        have := (nx C hC D List.mem_cons_self).1
        rw [G.hK] at this; exact this
    refine ⟨_, .err ec hp', fun D e => ⟨excSub C D, ?_, ?_⟩, cs.any (fun D => excSub C D), ?_, op⟩
    · have := (nx C hC D (by rw [e]; exact List.mem_cons_self)).2
      rw [G.hK] at this; exact this
    · rw [e] at op
      simpa using op
    · clear ne op
      induction cs with
      | nil => exact kitAny_nil
      | cons D cs ih =>
        have := (nx C hC D List.mem_cons_self).2
        rw [G.hK] at this
        rw [List.any_cons]
        refine kitAny_cons this (fun z => ?_) (fun z => by rw [z]; rfl)
        rw [z, Bool.false_or]
        exact ih (fun C hC D hD => nx C hC D (List.mem_cons_of_mem _ hD)) fun D hD => nn D (List.mem_cons_of_mem _ hD)
  | _ => exact op.elim
theorem vals_cls (G : GoodH g X N sc) : ∀ {cs : List Str} {es : List Expr}, (∀ D ∈ cs, Nd g k X (.isn D)) → chkNs sc cs es = true → PA X es (fun σ H Q => Q (cs.map (cvV g)) H)
  | [], es, nn, h => by
    unfold chkNs at h
    cases es with
    | nil => exact pa_nil
    | cons _ _ => cases h
  | D :: cs, es, nn, h => by
    unfold chkNs at h
    split at h
    · simp only [Bool.and_eq_true, decide_eq_true_eq] at h
      obtain ⟨⟨⟨rfl, h1⟩, h2⟩, h3⟩ := h
      exact pa_imp (pa_cons (pe_cls G (nn _ List.mem_cons_self) h1 h2) (vals_cls G (fun D hD => nn D (List.mem_cons_of_mem _ hD)) h3) rfl) fun σ H Q q => q
    · cases h
theorem pairs_cls : ∀ cs : List Str, Paired ClsV (cs.map (cvV g)) (cs.map (cvU g))
  | [] => .nil
  | D :: cs => .cons cv_ok (pairs_cls cs)
theorem ah_isE (G : GoodH g X N sc) {kn cs : List Str} {p : Pos} (nx : ∀ C ∈ kn, ∀ D ∈ cs, Nd g k X (.isx C D)) (nn : ∀ D ∈ cs, Nd g k X (.isn D)) (ha : PE X x (cE g ta)) (hg : glB sc "isinstance" = true) (hs : isStar x = false) (hc : chkK sc cs y = true) (ne : cs ≠ []) (hl : cs.length ≤ 1000) :
    PE X (.Call (.Name "isinstance" p) [x, y] [] pos) (cE g fun ρ h Q => ta ρ h fun v h1 => aIsE kn cs v h1 Q) := by
  unfold chkK at hc
  split at hc
  · rename_i z pz
    simp only [Bool.and_eq_true, decide_eq_true_eq] at hc
    obtain ⟨⟨rfl, h1⟩, h2⟩ := hc
    refine pe_imp (pe_callAny (.inl ⟨_, rfl⟩) call_isE1 (G.gl hg) (G.bl _ (by decide +kernel)) (by decide +kernel) (pa_cons ha (pa_cons (pe_cls G (nn z List.mem_cons_self) h1 h2) pa_nil rfl) (star_ok hs [.Name z pz] X.env)) (by decide) (by decide) hs rfl) fun σ H Q ⟨ρ, h, Qa, Z, rs, rh, op, q⟩ =>
      ⟨ρ, h, _, Z, rs, rh, op, fun v h1 x1 H1 op1 e1 r1 rh1 => ?_⟩
    obtain ⟨t, ty, one, -⟩ := tyE_of G nx nn ne r1 rh1 op1
    obtain ⟨b, kt, op2⟩ := one z rfl
    show rIsE1 X.K [x1, cvV g z] H1 Q
    rw [G.hK]
    exact ⟨x1, _, t, _, b, rfl, cv_ok, ty, kt, q _ _ _ _ op2 e1 (.bl _) rh1⟩
  · rename_i es kk pz
    refine pe_imp (pe_callAny (.inl ⟨_, rfl⟩) call_isEs (G.gl hg) (G.bl _ (by decide +kernel)) (by decide +kernel) (pa_cons ha (pa_cons (tup_disp (vals_cls G nn hc)) pa_nil rfl) (star_ok hs [.Tuple es kk pz] X.env)) (by decide) (by decide) hs rfl) fun σ H Q ⟨ρ, h, Qa, Z, rs, rh, op, q⟩ =>
      ⟨ρ, h, _, Z, rs, rh, op, fun v h1 x1 H1 op1 e1 r1 rh1 => ⟨by rw [List.length_map]; exact Nat.le_trans hl (by rw [sizeLine_eq]; omega), fun tp o np oc od => ?_⟩⟩
    have ex : Ext H1 (upd H1 tp (.frz o (.tup (cs.map (cvV g))))) := .upd (.none np)
    obtain ⟨t, ty, -, b, kt, op2⟩ := tyE_of G nx nn ne (r1.ext ex) (rh1.new np) op1
    show rIsEs X.K [x1, .ref tp] _ Q
    rw [G.hK]
    exact ⟨x1, tp, _, t, _, b, rfl, (TupS.new oc od).sq, pairs_cls cs, ty, kt, q _ _ _ _ op2 (e1.trans ex) (.bl _) (rh1.new np)⟩
  · cases hc
theorem ae_lrev (G : Good g k X N sc) {p p2 pos2 : Pos} (ha : PE X x (cE g ta)) (hg : glB sc "list" = true) (hg2 : glB sc "reversed" = true) (hs : isStar x = false) :
    PE X (.Call (.Name "list" p) [.Call (.Name "reversed" p2) [x] [] pos2] [] pos) (cE g fun ρ h Q => ta ρ h fun v h1 => match v with
    | .ref p => ∃ xs, h1 p = some (.lst xs) ∧ newL xs.reverse h1 Q
    | _ => False) := by
  refine pe_imp (pe_lstRev G.calm (G.gl hg) (G.bl _ (by decide +kernel)) (G.gl hg2) (G.bl _ (by decide +kernel)) ha (star_ok hs [] X.env)) fun σ H Q ⟨ρ, h, Qa, Z, rs, rh, op, q⟩ =>
    ⟨ρ, h, _, Z, rs, rh, op, fun v h1 x1 H1 op1 e1 r1 rh1 => ?_⟩
  cases v with
  | ref a =>
    obtain ⟨xs, ha, op1⟩ := op1
    cases r1
    obtain ⟨ys, ha', rx⟩ := rh1.o _ _ ha
    exact ⟨a, ys, rfl, SqL.of ha', newL_of rh1 rx.reverse op1 fun u h' z H' qa e r rh' => q _ _ _ _ qa (e1.trans e) r rh'⟩
  | _ => exact op1.elim
theorem ae_trev (G : Good g k X N sc) {p p2 pos2 : Pos} (ha : PE X x (cE g ta)) (hg : glB sc "tuple" = true) (hg2 : glB sc "reversed" = true) (hs : isStar x = false) :
    PE X (.Call (.Name "tuple" p) [.Call (.Name "reversed" p2) [x] [] pos2] [] pos) (cE g fun ρ h Q => ta ρ h fun v h1 => match v with
    | .ref p => ∃ xs, h1 p = some (.lst xs) ∧ Q (.tup xs.reverse) h1
    | _ => False) := by
  refine pe_imp (tup_rev G.calm (G.gl hg) (G.bl _ (by decide +kernel)) (G.gl hg2) (G.bl _ (by decide +kernel)) ha (star_ok hs [] X.env)) fun σ H Q ⟨ρ, h, Qa, Z, rs, rh, op, q⟩ =>
    ⟨ρ, h, _, Z, rs, rh, op, fun v h1 x1 H1 op1 e1 r1 rh1 => ?_⟩
  cases v with
  | ref a =>
    obtain ⟨xs, ha, op1⟩ := op1
    cases r1
    obtain ⟨ys, ha', rx⟩ := rh1.o _ _ ha
    rw [G.hK]
    exact ⟨a, ys, rfl, SqL.of ha', newS_of rh1 rx.reverse op1 fun u h' z H' qa e r rh' => q _ _ _ _ qa (e1.trans e) r rh'⟩
  | _ => exact op1.elim
end
end F2
set_option Elab.async false
set_option linter.all false
set_option maxRecDepth 100000
set_option maxHeartbeats 2000000
namespace F2
open PySem PySem.Spec PyProof.Rows
open L2
section
variable {g : Gx} {k : Nat} {X : Cx} {N : List Str} {sc : Scope}
variable {x y z : Expr} {ta tb tc : TEa} {pos : Pos} {tt tu : TTa}
theorem RVs.rg {H : Hp} (a b : Int) : RVs g H (rgA a b) (rgV a b) := by
  unfold rgA rgV
  generalize List.range (b - a).toNat = l
  induction l with
  | nil => exact .nil
  | cons i r ih => exact .cons (.int _) ih
def cR (g : Gx) (t : Sa → Ah → (Int → Int → Ah → Prop) → Prop) : L2.St → Hp → (Int → Int → Hp → Prop) → Prop := fun σ H Q => ∃ ρ h Qa Z, RS g H ρ σ ∧ RH g Z H h ∧ t ρ h Qa ∧ ∀ a b h' H', Qa a b h' → Ext H H' → RH g Z H' h' → Q a b H'
theorem prg_imp {t t' : L2.St → Hp → (Int → Int → Hp → Prop) → Prop} (h : PRg X x t) (i : ∀ σ H Q, t' σ H Q → t σ H Q) : PRg X x t' := fun pins s σ H Q I w => h pins s σ H Q I (i σ H Q w)
theorem ar_one (G : Good g k X N sc) {p : Pos} (ha : PE X x (cE g ta)) (hg : glB sc "range" = true) (hs : isStar x = false) : PRg X (.Call (.Name "range" p) [x] [] pos) (cR g fun ρ h Q => ta ρ h fun v h1 => aInt1 v fun j => Q 0 j h1) := by
  refine prg_imp (prg_1 (G.gl hg) (G.bl _ (by decide +kernel)) ha (star_ok hs [] X.env)) fun σ H Q ⟨ρ, h, Qa, Z, rs, rh, op, q⟩ => ⟨ρ, h, _, Z, rs, rh, op, fun v h1 x1 H1 op1 e1 r1 rh1 => ?_⟩
  cases v with
  | int i => cases r1; exact ⟨i, rfl, q _ _ _ _ op1 e1 rh1⟩
  | _ => exact op1.elim
theorem ar_two (G : Good g k X N sc) {p : Pos} (ha : PE X x (cE g ta)) (hb : PE X y (cE g tb)) (hg : glB sc "range" = true) (hs : isStar x = false) (hs2 : isStar y = false) :
    PRg X (.Call (.Name "range" p) [x, y] [] pos) (cR g fun ρ h Q => ta ρ h fun v h1 => tb ρ h1 fun w h2 => aInt1 v fun i => aInt1 w fun j => Q i j h2) := by
  refine prg_imp (prg_2 (G.gl hg) (G.bl _ (by decide +kernel)) ha hb (star_ok hs [y] X.env) (star_ok hs2 [] X.env) (star_all pos X.env (by simp [hs2]))) fun σ H Q ⟨ρ, h, Qa, Z, rs, rh, op, q⟩ =>
    ⟨ρ, h, _, Z, rs, rh, op, fun v h1 x1 H1 op1 e1 r1 rh1 => ⟨ρ, h1, _, Z, rs.ext e1, rh1, op1, fun w h2 x2 H2 op2 e2 r2 rh2 => ?_⟩⟩
  cases v with
  | int i => cases w with
    | int j => cases r1; cases r2; exact ⟨i, j, rfl, rfl, q _ _ _ _ op2 (e1.trans e2) rh2⟩
    | _ => exact op2.elim
  | _ => exact op2.elim
variable {tr : Sa → Ah → (Int → Int → Ah → Prop) → Prop}
theorem ae_lrg (G : Good g k X N sc) {p : Pos} (ha : PRg X x (cR g tr)) (hg : glB sc "list" = true) (hs : isStar x = false) : PE X (.Call (.Name "list" p) [x] [] pos) (cE g fun ρ h Q => tr ρ h fun a b h2 => RgOk a b ∧ newL (rgA a b) h2 Q) :=
  pe_imp (pe_listRg G.calm (G.gl hg) (G.bl _ (by decide +kernel)) ha (star_ok hs [] X.env)) fun σ H Q ⟨ρ, h, Qa, Z, rs, rh, op, q⟩ => ⟨ρ, h, _, Z, rs, rh, op, fun a b h1 H1 op1 e1 rh1 =>
    ⟨op1.1, newL_of rh1 (RVs.rg a b) op1.2 fun u h' z H' qa e r rh' => q _ _ _ _ qa (e1.trans e) r rh'⟩⟩
theorem ae_trg (G : Good g k X N sc) {p : Pos} (ha : PRg X x (cR g tr)) (hg : glB sc "tuple" = true) (hs : isStar x = false) : PE X (.Call (.Name "tuple" p) [x] [] pos) (cE g fun ρ h Q => tr ρ h fun a b h2 => RgOk a b ∧ Q (.tup (rgA a b)) h2) :=
  pe_imp (tup_rg G.calm (G.gl hg) (G.bl _ (by decide +kernel)) ha (star_ok hs [] X.env)) fun σ H Q ⟨ρ, h, Qa, Z, rs, rh, op, q⟩ => ⟨ρ, h, _, Z, rs, rh, op, fun a b h1 H1 op1 e1 rh1 =>
    ⟨op1.1, newS_of rh1 (RVs.rg a b) op1.2 fun u h' z H' qa e r rh' => q _ _ _ _ qa (e1.trans e) r rh'⟩⟩
def rStrV (xs : List V) (H : Hp) (Q : VK) : Prop := (∃ i : Int, xs = [.int i] ∧ i.natAbs.log2 < 1920 ∧ Q (.str (toString i)) H) ∨ (xs = [.non] ∧ Q (.str "None") H)
theorem call_str_tok {pins : List (Addr × Obj)} {s : Shared} {σ : L2.St} {H : Hp} {xs : List V} {us : List Value} {Q : VK} (I : Inv X pins σ H s) (r : Vals xs us) (h : rStrV xs H Q) :
    wpAny (model X.prog X.w) X.A (call (.type "str") us) (fun v s1 => 1 ≤ s1.toks ∧ EP X pins σ Q v s1) X.xe s := by
  rcases h with ⟨i, rfl, hz, q⟩ | ⟨rfl, q⟩
  · obtain ⟨u, rfl, t, rfl⟩ := vals1 r
    exact PySem.P.str_of_int hz ⟨Nat.le_add_left 1 _, .str _, H, I.tok _, ⟨_, rfl⟩, q⟩
  · obtain ⟨u, rfl, e⟩ := vals1 r
    cases e
    exact PySem.P.str_of_none ⟨Nat.le_add_left 1 _, .str _, H, I.tok _, ⟨_, rfl⟩, q⟩
theorem ae_rpl (G : Good g k X N sc) {yt zt : Str} {j0 j1 : Nat} {p0 p1 c0 c1 apos : Pos} (ha : PE X x (cE g ta)) (hyz : (yt == zt) = false) (hg : glB sc "str" = true) (hl : (apos.endLine == pos.line) = true) (hs : isStar x = false) :
    PE X (.Call (.Attribute (.Call (.Name "str" p0) [x] [] p1) "replace" apos) [.Constant (.str yt) j0 c0, .Constant (.str zt) j1 c1] [] pos) (cE g fun ρ h Q => ta ρ h fun v h1 => aRpl v yt zt h1 Q) := by
  refine ⟨fun pins s σ H Q I ⟨ρ, h, Qa, Z, rs, rh, op, q⟩ => ?_⟩
  refine PySem.Call_method2 (base_ok (e := .Call (.Name "str" p0) [x] [] p1) rfl _ X.env _) (by rfl) hl ?_
  refine wpAny_Call_Name_kw (ld_blt I (G.gl hg) (G.bl _ (by decide +kernel)) (u := .type "str") (by decide +kernel) ?_ (by decide) (by decide))
  refine PyProof.Rows.callWith_type1 (thn ((pa_cons ha pa_nil (star_ok hs [] X.env)).run p1 pins s σ H (fun vs H1 => rStrV vs H1 fun v H2 => ∃ s : Str, v = .str s ∧ s.length + (s.length + 1) * zt.length ≤ 16777216 ∧ Q (.str (Txt.replace s yt zt)) H2) I
    ⟨ρ, h, _, Z, rs, rh, op, fun v h1 x1 H1 op1 e1 r1 rh1 => ?_⟩) fun us s1 ⟨vs, H1, I1, r1, q1⟩ => thn (call_str_tok I1 r1 q1) fun v s2 ⟨hk, v', H2, I2, r2, x', e2, hb, q2⟩ => ?_) (star_ok hs [] X.env) (star_all p1 X.env rfl)
  · obtain ⟨t, ht, hb, q1⟩ := op1
    rcases ht with ⟨i, rfl, hz, rfl⟩ | ⟨rfl, rfl⟩
    · cases r1
      exact .inl ⟨i, rfl, hz, _, rfl, hb, q _ _ _ _ q1 e1 (.str _) rh1⟩
    · cases r1
      exact .inr ⟨rfl, _, rfl, hb, q _ _ _ _ q1 e1 (.str _) rh1⟩
  · subst e2
    obtain ⟨tx, e2⟩ := r2
    subst e2
    refine ⟨"str", _, PySem.F.plainAttrs_str, PySem.F.slot_str_replace, PySem.F.type_str_replace, typeIs_str _ _ _, (fun _ e => nomatch e), Calls.callWith_builtin rfl (Calls.evalArgs_plain (Calls.spliced_cons ?_))⟩
    refine Calls.Constant_str (Calls.spliced_cons (Calls.Constant_str (Calls.spliced_nil ?_)))
    exact PySem.SC.replace (by show s2.toks ≠ 0; omega) (by show s2.toks + 1 ≠ 0; omega) (by show s2.toks ≠ s2.toks + 1; omega) hyz hb fun t' k => ⟨.str (Txt.replace x' yt zt), H2, I2.tok k, ⟨t', rfl⟩, q2⟩
theorem ae_call0 (G : Good g k X N sc) {f : Str} {sp : ASp} {p : Pos} (nd : Nd g k X (.fn f sp)) (hg : glB sc f = true) (hn : okN f = true) : PE X (.Call (.Name f p) [] [] pos) (cE g fun ρ h Q => sp [] h Q) := by
  obtain ⟨a, fd, ps, F, hm, hk, hb⟩ := nd
  exact pe_imp (pe_call0 F G.room (G.gl hg) hm hk hb .nil pass0 (okN_ok hn).1) fun σ H Q ⟨ρ, h, Qa, Z, rs, rh, op, q⟩ => ⟨[], h, Qa, Z, .nil, rh, op, q⟩
theorem ae_call (G : Good g k X N sc) {f : Str} {sp : ASp} {tas : TAa} {es : List Expr} {p : Pos} (nd : Nd g k X (.fn f sp)) (ha : PA X (x :: es) (cA g tas)) (hg : glB sc f = true) (hn : okN f = true) (hs : ((x :: es).all fun e => !isStar e) = true) :
    PE X (.Call (.Name f p) (x :: es) [] pos) (cE g fun ρ h Q => tas ρ h fun vs h1 => sp vs h1 Q) := by
  obtain ⟨a, fd, ps, F, hm, hk, hb⟩ := nd
  rw [List.all_cons, Bool.and_eq_true] at hs
  exact pe_imp (pe_call F G.room (G.gl hg) hm hk hb .nil pass0 ha (okN_ok hn).1 (star_ok (by simpa using hs.1) es X.env) (star_all pos X.env hs.2)) fun σ H Q ⟨ρ, h, Qa, Z, rs, rh, op, q⟩ =>
    ⟨ρ, h, _, Z, rs, rh, op, fun vs h1 xs H1 op1 e1 r1 rh1 => ⟨vs, h1, Qa, Z, by rw [List.append_nil]; exact r1, rh1, op1, fun v h' x H' qa e r rh' => q _ _ _ _ qa (e1.trans e) r rh'⟩⟩
theorem ae_callG0 (G : Good g k X N sc) {f : Str} {sp : ASp} {p : Pos} (nd : Nd g k X (.fnG f sp)) (hg : glB sc f = true) (hn : okN f = true) : PE X (.Call (.Name f p) [] [] pos) (cE g fun ρ h Q => sp [] h Q) := by
  obtain ⟨gd, a, fd, ps, F, hm, hk, hb⟩ := nd
  exact pe_imp (pe_callG0 (E := fun _ _ _ => False) F gd G.room (G.gl hg) hm hk hb (okN_ok hn).1) fun σ H Q ⟨ρ, h, Qa, Z, rs, rh, op, q⟩ => ⟨[], h, Qa, Z, .nil, rh, op, q⟩
theorem ae_callG (G : Good g k X N sc) {f : Str} {sp : ASp} {tas : TAa} {es : List Expr} {p : Pos} (nd : Nd g k X (.fnG f sp)) (ha : PA X (x :: es) (cA g tas)) (hg : glB sc f = true) (hn : okN f = true) (hs : ((x :: es).all fun e => !isStar e) = true) :
    PE X (.Call (.Name f p) (x :: es) [] pos) (cE g fun ρ h Q => tas ρ h fun vs h1 => sp vs h1 Q) := by
  obtain ⟨gd, a, fd, ps, F, hm, hk, hb⟩ := nd
  rw [List.all_cons, Bool.and_eq_true] at hs
  exact pe_imp (pe_callG (E := fun _ _ _ => False) F gd G.room (G.gl hg) hm hk hb ha (okN_ok hn).1 (star_ok (by simpa using hs.1) es X.env) (star_all pos X.env hs.2)) fun σ H Q ⟨ρ, h, Qa, Z, rs, rh, op, q⟩ =>
    ⟨ρ, h, _, Z, rs, rh, op, fun vs h1 xs H1 op1 e1 r1 rh1 => ⟨vs, h1, Qa, Z, by rw [List.append_nil]; exact r1, rh1, op1, fun v h' x H' qa e r rh' => q _ _ _ _ qa (e1.trans e) r rh'⟩⟩
theorem nd_ofZ {f : Str} {sp : ASp} (nd : Nd g k X (.fnZ f sp)) : Nd g k X (.fn f sp) := by
  obtain ⟨-, a, fd, ps, F, -, hm, hk, hb⟩ := nd
  exact ⟨a, fd, ps, F, hm, hk, hb⟩
theorem ah_call0 {a0 : Addr} (G : GoodH (g.h a0) X N sc) (hA : X.A.handled = some (.ref a0)) {f : Str} {sp : ASp} {p : Pos} (nd : Nd g k X (.fnZ f sp)) (hg : glB sc f = true) (hn : okN f = true) : PE X (.Call (.Name f p) [] [] pos) (cE (g.h a0) fun ρ h Q => sp [] h Q) := by
  obtain ⟨⟨r1, r2⟩, a, fd, ps, -, F, hm, hk, hb⟩ := nd
  exact pe_imp (pe_callZ0 (E := fun _ _ _ => False) F hA ⟨r1, r2⟩ (G.gl hg) hm hk hb (okN_ok hn).1) fun σ H Q ⟨ρ, h, Qa, Z, rs, rh, op, q⟩ => ⟨[], h, Qa, Z, .nil, rh, op, q⟩
theorem ah_call {a0 : Addr} (G : GoodH (g.h a0) X N sc) (hA : X.A.handled = some (.ref a0)) {f : Str} {sp : ASp} {tas : TAa} {es : List Expr} {p : Pos} (nd : Nd g k X (.fnZ f sp)) (ha : PA X (x :: es) (cA (g.h a0) tas)) (hg : glB sc f = true) (hn : okN f = true) (hs : ((x :: es).all fun e => !isStar e) = true) :
    PE X (.Call (.Name f p) (x :: es) [] pos) (cE (g.h a0) fun ρ h Q => tas ρ h fun vs h1 => sp vs h1 Q) := by
  obtain ⟨⟨r1, r2⟩, a, fd, ps, -, F, hm, hk, hb⟩ := nd
  rw [List.all_cons, Bool.and_eq_true] at hs
  exact pe_imp (pe_callZ (E := fun _ _ _ => False) F hA ⟨r1, r2⟩ (G.gl hg) hm hk hb ha (okN_ok hn).1 (star_ok (by simpa using hs.1) es X.env) (star_all pos X.env hs.2)) fun σ H Q ⟨ρ, h, Qa, Z, rs, rh, op, q⟩ =>
    ⟨ρ, h, _, Z, rs, rh, op, fun vs h1 xs H1 op1 e1 r1 rh1 => ⟨vs, h1, Qa, Z, by rw [List.append_nil]; exact r1, rh1, op1, fun v h' x H' qa e r rh' => q _ _ _ _ qa (e1.trans e) r rh'⟩⟩
theorem few_ok {es : List Expr} (hs : (es.all fun e => !isStar e) = true) (hl : es.length < 30) (env : Env) : ((backTo pos (starEach es env)).all (fun x => !x.1) && (backToKw pos (keywordEach [] env)).all (fun x => x.1.isSome)
      && decide (es.length + ([] : List Keyword).length + (if ([] : List Keyword).isEmpty then 0 else 1) < 30)) = true := by
  have h1 : (backTo pos (starEach es env)).all (fun x => !x.1) = true := by
    have h := star_all pos env hs
    rw [List.any_eq_false] at h
    rw [List.all_eq_true]
    intro a ha
    have := h a ha
    simpa using this
  rw [h1]
  simp only [List.length_nil, List.isEmpty_nil, if_true, Nat.add_zero, Bool.true_and]
  rw [decide_eq_true hl]
  rfl
variable {apos : Pos}
theorem cntV_of {H : Hp} {v : Va} {x : V} (r : RV g H v x) (f : flatA v = true) : ∀ {ws : List Va} {ys : List V}, RVs g H ws ys → ws.all flatA = true → (ys.countP fun z => eqV z x) = ws.countP fun z => eqA z v
  | _, _, .nil, _ => rfl
  | _, _, .cons a s, f2 => by
    rw [List.all_cons, Bool.and_eq_true] at f2
    rw [List.countP_cons, List.countP_cons, cntV_of r f s f2.2, eqV_of a r f2.1 f]
theorem am_1 {m : Str} {id : String} {r : V → List V → Hp → VK → Prop} {op : Va → Va → Ah → KA → Prop} (pa : PlainAttrs "list") (slot : Slot "list" m id) (hty : typeOf (.builtin id) = pure (.type "method_descriptor")) (hm : MtR X id r)
    (ha : PE X x (cE g ta)) (hb : PE X y (cE g tb)) (hx : isCall0 x = false) (hl : (apos.endLine == pos.line) = true) (hs : isStar y = false)
    (fin : ∀ {Z : Hp} {H : Hp} {h : Ah} {a : Addr} {w : Va} {x2 : V} {Qa : KA} {Q : VK}, RV g H w x2 → RH g Z H h → op (.ref a) w h Qa → (∀ u h' z H', Qa u h' → Ext H H' → RV g H' u z → RH g Z H' h' → Q z H') → r (.ref a) [x2] H Q) :
    PE X (.Call (.Attribute x m apos) [y] [] pos) (cE g fun ρ h Q => ta ρ h fun v h1 => isL v h1 ∧ tb ρ h1 fun w h2 => op v w h2 Q) := by
  refine pe_imp (pe_bm pa slot hty hm ha (pa_cons hb pa_nil (star_ok hs [] X.env)) (base_ok hx m X.env _) (few_ok (by simp [hs]) (by simp) X.env) hl (star_ok hs [] X.env) rfl) fun σ H Q ⟨ρ, h, Qa, Z, rs, rh, op1, q⟩ =>
    ⟨ρ, h, _, Z, rs, rh, op1, fun v h1 x1 H1 op2 e1 r1 rh1 => ?_⟩
  obtain ⟨⟨a, xs, rfl, hl1⟩, op2⟩ := op2
  cases r1
  obtain ⟨ys, ha', _⟩ := rh1.o _ _ hl1
  refine ⟨.inl ⟨rfl, ys, SqL.of ha'⟩, ρ, h1, _, Z, rs.ext e1, rh1, op2, fun w h2 x2 H2 op3 e2 r2 rh2 => ?_⟩
  exact fin r2 rh2 op3 fun u h' z H' qa e r rh' => q _ _ _ _ qa ((e1.trans e2).trans e) r rh'
theorem ae_app (ha : PE X x (cE g ta)) (hb : PE X y (cE g tb)) (hx : isCall0 x = false) (hl : (apos.endLine == pos.line) = true) (hs : isStar y = false) :
    PE X (.Call (.Attribute x "append" apos) [y] [] pos) (cE g fun ρ h Q => ta ρ h fun v h1 => isL v h1 ∧ tb ρ h1 fun w h2 => aAppend v w h2 Q) := by
  refine am_1 PySem.F.plainAttrs_list PySem.F.slot_list_append PySem.F.type_list_append mt_append ha hb hx hl hs fun {Z H h a w x2 Qa Q} r2 rh2 op k => ?_
  obtain ⟨xs, ha, hz, op⟩ := op
  obtain ⟨ys, ha', rx⟩ := rh2.o _ _ ha
  refine ⟨a, ys, x2, rfl, rfl, ha', by rw [← rx.length]; exact hz, ?_⟩
  have ex : Ext H (upd H a (.lst (ys ++ [x2]))) := .upd (.lst ha')
  exact k _ _ _ _ op ex .non (rh2.write (.lst ha') ha ⟨_, upd_same, (rx.append (.cons r2 .nil)).ext ex⟩)
theorem ae_ext (ha : PE X x (cE g ta)) (hb : PE X y (cE g tb)) (hx : isCall0 x = false) (hl : (apos.endLine == pos.line) = true) (hs : isStar y = false) :
    PE X (.Call (.Attribute x "extend" apos) [y] [] pos) (cE g fun ρ h Q => ta ρ h fun v h1 => isL v h1 ∧ tb ρ h1 fun w h2 => aExtend v w h2 Q) := by
  refine am_1 PySem.F.plainAttrs_list PySem.F.slot_list_extend PySem.F.type_list_extend mt_extend ha hb hx hl hs fun {Z H h a w x2 Qa Q} r2 rh2 op k => ?_
  cases w with
  | ref b =>
    obtain ⟨xs, zs, ha, hb, hz, op⟩ := op
    obtain ⟨ys, ha', rx⟩ := rh2.o _ _ ha
    obtain ⟨ws, hb', ry⟩ := rh2.o _ _ hb
    cases r2
    refine ⟨a, b, ys, ws, rfl, rfl, ha', hb', by rw [← rx.length, ← ry.length]; exact hz, ?_⟩
    have ex : Ext H (upd H a (.lst (ys ++ ws))) := .upd (.lst ha')
    exact k _ _ _ _ op ex .non (rh2.write (.lst ha') ha ⟨_, upd_same, (rx.append ry).ext ex⟩)
  | _ => exact op.elim
theorem ae_popAt (ha : PE X x (cE g ta)) (hb : PE X y (cE g tb)) (hx : isCall0 x = false) (hl : (apos.endLine == pos.line) = true) (hs : isStar y = false) :
    PE X (.Call (.Attribute x "pop" apos) [y] [] pos) (cE g fun ρ h Q => ta ρ h fun v h1 => isL v h1 ∧ tb ρ h1 fun w h2 => aPopAt v w h2 Q) := by
  refine am_1 PySem.F.plainAttrs_list PySem.F.slot_list_pop PySem.F.type_list_pop mt_popAt ha hb hx hl hs fun {Z H h a w x2 Qa Q} r2 rh2 op k => ?_
  cases w with
  | int i =>
    obtain ⟨xs, j, u, ha, h1, h2, hj, hu, op⟩ := op
    obtain ⟨ys, ha', rx⟩ := rh2.o _ _ ha
    obtain ⟨z, hz, rz⟩ := rx.got hu
    cases r2
    refine ⟨a, ys, i, j, z, rfl, rfl, ha', h1, h2, by rw [← rx.length]; exact hj, hz, ?_⟩
    have ex : Ext H (upd H a (.lst (ys.eraseIdx j))) := .upd (.lst ha')
    exact k _ _ _ _ op ex (rz.ext ex) (rh2.write (.lst ha') ha ⟨_, upd_same, (rx.eraseIdx j).ext ex⟩)
  | _ => exact op.elim
theorem pe_bmLT {o e : Expr} {m : Str} {idL idT : String} {rL rT : V → List V → Hp → VK → Prop} {to : TE} {t : TA} (sl : Slot "list" m idL) (st : Slot "tuple" m idT) (tl : typeOf (.builtin idL) = pure (.type "method_descriptor")) (tt : typeOf (.builtin idT) = pure (.type "method_descriptor"))
    (hL : MtR X idL rL) (hT : MtR X idT rT) (ho : PE X o to) (ha : PA X [e] t) (ho0 : isCall0 o = false) (hl : (apos.endLine == pos.line) = true) (hs : isStar e = false) :
    PE X (.Call (.Attribute o m apos) [e] [] pos) (fun σ H Q => to σ H fun x H1 => (tyV X.K "list" x H1 ∧ t σ H1 fun vs H2 => rL x vs H2 Q) ∨ ((∃ p ys, x = .ref p ∧ TupS H1 p ys) ∧ t σ H1 fun vs H2 => rT x vs H2 Q)) := by
  have es := star_ok hs [] X.env
  refine ⟨fun pins s σ H Q I h => wpAny_Call_method_late (base_ok ho0 m X.env _) (few_ok (by simp [hs]) (by simp) X.env) hl rfl (thn (ho.run pins s σ H _ I h) fun v s1 ⟨x, H1, I1, r1, q1⟩ => ?_)⟩
  rcases q1 with ⟨ty, q1⟩ | ⟨⟨p, ys, rfl, ob, hob, hcl, hdn⟩, q1⟩
  · obtain ⟨h1, h2⟩ := tyV_is I1 r1 ty
    refine ⟨"list", idL, PySem.F.plainAttrs_list, sl, tl, h1, h2, ?_⟩
    have hA := ha.run pos pins s1 σ H1 _ I1 q1
    rw [es] at hA ⊢
    exact Calls.callWith_builtin rfl (Calls.evalArgs_plain (thn hA fun us s2 ⟨vs, H2, I2, r2, q2⟩ => hL pins s2 σ H2 x vs v us Q I2 r1 r2 q2))
  · have hg := (I1.hok _ _ hob).1
    cases r1
    refine ⟨"tuple", idT, PySem.F.plainAttrs_tuple, st, tt, ⟨_, hg, hcl⟩, fun a e => by cases e; exact ⟨ob, hg, hdn⟩, ?_⟩
    have hA := ha.run pos pins s1 σ H1 _ I1 q1
    rw [es] at hA ⊢
    exact Calls.callWith_builtin rfl (Calls.evalArgs_plain (thn hA fun us s2 ⟨vs, H2, I2, r2, q2⟩ => hT pins s2 σ H2 (.ref p) vs (.ref p) us Q I2 rfl r2 q2))
theorem ae_sm {f : Sm} (ha : PE X x (cE g ta)) (hb : PE X y (cE g tb)) (hx : isCall0 x = false) (hl : (apos.endLine == pos.line) = true) (hs : isStar y = false) :
    PE X (.Call (.Attribute x f.nm apos) [y] [] pos) (cE g fun ρ h Q => ta ρ h fun v h1 => isS v ∧ tb ρ h1 fun w h2 => aSm f v w h2 Q) := by
  have hst : starEach [y] X.env = [(false, eval y X.env)] := star_ok hs [] X.env
  cases f with
  | edw =>
    refine pe_imp (pe_m1 PySem.F.slot_str_endswith PySem.F.type_str_endswith mt_endswith ha hb hst (base_ok hx _ X.env _) hl) fun σ H Q ⟨ρ, h, Qa, Z, rs, rh, op1, q⟩ => ⟨ρ, h, _, Z, rs, rh, op1, fun v h1 x1 H1 op2 e1 r1 rh1 => ?_⟩
    obtain ⟨⟨a, rfl⟩, op2⟩ := op2
    cases r1
    refine ⟨⟨_, rfl⟩, ρ, h1, _, Z, rs.ext e1, rh1, op2, fun w h2 x2 H2 op3 e2 r2 rh2 => ?_⟩
    obtain ⟨a', b, e, rfl, op⟩ := op3
    cases e
    cases r2
    exact ⟨_, _, rfl, rfl, q _ _ _ _ op (e1.trans e2) (.bl _) rh2⟩
  | split =>
    refine pe_imp (pe_m1 PySem.F.slot_str_split PySem.F.type_str_split mt_split ha hb hst (base_ok hx _ X.env _) hl) fun σ H Q ⟨ρ, h, Qa, Z, rs, rh, op1, q⟩ => ⟨ρ, h, _, Z, rs, rh, op1, fun v h1 x1 H1 op2 e1 r1 rh1 => ?_⟩
    obtain ⟨⟨a, rfl⟩, op2⟩ := op2
    cases r1
    refine ⟨⟨_, rfl⟩, ρ, h1, _, Z, rs.ext e1, rh1, op2, fun w h2 x2 H2 op3 e2 r2 rh2 => ?_⟩
    obtain ⟨a', b, e, rfl, hb0, hz, op⟩ := op3
    cases e
    cases r2
    exact ⟨_, _, rfl, rfl, hb0, hz, newL_of rh2 (RVs.of_strs _) op fun u h' z H' qa e r rh' => q _ _ _ _ qa ((e1.trans e2).trans e) r rh'⟩
  | index =>
    refine pe_imp (pe_m1 PySem.F.slot_str_index PySem.F.type_str_index mt_sindex ha hb hst (base_ok hx _ X.env _) hl) fun σ H Q ⟨ρ, h, Qa, Z, rs, rh, op1, q⟩ => ⟨ρ, h, _, Z, rs, rh, op1, fun v h1 x1 H1 op2 e1 r1 rh1 => ?_⟩
    obtain ⟨⟨a, rfl⟩, op2⟩ := op2
    cases r1
    refine ⟨⟨_, rfl⟩, ρ, h1, _, Z, rs.ext e1, rh1, op2, fun w h2 x2 H2 op3 e2 r2 rh2 => ?_⟩
    obtain ⟨a', b, i, rest, e, rfl, ho, op⟩ := op3
    cases e
    cases r2
    exact ⟨_, _, i, rest, rfl, rfl, ho, q _ _ _ _ op (e1.trans e2) (.int _) rh2⟩
  | join =>
    refine pe_imp (pe_m1 PySem.F.slot_str_join PySem.F.type_str_join mt_join ha hb hst (base_ok hx _ X.env _) hl) fun σ H Q ⟨ρ, h, Qa, Z, rs, rh, op1, q⟩ => ⟨ρ, h, _, Z, rs, rh, op1, fun v h1 x1 H1 op2 e1 r1 rh1 => ?_⟩
    obtain ⟨⟨a, rfl⟩, op2⟩ := op2
    cases r1
    refine ⟨⟨_, rfl⟩, ρ, h1, _, Z, rs.ext e1, rh1, op2, fun w h2 x2 H2 op3 e2 r2 rh2 => ?_⟩
    obtain ⟨a', p, ys, e, rfl, hp, hz, op⟩ := op3
    cases e
    cases r2
    obtain ⟨zs, hp', rx⟩ := rh2.o _ _ hp
    have ez := rx.strs
    subst ez
    exact ⟨_, p, ys, rfl, rfl, .inl (SqL.of hp'), hz, q _ _ _ _ op (e1.trans e2) (.str _) rh2⟩
theorem ae_cnt (G : Good g k X N sc) (ha : PE X x (cE g ta)) (hb : PE X y (cE g tb)) (hx : isCall0 x = false) (hl : (apos.endLine == pos.line) = true) (hs : isStar y = false) :
    PE X (.Call (.Attribute x "count" apos) [y] [] pos) (cE g fun ρ h Q => ta ρ h fun v h1 => isLT v h1 ∧ tb ρ h1 fun w h2 => aCnt v w h2 Q) := by
  refine pe_imp (pe_bmLT PySem.F.slot_list_count PySem.F.slot_tuple_count PySem.F.type_list_count PySem.F.type_tuple_count mt_lcountF mt_tcount ha (pa_cons hb pa_nil (star_ok hs [] X.env)) hx hl hs) fun σ H Q ⟨ρ, h, Qa, Z, rs, rh, op1, q⟩ => ⟨ρ, h, _, Z, rs, rh, op1, fun v h1 x1 H1 op2 e1 r1 rh1 => ?_⟩
  rw [G.hK]
  obtain ⟨⟨xs, rfl⟩ | ⟨a, xs, rfl, hl1⟩, op2⟩ := op2
  · cases r1 with | tup hp rx =>
    refine .inr ⟨⟨_, _, rfl, hp⟩, ρ, h1, _, Z, rs.ext e1, rh1, op2, fun w h2 x2 H2 op3 e2 r2 rh2 => ?_⟩
    obtain ⟨f1, f2, op⟩ := op3
    refine ⟨_, _, x2, rfl, rfl, (hp.ext e2).sq, flat_of r2 f1, flats_of rx f2, ?_⟩
    rw [cntV_of r2 f1 (rx.ext e2) f2]
    exact q _ _ _ _ op (e1.trans e2) (.int _) rh2
  · cases r1
    obtain ⟨ys, ha', _⟩ := rh1.o _ _ hl1
    refine .inl ⟨.inl ⟨rfl, ys, SqL.of ha'⟩, ρ, h1, _, Z, rs.ext e1, rh1, op2, fun w h2 x2 H2 op3 e2 r2 rh2 => ?_⟩
    obtain ⟨xs, ha, f1, f2, op⟩ := op3
    obtain ⟨ys, ha', rx⟩ := rh2.o _ _ ha
    refine ⟨a, ys, x2, rfl, rfl, SqL.of ha', flat_of r2 f1, flats_of rx f2, ?_⟩
    rw [cntV_of r2 f1 rx f2]
    exact q _ _ _ _ op (e1.trans e2) (.int _) rh2
theorem ae_idx (G : Good g k X N sc) (ha : PE X x (cE g ta)) (hb : PE X y (cE g tb)) (hx : isCall0 x = false) (hl : (apos.endLine == pos.line) = true) (hs : isStar y = false) :
    PE X (.Call (.Attribute x "index" apos) [y] [] pos) (cE g fun ρ h Q => ta ρ h fun v h1 => isLT v h1 ∧ tb ρ h1 fun w h2 => aIdx v w h2 Q) := by
  refine pe_imp (pe_bmLT PySem.F.slot_list_index PySem.F.slot_tuple_index PySem.F.type_list_index PySem.F.type_tuple_index mt_index mt_tidx ha (pa_cons hb pa_nil (star_ok hs [] X.env)) hx hl hs) fun σ H Q ⟨ρ, h, Qa, Z, rs, rh, op1, q⟩ => ⟨ρ, h, _, Z, rs, rh, op1, fun v h1 x1 H1 op2 e1 r1 rh1 => ?_⟩
  rw [G.hK]
  obtain ⟨⟨xs, rfl⟩ | ⟨a, xs, rfl, hl1⟩, op2⟩ := op2
  · cases r1 with | tup hp rx =>
    refine .inr ⟨⟨_, _, rfl, hp⟩, ρ, h1, _, Z, rs.ext e1, rh1, op2, fun w h2 x2 H2 op3 e2 r2 rh2 => ?_⟩
    obtain ⟨j, z, f1, f2, hj, he, hn, op⟩ := op3
    have rx := rx.ext e2
    obtain ⟨z', hz', rz⟩ := rx.got hj
    have fz : ∀ (m : Nat) (u : Va), xs[m]? = some u → flatA u = true := fun m u e => List.all_eq_true.mp f2 u (List.mem_of_getElem? e)
    refine ⟨_, _, x2, j, z', rfl, rfl, (hp.ext e2).sq, flat_of r2 f1, flats_of rx f2, hz', by rw [eqV_of rz r2 (fz _ _ hj) f1]; exact he, fun m u' hm hu => ?_, q _ _ _ _ op (e1.trans e2) (.int _) rh2⟩
    obtain ⟨u, hu2, ru⟩ := rx.get hu
    rw [eqV_of ru r2 (fz _ _ hu2) f1]
    exact hn m u hm hu2
  · cases r1
    obtain ⟨ys, ha', _⟩ := rh1.o _ _ hl1
    refine .inl ⟨.inl ⟨rfl, ys, SqL.of ha'⟩, ρ, h1, _, Z, rs.ext e1, rh1, op2, fun w h2 x2 H2 op3 e2 r2 rh2 => ?_⟩
    obtain ⟨xs, j, z, ha, f1, f2, hj, he, hn, op⟩ := op3
    obtain ⟨ys, ha', rx⟩ := rh2.o _ _ ha
    obtain ⟨z', hz', rz⟩ := rx.got hj
    have fz : ∀ (m : Nat) (u : Va), xs[m]? = some u → flatA u = true := fun m u e => List.all_eq_true.mp f2 u (List.mem_of_getElem? e)
    refine ⟨a, ys, x2, j, z', rfl, rfl, SqL.of ha', flat_of r2 f1, flats_of rx f2, hz', by rw [eqV_of rz r2 (fz _ _ hj) f1]; exact he, fun m u' hm hu => ?_, q _ _ _ _ op (e1.trans e2) (.int _) rh2⟩
    obtain ⟨u, hu2, ru⟩ := rx.get hu
    rw [eqV_of ru r2 (fz _ _ hu2) f1]
    exact hn m u hm hu2
def rRemD (K : PySem.W.Frag) : V → List V → Hp → VK → Prop := fun x xs H Q => ∃ (a : Addr) (vs : List V) (y : V) (d : PyData) (ds : List PyData) (j : Nat) (z : PyData), x = V.ref a ∧ xs = [y] ∧ H a = some (.lst vs) ∧ DpAll K H vs ds ∧ Dp K H y d ∧
  PyData.canLayAll0 ds = true ∧ d.canLay0 = true ∧ d.depth ≤ 60 ∧ ds[j]? = some z ∧ PyData.eqv z d = true ∧ (∀ (m : Nat) (z' : PyData), m < j → ds[m]? = some z' → PyData.eqv z' d = false) ∧ Q .non (upd H a (.lst (vs.eraseIdx j)))
theorem mt_remD {X : Cx} (hu : X.A.units + 64 < cLine) : MtR X "list.remove" (rRemD X.K) := by
  intro pins s σ H x xs v us Q I rx rxs h
  obtain ⟨a, vs, y, d, ds, j, z, rfl, rfl, hH, ha, hy, sl, sd, dp, hz, hzj, hno, q⟩ := h
  cases rx
  obtain ⟨uy, rfl, ry⟩ := rxs.one
  obtain ⟨bs, r1⟩ := Dp.reads I d y uy hy ry
  have hroom : X.A.units + 1 + min (PyData.depthAll ds) d.depth < cLine := by omega
  obtain ⟨hzz, its, n, rv, hl, ho⟩ := I.lstM hH
  obtain ⟨as, h4⟩ := Dp.readsAll I ds _ its ha rv
  have hn : its.length = ds.length := SeqAt.ReadsAll.length ds its as h4
  have hmap : its.map (SeqAt.readOf s.heap) = ds := SeqAt.readsAll_map ds its as sl h4
  obtain ⟨hjd, _⟩ := List.getElem?_eq_some_iff.mp hz
  have hjl : j < its.length := by omega
  have hj : j < its.toArray.size := by simpa using hjl
  have at_ : ∀ (m : Nat) (hm : m < its.toArray.size) (z' : PyData), ds[m]? = some z' → SeqAt.readOf s.heap its.toArray[m] = z' := by
    intro m hm z' hz'
    have hml : m < its.length := by simpa using hm
    rw [← hmap, List.getElem?_map, List.getElem?_eq_getElem hml] at hz'
    have e1 : SeqAt.readOf s.heap its[m] = z' := Option.some.inj (show some (SeqAt.readOf s.heap its[m]) = some z' from hz')
    simpa using e1
  refine call_meets PySem.F.slot_list_remove ⟨_, ho, rfl⟩ PySem.F.entry_list_remove (PySem.F.args_list_remove_2 _ _)
    (SeqAt.list_removeAt a its.toArray n _ _ uy (fun u => PyData.eqv (SeqAt.readOf s.heap u) d) j hj ?_ ?_ (by rw [List.size_toArray]; omega)) ⟨ho, SeqAt.items_eqAt (vs := its.toArray) (show ReadsAll s.heap its.toArray.toList ds as from h4) r1 sl sd hroom, ?_⟩
  · show PyData.eqv (SeqAt.readOf s.heap its.toArray[j]) d = true
    rw [at_ j hj z hz]
    exact hzj
  · intro m hm hmj
    have hmd : m < ds.length := by omega
    have hz' : ds[m]? = some ds[m] := List.getElem?_eq_getElem hmd
    show PyData.eqv (SeqAt.readOf s.heap its.toArray[m]) d = false
    rw [at_ m hm _ hz']
    exact hno m _ hmj hz'
  · refine ⟨.non, _, I.lset (its' := its.eraseIdx j) (t' := s.toks) hH ho ?_ (rv.eraseIdx j) ?_, rfl, q⟩
    · show its.toArray.eraseIdxIfInBounds j = (its.eraseIdx j).toArray
      rw [List.eraseIdxIfInBounds_toArray]
    · rw [List.length_eraseIdx]; split <;> omega
def rIdxTD (K : PySem.W.Frag) : V → List V → Hp → VK → Prop := fun x xs H Q => ∃ (p : Addr) (ys : List V) (y : V) (d : PyData) (ds : List PyData) (j : Nat) (z : PyData), x = V.ref p ∧ xs = [y] ∧ SqT K H p ys ∧ DpAll K H ys ds ∧ Dp K H y d ∧
  PyData.canLayAll0 ds = true ∧ d.canLay0 = true ∧ d.depth ≤ 60 ∧ ds[j]? = some z ∧ PyData.eqv z d = true ∧ (∀ (m : Nat) (z' : PyData), m < j → ds[m]? = some z' → PyData.eqv z' d = false) ∧ Q (.int (j : Nat)) H
theorem mt_tidxD {X : Cx} (hu : X.A.units + 64 < cLine) : MtR X "tuple.index" (rIdxTD X.K) := by
  intro pins s σ H x xs v us Q I rx rxs h
  obtain ⟨a, vs, y, d, ds, j, z, rfl, rfl, hH, ha, hy, sl, sd, dp, hz, hzj, hno, q⟩ := h
  cases rx
  obtain ⟨uy, rfl, ry⟩ := rxs.one
  obtain ⟨bs, r1⟩ := Dp.reads I d y uy hy ry
  have hroom : X.A.units + 1 + min (PyData.depthAll ds) d.depth < cLine := by omega
  obtain ⟨its, rv, p1, _⟩ := I.tuple hH
  obtain ⟨⟨cls, dd, data, sls⟩, ho, hc, n, hdt⟩ := id p1
  simp only at hc hdt
  subst hc hdt
  obtain ⟨as, h4⟩ := Dp.readsAll I ds _ its ha rv
  have hn : its.length = ds.length := SeqAt.ReadsAll.length ds its as h4
  have hmap : its.map (SeqAt.readOf s.heap) = ds := SeqAt.readsAll_map ds its as sl h4
  obtain ⟨hjd, _⟩ := List.getElem?_eq_some_iff.mp hz
  have hjl : j < its.length := by omega
  have hj : j < its.toArray.size := by simpa using hjl
  have at_ : ∀ (m : Nat) (hm : m < its.toArray.size) (z' : PyData), ds[m]? = some z' → SeqAt.readOf s.heap its.toArray[m] = z' := by
    intro m hm z' hz'
    have hml : m < its.length := by simpa using hm
    rw [← hmap, List.getElem?_map, List.getElem?_eq_getElem hml] at hz'
    have e1 : SeqAt.readOf s.heap its[m] = z' := Option.some.inj (show some (SeqAt.readOf s.heap its[m]) = some z' from hz')
    simpa using e1
  refine call_meets PySem.F.slot_tuple_index ⟨_, ho, rfl⟩ PySem.F.entry_tuple_index (PySem.F.args_tuple_index_2 _ _)
    (TI.tuple_indexAt a its.toArray n dd sls uy (fun u => PyData.eqv (SeqAt.readOf s.heap u) d) j hj ?_ ?_) ⟨ho, SeqAt.items_eqAt (vs := its.toArray) (show ReadsAll s.heap its.toArray.toList ds as from h4) r1 sl sd hroom, ?_⟩
  · show PyData.eqv (SeqAt.readOf s.heap its.toArray[j]) d = true
    rw [at_ j hj z hz]
    exact hzj
  · intro m hm hmj
    have hmd : m < ds.length := by omega
    have hz' : ds[m]? = some ds[m] := List.getElem?_eq_getElem hmd
    show PyData.eqv (SeqAt.readOf s.heap its.toArray[m]) d = false
    rw [at_ m hm _ hz']
    exact hno m _ hmj hz'
  · exact ⟨.int (j : Nat), H, I.tok _, ⟨_, rfl⟩, q⟩
theorem ae_rem (G : Good g k X N sc) (ha : PE X x (cE g ta)) (hb : PE X y (cE g tb)) (hx : isCall0 x = false) (hl : (apos.endLine == pos.line) = true) (hs : isStar y = false) :
    PE X (.Call (.Attribute x "remove" apos) [y] [] pos) (cE g fun ρ h Q => ta ρ h fun v h1 => isL v h1 ∧ tb ρ h1 fun w h2 => aRem v w h2 Q) := by
  refine am_1 PySem.F.plainAttrs_list PySem.F.slot_list_remove PySem.F.type_list_remove (mt_remD G.room.units) ha hb hx hl hs fun {Z H h a w x2 Qa Q} r2 rh2 op k => ?_
  rw [G.hK]
  obtain ⟨xs, ds, d, j, z, ha, hd, he, sl, sd, dp, hz, hzj, hno, op⟩ := op
  obtain ⟨ys, ha', rx⟩ := rh2.o _ _ ha
  refine ⟨a, ys, x2, d, ds, j, z, rfl, rfl, ha', Das.dp rh2 hd rx, Da.dp rh2 he r2, sl, sd, dp, hz, hzj, hno, ?_⟩
  have ex : Ext H (upd H a (.lst (ys.eraseIdx j))) := .upd (.lst ha')
  exact k _ _ _ _ op ex .non (rh2.write (.lst ha') ha ⟨_, upd_same, (rx.eraseIdx j).ext ex⟩)
theorem ae_idxD (G : Good g k X N sc) (ha : PE X x (cE g ta)) (hb : PE X y (cE g tb)) (hx : isCall0 x = false) (hl : (apos.endLine == pos.line) = true) (hs : isStar y = false) :
    PE X (.Call (.Attribute x "index" apos) [y] [] pos) (cE g fun ρ h Q => ta ρ h fun v h1 => isT v ∧ tb ρ h1 fun w h2 => aIdxD v w h2 Q) := by
  refine pe_imp (pe_bmLT PySem.F.slot_list_index PySem.F.slot_tuple_index PySem.F.type_list_index PySem.F.type_tuple_index mt_index (mt_tidxD G.room.units) ha (pa_cons hb pa_nil (star_ok hs [] X.env)) hx hl hs) fun σ H Q ⟨ρ, h, Qa, Z, rs, rh, op1, q⟩ => ⟨ρ, h, _, Z, rs, rh, op1, fun v h1 x1 H1 op2 e1 r1 rh1 => ?_⟩
  rw [G.hK]
  obtain ⟨⟨xs, rfl⟩, op2⟩ := op2
  cases r1 with | tup hp rx =>
  refine .inr ⟨⟨_, _, rfl, hp⟩, ρ, h1, _, Z, rs.ext e1, rh1, op2, fun w h2 x2 H2 op3 e2 r2 rh2 => ?_⟩
  obtain ⟨ds, d, j, z, hd, he, sl, sd, dp, hz, hzj, hno, op⟩ := op3
  exact ⟨_, _, x2, d, ds, j, z, rfl, rfl, (hp.ext e2).sq, Das.dp rh2 hd (rx.ext e2), Da.dp rh2 he r2, sl, sd, dp, hz, hzj, hno, q _ _ _ _ op (e1.trans e2) (.int _) rh2⟩
theorem ae_ins (ha : PE X x (cE g ta)) (hb : PE X y (cE g tb)) (hc : PE X z (cE g tc)) (hx : isCall0 x = false) (hl : (apos.endLine == pos.line) = true) (hs : isStar y = false) (hs2 : isStar z = false) :
    PE X (.Call (.Attribute x "insert" apos) [y, z] [] pos) (cE g fun ρ h Q => ta ρ h fun v h1 => isL v h1 ∧ tb ρ h1 fun w h2 => tc ρ h2 fun u h3 => aIns v w u h3 Q) := by
  refine pe_imp (pe_bm PySem.F.plainAttrs_list PySem.F.slot_list_insert PySem.F.type_list_insert mt_insert ha (pa_cons hb (pa_cons hc pa_nil (star_ok hs2 [] X.env)) (star_ok hs [z] X.env)) (base_ok hx "insert" X.env _) (few_ok (by simp [hs, hs2]) (by simp) X.env) hl (star_ok hs [z] X.env) (star_all pos X.env (by simp [hs2]))) fun σ H Q ⟨ρ, h, Qa, Z, rs, rh, op1, q⟩ =>
    ⟨ρ, h, _, Z, rs, rh, op1, fun v h1 x1 H1 op2 e1 r1 rh1 => ?_⟩
  obtain ⟨⟨a, xs, rfl, hl1⟩, op2⟩ := op2
  cases r1
  obtain ⟨ys, ha', _⟩ := rh1.o _ _ hl1
  refine ⟨.inl ⟨rfl, ys, SqL.of ha'⟩, ρ, h1, _, Z, rs.ext e1, rh1, op2, fun w h2 x2 H2 op3 e2 r2 rh2 => ⟨ρ, h2, _, Z, rs.ext (e1.trans e2), rh2, op3, fun u h3 x3 H3 op4 e3 r3 rh3 => ?_⟩⟩
  cases w with
  | int i =>
    cases r2
    obtain ⟨xs, ha, hz, h1, h2, op⟩ := op4
    obtain ⟨ys, ha', rx⟩ := rh3.o _ _ ha
    refine ⟨a, ys, i, x3, rfl, rfl, ha', by rw [← rx.length]; exact hz, h1, h2, ?_⟩
    have ex : Ext H3 (upd H3 a (.lst (ys.take i.toNat ++ [x3] ++ ys.drop i.toNat))) := .upd (.lst ha')
    exact q _ _ _ _ op ((e1.trans (e2.trans e3)).trans ex) .non (rh3.write (.lst ha') ha ⟨_, upd_same, ((((rx.take i.toNat).append (.cons r3 .nil)).append (rx.drop i.toNat))).ext ex⟩)
  | _ => exact op4.elim
theorem ae_rvs (ha : PE X x (cE g ta)) (hx : isCall0 x = false) (hl : (apos.endLine == pos.line) = true) :
    PE X (.Call (.Attribute x "reverse" apos) [] [] pos) (cE g fun ρ h Q => ta ρ h fun v h1 => aRvs v h1 Q) := by
  refine pe_imp (pe_bm0 PySem.F.plainAttrs_list PySem.F.slot_list_reverse PySem.F.type_list_reverse (fun pins s σ H x vs v us Q I rx rv h => mt_reverse pins s σ H x vs v us Q I rx rv h) ha (base_ok hx "reverse" X.env _) hl) fun σ H Q ⟨ρ, h, Qa, Z, rs, rh, op1, q⟩ =>
    ⟨ρ, h, _, Z, rs, rh, op1, fun v h1 x1 H1 op2 e1 r1 rh1 => ?_⟩
  cases v with
  | ref a =>
    obtain ⟨xs, ha, op⟩ := op2
    cases r1
    obtain ⟨ys, ha', rx⟩ := rh1.o _ _ ha
    refine ⟨.inl ⟨rfl, ys, SqL.of ha'⟩, a, ys, rfl, rfl, ha', ?_⟩
    have ex : Ext H1 (upd H1 a (.lst ys.reverse)) := .upd (.lst ha')
    exact q _ _ _ _ op (e1.trans ex) .non (rh1.write (.lst ha') ha ⟨_, upd_same, rx.reverse.ext ex⟩)
  | _ => exact op2.elim
theorem ae_get1 (G : Good g k X N sc) (ha : PE X x (cE g ta)) (hb : PE X y (cE g tb)) (hx : isCall0 x = false) (hl : (apos.endLine == pos.line) = true) (hs : isStar y = false) :
    PE X (.Call (.Attribute x "get" apos) [y] [] pos) (cE g fun ρ h Q => ta ρ h fun v h1 => isDk v h1 ∧ tb ρ h1 fun w h2 => aGet v w .non h2 Q) := by
  have m1 : L2.M1 X x "get" apos y pos := ⟨base_ok hx "get" X.env _, few_ok (by simp [hs]) (by simp) X.env, hl, by rw [star_ok hs [] X.env]; rfl⟩
  refine pe_imp (pe_dget1 (by have := G.room.units; omega) ha hb m1) fun σ H Q ⟨ρ, h, Qa, Z, rs, rh, op1, q⟩ => ⟨ρ, h, _, Z, rs, rh, op1, fun v h1 x1 H1 op2 e1 r1 rh1 => ?_⟩
  obtain ⟨⟨a, kvs, rfl, hl1⟩, op2⟩ := op2
  cases r1
  obtain ⟨ys, ha', _⟩ := rh1.o _ _ hl1
  refine ⟨a, rfl, .inl ⟨ys, .inl ha'⟩, ρ, h1, _, Z, rs.ext e1, rh1, op2, fun w h2 x2 H2 op3 e2 r2 rh2 => ?_⟩
  obtain ⟨kvs', ky, hd, ek, op4⟩ := op3
  obtain ⟨zs, hd', rx⟩ := rh2.o _ _ hd
  have ew := key_of r2 ek
  subst ew
  refine ⟨valV zs ky, DGet.k hd', ?_⟩
  rcases rx.val ky with ⟨a1, a2⟩ | ⟨u', z', a1, a2, r'⟩
  · rw [a1] at op4; rw [a2]; exact q _ _ _ _ op4 (e1.trans e2) .non rh2
  · rw [a1] at op4; rw [a2]; exact q _ _ _ _ op4 (e1.trans e2) r' rh2
theorem ae_pop (ha : PE X x (cE g ta)) (hx : isCall0 x = false) (hl : (apos.endLine == pos.line) = true) :
    PE X (.Call (.Attribute x "pop" apos) [] [] pos) (cE g fun ρ h Q => ta ρ h fun v h1 => aPop v h1 Q) := by
  refine pe_imp (pe_bm0 PySem.F.plainAttrs_list PySem.F.slot_list_pop PySem.F.type_list_pop mt_pop ha (base_ok hx "pop" X.env _) hl) fun σ H Q ⟨ρ, h, Qa, Z, rs, rh, op1, q⟩ =>
    ⟨ρ, h, _, Z, rs, rh, op1, fun v h1 x1 H1 op2 e1 r1 rh1 => ?_⟩
  cases v with
  | ref a =>
    obtain ⟨xs, u, ha, hu, op⟩ := op2
    cases r1
    obtain ⟨ys, ha', rx⟩ := rh1.o _ _ ha
    obtain ⟨z, hz, rz⟩ := rx.got hu
    refine ⟨.inl ⟨rfl, ys, SqL.of ha'⟩, a, ys, z, rfl, rfl, ha', by rw [← rx.length]; exact hz, ?_⟩
    have ex : Ext H1 (upd H1 a (.lst ys.dropLast)) := .upd (.lst ha')
    exact q _ _ _ _ op (e1.trans ex) (rz.ext ex) (rh1.write (.lst ha') ha ⟨_, upd_same, rx.dropLast.ext ex⟩)
  | _ => exact op2.elim
theorem ae_get (G : Good g k X N sc) (ha : PE X x (cE g ta)) (hb : PE X y (cE g tb)) (hc : PE X z (cE g tc)) (hx : isCall0 x = false) (hl : (apos.endLine == pos.line) = true) (hs : isStar y = false) (hs2 : isStar z = false) :
    PE X (.Call (.Attribute x "get" apos) [y, z] [] pos) (cE g fun ρ h Q => ta ρ h fun v h1 => isDk v h1 ∧ tb ρ h1 fun w h2 => tc ρ h2 fun u h3 => aGet v w u h3 Q) := by
  have m2 : M2 X x "get" apos y z pos := ⟨base_ok hx "get" X.env _, few_ok (by simp [hs, hs2]) (by simp) X.env, hl, by rw [star_ok hs [z] X.env, star_ok hs2 [] X.env]; rfl⟩
  refine pe_imp (pe_dget2 (by have := G.room.units; omega) ha hb hc m2) fun σ H Q ⟨ρ, h, Qa, Z, rs, rh, op1, q⟩ => ⟨ρ, h, _, Z, rs, rh, op1, fun v h1 x1 H1 op2 e1 r1 rh1 => ?_⟩
  obtain ⟨⟨a, kvs, rfl, hl1⟩, op2⟩ := op2
  cases r1
  obtain ⟨ys, ha', _⟩ := rh1.o _ _ hl1
  refine ⟨a, rfl, .inl ⟨ys, .inl ha'⟩, ρ, h1, _, Z, rs.ext e1, rh1, op2, fun w h2 x2 H2 op3 e2 r2 rh2 => ⟨ρ, h2, _, Z, rs.ext (e1.trans e2), rh2, op3, fun u h3 x3 H3 op4 e3 r3 rh3 => ?_⟩⟩
  obtain ⟨kvs', ky, hd, ek, op4⟩ := op4
  obtain ⟨zs, hd', rx⟩ := rh3.o _ _ hd
  have ew := key_of (r2.ext e3) ek
  subst ew
  refine ⟨valV zs ky, DGet.k hd', ?_⟩
  have fin : ∀ {u' : Va} {z' : V}, Qa u' h3 → RV g H3 u' z' → Q z' H3 := fun qa r => q _ _ _ _ qa ((e1.trans e2).trans e3) r rh3
  rcases rx.val ky with ⟨a1, a2⟩ | ⟨u', z', a1, a2, r'⟩
  · rw [a1] at op4; rw [a2]; exact fin op4 r3
  · rw [a1] at op4; rw [a2]; exact fin op4 r'
theorem RFs.look {H : Hp} (f : Str) : ∀ {v : List (Str × Va)} {u : List (Str × V)}, RFs g H v u → (v.lookup f = none ∧ u.lookup f = none) ∨ ∃ a b, v.lookup f = some a ∧ u.lookup f = some b ∧ RV g H a b
  | _, _, .nil => .inl ⟨rfl, rfl⟩
  | _, _, .cons (f := f') a r => by
    rw [List.lookup_cons, List.lookup_cons]
    cases f == f' with
    | true => exact .inr ⟨_, _, rfl, rfl, a⟩
    | false => exact RFs.look f r
theorem ae_fld {C f : Str} (nd : Nd g k X (.fld C f)) (ha : PE X x (cE g ta)) (hx : isCall0 x = false) : PE X (.Attribute x f pos) (cE g fun ρ h Q => ta ρ h fun v h1 => aFld C v f h1 Q) := by
  refine pe_imp (pe_fld ha (base_ok hx f X.env _)) fun σ H Q ⟨ρ, h, Qa, Z, rs, rh, op1, q⟩ => ⟨ρ, h, _, Z, rs, rh, op1, fun v h1 x1 H1 op2 e1 r1 rh1 => ?_⟩
  cases v with
  | ref a =>
    obtain ⟨fs, u, ha, hf, op⟩ := op2
    cases r1
    obtain ⟨dx, ys, ha', rx⟩ := rh1.o _ _ ha
    rcases rx.look f with ⟨a1, _⟩ | ⟨u', z', a1, a2, r'⟩
    · rw [a1] at hf; cases hf
    · rw [a1] at hf; cases hf
      exact ⟨a, g.CA C, dx, ys, z', rfl, ha', nd.1, nd.2, a2, q _ _ _ _ op e1 r' rh1⟩
  | _ => exact op2.elim
theorem meth_ev {o : Expr} {m : Str} {es : List Expr} (ho : isCall0 o = false) (hs : (es.all fun e => !isStar e) = true) (hn : es.length < 30) (hl : (apos.endLine == pos.line) = true) (env : Env) :
    eval (.Call (.Attribute o m apos) es [] pos) env = (do
      let ov ← eval o env
      standAt apos.atName
      let (f, first) ← holding [ov] (getMethod ov m (do return (← importBound o env).getD true))
      callWith pos f first (backTo pos (starEach es env)) (backToKw pos (keywordEach [] env))) := by
  have hf : methodCallForm (es.length + ([] : List Keyword).length) (backTo pos (starEach es env)) (backToKw pos (keywordEach [] env)) = true := few_ok hs hn env
  rw [arm_eval_Call, base_ok ho]
  unfold methodCall calleeOf methodCallPos
  simp only [hf, if_true, hl, Bool.not_true, Bool.false_or]
  rfl
theorem ae_om (G : Good g k X N sc) {C m : Str} {sp : ASp} {tas : TAa} {es : List Expr} (nd : Nd g k X (.mth C m sp)) (ha : PE X x (cE g ta)) (hb : PA X (y :: es) (cA g tas)) (hx : isCall0 x = false) (hl : (apos.endLine == pos.line) = true)
    (hs : ((y :: es).all fun e => !isStar e) = true) (hn : (y :: es).length < 30) :
    PE X (.Call (.Attribute x m apos) (y :: es) [] pos) (cE g fun ρ h Q => ta ρ h fun v h1 => isC C m v h1 ∧ tas ρ h1 fun vs h2 => sp (v :: vs) h2 Q) := by
  obtain ⟨f, fd, ps, cl, mt, F, hb'⟩ := nd
  have hs' := hs
  rw [List.all_cons, Bool.and_eq_true] at hs'
  refine pe_imp (pe_meth ha cl mt F G.room hb' .nil pass0 hb (star_ok (by simpa using hs'.1) es X.env) (star_all pos X.env hs'.2) (meth_ev hx hs hn hl X.env)) fun σ H Q ⟨ρ, h, Qa, Z, rs, rh, op1, q⟩ => ⟨ρ, h, _, Z, rs, rh, op1, fun v h1 x1 H1 op2 e1 r1 rh1 => ?_⟩
  obtain ⟨⟨a, fs, rfl, ho, hm⟩, op2⟩ := op2
  cases r1
  obtain ⟨dx, ys, ha', rx⟩ := rh1.o _ _ ho
  refine ⟨a, dx, ys, rfl, ha', ?_, ρ, h1, _, Z, rs.ext e1, rh1, op2, fun vs h2 xs H2 op3 e2 r2 rh2 => ?_⟩
  · rcases rx.look m with ⟨_, a2⟩ | ⟨u', z', a1, _⟩
    · exact a2
    · rw [a1] at hm; cases hm
  · exact ⟨.ref a :: vs, h2, Qa, Z, by rw [List.append_nil]; exact .cons (.ref a) r2, rh2, op3, fun v h' x H' qa e r rh' => q _ _ _ _ qa ((e1.trans e2).trans e) r rh'⟩
theorem ae_om0 (G : Good g k X N sc) {C m : Str} {sp : ASp} (nd : Nd g k X (.mth C m sp)) (ha : PE X x (cE g ta)) (hx : isCall0 x = false) (hl : (apos.endLine == pos.line) = true) :
    PE X (.Call (.Attribute x m apos) [] [] pos) (cE g fun ρ h Q => ta ρ h fun v h1 => isC C m v h1 ∧ sp [v] h1 Q) := by
  obtain ⟨f, fd, ps, cl, mt, F, hb'⟩ := nd
  refine pe_imp (pe_meth0 ha cl mt F G.room hb' .nil pass0 (meth_ev hx rfl (by decide) hl X.env)) fun σ H Q ⟨ρ, h, Qa, Z, rs, rh, op1, q⟩ => ⟨ρ, h, _, Z, rs, rh, op1, fun v h1 x1 H1 op2 e1 r1 rh1 => ?_⟩
  obtain ⟨⟨a, fs, rfl, ho, hm⟩, op2⟩ := op2
  cases r1
  obtain ⟨dx, ys, ha', rx⟩ := rh1.o _ _ ho
  refine ⟨a, dx, ys, rfl, ha', ?_, [.ref a], h1, Qa, Z, .cons (.ref a) .nil, rh1, op2, fun v h' x H' qa e r rh' => q _ _ _ _ qa (e1.trans e) r rh'⟩
  rcases rx.look m with ⟨_, a2⟩ | ⟨u', z', a1, _⟩
  · exact a2
  · rw [a1] at hm; cases hm
theorem ae_mk (G : Good g k X N sc) {C : Str} {sp : ASp} {tas : TAa} {es : List Expr} {p : Pos} (nd : Nd g k X (.mk C sp)) (ha : PA X (x :: es) (cA g tas)) (hg : glB sc C = true) (hn : okN C = true) (hs : ((x :: es).all fun e => !isStar e) = true) :
    PE X (.Call (.Name C p) (x :: es) [] pos) (cE g fun ρ h Q => tas ρ h fun vs h1 => ∀ x, h1 x = none → sp (.ref x :: vs) (put h1 x (.ins C [])) fun v h2 => v = .non ∧ Q (.ref x) h2) := by
  obtain ⟨j, f, fd, ps, rfl, mk, F, hm, hb⟩ := nd
  rw [List.all_cons, Bool.and_eq_true] at hs
  refine pe_imp (pe_make mk F G.room (G.gl hg) hm hb .nil pass0 ha (okN_ok hn).1 (star_ok (by simpa using hs.1) es X.env) (star_all pos X.env hs.2)) fun σ H Q ⟨ρ, h, Qa, Z, rs, rh, op, q⟩ =>
    ⟨ρ, h, _, Z, rs, rh, op, fun vs h1 xs H1 op1 e1 r1 rh1 => fun a dx na nd nad => ?_⟩
  have na' : upd H1 dx (.own a) a = none := by rw [upd_ne (Ne.symm nad)]; exact na
  have ex : Ext H1 (upd (upd H1 dx (.own a)) a (.ins (g.CA C) dx [])) := (Ext.upd (.none nd)).trans (.upd (.none na'))
  refine ⟨.ref a :: vs, _, _, Z, ?_, (rh1.new nd).alloc na' (o := .ins C []) ⟨dx, [], upd_same, .nil⟩, op1 a (rh1.fresh na), fun v h' x' H' qa e r rh' => ?_⟩
  · rw [List.append_nil]; exact .cons (.ref a) (r1.ext ex)
  · obtain ⟨rfl, qa⟩ := qa
    cases r
    exact ⟨rfl, q _ _ _ _ qa (e1.trans (ex.trans e)) (.ref a) rh'⟩
theorem ae_mk0 (G : Good g k X N sc) {C : Str} {sp : ASp} {p : Pos} (nd : Nd g k X (.mk C sp)) (hg : glB sc C = true) (hn : okN C = true) :
    PE X (.Call (.Name C p) [] [] pos) (cE g fun ρ h Q => ∀ x, h x = none → sp [.ref x] (put h x (.ins C [])) fun v h2 => v = .non ∧ Q (.ref x) h2) := by
  obtain ⟨j, f, fd, ps, rfl, mk, F, hm, hb⟩ := nd
  refine pe_imp (pe_make0 mk F G.room (G.gl hg) hm hb .nil pass0 (okN_ok hn).1) fun σ H Q ⟨ρ, h, Qa, Z, rs, rh, op, q⟩ => fun a dx na nd nad => ?_
  have na' : upd H dx (.own a) a = none := by rw [upd_ne (Ne.symm nad)]; exact na
  have ex : Ext H (upd (upd H dx (.own a)) a (.ins (g.CA C) dx [])) := (Ext.upd (.none nd)).trans (.upd (.none na'))
  refine ⟨[.ref a], _, _, Z, .cons (.ref a) .nil, (rh.new nd).alloc na' (o := .ins C []) ⟨dx, [], upd_same, .nil⟩, op a (rh.fresh na), fun v h' x' H' qa e r rh' => ?_⟩
  obtain ⟨rfl, qa⟩ := qa
  cases r
  exact ⟨rfl, q _ _ _ _ qa (ex.trans e) (.ref a) rh'⟩
variable {W : WX} {tx : TXa}
theorem ax_call (G : Good g k X N sc) (tk : L2N.Takes X W) {f : Str} {sp : XSp} {tas : TAa} {es : List Expr} {p : Pos} (nd : Nd g k X (.fnX f sp)) (ha : PA X (x :: es) (cA g tas)) (hg : glB sc f = true) (hn : okN f = true) (hs : ((x :: es).all fun e => !isStar e) = true) :
    PE X (.Call (.Name f p) (x :: es) [] pos) (cX g W fun ρ h Q E => tas ρ h fun vs h1 => sp vs h1 Q E) := by
  obtain ⟨a, fd, ps, F, hm, hk, hb⟩ := nd
  rw [List.all_cons, Bool.and_eq_true] at hs
  exact pe_imp (pe_callS F G.room (G.gl hg) hm hk hb (fun σ => L2N.passAt tk σ) ha (okN_ok hn).1 (star_ok (by simpa using hs.1) es X.env) (star_all pos X.env hs.2)) fun σ H Q ⟨ρ, h, Qa, Ea, Z, rs, rh, op, q, qe⟩ =>
    ⟨ρ, h, _, Z, rs, rh, op, fun vs h1 xs H1 op1 e1 r1 rh1 => ⟨vs, h1, Qa, Ea, Z, r1, rh1, op1, fun v h' x H' qa e r rh' => q _ _ _ _ qa (e1.trans e) r rh', fun C h' H' qa e rh' => qe _ _ _ qa (e1.trans e) rh'⟩⟩
theorem ax_cal2 (G : Good g k X N sc) (tk : L2N.Takes X W) {i : Nat} {n : Str} {a b : Addr} {sp tp : XSp} {tas : TAa} {es : List Expr} {p : Pos} (nd1 : Nd g k X (.fnA a sp)) (nd2 : Nd g k X (.fnA b tp)) (ha : PA X (x :: es) (cA g tas)) (h1 : N[i]? = some n) (h2 : visB sc n = true) (h3 : okN n = true)
    (hs : ((x :: es).all fun e => !isStar e) = true) :
    PE X (.Call (.Name n p) (x :: es) [] pos) (cX g W fun ρ h Q E => gv ρ i fun v => (v = .ref a ∧ tas ρ h fun vs h1 => sp vs h1 Q E) ∨ (v = .ref b ∧ tas ρ h fun vs h1 => tp vs h1 Q E)) := by
  obtain ⟨fd1, ps1, F1, hk1, hb1⟩ := nd1
  obtain ⟨fd2, ps2, F2, hk2, hb2⟩ := nd2
  rw [List.all_cons, Bool.and_eq_true] at hs
  refine ⟨fun pins s σ H Q I ⟨ρ, h, Qa, Ea, Z, rs, rh, op, q, qe⟩ => ?_⟩
  obtain ⟨v, e, op⟩ := gv_of op
  obtain ⟨u, e2, r⟩ := rs.2 i v e
  refine wpAny_Call_Name_kw (raw_name (by rw [G.hN]; exact h1) (by rw [G.hsc]; exact vis_ok h2) I e2 (fun w hw => ?_) (okN_ok h3).1 (okN_ok h3).2)
  rcases op with ⟨rfl, op⟩ | ⟨rfl, op⟩
  · cases r
    obtain rfl : w = Value.ref a := hw
    refine PySem.W.callWith_K (h₀ := X.base) I.ok.mod.kin hk1 (thn (ha.run pos pins s σ H (fun vs H1 => cSpX g sp vs H1 Q (WE W σ)) I ⟨ρ, h, _, Z, rs, rh, op, fun vs h1 xs H1 op1 e1 r1 rh1 => ⟨vs, h1, Qa, Ea, Z, r1, rh1, op1, fun v h' x H' qa e r rh' => q _ _ _ _ qa (e1.trans e) r rh', fun C h' H' qa e rh' => qe _ _ _ qa (e1.trans e) rh'⟩⟩) fun us s1 ⟨vs, H1, I1, r, q⟩ => ⟨I1.kIn, ?_⟩) (star_ok (by simpa using hs.1) es X.env) (star_all pos X.env hs.2)
    exact run_fnS F1 G.room hb1 (E := fun σ => WE W σ) (L2N.passAt tk σ) I1 r q
  · cases r
    obtain rfl : w = Value.ref b := hw
    refine PySem.W.callWith_K (h₀ := X.base) I.ok.mod.kin hk2 (thn (ha.run pos pins s σ H (fun vs H1 => cSpX g tp vs H1 Q (WE W σ)) I ⟨ρ, h, _, Z, rs, rh, op, fun vs h1 xs H1 op1 e1 r1 rh1 => ⟨vs, h1, Qa, Ea, Z, r1, rh1, op1, fun v h' x H' qa e r rh' => q _ _ _ _ qa (e1.trans e) r rh', fun C h' H' qa e rh' => qe _ _ _ qa (e1.trans e) rh'⟩⟩) fun us s1 ⟨vs, H1, I1, r, q⟩ => ⟨I1.kIn, ?_⟩) (star_ok (by simpa using hs.1) es X.env) (star_all pos X.env hs.2)
    exact run_fnS F2 G.room hb2 (E := fun σ => WE W σ) (L2N.passAt tk σ) I1 r q
theorem ax_om (G : Good g k X N sc) (tk : L2N.Takes X W) {C m : Str} {sp : XSp} {tas : TAa} {es : List Expr} (nd : Nd g k X (.mthX C m sp)) (ha : PE X x (cE g ta)) (hb : PA X (y :: es) (cA g tas)) (hx : isCall0 x = false) (hl : (apos.endLine == pos.line) = true)
    (hs : ((y :: es).all fun e => !isStar e) = true) (hn : (y :: es).length < 30) :
    PE X (.Call (.Attribute x m apos) (y :: es) [] pos) (cX g W fun ρ h Q E => ta ρ h fun v h1 => isC C m v h1 ∧ tas ρ h1 fun vs h2 => sp (v :: vs) h2 Q E) := by
  obtain ⟨f, fd, ps, cl, mt, F, hb'⟩ := nd
  have hs' := hs
  rw [List.all_cons, Bool.and_eq_true] at hs'
  refine pe_imp (pe_methS ha cl mt F G.room hb' (fun σ => L2N.passAt tk σ) hb (star_ok (by simpa using hs'.1) es X.env) (star_all pos X.env hs'.2) (meth_ev hx hs hn hl X.env)) fun σ H Q ⟨ρ, h, Qa, Ea, Z, rs, rh, op1, q, qe⟩ => ⟨ρ, h, _, Z, rs, rh, op1, fun v h1 x1 H1 op2 e1 r1 rh1 => ?_⟩
  obtain ⟨⟨a, fs, rfl, ho, hm⟩, op2⟩ := op2
  cases r1
  obtain ⟨dx, ys, ha', rx⟩ := rh1.o _ _ ho
  refine ⟨a, dx, ys, rfl, ha', ?_, ρ, h1, _, Z, rs.ext e1, rh1, op2, fun vs h2 xs H2 op3 e2 r2 rh2 => ?_⟩
  · rcases rx.look m with ⟨_, a2⟩ | ⟨u', z', a1, _⟩
    · exact a2
    · rw [a1] at hm; cases hm
  · exact ⟨.ref a :: vs, h2, Qa, Ea, Z, .cons (.ref a) r2, rh2, op3, fun v h' x H' qa e r rh' => q _ _ _ _ qa ((e1.trans e2).trans e) r rh', fun C h' H' qa e rh' => qe _ _ _ qa ((e1.trans e2).trans e) rh'⟩
theorem ax_om0 (G : Good g k X N sc) (tk : L2N.Takes X W) {C m : Str} {sp : XSp} (nd : Nd g k X (.mthX C m sp)) (ha : PE X x (cE g ta)) (hx : isCall0 x = false) (hl : (apos.endLine == pos.line) = true) :
    PE X (.Call (.Attribute x m apos) [] [] pos) (cX g W fun ρ h Q E => ta ρ h fun v h1 => isC C m v h1 ∧ sp [v] h1 Q E) := by
  obtain ⟨f, fd, ps, cl, mt, F, hb'⟩ := nd
  refine pe_imp (pe_meth0S ha cl mt F G.room hb' (fun σ => L2N.passAt tk σ) (meth_ev hx rfl (by decide) hl X.env)) fun σ H Q ⟨ρ, h, Qa, Ea, Z, rs, rh, op1, q, qe⟩ => ⟨ρ, h, _, Z, rs, rh, op1, fun v h1 x1 H1 op2 e1 r1 rh1 => ?_⟩
  obtain ⟨⟨a, fs, rfl, ho, hm⟩, op2⟩ := op2
  cases r1
  obtain ⟨dx, ys, ha', rx⟩ := rh1.o _ _ ho
  refine ⟨a, dx, ys, rfl, ha', ?_, [.ref a], h1, Qa, Ea, Z, .cons (.ref a) .nil, rh1, op2, fun v h' x H' qa e r rh' => q _ _ _ _ qa (e1.trans e) r rh', fun C h' H' qa e rh' => qe _ _ _ qa (e1.trans e) rh'⟩
  rcases rx.look m with ⟨_, a2⟩ | ⟨u', z', a1, _⟩
  · exact a2
  · rw [a1] at hm; cases hm
theorem ax_lst2 (ha : PE X x (cE g ta)) (hb : PE X y (cX g W tx)) (hs : isStar x = false) (hs2 : isStar y = false) : PE X (.List [x, y] pos) (cX g W fun ρ h Q E => ta ρ h fun v h1 => tx ρ h1 (fun w h2 => newL [v, w] h2 Q) E) :=
  pe_imp (pe_lst (pa_cons ha (pa_cons hb pa_nil (star_ok hs2 [] X.env)) (star_ok hs [y] X.env))) fun σ H Q ⟨ρ, h, Qa, Ea, Z, rs, rh, op, q, qe⟩ => ⟨ρ, h, _, Z, rs, rh, op, fun v h1 x1 H1 op1 e1 r1 rh1 =>
    ⟨ρ, h1, _, Ea, Z, rs.ext e1, rh1, op1, fun w h2 x2 H2 op2 e2 r2 rh2 => ⟨by show 2 ≤ sizeLine; rw [sizeLine_eq]; omega, newL_of rh2 (.cons (r1.ext e2) (.cons r2 .nil)) op2 fun u h' z H' qa e r rh' => q _ _ _ _ qa ((e1.trans e2).trans e) r rh'⟩, fun C h' H' qa e rh' => qe _ _ _ qa (e1.trans e) rh'⟩⟩
theorem ax_ix (G : Good g k X N sc) (ha : PE X x (cX g W tx)) (hb : PE X y (cE g tb)) (hs : isSlc y = false) : PE X (.Subscript x y pos) (cX g W fun ρ h Q E => tx ρ h (fun v h1 => tb ρ h1 fun w h2 => aIx v w h2 Q) E) := by
  refine pe_imp (pe_ix (ix_any (by have := G.room.units; omega)) ha hb (slc_ok hs)) fun σ H Q ⟨ρ, h, Qa, Ea, Z, rs, rh, op, q, qe⟩ => ⟨ρ, h, _, Ea, Z, rs, rh, op, fun v h1 x1 H1 op1 e1 r1 rh1 => ⟨ρ, h1, _, Z, rs.ext e1, rh1, op1, fun w h2 x2 H2 op2 e2 r2 rh2 => ?_⟩, qe⟩
  rw [G.hK]
  exact opa_ix Z v w x1 x2 h2 H2 Qa Q (r1.ext e2) r2 rh2 op2 fun u h' z H' qa e r rh' => q u h' z H' qa ((e1.trans e2).trans e) r rh'
theorem ax_cl (G : Good g k X N sc) {f : Str} {sp : ASp} {p : Pos} (nd : Nd g k X (.fn f sp)) (ha : PE X x (cX g W tx)) (hg : glB sc f = true) (hn : okN f = true) (hs : isStar x = false) : PE X (.Call (.Name f p) [x] [] pos) (cX g W fun ρ h Q E => tx ρ h (fun v h1 => sp [v] h1 Q) E) := by
  obtain ⟨a, fd, ps, F, hm, hk, hb⟩ := nd
  exact pe_imp (pe_call F G.room (G.gl hg) hm hk hb .nil pass0 (pa_cons ha pa_nil (star_ok hs [] X.env)) (okN_ok hn).1 (star_ok hs [] X.env) rfl) fun σ H Q ⟨ρ, h, Qa, Ea, Z, rs, rh, op, q, qe⟩ =>
    ⟨ρ, h, _, Ea, Z, rs, rh, op, fun v h1 x1 H1 op1 e1 r1 rh1 => ⟨[v], h1, Qa, Z, .cons r1 .nil, rh1, op1, fun v h' x H' qa e r rh' => q _ _ _ _ qa (e1.trans e) r rh'⟩, qe⟩
theorem ax_b1 (G : Good g k X N sc) {f : B1} {p : Pos} (ha : PE X x (cX g W tx)) (hg : glB sc f.nm = true) (hs : isStar x = false) : PE X (.Call (.Name f.nm p) [x] [] pos) (cX g W fun ρ h Q E => tx ρ h (fun v h1 => a1 f v h1 Q) E) := by
  refine pe_imp (pe_callAny f.kind (cr1 G.calm f) (G.gl hg) (G.bl _ f.mem) f.boot (pa_cons ha pa_nil (star_ok hs [] X.env)) (bN_ok f.mem).1 (bN_ok f.mem).2 hs rfl) fun σ H Q ⟨ρ, h, Qa, Ea, Z, rs, rh, op, q, qe⟩ => ⟨ρ, h, _, Ea, Z, rs, rh, op, fun v h1 x1 H1 op1 e1 r1 rh1 => ?_, qe⟩
  show F2.r1 X.K f [x1] H1 Q
  rw [G.hK]
  exact call1 r1 rh1 op1 fun u h' z H' qa e r rh' => q _ _ _ _ qa (e1.trans e) r rh'
end
end F2
set_option Elab.async false
set_option linter.all false
set_option maxRecDepth 100000
set_option maxHeartbeats 2000000
namespace F2
open PySem PySem.Spec PyProof.Rows
open L2
section
variable {g : Gx} {k : Nat} {X : Cx} {N : List Str} {sc : Scope}
variable {x y z tg : Expr} {ta tb tc : TEa} {pos : Pos} {tt tu : TTa}
def rel (g : Gx) : Bool → Hp → Va → V → Prop
  | false => RV g
  | true => RW g
structure IterOf (g : Gx) (w : Bool) (H0 : Hp) (J : It) (xs : List Va) (gd : Ah → Prop) : Prop where
  go : ∀ (Z : Hp) (i : Nat) (H : Hp) (h : Ah) (v : Va), Ext H0 H → RH g Z H h → gd h → xs[i]? = some v → J.go i H ∧ ∀ y H', J.yld i H y H' → Ext H H' ∧ rel g w H' v y ∧ RH g Z H' h
  stop : ∀ (Z : Hp) (H : Hp) (h : Ah), Ext H0 H → RH g Z H h → gd h → J.stop xs.length H
abbrev TIa := Sa → Ah → (List Va → (Ah → Prop) → Ah → Prop) → Prop
def cI (g : Gx) (w : Bool) (t : TIa) : TI := fun σ H R => ∃ ρ h Ra Z, RS g H ρ σ ∧ RH g Z H h ∧ t ρ h Ra ∧ ∀ xs gd h' J H', Ra xs gd h' → gd h' → Ext H H' → RH g Z H' h' → IterOf g w H' J xs gd → R J H'
theorem iter_tup {H0 : Hp} {p : Addr} {xs : List Va} {ys : List V} (hp : TupS H0 p ys) (rx : RVs g H0 xs ys) : IterOf g false H0 (Itt g.K p) xs fun _ => True := by
  refine ⟨fun Z i H h v e rh _ hv => ?_, fun Z H h e rh _ => ⟨ys, (hp.ext e).sq, by rw [rx.length]; exact Nat.le_refl _⟩⟩
  obtain ⟨y, hy, ry⟩ := rx.got hv
  refine ⟨⟨ys, y, (hp.ext e).sq, hy⟩, fun y' H' hyl => ?_⟩
  obtain ⟨rfl, hyl⟩ := hyl
  have := hyl ys ((hp.ext e).sq)
  rw [hy] at this
  cases this
  exact ⟨.refl, ry.ext e, rh⟩
theorem iter_lst {H0 : Hp} {a : Addr} {xs : List Va} : IterOf g false H0 (Itl g.K a) xs fun h => h a = some (.lst xs) := by
  refine ⟨fun Z i H h v e rh ha hv => ?_, fun Z H h e rh ha => ?_⟩
  · obtain ⟨ys, ha', rx⟩ := rh.o _ _ ha
    obtain ⟨y, hy, ry⟩ := rx.got hv
    refine ⟨⟨ys, y, SqL.of ha', hy⟩, fun y' H' hyl => ?_⟩
    obtain ⟨rfl, hyl⟩ := hyl
    have := hyl ys (SqL.of ha')
    rw [hy] at this
    cases this
    exact ⟨.refl, ry, rh⟩
  · obtain ⟨ys, ha', rx⟩ := rh.o _ _ ha
    exact ⟨ys, SqL.of ha', by rw [rx.length]; exact Nat.le_refl _⟩
theorem iter_rng {H0 : Hp} (a b : Int) : IterOf g false H0 (Itr a (b - a).toNat) (rgA a b) fun _ => True := by
  have len : (rgA a b).length = (b - a).toNat := by unfold rgA; rw [List.length_map, List.length_range]
  refine ⟨fun Z i H h v e rh _ hv => ?_, fun Z H h e rh _ => ?_⟩
  · have hi : i < (b - a).toNat := by rw [← len]; exact (List.getElem?_eq_some_iff.mp hv).1
    have ev : v = .int (a + (i : Nat)) := by
      unfold rgA at hv
      rw [List.getElem?_map, List.getElem?_range hi] at hv
      cases hv; rfl
    subst ev
    refine ⟨hi, fun y' H' hyl => ?_⟩
    obtain ⟨rfl, rfl⟩ := hyl
    exact ⟨.refl, .int _, rh⟩
  · show (b - a).toNat ≤ _
    rw [len]; exact Nat.le_refl _
theorem iter_enumL {H0 : Hp} {a : Addr} {xs : List Va} : IterOf g true H0 (Ite g.K a) (xs.zipIdx.map fun p => Va.tup [.int (p.2 : Nat), p.1]) fun h => h a = some (.lst xs) := by
  refine ⟨fun Z i H h v e rh ha hv => ?_, fun Z H h e rh ha => ?_⟩
  · obtain ⟨ys, ha', rx⟩ := rh.o _ _ ha
    rw [List.getElem?_map, List.getElem?_zipIdx] at hv
    cases hx : xs[i]? with
    | none => rw [hx] at hv; cases hv
    | some u =>
      rw [hx] at hv
      have hv : some (Va.tup [.int ((0 + i : Nat) : Int), u]) = some v := hv
      rw [Nat.zero_add] at hv
      cases hv
      obtain ⟨y, hy, ry⟩ := rx.got hx
      refine ⟨⟨ys, y, SqL.of ha', hy⟩, fun y' H' hyl => ?_⟩
      obtain ⟨T, w, rfl, hT, rfl, hyl⟩ := hyl
      have := hyl ys (SqL.of ha')
      rw [hy] at this
      cases this
      have ex : Ext H (upd H T (.tup [.int (i : Nat), y])) := .upd (.none hT)
      exact ⟨ex, .two upd_same (.cons (.int _) (.cons (ry.ext ex) .nil)), rh.new hT⟩
  · obtain ⟨ys, ha', rx⟩ := rh.o _ _ ha
    exact ⟨ys, SqL.of ha', by rw [List.length_map, List.length_zipIdx, rx.length]; exact Nat.le_refl _⟩
theorem iter_enumT {H0 : Hp} {p : Addr} {xs : List Va} {ys : List V} (hp : TupS H0 p ys) (rx : RVs g H0 xs ys) : IterOf g true H0 (IteT g.K p) (xs.zipIdx.map fun p => Va.tup [.int (p.2 : Nat), p.1]) fun _ => True := by
  refine ⟨fun Z i H h v e rh _ hv => ?_, fun Z H h e rh _ => ⟨ys, (hp.ext e).sq, by rw [List.length_map, List.length_zipIdx, rx.length]⟩⟩
  rw [List.getElem?_map, List.getElem?_zipIdx] at hv
  cases hx : xs[i]? with
  | none => rw [hx] at hv; cases hv
  | some u =>
    rw [hx] at hv
    have hv : some (Va.tup [.int ((0 + i : Nat) : Int), u]) = some v := hv
    rw [Nat.zero_add] at hv
    cases hv
    obtain ⟨y, hy, ry⟩ := rx.got hx
    refine ⟨⟨ys, y, (hp.ext e).sq, hy⟩, fun y' H' hyl => ?_⟩
    obtain ⟨T, w, rfl, hT, rfl, hyl⟩ := hyl
    have := hyl ys ((hp.ext e).sq)
    rw [hy] at this
    cases this
    have ex : Ext H (upd H T (.tup [.int (i : Nat), y])) := .upd (.none hT)
    exact ⟨ex, .two upd_same (.cons (.int _) (.cons (ry.ext (e.trans ex)) .nil)), rh.new hT⟩
theorem zip_at {xs ys : List Va} {i : Nat} {v : Va} (h : (List.zipWith (fun x y => Va.tup [x, y]) xs ys)[i]? = some v) : ∃ x y, xs[i]? = some x ∧ ys[i]? = some y ∧ v = .tup [x, y] := by
  rw [List.getElem?_zipWith] at h
  cases hx : xs[i]? with
  | none => rw [hx] at h; cases h
  | some a =>
    cases hy : ys[i]? with
    | none => rw [hx, hy] at h; cases h
    | some b => rw [hx, hy] at h; cases h; exact ⟨a, b, rfl, rfl, rfl⟩
theorem zip_stop {xs ys : List Va} : xs.length ≤ (List.zipWith (fun x y => Va.tup [x, y]) xs ys).length ∨ ys.length ≤ (List.zipWith (fun x y => Va.tup [x, y]) xs ys).length := by
  rw [List.length_zipWith]; omega
theorem iter_zipL {H0 : Hp} {a b : Addr} {xs ys : List Va} : IterOf g true H0 (Itz g.K a b) (List.zipWith (fun x y => Va.tup [x, y]) xs ys) fun h => h a = some (.lst xs) ∧ h b = some (.lst ys) := by
  refine ⟨fun Z i H h v e rh hab hv => ?_, fun Z H h e rh hab => ?_⟩
  · obtain ⟨xs', ha', rx⟩ := rh.o _ _ hab.1
    obtain ⟨ys', hb', ry⟩ := rh.o _ _ hab.2
    obtain ⟨u, w, hu, hw, rfl⟩ := zip_at hv
    obtain ⟨u', hu', ru⟩ := rx.got hu
    obtain ⟨w', hw', rw'⟩ := ry.got hw
    refine ⟨⟨xs', ys', u', w', SqL.of ha', SqL.of hb', hu', hw'⟩, fun y' H' hyl => ?_⟩
    obtain ⟨T, p, q, rfl, hT, rfl, h1, h2⟩ := hyl
    have e1 := h1 xs' (SqL.of ha')
    have e2 := h2 ys' (SqL.of hb')
    rw [hu'] at e1
    rw [hw'] at e2
    cases e1
    cases e2
    have ex : Ext H (upd H T (.tup [u', w'])) := .upd (.none hT)
    exact ⟨ex, .two upd_same (.cons (ru.ext ex) (.cons (rw'.ext ex) .nil)), rh.new hT⟩
  · obtain ⟨xs', ha', rx⟩ := rh.o _ _ hab.1
    obtain ⟨ys', hb', ry⟩ := rh.o _ _ hab.2
    exact ⟨xs', ys', SqL.of ha', SqL.of hb', by rw [← rx.length, ← ry.length]; exact zip_stop⟩
theorem iter_zipT {H0 : Hp} {p q : Addr} {xs ys : List Va} {xs' ys' : List V} (hp : TupS H0 p xs') (rx : RVs g H0 xs xs') (hq : TupS H0 q ys') (ry : RVs g H0 ys ys') :
    IterOf g true H0 (RZ.ItzT g.K p q) (List.zipWith (fun x y => Va.tup [x, y]) xs ys) fun _ => True := by
  refine ⟨fun Z i H h v e rh _ hv => ?_, fun Z H h e rh _ => ⟨xs', ys', (hp.ext e).sq, (hq.ext e).sq, by rw [← rx.length, ← ry.length]; exact zip_stop⟩⟩
  obtain ⟨u, w, hu, hw, rfl⟩ := zip_at hv
  obtain ⟨u', hu', ru⟩ := rx.got hu
  obtain ⟨w', hw', rw'⟩ := ry.got hw
  refine ⟨⟨xs', ys', u', w', (hp.ext e).sq, (hq.ext e).sq, hu', hw'⟩, fun y' H' hyl => ?_⟩
  obtain ⟨T, p', q', rfl, hT, rfl, h1, h2⟩ := hyl
  have e1 := h1 xs' ((hp.ext e).sq)
  have e2 := h2 ys' ((hq.ext e).sq)
  rw [hu'] at e1
  rw [hw'] at e2
  cases e1
  cases e2
  have ex : Ext H (upd H T (.tup [u', w'])) := .upd (.none hT)
  exact ⟨ex, .two upd_same (.cons (ru.ext (e.trans ex)) (.cons (rw'.ext (e.trans ex)) .nil)), rh.new hT⟩
theorem iter_zipK {H0 : Hp} {p b : Addr} {xs ys : List Va} {xs' : List V} (hp : TupS H0 p xs') (rx : RVs g H0 xs xs') : IterOf g true H0 (ItzK g.K p b) (List.zipWith (fun x y => Va.tup [x, y]) xs ys) fun h => h b = some (.lst ys) := by
  refine ⟨fun Z i H h v e rh hb hv => ?_, fun Z H h e rh hb => ?_⟩
  · obtain ⟨ys', hb', ry⟩ := rh.o _ _ hb
    obtain ⟨u, w, hu, hw, rfl⟩ := zip_at hv
    obtain ⟨u', hu', ru⟩ := rx.got hu
    obtain ⟨w', hw', rw'⟩ := ry.got hw
    have hp1 := (hp.ext e).sq (K := g.K)
    refine ⟨⟨xs', ys', u', w', hp1, SqL.of hb', hu', hw'⟩, fun y' H' hyl => ?_⟩
    obtain ⟨T, p', q', rfl, hT, rfl, h1, h2⟩ := hyl
    have e1 := h1 xs' hp1
    have e2 := h2 ys' (SqL.of hb')
    rw [hu'] at e1
    rw [hw'] at e2
    cases e1
    cases e2
    have ex : Ext H (upd H T (.tup [u', w'])) := .upd (.none hT)
    exact ⟨ex, .two upd_same (.cons (ru.ext (e.trans ex)) (.cons (rw'.ext ex) .nil)), rh.new hT⟩
  · obtain ⟨ys', hb', ry⟩ := rh.o _ _ hb
    exact ⟨xs', ys', (hp.ext e).sq, SqL.of hb', by rw [← rx.length, ← ry.length]; exact zip_stop⟩
theorem iter_zipJ {H0 : Hp} {a q : Addr} {xs ys : List Va} {ys' : List V} (hq : TupS H0 q ys') (ry : RVs g H0 ys ys') : IterOf g true H0 (ItzJ g.K a q) (List.zipWith (fun x y => Va.tup [x, y]) xs ys) fun h => h a = some (.lst xs) := by
  refine ⟨fun Z i H h v e rh ha hv => ?_, fun Z H h e rh ha => ?_⟩
  · obtain ⟨xs', ha', rx⟩ := rh.o _ _ ha
    obtain ⟨u, w, hu, hw, rfl⟩ := zip_at hv
    obtain ⟨u', hu', ru⟩ := rx.got hu
    obtain ⟨w', hw', rw'⟩ := ry.got hw
    have hq1 := (hq.ext e).sq (K := g.K)
    refine ⟨⟨xs', ys', u', w', SqL.of ha', hq1, hu', hw'⟩, fun y' H' hyl => ?_⟩
    obtain ⟨T, p', q', rfl, hT, rfl, h1, h2⟩ := hyl
    have e1 := h1 xs' (SqL.of ha')
    have e2 := h2 ys' hq1
    rw [hu'] at e1
    rw [hw'] at e2
    cases e1
    cases e2
    have ex : Ext H (upd H T (.tup [u', w'])) := .upd (.none hT)
    exact ⟨ex, .two upd_same (.cons (ru.ext ex) (.cons (rw'.ext (e.trans ex)) .nil)), rh.new hT⟩
  · obtain ⟨xs', ha', rx⟩ := rh.o _ _ ha
    exact ⟨xs', ys', SqL.of ha', (hq.ext e).sq, by rw [← rx.length, ← ry.length]; exact zip_stop⟩
theorem pi_seq (G : Good g k X N sc) (ha : PE X x (cE g ta)) : PI X tg x (cI g false fun ρ h R => ta ρ h fun v h1 => aSeq v h1 fun xs gd => R xs gd h1) := by
  have both : PE X x (cE g ta) → PI X tg x (fun σ H R => cE g ta σ H fun v H1 => ∃ a, v = .ref a ∧ (((∃ xs, SqL X.K H1 a xs) ∧ R (Itl X.K a) H1) ∨ ((∃ xs, SqT X.K H1 a xs) ∧ R (Itt X.K a) H1))) := fun ha => by
    refine ⟨fun pins s σ H R I w => ?_⟩
    refine thn (ha.run pins s σ H _ I w) fun v s1 ⟨u, H1, I1, r1, a, e, q⟩ => ?_
    subst e
    have ev : v = Value.ref a := r1
    subst ev
    rcases q with ⟨⟨xs, hq⟩, q⟩ | ⟨⟨xs, hq⟩, q⟩
    · obtain ⟨its, rv, p', hz⟩ := I1.list hq
      have I2 : L2.Inv X pins σ H1 { s1 with heap := s1.heap.push { cls := .type "list_iterator", data := .fields #[.ref a, .int 0 0] } } := I1.kept (t' := s1.toks) fun b o e => Heap.get?_push_of_some _ e
      refine wpAny_pyIter_list p'.isList ?_
      exact ⟨s1.heap.objs.size, [s1.heap.objs.size], _, _, H1, rfl, I2, turn_list a _, ⟨_, Heap.get?_push_size _ rfl, rfl, rfl⟩, fun b hb => by
        rw [List.mem_singleton.mp hb]; exact I1.fpOk (Nat.le_refl _) (I1.hok.fresh (Nat.le_refl _)), q⟩
    · obtain ⟨its, rv, p', hz⟩ := I1.tuple hq
      have I2 : L2.Inv X pins σ H1 { s1 with heap := s1.heap.push { cls := .type "tuple_iterator", data := .fields #[.ref a, .int 0 0] } } := I1.kept (t' := s1.toks) fun b o e => Heap.get?_push_of_some _ e
      refine wpAny_pyIter_tuple p' ?_
      exact ⟨s1.heap.objs.size, [s1.heap.objs.size], _, _, H1, rfl, I2, turn_tuple a _, ⟨_, Heap.get?_push_size _ rfl, rfl, rfl⟩, fun b hb => by
        rw [List.mem_singleton.mp hb]; exact I1.fpOk (Nat.le_refl _) (I1.hok.fresh (Nat.le_refl _)), q⟩
  refine pi_imp (both ha) fun σ H R ⟨ρ, h, Ra, Z, rs, rh, op, q⟩ => ⟨ρ, h, _, Z, rs, rh, op, fun v h1 x1 H1 op1 e1 r1 rh1 => ?_⟩
  rw [G.hK]
  cases v with
  | tup xs => cases r1 with | tup hp rx => exact ⟨_, rfl, .inr ⟨⟨_, hp.sq⟩, q _ _ _ _ _ op1 trivial e1 rh1 (iter_tup hp rx)⟩⟩
  | ref a =>
    obtain ⟨xs, ha, op1⟩ := op1
    cases r1
    obtain ⟨ys, ha', rx⟩ := rh1.o _ _ ha
    exact ⟨_, rfl, .inl ⟨⟨_, SqL.of ha'⟩, q _ _ _ _ _ op1 ha e1 rh1 iter_lst⟩⟩
  | _ => exact op1.elim
theorem iter_txt {H0 : Hp} {z : Str} : IterOf g false H0 (Its z) (sgA z) fun _ => True := by
  refine ⟨fun Z i H h v e rh _ hv => ?_, fun Z H h e rh _ => ?_⟩
  · unfold sgA at hv
    rw [List.getElem?_map] at hv
    rcases hc : z.cps.toList[i]? with _ | c
    · rw [hc] at hv; cases hv
    · rw [hc] at hv
      cases hv
      have hi : i < z.cps.size := by
        have := (List.getElem?_eq_some_iff.mp hc).1
        simpa using this
      refine ⟨hi, fun y' H' hyl => ?_⟩
      obtain ⟨rfl, c', hc', rfl⟩ := hyl
      have : c' = c := by
        rw [Array.getElem?_toList] at hc
        rw [hc] at hc'
        exact (Option.some.inj hc').symm
      subst this
      exact ⟨.refl, .str _, rh⟩
  · show z.cps.size ≤ (sgA z).length
    unfold sgA
    simp
theorem pi_txt (ha : PE X x (cE g ta)) : PI X tg x (cI g false fun ρ h R => ta ρ h fun v h1 => ∃ z, v = .str z ∧ R (sgA z) (fun _ => True) h1) :=
  pi_imp (pi_str ha) fun σ H R ⟨ρ, h, Ra, Z, rs, rh, op, q⟩ => ⟨ρ, h, _, Z, rs, rh, op, fun v h1 x1 H1 op1 e1 r1 rh1 => by
    obtain ⟨z, rfl, op1⟩ := op1
    cases r1
    exact ⟨z, rfl, q _ _ _ _ _ op1 trivial e1 rh1 iter_txt⟩⟩
theorem hot_of {A : Around} {Z H : Hp} {h : Ah} {a0 : Addr} (hg : g.hot = some a0) (hA : A.handled = some (.ref a0)) (rh : RH g Z H h) : HotH A H := by
  obtain ⟨cls, e⟩ := rh.i.h a0 hg
  exact ⟨cls, a0, hA, e⟩
theorem IterOf.hot {A : Around} {w : Bool} {H0 : Hp} {J : It} {xs : List Va} {gd : Ah → Prop} {a0 : Addr} (it : IterOf g w H0 J xs gd) (hg : g.hot = some a0) (hA : A.handled = some (.ref a0)) : IterOf g w H0 (ItH A J) xs gd :=
  ⟨fun Z i H h v e rh gd' hv => ⟨⟨hot_of hg hA rh, (it.go Z i H h v e rh gd' hv).1⟩, (it.go Z i H h v e rh gd' hv).2⟩, fun Z H h e rh gd' => ⟨hot_of hg hA rh, it.stop Z H h e rh gd'⟩⟩
theorem pih_seq (G : GoodH g X N sc) {a0 : Addr} (hg : g.hot = some a0) (hA : X.A.handled = some (.ref a0)) (ha : PE X x (cE g ta)) : PIH X tg x (cI g false fun ρ h R => ta ρ h fun v h1 => aSeq v h1 fun xs gd => R xs gd h1) := by
  have both : PE X x (cE g ta) → PIH X tg x (fun σ H R => cE g ta σ H fun v H1 => ∃ a, v = .ref a ∧ (((∃ xs, SqL X.K H1 a xs) ∧ R (ItH X.A (Itl X.K a)) H1) ∨ ((∃ xs, SqT X.K H1 a xs) ∧ R (ItH X.A (Itt X.K a)) H1))) := fun ha => by
    refine ⟨fun pins s σ H R I w => ?_⟩
    refine thn (ha.run pins s σ H _ I w) fun v s1 ⟨u, H1, I1, r1, a, e, q⟩ => ?_
    subst e
    have ev : v = Value.ref a := r1
    subst ev
    rcases q with ⟨⟨xs, hq⟩, q⟩ | ⟨⟨xs, hq⟩, q⟩
    · obtain ⟨its, rv, p', hz⟩ := I1.list hq
      have I2 : L2.Inv X pins σ H1 { s1 with heap := s1.heap.push { cls := .type "list_iterator", data := .fields #[.ref a, .int 0 0] } } := I1.kept (t' := s1.toks) fun b o e => Heap.get?_push_of_some _ e
      refine wpAny_pyIter_list p'.isList ?_
      exact ⟨s1.heap.objs.size, [s1.heap.objs.size], _, _, H1, rfl, I2, turnH_list a _, ⟨_, Heap.get?_push_size _ rfl, rfl, rfl⟩, fun b hb => by
        rw [List.mem_singleton.mp hb]; exact I1.fpOk (Nat.le_refl _) (I1.hok.fresh (Nat.le_refl _)), q⟩
    · obtain ⟨its, rv, p', hz⟩ := I1.tuple hq
      have I2 : L2.Inv X pins σ H1 { s1 with heap := s1.heap.push { cls := .type "tuple_iterator", data := .fields #[.ref a, .int 0 0] } } := I1.kept (t' := s1.toks) fun b o e => Heap.get?_push_of_some _ e
      refine wpAny_pyIter_tuple p' ?_
      exact ⟨s1.heap.objs.size, [s1.heap.objs.size], _, _, H1, rfl, I2, turnH_tuple a _, ⟨_, Heap.get?_push_size _ rfl, rfl, rfl⟩, fun b hb => by
        rw [List.mem_singleton.mp hb]; exact I1.fpOk (Nat.le_refl _) (I1.hok.fresh (Nat.le_refl _)), q⟩
  refine pih_imp (both ha) fun σ H R ⟨ρ, h, Ra, Z, rs, rh, op, q⟩ => ⟨ρ, h, _, Z, rs, rh, op, fun v h1 x1 H1 op1 e1 r1 rh1 => ?_⟩
  rw [G.hK]
  cases v with
  | tup xs => cases r1 with | tup hp rx => exact ⟨_, rfl, .inr ⟨⟨_, hp.sq⟩, q _ _ _ _ _ op1 trivial e1 rh1 ((iter_tup hp rx).hot hg hA)⟩⟩
  | ref a =>
    obtain ⟨xs, ha, op1⟩ := op1
    cases r1
    obtain ⟨ys, ha', rx⟩ := rh1.o _ _ ha
    exact ⟨_, rfl, .inl ⟨⟨_, SqL.of ha'⟩, q _ _ _ _ _ op1 ha e1 rh1 (iter_lst.hot hg hA)⟩⟩
  | _ => exact op1.elim
theorem ai_rg (G : Good g k X N sc) {tr : Sa → Ah → (Int → Int → Ah → Prop) → Prop} (ha : PRg X x (cR g tr)) : PI X tg x (cI g false fun ρ h R => tr ρ h fun a b h2 => (-(2 ^ 62) ≤ a ∧ a < 2 ^ 62 ∧ -(2 ^ 62) ≤ b ∧ b < 2 ^ 62) ∧ R (rgA a b) (fun _ => True) h2) := by
  have one : PI X tg x (fun σ H R => cR g tr σ H fun a b H1 => (-(2 ^ 62) ≤ a ∧ a < 2 ^ 62 ∧ -(2 ^ 62) ≤ b ∧ b < 2 ^ 62) ∧ R (Itr a (b - a).toNat) H1) := by
    refine ⟨fun pins s σ H R I w => ?_⟩
    refine thn (ha pins s σ H _ I w) fun v s1 ⟨r, a, b, t, u, v', H1, ev, hr, I1, ⟨b1, b2, b3, b4⟩, q⟩ => ?_
    subst ev
    refine wpAny_pyIter_range hr (small_one b1 b2 b3 b4) ?_
    rw [rangeSize_nat a b]
    have I2 : L2.Inv X pins σ H1 { s1 with heap := s1.heap.push { cls := .type "range_iterator", data := .fields #[rawInt a, rawInt (((b - a).toNat : Nat) : Int), rawInt 1] } } := I1.kept (t' := s1.toks) fun b o e => Heap.get?_push_of_some _ e
    refine ⟨s1.heap.objs.size, [s1.heap.objs.size], _, _, H1, rfl, I2, turn_range _ a (b - a).toNat, ?_, fun b hb => by
        rw [List.mem_singleton.mp hb]; exact I1.fpOk (Nat.le_refl _) (I1.hok.fresh (Nat.le_refl _)), q⟩
    show IsRangeIter _ _ _ _ _
    have h0 : a + ((0 : Nat) : Int) * 1 = a := by simp
    have h1 : (((b - a).toNat : Nat) : Int) - ((0 : Nat) : Int) = (((b - a).toNat : Nat) : Int) := by simp
    rw [h0, h1]
    exact Heap.get?_push_size _ rfl
  refine pi_imp one fun σ H R ⟨ρ, h, Ra, Z, rs, rh, op, q⟩ => ⟨ρ, h, _, Z, rs, rh, op, fun a b h1 H1 op1 e1 rh1 => ?_⟩
  exact ⟨op1.1, q _ _ _ _ _ op1.2 trivial e1 rh1 (iter_rng a b)⟩
theorem ai_enum (G : Good g k X N sc) {p tpos : Pos} {elts : List Expr} {kk : Nat} (ha : PE X x (cE g ta)) (hg : glB sc "enumerate" = true) (hs : isStar x = false) :
    PI X (.Tuple elts kk tpos) (.Call (.Name "enumerate" p) [x] [] pos) (cI g true fun ρ h R => ta ρ h fun v h1 => aSeq v h1 fun xs gd => R (xs.zipIdx.map fun p => Va.tup [.int (p.2 : Nat), p.1]) gd h1) := by
  refine pi_imp (pi_enumT (G.gl hg) (G.bl _ (by decide +kernel)) (pa_cons ha pa_nil (star_ok hs [] X.env)) (by rw [star_ok hs [] X.env]; rfl)) fun σ H R ⟨ρ, h, Ra, Z, rs, rh, op, q⟩ => ⟨ρ, h, _, Z, rs, rh, op, fun v h1 x1 H1 op1 e1 r1 rh1 => ?_⟩
  rw [G.hK]
  cases v with
  | tup xs => cases r1 with | tup hp rx => exact ⟨_, _, rfl, .inr ⟨hp.sq, q _ _ _ _ _ op1 trivial e1 rh1 (iter_enumT hp rx)⟩⟩
  | ref a =>
    obtain ⟨xs, ha, op1⟩ := op1
    cases r1
    obtain ⟨ys, ha', rx⟩ := rh1.o _ _ ha
    exact ⟨_, _, rfl, .inl ⟨SqL.of ha', q _ _ _ _ _ op1 ha e1 rh1 iter_enumL⟩⟩
  | _ => exact op1.elim
theorem ai_zip (G : Good g k X N sc) {p tpos : Pos} {elts : List Expr} {kk : Nat} (ha : PE X x (cE g ta)) (hb : PE X y (cE g tb)) (hg : glB sc "zip" = true) (hs : isStar x = false) (hs2 : isStar y = false) :
    PI X (.Tuple elts kk tpos) (.Call (.Name "zip" p) [x, y] [] pos) (cI g true fun ρ h R => ta ρ h fun v h1 => tb ρ h1 fun w h2 => aZip v w h2 fun xs gd => R xs gd h2) := by
  refine pi_imp (pi_zipK (G.gl hg) (G.bl _ (by decide +kernel)) (pa_cons ha (pa_cons hb pa_nil (star_ok hs2 [] X.env)) (star_ok hs [y] X.env)) (star_ok hs [y] X.env) (star_all pos X.env (by simp [hs2]))) fun σ H R ⟨ρ, h, Ra, Z, rs, rh, op, q⟩ =>
    ⟨ρ, h, _, Z, rs, rh, op, fun v h1 x1 H1 op1 e1 r1 rh1 => ⟨ρ, h1, _, Z, rs.ext e1, rh1, op1, fun w h2 x2 H2 op2 e2 r2 rh2 => ?_⟩⟩
  rw [G.hK]
  cases v with
  | tup xs => cases w with
    | tup ys => cases r1 with | tup hp rx => cases r2 with | tup hq ry => exact ⟨_, _, _, _, rfl, .inr (.inl ⟨(hp.ext e2).sq, hq.sq, q _ _ _ _ _ op2 trivial (e1.trans e2) rh2 (iter_zipT (hp.ext e2) (rx.ext e2) hq ry)⟩)⟩
    | ref b =>
      obtain ⟨ys, hb, op2⟩ := op2
      cases r2
      obtain ⟨ys', hb', ry⟩ := rh2.o _ _ hb
      cases r1 with | tup hp rx => exact ⟨_, _, _, _, rfl, .inr (.inr (.inl ⟨(hp.ext e2).sq, SqL.of hb', q _ _ _ _ _ op2 hb (e1.trans e2) rh2 (iter_zipK (hp.ext e2) (rx.ext e2))⟩))⟩
    | _ => exact op2.elim
  | ref a => cases w with
    | ref b =>
      obtain ⟨xs, ys, ha, hb, op2⟩ := op2
      cases r1
      cases r2
      obtain ⟨xs', ha', rx⟩ := rh2.o _ _ ha
      obtain ⟨ys', hb', ry⟩ := rh2.o _ _ hb
      exact ⟨_, _, _, _, rfl, .inl ⟨SqL.of ha', SqL.of hb', q _ _ _ _ _ op2 ⟨ha, hb⟩ (e1.trans e2) rh2 iter_zipL⟩⟩
    | tup ys =>
      obtain ⟨xs, ha, op2⟩ := op2
      cases r1
      obtain ⟨xs', ha', rx⟩ := rh2.o _ _ ha
      cases r2 with | tup hq ry => exact ⟨_, _, _, _, rfl, .inr (.inr (.inr ⟨SqL.of ha', hq.sq, q _ _ _ _ _ op2 ha (e1.trans e2) rh2 (iter_zipJ hq ry)⟩))⟩
    | _ => exact op2.elim
  | _ => exact op2.elim
theorem ai_dn (G : Good g k X N sc) {p p2 p3 : Pos} {kk : Nat} (ha : PE X x (cE g ta)) (hb : PE X y (cE g tb)) (hg : glB sc "range" = true) (hs : isStar x = false) (hs2 : isStar y = false) :
    PI X tg (.Call (.Name "range" p) [x, y, .UnaryOp .USub (.Constant (.int 1) kk p2) p3] [] pos) (cI g false fun ρ h R => ta ρ h fun v h1 => tb ρ h1 fun w h2 => aInt1 v fun a => aInt1 w fun b => (-(2 ^ 62) ≤ a ∧ a < 2 ^ 62 ∧ -(2 ^ 62) ≤ b ∧ b < 2 ^ 62) ∧ R (dnA a b) (fun _ => True) h2) := by
  refine pi_imp (pi_range3 (G.gl hg) (G.bl _ (by decide +kernel)) (pa_cons ha (pa_cons hb (pa_cons (pe_un un_neg pe_int) pa_nil rfl) (star_ok hs2 _ X.env)) (star_ok hs _ X.env)) (star_ok hs _ X.env) (star_all pos X.env (by show ((!isStar y) && (true && true)) = true; rw [hs2]; rfl))) fun σ H R ⟨ρ, h, Ra, Z, rs, rh, op, q⟩ =>
    ⟨ρ, h, _, Z, rs, rh, op, fun v h1 x1 H1 op1 e1 r1 rh1 => ⟨ρ, h1, _, Z, rs.ext e1, rh1, op1, fun w h2 x2 H2 op2 e2 r2 rh2 => ?_⟩⟩
  cases v with
  | int a => cases w with
    | int b =>
      cases r1
      cases r2
      obtain ⟨⟨b1, b2, b3, b4⟩, op2⟩ := op2
      refine ⟨1, rfl, a, b, -1, (a - b).toNat, rfl, RgC.neg b1 b2 b3 b4, q _ _ _ _ _ op2 trivial (e1.trans e2) rh2 ?_⟩
      have len : (dnA a b).length = (a - b).toNat := by unfold dnA; rw [List.length_map, List.length_range]
      refine ⟨fun Z i H h v e rh _ hv => ?_, fun Z H h e rh _ => ?_⟩
      · have hi : i < (a - b).toNat := by rw [← len]; exact (List.getElem?_eq_some_iff.mp hv).1
        have ev : v = .int (a - (i : Nat)) := by
          unfold dnA at hv
          rw [List.getElem?_map, List.getElem?_range hi] at hv
          cases hv; rfl
        subst ev
        refine ⟨hi, fun y' H' hyl => ?_⟩
        obtain ⟨rfl, rfl⟩ := hyl
        have e0 : a + (i : Nat) * (-1 : Int) = a - (i : Nat) := by omega
        rw [e0]
        exact ⟨.refl, .int _, rh⟩
      · show (a - b).toNat ≤ _
        rw [len]; exact Nat.le_refl _
    | _ => exact op2.elim
  | _ => exact op2.elim
variable {W : WX} {tx : TXa}
abbrev TIXa := Sa → Ah → (List Va → (Ah → Prop) → Ah → Prop) → XEa → Prop
def cIX (g : Gx) (W : WX) (t : TIXa) : TI := fun σ H R => ∃ ρ h Ra Ea Z, RS g H ρ σ ∧ RH g Z H h ∧ t ρ h Ra Ea ∧ (∀ xs gd h' J H', Ra xs gd h' → gd h' → Ext H H' → RH g Z H' h' → IterOf g false H' J xs gd → R J H') ∧ ∀ C h' H', Ea C h' → Ext H H' → RH g Z H' h' → W (.ref (g.CA C)) none σ H'
theorem pi_seqX (G : Good g k X N sc) (ha : PE X x (cX g W tx)) : PI X tg x (cIX g W fun ρ h R E => tx ρ h (fun v h1 => aSeq v h1 fun xs gd => R xs gd h1) E) := by
  have both : PI X tg x (fun σ H R => cX g W tx σ H fun v H1 => ∃ a, v = .ref a ∧ (((∃ xs, SqL X.K H1 a xs) ∧ R (Itl X.K a) H1) ∨ ((∃ xs, SqT X.K H1 a xs) ∧ R (Itt X.K a) H1))) := by
    refine ⟨fun pins s σ H R I w => ?_⟩
    refine thn (ha.run pins s σ H _ I w) fun v s1 ⟨u, H1, I1, r1, a, e, q⟩ => ?_
    subst e
    have ev : v = Value.ref a := r1
    subst ev
    rcases q with ⟨⟨xs, hq⟩, q⟩ | ⟨⟨xs, hq⟩, q⟩
    · obtain ⟨its, rv, p', hz⟩ := I1.list hq
      have I2 : L2.Inv X pins σ H1 { s1 with heap := s1.heap.push { cls := .type "list_iterator", data := .fields #[.ref a, .int 0 0] } } := I1.kept (t' := s1.toks) fun b o e => Heap.get?_push_of_some _ e
      refine wpAny_pyIter_list p'.isList ⟨s1.heap.objs.size, [s1.heap.objs.size], _, _, H1, rfl, I2, turn_list a _, ⟨_, Heap.get?_push_size _ rfl, rfl, rfl⟩, fun b hb => ?_, q⟩
      rw [List.mem_singleton.mp hb]; exact I1.fpOk (Nat.le_refl _) (I1.hok.fresh (Nat.le_refl _))
    · obtain ⟨its, rv, p', hz⟩ := I1.tuple hq
      have I2 : L2.Inv X pins σ H1 { s1 with heap := s1.heap.push { cls := .type "tuple_iterator", data := .fields #[.ref a, .int 0 0] } } := I1.kept (t' := s1.toks) fun b o e => Heap.get?_push_of_some _ e
      refine wpAny_pyIter_tuple p' ⟨s1.heap.objs.size, [s1.heap.objs.size], _, _, H1, rfl, I2, turn_tuple a _, ⟨_, Heap.get?_push_size _ rfl, rfl, rfl⟩, fun b hb => ?_, q⟩
      rw [List.mem_singleton.mp hb]; exact I1.fpOk (Nat.le_refl _) (I1.hok.fresh (Nat.le_refl _))
  refine pi_imp both fun σ H R ⟨ρ, h, Ra, Ea, Z, rs, rh, op, q, qe⟩ => ⟨ρ, h, _, Ea, Z, rs, rh, op, fun v h1 x1 H1 op1 e1 r1 rh1 => ?_, qe⟩
  rw [G.hK]
  cases v with
  | tup xs => cases r1 with | tup hp rx => exact ⟨_, rfl, .inr ⟨⟨_, hp.sq⟩, q _ _ _ _ _ op1 trivial e1 rh1 (iter_tup hp rx)⟩⟩
  | ref a =>
    obtain ⟨xs, ha, op1⟩ := op1
    cases r1
    obtain ⟨ys, ha', rx⟩ := rh1.o _ _ ha
    exact ⟨_, rfl, .inl ⟨⟨_, SqL.of ha'⟩, q _ _ _ _ _ op1 ha e1 rh1 iter_lst⟩⟩
  | _ => exact op1.elim
theorem iter_keys {H0 : Hp} {a : Addr} {o : Obj} {ys : List (Key × V)} {kvs : List (Key × Va)} (e0 : H0 a = some (.frz o (.dK ys))) (rf : RFs g H0 kvs ys) : IterOf g false H0 (Itk a o ys) (keysV kvs) fun h => h a = some (.fdk kvs) := by
  have len : (keysV kvs).length = ys.length := by unfold keysV; rw [List.length_map]; exact rf.length
  refine ⟨fun Z i H h v e rh _ hv => ?_, fun Z H h e rh _ => ⟨e.f _ _ _ e0, by rw [len]; exact Nat.le_refl _⟩⟩
  have hi : i < ys.length := by rw [← len]; exact (List.getElem?_eq_some_iff.mp hv).1
  refine ⟨⟨e.f _ _ _ e0, hi⟩, fun y H' hy => ?_⟩
  obtain ⟨rfl, kk, vv, ek, rfl⟩ := hy
  refine ⟨.refl, ?_, rh⟩
  have rk := RVs.keys rf
  obtain ⟨u, hu, ru⟩ := rk.get (i := i) (y := kV kk) (by rw [List.getElem?_map, ek]; rfl)
  have : u = v := Option.some.inj (hu.symm.trans hv)
  subst this
  exact ru.ext e
end
end F2
set_option Elab.async false
set_option linter.all false
set_option maxRecDepth 100000
set_option maxHeartbeats 2000000
namespace F2
open PySem PySem.Spec PyProof.Rows
open L2
section
variable {g : Gx} {k : Nat} {X : Cx} {N : List Str} {sc : Scope}
variable {x y z tg : Expr} {ta tb tc te : TEa} {pos : Pos} {tt tu : TTa}
theorem wipe_in {σ : L2.St} {i : Nat} {v : Option V} : ∀ {vs : List Nat}, i ∈ vs → L2.wipe (σ.set i v) vs = L2.wipe σ vs
  | w :: vs, h => by
    show (L2.wipe (σ.set i v) vs).set w none = (L2.wipe σ vs).set w none
    by_cases hi : i ∈ vs
    · rw [wipe_in hi]
    · have e : i = w := by
        rcases List.mem_cons.mp h with e | e
        · exact e
        · exact absurd e hi
      subst e
      have comm : ∀ (vs : List Nat), i ∉ vs → L2.wipe (σ.set i v) vs = (L2.wipe σ vs).set i v := fun vs => by
        induction vs with
        | nil => intro _; rfl
        | cons u us ih =>
          intro hn
          simp only [List.mem_cons, not_or] at hn
          show (L2.wipe (σ.set i v) us).set u none = ((L2.wipe σ us).set u none).set i v
          rw [ih hn.2, List.set_comm _ _ hn.1]
      rw [comm vs hi, List.set_set]
theorem wipe_wipe (σ : L2.St) (vs : List Nat) : L2.wipe (L2.wipe σ vs) vs = L2.wipe σ vs := by
  have all : ∀ (ws : List Nat), (∀ i ∈ ws, i ∈ vs) → L2.wipe (L2.wipe σ ws) vs = L2.wipe σ vs := fun ws => by
    induction ws with
    | nil => intro _; rfl
    | cons w ws ih =>
      intro h
      show L2.wipe ((L2.wipe σ ws).set w none) vs = _
      rw [wipe_in (h w List.mem_cons_self)]
      exact ih fun i hi => h i (List.mem_cons_of_mem _ hi)
  exact all vs fun _ h => h
def cG (g : Gx) (w : Bool) (vs : List Nat) (b : Va → Sa → (Sa → Prop) → Prop) : TG := fun v σ H Q => ∃ u ρ q, rel g w H u v ∧ RS g H ρ σ ∧ b u ρ q ∧ ∀ ρ' σ', q ρ' → RS g H ρ' σ' → L2.wipe σ' vs = L2.wipe σ vs → Q σ' H
def cGs (g : Gx) (vs : List Nat) (b : List Va → Sa → (Sa → Prop) → Prop) : TGs := fun v σ H Q => ∃ u ρ q, RVs g H u v ∧ RS g H ρ σ ∧ b u ρ q ∧ ∀ ρ' σ', q ρ' → RS g H ρ' σ' → L2.wipe σ' vs = L2.wipe σ vs → Q σ' H
theorem pgs_imp {ts : List Expr} {t t' : TGs} (h : PGs X ts t) (i : ∀ v σ H Q, t' v σ H Q → t v σ H Q) : PGs X ts t' := ⟨fun pins s σ H v u Q I r w => h.run pins s σ H v u Q I r (i v σ H Q w)⟩
theorem asg_ok {e : Expr} (h : isStar e = false) (es : List Expr) (env : Env) : assignEach (e :: es) env = (false, assign e env) :: assignEach es env := by
  cases e <;> first | rfl | cases (show true = false from h)
theorem tg_star {sc : Scope} {fn : Str → Bool} {t : Tg} {e : Expr} (h : chkTg N sc fn t e = true) : isStar e = false := by
  cases t with
  | nm i => unfold chkTg at h; split at h <;> first | rfl | cases h
  | tp ts => unfold chkTg at h; split at h <;> first | rfl | cases h
theorem tgs_each {sc : Scope} {fn : Str → Bool} (env : Env) : ∀ {ts : Tgs} {es : List Expr}, chkTgs N sc fn ts es = true → (assignEach es env).findIdx? (·.1) = none
  | .nil, es, h => by
    unfold chkTgs at h
    cases es with
    | nil => rfl
    | cons _ _ => cases (show false = true from h)
  | .cons t ts, es, h => by
    unfold chkTgs at h
    cases es with
    | nil => cases (show false = true from h)
    | cons e r =>
      have h : (chkTg N sc fn t e && chkTgs N sc fn ts r) = true := h
      rw [Bool.and_eq_true] at h
      rw [asg_ok (tg_star h.1), List.findIdx?_cons]
      simp only [Bool.false_eq_true, if_false]
      rw [tgs_each env h.2]
      rfl
theorem tgs_len {sc : Scope} {fn : Str → Bool} : ∀ {ts : Tgs} {es : List Expr} {us : List Va} {ρ : Sa} {q : Sa → Prop}, chkTgs N sc fn ts es = true → bnds ts us ρ q → us.length = es.length
  | .nil, es, us, ρ, q, h, b => by
    unfold chkTgs at h
    cases es with
    | nil => cases us with
      | nil => rfl
      | cons _ _ => exact (show False from b).elim
    | cons _ _ => cases (show false = true from h)
  | .cons t ts, es, us, ρ, q, h, b => by
    unfold chkTgs at h
    cases es with
    | nil => cases (show false = true from h)
    | cons e r =>
      have h : (chkTg N sc fn t e && chkTgs N sc fn ts r) = true := h
      rw [Bool.and_eq_true] at h
      cases us with
      | nil => exact (show False from b).elim
      | cons u us =>
        have b : bnd t u ρ fun ρ' => bnds ts us ρ' q := b
        have : ∃ ρ', bnds ts us ρ' q := bnd_ex b
        obtain ⟨ρ', b'⟩ := this
        rw [List.length_cons, List.length_cons, tgs_len h.2 b']
where
  bnd_ex {t : Tg} {u : Va} {ρ : Sa} {q : Sa → Prop} (b : bnd t u ρ q) : ∃ ρ', q ρ' := ex1 t u ρ q b
  ex1 : ∀ (t : Tg) (u : Va) (ρ : Sa) (q : Sa → Prop), bnd t u ρ q → ∃ ρ', q ρ'
    | .nm i, u, ρ, q, b => ⟨_, b⟩
    | .tp ts, u, ρ, q, b => by
      cases u with
      | tup xs => exact ex2 ts xs ρ q b
      | _ => exact (show False from b).elim
  ex2 : ∀ (ts : Tgs) (us : List Va) (ρ : Sa) (q : Sa → Prop), bnds ts us ρ q → ∃ ρ', q ρ'
    | .nil, us, ρ, q, b => by
      cases us with
      | nil => exact ⟨_, b⟩
      | cons _ _ => exact (show False from b).elim
    | .cons t ts, us, ρ, q, b => by
      cases us with
      | nil => exact (show False from b).elim
      | cons u us =>
        obtain ⟨ρ', b'⟩ := ex1 t u ρ _ b
        exact ex2 ts us ρ' q b'
theorem each_len (env : Env) : ∀ es : List Expr, (assignEach es env).length = es.length
  | [] => rfl
  | e :: es => by
    cases e <;> (show _ + 1 = _ + 1; rw [each_len env es])
mutual
theorem sndTg (G : Good g k X N sc) {fn : Str → Bool} (hf : ∀ n, fn n = true → X.fn n = true) {vs : List Nat} : ∀ {t : Tg} {e : Expr}, chkTg N sc fn t e = true → (∀ i ∈ tgIx t, i ∈ vs) → PG X e (cG g false vs (bnd t))
  | .nm i, e, h, hv => by
    unfold chkTg at h
    split at h
    · rename_i n p
      rw [Bool.and_eq_true] at h
      have hl := loc_ok h.2
      refine pg_imp (pg_name (i := i) (by rw [G.hN]; exact G.nd) (by rw [G.hN]; exact of_decide_eq_true h.1) (by rw [G.hsc]; exact hl.1) ?_) fun v σ H Q ⟨u, ρ, q, ru, rs, b, kk⟩ => ?_
      · rcases hl.2 with z | z
        · exact .inl (hf _ z)
        · right; rw [G.hsc]; exact z
      · exact kk _ _ b (rs.set ru i) (wipe_in (hv i (by unfold tgIx; simp)))
    · cases h
  | .tp ts, e, h, hv => by
    unfold chkTg at h
    split at h
    · rename_i es n p
      refine pg_imp (pg_tup (t := cGs g vs (bnds ts)) (n := es.length) G.calm (sndTgs G hf h fun i hi => hv i (by unfold tgIx; exact hi)) (each_len X.env es) (tgs_each X.env h)) fun v σ H Q ⟨u, ρ, q, ru, rs, b, kk⟩ => ?_
      rw [G.hK]
      cases u with
      | tup xs =>
        cases (show RV g H (.tup xs) v from ru) with | tup hp rx => exact ⟨_, _, rfl, hp.sq, by rw [← rx.length]; exact tgs_len h b, xs, ρ, q, rx, rs, b, kk⟩
      | _ => exact (show False from b).elim
    · cases h
theorem sndTgs (G : Good g k X N sc) {fn : Str → Bool} (hf : ∀ n, fn n = true → X.fn n = true) {vs : List Nat} : ∀ {ts : Tgs} {es : List Expr}, chkTgs N sc fn ts es = true → (∀ i ∈ tgsIx ts, i ∈ vs) → PGs X es (cGs g vs (bnds ts))
  | .nil, es, h, hv => by
    unfold chkTgs at h
    cases es with
    | nil =>
      refine pgs_imp pgs_nil fun v σ H Q ⟨u, ρ, q, ru, rs, b, kk⟩ => ?_
      cases u with
      | nil => cases ru; exact ⟨rfl, kk _ _ b rs rfl⟩
      | cons _ _ => exact (show False from b).elim
    | cons _ _ => cases (show false = true from h)
  | .cons t ts, es, h, hv => by
    unfold chkTgs at h
    cases es with
    | nil => cases (show false = true from h)
    | cons e r =>
      have h : (chkTg N sc fn t e && chkTgs N sc fn ts r) = true := h
      rw [Bool.and_eq_true] at h
      refine pgs_imp (pgs_cons (sndTg G hf (vs := vs) h.1 fun i hi => hv i (by unfold tgsIx; exact List.mem_append_left _ hi)) (sndTgs G hf (vs := vs) h.2 fun i hi => hv i (by unfold tgsIx; exact List.mem_append_right _ hi)) (by rw [asg_ok (tg_star h.1)]; rfl)) fun v σ H Q ⟨u, ρ, q, ru, rs, b, kk⟩ => ?_
      cases u with
      | nil => exact (show False from b).elim
      | cons u us =>
        cases ru with | cons r1 r2 =>
        have b : bnd t u ρ fun ρ' => bnds ts us ρ' q := b
        exact ⟨_, _, rfl, u, ρ, _, r1, rs, b, fun ρ' σ' b' rs' w' => ⟨us, ρ', q, r2, rs', b', fun ρ2 σ2 q2 rs2 w2 => kk ρ2 σ2 q2 rs2 (w2.trans w')⟩⟩
end
theorem sndTgW (G : Good g k X N sc) {fn : Str → Bool} (hf : ∀ n, fn n = true → X.fn n = true) {vs : List Nat} {ts : Tgs} {es : List Expr} {n : Nat} (h : chkTgs N sc fn ts es = true) (hv : ∀ i ∈ tgsIx ts, i ∈ vs) : PG X (.Tuple es n pos) (cG g true vs (bnd (.tp ts))) := by
  refine pg_imp (pg_tup (t := cGs g vs (bnds ts)) (n := es.length) G.calm (sndTgs G hf h hv) (each_len X.env es) (tgs_each X.env h)) fun v σ H Q ⟨u, ρ, q, ru, rs, b, kk⟩ => ?_
  rw [G.hK]
  cases u with
  | tup xs =>
    cases (show RW g H (.tup xs) v from ru) with
    | of r => cases r with | tup hp rx => exact ⟨_, _, rfl, hp.sq, by rw [← rx.length]; exact tgs_len h b, xs, ρ, q, rx, rs, b, kk⟩
    | two hp rx => exact ⟨_, _, rfl, SqT.of hp, by rw [← rx.length]; exact tgs_len h b, xs, ρ, q, rx, rs, b, kk⟩
  | _ => exact (show False from b).elim
def wkI : I → Bool
  | .enum _ => true
  | .zip _ _ => true
  | _ => false
theorem sndTgI (G : Good g k X N sc) {fn : Str → Bool} (hf : ∀ n, fn n = true → X.fn n = true) {vs : List Nat} {t : Tg} {i : I} {e : Expr} {sc' : Scope} (h : chkTg N sc fn t e = true) (hv : ∀ i ∈ tgIx t, i ∈ vs) (hi : chkI N i sc' e x = true) : PG X e (cG g (wkI i) vs (bnd t)) := by
  cases i with
  | seq _ => exact sndTg G hf h hv
  | dn _ _ => exact sndTg G hf h hv
  | txt _ => exact sndTg G hf h hv
  | rg _ => exact sndTg G hf h hv
  | enum _ =>
    unfold chkI at hi
    split at hi
    · cases t with
      | nm _ => unfold chkTg at h; cases h
      | tp ts => unfold chkTg at h; exact sndTgW G hf h hv
    · cases hi
  | zip _ _ =>
    unfold chkI at hi
    split at hi
    · cases t with
      | nm _ => unfold chkTg at h; cases h
      | tp ts => unfold chkTg at h; exact sndTgW G hf h hv
    · cases hi
theorem comp_of {w : Bool} {tgb : Va → Sa → (Sa → Prop) → Prop} {own : List Nat} {tic : TIa} {σ : L2.St} {H : Hp} {Q : VK}
    (wh : cE g (fun ρ h Q => tic ρ h fun xs gd h1 => xs.length ≤ sizeLine ∧ comps gd (fun x h' k => tgb x (wipeA ρ own) fun ρ2 => tt ρ2 h' fun b h2 => if b = true then te ρ2 h2 fun y h3 => k (some y) h3 else k none h2) xs [] h1 fun acc h2 => newL acc h2 Q) σ H Q) :
    tLc (cI g w tic) (cG g w own tgb) (cT g tt) (cE g te) own σ H Q := by
  obtain ⟨ρ, h, Qa, Z, rs, rh, op, q⟩ := wh
  refine ⟨ρ, h, _, Z, rs, rh, op, fun xs gd h1 J H1 op1 gd1 e1 rh1 it => ?_⟩
  obtain ⟨hlen, op1⟩ := op1
  intro D nD
  have zD : Z D = none := rh1.zn nD
  have ex0 : Ext H1 (upd H1 D (.lst [])) := .upd (.none nD)
  refine ⟨fun i m H2 => ∃ h2 acc accV, m = xs.length - i ∧ i ≤ xs.length ∧ Ext H1 H2 ∧ RVs g H2 acc accV ∧ acc.length ≤ i ∧ RH g (upd Z D (.lst accV)) H2 h2 ∧ gd h2 ∧
    comps gd (fun x h' k => tgb x (wipeA ρ own) fun ρ2 => tt ρ2 h' fun b h2 => if b = true then te ρ2 h2 fun y h3 => k (some y) h3 else k none h2) (xs.drop i) acc h2 fun acc h2 => newL acc h2 Qa,
    ⟨xs.length, h1, [], [], by simp, Nat.zero_le _, ex0, .nil, Nat.le_refl _, rh1.hide nD, gd1, by rw [List.drop_zero]; exact op1⟩, ?_⟩
  rintro i m H2 ⟨h2, acc, accV, rfl, hi, e2, ra, hacc, rh2, gd2, op2⟩
  by_cases hlt : i < xs.length
  · right
    have hx : xs[i]? = some xs[i] := List.getElem?_eq_getElem hlt
    obtain ⟨go, yl⟩ := it.go _ i H2 h2 _ e2 rh2 gd2 hx
    have ed : xs.drop i = xs[i] :: xs.drop (i + 1) := List.drop_eq_getElem_cons hlt
    rw [ed] at op2
    refine ⟨go, fun H' => ∃ h2 acc accV, Ext H1 H' ∧ RVs g H' acc accV ∧ acc.length ≤ i + 1 ∧ RH g (upd Z D (.lst accV)) H' h2 ∧ gd h2 ∧
      comps gd (fun x h' k => tgb x (wipeA ρ own) fun ρ2 => tt ρ2 h' fun b h2 => if b = true then te ρ2 h2 fun y h3 => k (some y) h3 else k none h2) (xs.drop (i + 1)) acc h2 fun acc h2 => newL acc h2 Qa,
      fun H' ⟨h3, acc', accV', a1, a2, a3, a4, a5, a6⟩ => ⟨xs.length - (i + 1), by omega, h3, acc', accV', rfl, hlt, a1, a2, a3, a4, a5, a6⟩, fun yv H3 hy => ?_⟩
    obtain ⟨e3, rv3, rh3⟩ := yl yv H3 hy
    refine ⟨xs[i], wipeA ρ own, _, rv3, ((rs.ext (e1.trans (e2.trans e3))).wipe own), op2, fun ρ2 σ2 op3 rs2 hw => ⟨hw.trans (wipe_wipe σ own), ?_⟩⟩
    refine ⟨ρ2, h2, _, _, rs2, rh3, op3, fun b h4 H4 op4 e4 rh4 => ?_⟩
    cases b with
    | false =>
      rw [if_neg Bool.false_ne_true] at op4 ⊢
      refine ⟨h4, acc, accV, (e2.trans e3).trans e4, (ra.ext e3).ext e4, by omega, rh4, op4.1, ?_⟩
      have := op4.2
      rw [show acc ++ (none : Option Va).toList = acc by simp] at this
      exact this
    | true =>
      rw [if_pos rfl] at op4 ⊢
      refine ⟨ρ2, h4, _, _, rs2.ext e4, rh4, op4, fun y h5 yy H5 op5 e5 ry rh5 => ?_⟩
      have hD := rh5.hidden
      have raL := ra.length
      refine ⟨accV, hD.2, by rw [← raL]; omega, h5, acc ++ [y], accV ++ [yy], ?_, ?_, by rw [List.length_append]; simp only [List.length_cons, List.length_nil]; omega, rh5.turn (.lst hD.2), op5.1, ?_⟩
      · exact ((e2.trans e3).trans (e4.trans e5)).trans (.upd (.lst hD.2))
      · exact ((((ra.ext e3).ext e4).ext e5).append (.cons ry .nil)).ext (.upd (.lst hD.2))
      · exact op5.2
  · left
    have ei : i = xs.length := by omega
    subst ei
    refine ⟨it.stop _ H2 h2 e2 rh2 gd2, ?_⟩
    rw [List.drop_length] at op2
    have op2 : newL acc h2 Qa := op2
    have hD := rh2.hidden
    exact q _ _ _ _ (op2 D hD.1) (e1.trans e2) (.ref D) (rh2.shown zD ⟨accV, hD.2, ra⟩)
theorem comp_ofH {A : Around} {a0 : Addr} (hg : g.hot = some a0) (hA : A.handled = some (.ref a0)) {tgb : Va → Sa → (Sa → Prop) → Prop} {own : List Nat} {tic : TIa} {σ : L2.St} {H : Hp} {Q : VK}
    (wh : cE g (fun ρ h Q => tic ρ h fun xs gd h1 => xs.length ≤ sizeLine ∧ comps gd (fun x h' k => tgb x (wipeA ρ own) fun ρ2 => tt ρ2 h' fun b h2 => if b = true then te ρ2 h2 fun y h3 => k (some y) h3 else k none h2) xs [] h1 fun acc h2 => newL acc h2 Q) σ H Q) :
    tLc (cI g false tic) (fun v σ H Q => HotH A H ∧ cG g false own tgb v σ H Q) (cT g tt) (cE g te) own σ H Q := by
  obtain ⟨ρ, h, Qa, Z, rs, rh, op, q⟩ := wh
  refine ⟨ρ, h, _, Z, rs, rh, op, fun xs gd h1 J H1 op1 gd1 e1 rh1 it => ?_⟩
  obtain ⟨hlen, op1⟩ := op1
  intro D nD
  have zD : Z D = none := rh1.zn nD
  have ex0 : Ext H1 (upd H1 D (.lst [])) := .upd (.none nD)
  refine ⟨fun i m H2 => ∃ h2 acc accV, m = xs.length - i ∧ i ≤ xs.length ∧ Ext H1 H2 ∧ RVs g H2 acc accV ∧ acc.length ≤ i ∧ RH g (upd Z D (.lst accV)) H2 h2 ∧ gd h2 ∧
    comps gd (fun x h' k => tgb x (wipeA ρ own) fun ρ2 => tt ρ2 h' fun b h2 => if b = true then te ρ2 h2 fun y h3 => k (some y) h3 else k none h2) (xs.drop i) acc h2 fun acc h2 => newL acc h2 Qa,
    ⟨xs.length, h1, [], [], by simp, Nat.zero_le _, ex0, .nil, Nat.le_refl _, rh1.hide nD, gd1, by rw [List.drop_zero]; exact op1⟩, ?_⟩
  rintro i m H2 ⟨h2, acc, accV, rfl, hi, e2, ra, hacc, rh2, gd2, op2⟩
  by_cases hlt : i < xs.length
  · right
    have hx : xs[i]? = some xs[i] := List.getElem?_eq_getElem hlt
    obtain ⟨go, yl⟩ := it.go _ i H2 h2 _ e2 rh2 gd2 hx
    have ed : xs.drop i = xs[i] :: xs.drop (i + 1) := List.drop_eq_getElem_cons hlt
    rw [ed] at op2
    refine ⟨go, fun H' => ∃ h2 acc accV, Ext H1 H' ∧ RVs g H' acc accV ∧ acc.length ≤ i + 1 ∧ RH g (upd Z D (.lst accV)) H' h2 ∧ gd h2 ∧
      comps gd (fun x h' k => tgb x (wipeA ρ own) fun ρ2 => tt ρ2 h' fun b h2 => if b = true then te ρ2 h2 fun y h3 => k (some y) h3 else k none h2) (xs.drop (i + 1)) acc h2 fun acc h2 => newL acc h2 Qa,
      fun H' ⟨h3, acc', accV', a1, a2, a3, a4, a5, a6⟩ => ⟨xs.length - (i + 1), by omega, h3, acc', accV', rfl, hlt, a1, a2, a3, a4, a5, a6⟩, fun yv H3 hy => ?_⟩
    obtain ⟨e3, rv3, rh3⟩ := yl yv H3 hy
    refine ⟨hot_of hg hA rh3, xs[i], wipeA ρ own, _, rv3, ((rs.ext (e1.trans (e2.trans e3))).wipe own), op2, fun ρ2 σ2 op3 rs2 hw => ⟨hw.trans (wipe_wipe σ own), ?_⟩⟩
    refine ⟨ρ2, h2, _, _, rs2, rh3, op3, fun b h4 H4 op4 e4 rh4 => ?_⟩
    cases b with
    | false =>
      rw [if_neg Bool.false_ne_true] at op4 ⊢
      refine ⟨h4, acc, accV, (e2.trans e3).trans e4, (ra.ext e3).ext e4, by omega, rh4, op4.1, ?_⟩
      have := op4.2
      rw [show acc ++ (none : Option Va).toList = acc by simp] at this
      exact this
    | true =>
      rw [if_pos rfl] at op4 ⊢
      refine ⟨ρ2, h4, _, _, rs2.ext e4, rh4, op4, fun y h5 yy H5 op5 e5 ry rh5 => ?_⟩
      have hD := rh5.hidden
      have raL := ra.length
      refine ⟨accV, hD.2, by rw [← raL]; omega, h5, acc ++ [y], accV ++ [yy], ?_, ?_, by rw [List.length_append]; simp only [List.length_cons, List.length_nil]; omega, rh5.turn (.lst hD.2), op5.1, ?_⟩
      · exact ((e2.trans e3).trans (e4.trans e5)).trans (.upd (.lst hD.2))
      · exact ((((ra.ext e3).ext e4).ext e5).append (.cons ry .nil)).ext (.upd (.lst hD.2))
      · exact op5.2
  · left
    have ei : i = xs.length := by omega
    subst ei
    refine ⟨it.stop _ H2 h2 e2 rh2 gd2, ?_⟩
    rw [List.drop_length] at op2
    have op2 : newL acc h2 Qa := op2
    have hD := rh2.hidden
    exact q _ _ _ _ (op2 D hD.1) (e1.trans e2) (.ref D) (rh2.shown zD ⟨accV, hD.2, ra⟩)
theorem sndTgsH (G : GoodH g X N sc) {fn : Str → Bool} (hf : ∀ n, fn n = true → X.fn n = true) {vs : List Nat} : ∀ {ts : Tgs} {es : List Expr}, hotTgs ts = true → chkTgs N sc fn ts es = true → (∀ i ∈ tgsIx ts, i ∈ vs) → PGs X es (cGs g vs (bnds ts))
  | .nil, es, ht, h, hv => by
    unfold chkTgs at h
    cases es with
    | nil =>
      refine pgs_imp pgs_nil fun v σ H Q ⟨u, ρ, q, ru, rs, b, kk⟩ => ?_
      cases u with
      | nil => cases ru; exact ⟨rfl, kk _ _ b rs rfl⟩
      | cons _ _ => exact (show False from b).elim
    | cons _ _ => cases (show false = true from h)
  | .cons (.tp _) ts, es, ht, h, hv => by unfold hotTgs at ht; cases ht
  | .cons (.nm i) ts, es, ht, h, hv => by
    unfold chkTgs at h
    unfold hotTgs at ht
    cases es with
    | nil => cases (show false = true from h)
    | cons e r =>
      have h : (chkTg N sc fn (.nm i) e && chkTgs N sc fn ts r) = true := h
      rw [Bool.and_eq_true] at h
      refine pgs_imp (pgs_cons (t := cG g false vs (bnd (.nm i))) (sndNmH G hf (vs := vs) h.1 (hv i (by unfold tgsIx tgIx; simp))) (sndTgsH G hf (vs := vs) ht h.2 fun i hi => hv i (by unfold tgsIx; exact List.mem_append_right _ hi)) (by rw [asg_ok (tg_star h.1)]; rfl)) fun v σ H Q ⟨u, ρ, q, ru, rs, b, kk⟩ => ?_
      cases u with
      | nil => exact (show False from b).elim
      | cons u us =>
        cases ru with | cons r1 r2 =>
        have b : bnd (.nm i) u ρ fun ρ' => bnds ts us ρ' q := b
        exact ⟨_, _, rfl, u, ρ, _, r1, rs, b, fun ρ' σ' b' rs' w' => ⟨us, ρ', q, r2, rs', b', fun ρ2 σ2 q2 rs2 w2 => kk ρ2 σ2 q2 rs2 (w2.trans w')⟩⟩
where
  sndNmH (G : GoodH g X N sc) {fn : Str → Bool} (hf : ∀ n, fn n = true → X.fn n = true) {vs : List Nat} {i : Nat} {e : Expr} (h : chkTg N sc fn (.nm i) e = true) (hv : i ∈ vs) : PG X e (cG g false vs (bnd (.nm i))) := by
    unfold chkTg at h
    split at h
    · rename_i n p
      rw [Bool.and_eq_true] at h
      have hl := loc_ok h.2
      refine pg_imp (pg_name (i := i) (by rw [G.hN]; exact G.nd) (by rw [G.hN]; exact of_decide_eq_true h.1) (by rw [G.hsc]; exact hl.1) ?_) fun v σ H Q ⟨u, ρ, q, ru, rs, b, kk⟩ => ?_
      · rcases hl.2 with z | z
        · exact .inl (hf _ z)
        · right; rw [G.hsc]; exact z
      · exact kk _ _ b (rs.set ru i) (wipe_in hv)
    · cases h
theorem sndTgH (G : GoodH g X N sc) {fn : Str → Bool} (hf : ∀ n, fn n = true → X.fn n = true) {vs : List Nat} {t : Tg} {e : Expr} (ht : hotTg t = true) (h : chkTg N sc fn t e = true) (hv : ∀ i ∈ tgIx t, i ∈ vs) : PG X e (fun v σ H Q => HotH X.A H ∧ cG g false vs (bnd t) v σ H Q) := by
  cases t with
  | nm i => exact pg_imp (sndTgsH.sndNmH G hf (vs := vs) h (hv i (by unfold tgIx; simp))) fun v σ H Q w => w.2
  | tp ts =>
    unfold chkTg at h
    unfold hotTg at ht
    split at h
    · rename_i es n p
      refine pg_imp (pg_tupH (t := cGs g vs (bnds ts)) (n := es.length) (sndTgsH G hf ht h fun i hi => hv i (by unfold tgIx; exact hi)) (each_len X.env es) (tgs_each X.env h)) fun v σ H Q ⟨hot, u, ρ, q, ru, rs, b, kk⟩ => ⟨hot, ?_⟩
      rw [G.hK]
      cases u with
      | tup xs =>
        cases (show RV g H (.tup xs) v from ru) with | tup hp rx => exact ⟨_, _, rfl, hp.sq, by rw [← rx.length]; exact tgs_len h b, xs, ρ, q, rx, rs, b, kk⟩
      | _ => exact (show False from b).elim
    · cases h
theorem comp_ofX {W : WX} {tgb : Va → Sa → (Sa → Prop) → Prop} {own : List Nat} {tic : TIXa} {σ : L2.St} {H : Hp} {Q : VK}
    (wh : cX g W (fun ρ h Q E => tic ρ h (fun xs gd h1 => xs.length ≤ sizeLine ∧ comps gd (fun x h' k => tgb x (wipeA ρ own) fun ρ2 => tt ρ2 h' fun b h2 => if b = true then te ρ2 h2 fun y h3 => k (some y) h3 else k none h2) xs [] h1 fun acc h2 => newL acc h2 Q) E) σ H Q) :
    tLc (cIX g W tic) (cG g false own tgb) (cT g tt) (cE g te) own σ H Q := by
  obtain ⟨ρ, h, Qa, Ea, Z, rs, rh, op, q, qe⟩ := wh
  refine ⟨ρ, h, _, Ea, Z, rs, rh, op, fun xs gd h1 J H1 op1 gd1 e1 rh1 it => ?_, qe⟩
  obtain ⟨hlen, op1⟩ := op1
  intro D nD
  have zD : Z D = none := rh1.zn nD
  have ex0 : Ext H1 (upd H1 D (.lst [])) := .upd (.none nD)
  refine ⟨fun i m H2 => ∃ h2 acc accV, m = xs.length - i ∧ i ≤ xs.length ∧ Ext H1 H2 ∧ RVs g H2 acc accV ∧ acc.length ≤ i ∧ RH g (upd Z D (.lst accV)) H2 h2 ∧ gd h2 ∧
    comps gd (fun x h' k => tgb x (wipeA ρ own) fun ρ2 => tt ρ2 h' fun b h2 => if b = true then te ρ2 h2 fun y h3 => k (some y) h3 else k none h2) (xs.drop i) acc h2 fun acc h2 => newL acc h2 Qa,
    ⟨xs.length, h1, [], [], by simp, Nat.zero_le _, ex0, .nil, Nat.le_refl _, rh1.hide nD, gd1, by rw [List.drop_zero]; exact op1⟩, ?_⟩
  rintro i m H2 ⟨h2, acc, accV, rfl, hi, e2, ra, hacc, rh2, gd2, op2⟩
  by_cases hlt : i < xs.length
  · right
    have hx : xs[i]? = some xs[i] := List.getElem?_eq_getElem hlt
    obtain ⟨go, yl⟩ := it.go _ i H2 h2 _ e2 rh2 gd2 hx
    have ed : xs.drop i = xs[i] :: xs.drop (i + 1) := List.drop_eq_getElem_cons hlt
    rw [ed] at op2
    refine ⟨go, fun H' => ∃ h2 acc accV, Ext H1 H' ∧ RVs g H' acc accV ∧ acc.length ≤ i + 1 ∧ RH g (upd Z D (.lst accV)) H' h2 ∧ gd h2 ∧
      comps gd (fun x h' k => tgb x (wipeA ρ own) fun ρ2 => tt ρ2 h' fun b h2 => if b = true then te ρ2 h2 fun y h3 => k (some y) h3 else k none h2) (xs.drop (i + 1)) acc h2 fun acc h2 => newL acc h2 Qa,
      fun H' ⟨h3, acc', accV', a1, a2, a3, a4, a5, a6⟩ => ⟨xs.length - (i + 1), by omega, h3, acc', accV', rfl, hlt, a1, a2, a3, a4, a5, a6⟩, fun yv H3 hy => ?_⟩
    obtain ⟨e3, rv3, rh3⟩ := yl yv H3 hy
    refine ⟨xs[i], wipeA ρ own, _, rv3, ((rs.ext (e1.trans (e2.trans e3))).wipe own), op2, fun ρ2 σ2 op3 rs2 hw => ⟨hw.trans (wipe_wipe σ own), ?_⟩⟩
    refine ⟨ρ2, h2, _, _, rs2, rh3, op3, fun b h4 H4 op4 e4 rh4 => ?_⟩
    cases b with
    | false =>
      rw [if_neg Bool.false_ne_true] at op4 ⊢
      refine ⟨h4, acc, accV, (e2.trans e3).trans e4, (ra.ext e3).ext e4, by omega, rh4, op4.1, ?_⟩
      have := op4.2
      rw [show acc ++ (none : Option Va).toList = acc by simp] at this
      exact this
    | true =>
      rw [if_pos rfl] at op4 ⊢
      refine ⟨ρ2, h4, _, _, rs2.ext e4, rh4, op4, fun y h5 yy H5 op5 e5 ry rh5 => ?_⟩
      have hD := rh5.hidden
      have raL := ra.length
      refine ⟨accV, hD.2, by rw [← raL]; omega, h5, acc ++ [y], accV ++ [yy], ?_, ?_, by rw [List.length_append]; simp only [List.length_cons, List.length_nil]; omega, rh5.turn (.lst hD.2), op5.1, ?_⟩
      · exact ((e2.trans e3).trans (e4.trans e5)).trans (.upd (.lst hD.2))
      · exact ((((ra.ext e3).ext e4).ext e5).append (.cons ry .nil)).ext (.upd (.lst hD.2))
      · exact op5.2
  · left
    have ei : i = xs.length := by omega
    subst ei
    refine ⟨it.stop _ H2 h2 e2 rh2 gd2, ?_⟩
    rw [List.drop_length] at op2
    have op2 : newL acc h2 Qa := op2
    have hD := rh2.hidden
    exact q _ _ _ _ (op2 D hD.1) (e1.trans e2) (.ref D) (rh2.shown zD ⟨accV, hD.2, ra⟩)
end
end F2
set_option Elab.async false
set_option linter.all false
set_option maxRecDepth 100000
set_option maxHeartbeats 2000000
namespace F2
open PySem PySem.Spec PyProof.Rows
open L2
section
variable {g : Gx} {k : Nat} {X : Cx} {N : List Str} {sc : Scope}
variable {x y z tg : Expr} {ta tb tc te : TEa} {pos : Pos} {tt tu : TTa}
theorem sqI_of {Z : Hp} {v : Va} {x1 : V} {h : Ah} {H : Hp} {ns : List Int} (hx : (∃ ys p, x1 = .ref p ∧ SqL g.K H p ys ∧ RVs g H (ns.map Va.int) ys) ∨ ∃ ys p, x1 = .ref p ∧ SqT g.K H p ys ∧ RVs g H (ns.map Va.int) ys) : SqI g.K x1 H ns := by
  rcases hx with ⟨ys, p, rfl, hp, rx⟩ | ⟨ys, p, rfl, hp, rx⟩
  · rw [rx.ints] at hp; exact ⟨p, rfl, .inl hp⟩
  · rw [rx.ints] at hp; exact ⟨p, rfl, .inr hp⟩
theorem ae_lset (G : Good g k X N sc) {p p2 q2 : Pos} (ha : PE X x (cE g ta)) (hg : glB sc "len" = true) (hg2 : glB sc "set" = true) (hs : isStar x = false) :
    PE X (.Call (.Name "len" p) [.Call (.Name "set" p2) [x] [] q2] [] pos) (cE g fun ρ h Q => ta ρ h fun v h1 => aLset v h1 Q) := by
  refine pe_imp (pe_lenSet (G.gl hg) (G.bl _ (by decide +kernel)) (G.gl hg2) (G.bl _ (by decide +kernel)) ha G.calm (star_ok hs [] X.env)) fun σ H Q ⟨ρ, h, Qa, Z, rs, rh, op, q⟩ =>
    ⟨ρ, h, _, Z, rs, rh, op, fun v h1 x1 H1 op1 e1 r1 rh1 => ?_⟩
  obtain ⟨xs, hx, ns, rfl, hl, op1⟩ := atL_of r1 rh1 op1
  rw [G.hK]
  exact ⟨ns, sqI_of (Z := Z) (v := v) (h := h1) hx, hl, fun ms nd hm => q _ _ _ _ (op1 ms nd hm) e1 (.int _) rh1⟩
theorem ae_sset (G : Good g k X N sc) {p p2 q2 : Pos} (ha : PE X x (cE g ta)) (hg : glB sc "sorted" = true) (hg2 : glB sc "set" = true) (hs : isStar x = false) :
    PE X (.Call (.Name "sorted" p) [.Call (.Name "set" p2) [x] [] q2] [] pos) (cE g fun ρ h Q => ta ρ h fun v h1 => aSset v h1 Q) := by
  refine pe_imp (pe_sortSet (G.gl hg) (G.bl _ (by decide +kernel)) (G.gl hg2) (G.bl _ (by decide +kernel)) (B1.boot .sorted) ha G.calm (star_ok hs [] X.env)) fun σ H Q ⟨ρ, h, Qa, Z, rs, rh, op, q⟩ =>
    ⟨ρ, h, _, Z, rs, rh, op, fun v h1 x1 H1 op1 e1 r1 rh1 => ?_⟩
  obtain ⟨xs, hx, ns, us, rfl, hl, h64, hu, op1⟩ := atL_of r1 rh1 op1
  rw [G.hK]
  exact ⟨ns, us, sqI_of (Z := Z) (v := v) (h := h1) hx, hl, h64, hu, fun ms l hs hm nl => newL_of rh1 (RVs.of_ints ms) (op1 ms hs hm) (fun u h' z H' qa e r rh' => q _ _ _ _ qa (e1.trans e) r rh') l nl⟩
theorem ae_ssetT (G : Good g k X N sc) {p p2 q2 : Pos} (ha : PE X x (cE g ta)) (hg : glB sc "sorted" = true) (hg2 : glB sc "set" = true) (hs : isStar x = false) :
    PE X (.Call (.Name "sorted" p) [.Call (.Name "set" p2) [x] [] q2] [] pos) (cE g fun ρ h Q => ta ρ h fun v h1 => aSsetT v h1 Q) := by
  refine pe_imp (pe_sortSetT (G.gl hg) (G.bl _ (by decide +kernel)) (G.gl hg2) (G.bl _ (by decide +kernel)) (B1.boot .sorted) ha G.calm (by have := G.room.units; omega) (star_ok hs [] X.env)) fun σ H Q ⟨ρ, h, Qa, Z, rs, rh, op, q⟩ =>
    ⟨ρ, h, _, Z, rs, rh, op, fun v h1 x1 H1 op1 e1 r1 rh1 => ?_⟩
  cases v with
  | tup xs =>
    obtain ⟨ps, rfl, few, small, op1⟩ := op1
    cases r1 with | tup hq rx =>
    obtain ⟨e, f⟩ := rx.pairs
    rw [G.hK]
    refine ⟨_, _, kP H1, rfl, hq.sq, (fun y hy => let ⟨t, e, ht⟩ := f y hy; ⟨t, e, ht.sq⟩), fun y hy => small _ (by rw [← e]; exact List.mem_map.mpr ⟨y, hy, rfl⟩), by rw [← rx.length, List.length_map]; exact few, fun zs p sub all asc np => ?_⟩
    refine newL_of rh1 (RVs.of_pairs zs fun z hz => f z (sub z hz)) (op1 (zs.map (kP H1)) (fun p => ⟨fun m => ?_, fun m => ?_⟩) asc) (fun u h' z H' qa e r rh' => q _ _ _ _ qa (e1.trans e) r rh') p np
    · obtain ⟨z, mz, rfl⟩ := List.mem_map.mp m
      rw [← e]; exact List.mem_map.mpr ⟨z, sub z mz, rfl⟩
    · rw [← e] at m
      obtain ⟨z, mz, rfl⟩ := List.mem_map.mp m
      exact all z mz
  | _ => exact op1.elim
theorem RVs.rows {H : Hp} : ∀ {rs : List (List Int)} {ys : List V}, (∀ r ∈ rs, r ≠ []) → RVs g H (rs.map rowI) ys → ∃ bs : List Rw, ys = bs.map (fun b => V.ref b.1) ∧ rs = bs.map Rw.row ∧ ∀ b ∈ bs, RV g H (rowI b.row) (.ref b.1)
  | [], _, _, r => by cases r; exact ⟨[], rfl, rfl, fun _ h => (nomatch h)⟩
  | r :: rs, _, ne, rv => by
    cases rv with | cons a rv =>
    obtain ⟨bs, rfl, rfl, h⟩ := RVs.rows (fun x m => ne x (List.mem_cons_of_mem _ m)) rv
    cases hr : r with
    | nil => exact absurd hr (ne r List.mem_cons_self)
    | cons x xs =>
      rw [hr] at a
      cases a with | tup hp rx =>
      rename_i t _
      refine ⟨(t, x, xs) :: bs, rfl, rfl, fun b m => ?_⟩
      rcases List.mem_cons.mp m with rfl | m
      · exact .tup hp rx
      · exact h b m
theorem das_ints {h : Ah} : ∀ ns : List Int, Das h (ns.map Va.int) (ns.map PyData.int)
  | [] => .nil
  | n :: ns => .cons (.int n) (das_ints ns)
theorem RVs.of_rows {H : Hp} : ∀ (cs : List Rw), (∀ b ∈ cs, RV g H (rowI b.row) (.ref b.1)) → RVs g H ((cs.map Rw.row).map rowI) (cs.map fun b => V.ref b.1)
  | [], _ => .nil
  | b :: cs, h => .cons (h b List.mem_cons_self) (RVs.of_rows cs fun c m => h c (List.mem_cons_of_mem _ m))
theorem ae_sortR (G : Good g k X N sc) {p : Pos} (ha : PE X x (cE g ta)) (hg : glB sc "sorted" = true) (hs : isStar x = false) :
    PE X (.Call (.Name "sorted" p) [x] [] pos) (cE g fun ρ h Q => ta ρ h fun v h1 => aSortR v h1 Q) := by
  refine pe_imp (pe_callAny (.inl ⟨_, rfl⟩) ((cr_sortR G.room.units).or (cr_sortRT G.room.units)) (G.gl hg) (G.bl _ (by decide +kernel)) (by decide +kernel) (pa_cons ha pa_nil (star_ok hs [] X.env)) (by decide) (by decide) hs rfl) fun σ H Q ⟨ρ, h, Qa, Z, rs, rh, op, q⟩ =>
    ⟨ρ, h, _, Z, rs, rh, op, fun v h1 x1 H1 op1 e1 r1 rh1 => ?_⟩
  cases v with
  | ref a =>
    left
    cases r1
    obtain ⟨rows, hl, ne, op1⟩ := op1
    obtain ⟨ys, hl', rx⟩ := rh1.o _ _ hl
    obtain ⟨bs, rfl, rfl, kb⟩ := RVs.rows ne rx
    rw [G.hK]
    refine ⟨_, bs, rfl, SqL.of hl', fun b m => Da.dp rh1 (.tup (das_ints b.row)) (kb b m), fun cs p pm asc np => ?_⟩
    exact newL_of rh1 (RVs.of_rows cs fun b m => kb b (pm.mem_iff.mp m)) (op1 (cs.map Rw.row) (pm.map _) (by rw [List.pairwise_map]; exact asc)) (fun u h' z H' qa e r rh' => q _ _ _ _ qa (e1.trans e) r rh') p np
  | tup xs =>
    right
    obtain ⟨rows, rfl, ne, op1⟩ := op1
    cases r1 with | tup hp rx =>
    obtain ⟨bs, rfl, rfl, kb⟩ := RVs.rows ne rx
    rw [G.hK]
    refine ⟨_, bs, rfl, hp.sq, fun b m => Da.dp rh1 (.tup (das_ints b.row)) (kb b m), fun cs p pm asc np => ?_⟩
    exact newL_of rh1 (RVs.of_rows cs fun b m => kb b (pm.mem_iff.mp m)) (op1 (cs.map Rw.row) (pm.map _) (by rw [List.pairwise_map]; exact asc)) (fun u h' z H' qa e r rh' => q _ _ _ _ qa (e1.trans e) r rh') p np
  | _ => exact op1.elim
theorem RVs.refs_to {H : Hp} : ∀ {as : List Addr} {ys : List V}, RVs g H (as.map Va.ref) ys → ys = as.map V.ref
  | [], _, r => by cases r; rfl
  | a :: as, _, r => by
    cases r with | cons c r =>
    cases c
    rw [RVs.refs_to r] <;> rfl
theorem RVs.app {H : Hp} : ∀ {xs ys : List Va} {us ws : List V}, RVs g H xs us → RVs g H ys ws → RVs g H (xs ++ ys) (us ++ ws)
  | [], _, _, _, r, s => by cases r; exact s
  | _ :: _, _, _, _, r, s => by cases r with | cons a r => exact .cons a (RVs.app r s)
theorem rows_to {Z : Hp} {H : Hp} {h : Ah} (rh : RH g Z H h) : ∀ (as : List Addr) (rows : List (List Va)), as.length = rows.length → (∀ (i : Nat) (a : Addr) (r : List Va), as[i]? = some a → rows[i]? = some r → h a = some (.lst r)) →
    ∃ vr : List (List V), as.length = vr.length ∧ (∀ (i : Nat) (a : Addr) (r : List V), as[i]? = some a → vr[i]? = some r → H a = some (.lst r)) ∧ RVs g H rows.flatten vr.flatten
  | [], [], _, _ => ⟨[], rfl, fun i a r e => by simp at e, .nil⟩
  | a :: as, r :: rows, e, hh => by
    obtain ⟨vr, h1, h2, h3⟩ := rows_to rh as rows (by simpa using e) fun i a r e1 e2 => hh (i + 1) a r (by simpa using e1) (by simpa using e2)
    obtain ⟨ys, ha, rx⟩ := rh.o _ _ (hh 0 a r rfl rfl)
    refine ⟨ys :: vr, by simp [h1], fun i b r' e1 e2 => ?_, ?_⟩
    · cases i with
      | zero => cases e1; cases e2; exact ha
      | succ i => exact h2 i b r' (by simpa using e1) (by simpa using e2)
    · rw [List.flatten_cons, List.flatten_cons]
      exact RVs.app rx h3
theorem ae_strD (G : Good g k X N sc) (gd : X.A.guards = some []) {p : Pos} (ha : PE X x (cE g ta)) (hg : glB sc "str" = true) (hs : isStar x = false) :
    PE X (.Call (.Name "str" p) [x] [] pos) (cE g fun ρ h Q => ta ρ h fun v h1 => aStrD v h1 Q) := by
  refine pe_imp (pe_callAny (.inr ⟨_, rfl⟩) (cr_strD G.room.units gd) (G.gl hg) (G.bl _ (by decide +kernel)) (B1.boot .str) (pa_cons ha pa_nil (star_ok hs [] X.env)) (by decide) (by decide) hs rfl) fun σ H Q ⟨ρ, h, Qa, Z, rs, rh, op, q⟩ =>
    ⟨ρ, h, _, Z, rs, rh, op, fun v h1 x1 H1 op1 e1 r1 rh1 => ?_⟩
  obtain ⟨con, d, hd, s1, s2, s3, s4, op1⟩ := op1
  have dp := hd.dp rh1 r1
  rw [G.hK]
  cases v with
  | tup xs => cases r1 with | tup hp rx => exact ⟨_, d, rfl, dp, s1, s2, s3, s4, q _ _ _ _ op1 e1 (.str _) rh1⟩
  | ref a => cases r1; exact ⟨_, d, rfl, dp, s1, s2, s3, s4, q _ _ _ _ op1 e1 (.str _) rh1⟩
  | _ => exact con.elim
theorem ae_inD (G : Good g k X N sc) (ha : PE X x (cE g ta)) (hb : PE X y (cE g tb)) (hm : isSetD y = false) :
    PE X (.Compare x [.In] [y] pos) (cE g fun ρ h Q => ta ρ h fun v h1 => tb ρ h1 fun w h2 => aInD v w h2 fun b => Q (.bl b) h2) :=
  pe_imp (pe_cmpR (op_inD G.room.units) ha hb (mark_ok hm .In)) fun σ H Q ⟨ρ, h, Qa, Z, rs, rh, op, q⟩ =>
    cmp_of (K := fun b h2 => Qa (.bl b) h2) (by rw [G.hK]; exact cma_inD) rs rh op fun b h' H' qa e rh' => q _ _ _ _ qa e (.bl b) rh'
theorem at_inD (G : Good g k X N sc) (ha : PE X x (cE g ta)) (hb : PE X y (cE g tb)) (hm : isSetD y = false) :
    PT X (.Compare x [.In] [y] pos) (cT g fun ρ h Q => ta ρ h fun v h1 => tb ρ h1 fun w h2 => aInD v w h2 fun b => Q b h2) :=
  pt_imp (pt_cmpR (op_inD G.room.units) ha hb (mark_ok hm .In)) fun σ H Q ⟨ρ, h, Qa, Z, rs, rh, op, q⟩ =>
    cmp_of (K := fun b h2 => Qa b h2) (by rw [G.hK]; exact cma_inD) rs rh op fun b h' H' qa e rh' => ⟨b, rfl, q _ _ _ qa e rh'⟩
theorem ae_gtT (G : Good g k X N sc) (ha : PE X x (cE g ta)) (hb : PE X y (cE g tb)) (hm : isSetD y = false) :
    PE X (.Compare x [.Gt] [y] pos) (cE g fun ρ h Q => ta ρ h fun v h1 => tb ρ h1 fun w h2 => aGtT v w h2 fun b => Q (.bl b) h2) :=
  pe_imp (pe_cmpR (op_gtT G.room.units) ha hb (mark_ok hm .Gt)) fun σ H Q ⟨ρ, h, Qa, Z, rs, rh, op, q⟩ =>
    cmp_of (K := fun b h2 => Qa (.bl b) h2) (by rw [G.hK]; exact cma_gtT) rs rh op fun b h' H' qa e rh' => q _ _ _ _ qa e (.bl b) rh'
theorem at_gtT (G : Good g k X N sc) (ha : PE X x (cE g ta)) (hb : PE X y (cE g tb)) (hm : isSetD y = false) :
    PT X (.Compare x [.Gt] [y] pos) (cT g fun ρ h Q => ta ρ h fun v h1 => tb ρ h1 fun w h2 => aGtT v w h2 fun b => Q b h2) :=
  pt_imp (pt_cmpR (op_gtT G.room.units) ha hb (mark_ok hm .Gt)) fun σ H Q ⟨ρ, h, Qa, Z, rs, rh, op, q⟩ =>
    cmp_of (K := fun b h2 => Qa b h2) (by rw [G.hK]; exact cma_gtT) rs rh op fun b h' H' qa e rh' => ⟨b, rfl, q _ _ _ qa e rh'⟩
theorem ae_sumL (G : Good g k X N sc) {p : Pos} (ha : PE X x (cE g ta)) (hb : PE X y (cE g tb)) (hg : glB sc "sum" = true) (hs : isStar x = false) (hs2 : isStar y = false) :
    PE X (.Call (.Name "sum" p) [x, y] [] pos) (cE g fun ρ h Q => ta ρ h fun v h1 => tb ρ h1 fun w h2 => aSumL v w h2 Q) := by
  have pa := pa_cons ha (pa_cons hb pa_nil (star_ok hs2 [] X.env)) (star_ok hs [y] X.env)
  have pl : ([y].all fun e => !isStar e) = true := by simp [hs2]
  refine pe_imp (pe_callAny (.inl ⟨_, rfl⟩) (cr_sumL G.calm) (G.gl hg) (G.bl _ (by decide +kernel)) (by decide +kernel) pa (by decide) (by decide) hs pl) fun σ H Q ⟨ρ, h, Qa, Z, rs, rh, op, q⟩ =>
    ⟨ρ, h, _, Z, rs, rh, op, fun v h1 x1 H1 op1 e1 r1 rh1 => ⟨ρ, h1, _, Z, rs.ext e1, rh1, op1, fun w h2 x2 H2 op2 e2 r2 rh2 => ?_⟩⟩
  have r1 := r1.ext e2
  cases v with
  | ref l =>
    cases r1
    obtain ⟨z, as, rows, rfl, hl, hz, len, know, few, q0, q1⟩ := op2
    cases r2
    obtain ⟨ys, hl', rx⟩ := rh2.o _ _ hl
    obtain rfl := RVs.refs_to rx
    obtain ⟨zs, hz', rz⟩ := rh2.o _ _ hz
    cases rz
    obtain ⟨vr, v1, v2, v3⟩ := rows_to rh2 as rows len know
    rw [G.hK]
    refine ⟨l, z, as, vr, rfl, SqL.of hl', hz', v1, v2, by rw [← v3.length]; exact few, fun e0 => ?_, fun p np => ?_⟩
    · have e3 : rows.flatten = [] := by
        rw [e0] at v3
        cases hr : rows.flatten with
        | nil => rfl
        | cons a b => rw [hr] at v3; cases v3
      exact q _ _ _ _ (q0 e3) (e1.trans e2) (.ref z) rh2
    · exact newL_of rh2 v3 q1 (fun u h' z H' qa e r rh' => q _ _ _ _ qa ((e1.trans e2).trans e) r rh') p np
  | _ => exact op2.elim
theorem ae_dct1 (ha : PE X x (cE g ta)) (hb : PE X y (cE g tb)) : PE X (.Dict [some x] [y] pos) (cE g fun ρ h Q => ta ρ h fun v h1 => tb ρ h1 fun w h2 => aDct1 v w h2 Q) := by
  refine pe_imp (pe_disp (pps_cons ha hb pps_nil) rfl rfl (by simp) (by simp)) fun σ H Q ⟨ρ, h, Qa, Z, rs, rh, op, q⟩ p np => ?_
  have ex0 : Ext H (upd H p (.dK [])) := .upd (.none np)
  refine ⟨ρ, h, _, _, rs.ext ex0, rh.hide np, op, fun v h1 x1 H1 op1 e1 r1 rh1 => ⟨ρ, h1, _, _, rs.ext (ex0.trans e1), rh1, op1, fun w h2 x2 H2 op2 e2 r2 rh2 => ?_⟩⟩
  obtain ⟨ky, ek, op2⟩ := op2
  have e := key_of r1 ek
  subst e
  have hd := rh2.hidden
  refine ⟨hd.2, [(ky, x2)], rfl, by simp, ?_⟩
  have ex : Ext H2 (upd H2 p (.dK (mergeK [] [(ky, x2)]))) := .upd (.dk hd.2)
  exact q _ _ _ _ (op2 p hd.1) (ex0.trans (e1.trans (e2.trans ex))) (.ref p) ((rh2.turn (.dk hd.2)).shown (rh.zn np) ⟨[(ky, x2)], upd_same, .cons (r2.ext ex) .nil⟩)
theorem RFs.merge {H : Hp} : ∀ {more kvs : List (Key × Va)} {more' kvs' : List (Key × V)}, RFs g H more more' → RFs g H kvs kvs' → RFs g H (mergeA kvs more) (mergeK kvs' more')
  | _, _, _, _, .nil, s => s
  | _, kvs, _, kvs', .cons (f := f) (v := v) (y := y) (vs := vs) (ys := ys) a r, s => show RFs g H (mergeA (putA kvs f v) vs) (mergeK (putK kvs' f y) ys) from RFs.merge r (s.put a)
theorem pairs_get {H : Hp} : ∀ {kvs : List (Key × Va)} {ys : List V}, RVs g H (kvs.map fun kv => Va.tup [kA kv.1, kv.2]) ys → ∃ (ps : List Addr) (kvs' : List (Key × V)), ys = ps.map V.ref ∧ Paired (fun p kv => SqT g.K H p [kV kv.1, kv.2]) ps kvs' ∧ RFs g H kvs kvs'
  | [], _, r => by cases r; exact ⟨[], [], rfl, .nil, .nil⟩
  | (k, v) :: kvs, _, r => by
    cases r with | cons a r =>
    obtain ⟨ps, kvs', rfl, hp, rf⟩ := pairs_get r
    cases a with | tup hq ra =>
    obtain ⟨y, z, rfl, r1, r2⟩ := ra.two
    have e : y = kV k := key_of r1 (by cases k <;> rfl)
    subst e
    exact ⟨_ :: ps, (k, z) :: kvs', rfl, .cons (hq.sq) hp, .cons r2 rf⟩
theorem RVs.keysZ {H : Hp} : ∀ {ks : List Key} {ys : List V}, RVs g H (ks.map kA) ys → ys = ks.map kV
  | [], _, r => by cases r; rfl
  | k :: ks, _, r => by
    cases r with | cons a r =>
    rename_i y ys
    have e : y = kV k := key_of a (by cases k <;> rfl)
    subst e
    rw [RVs.keysZ r]; rfl
theorem RFs.zips {H : Hp} : ∀ {ks : List Key} {zs : List Va} {ys : List V}, ks.length = zs.length → RVs g H zs ys → RFs g H (ks.zip zs) (ks.zip ys)
  | [], _, _, _, _ => .nil
  | k :: ks, _, _, hl, .cons c d => .cons c (RFs.zips (by simpa using hl) d)
theorem ae_dctZ (G : Good g k X N sc) {p p2 q : Pos} (ha : PE X x (cE g ta)) (hb : PE X y (cE g tb)) (hg : glB sc "dict" = true) (hg2 : glB sc "zip" = true) (hs : isStar x = false) (hs2 : isStar y = false) :
    PE X (.Call (.Name "dict" p) [.Call (.Name "zip" p2) [x, y] [] q] [] pos) (cE g fun ρ h Q => ta ρ h fun v h1 => tb ρ h1 fun w h2 => aDctZ v w h2 Q) := by
  have pa := pa_cons ha (pa_cons hb pa_nil (star_ok hs2 [] X.env)) (star_ok hs [y] X.env)
  refine pe_imp (pe_dctZ (G.gl hg) (G.bl _ (by decide +kernel)) (G.gl hg2) (G.bl _ (by decide +kernel)) (by decide +kernel) pa G.calm (star_ok hs [y] X.env) (star_all q X.env (by simp [hs2]))) fun σ H Q ⟨ρ, h, Qa, Z, rs, rh, op, q⟩ =>
    ⟨ρ, h, _, Z, rs, rh, op, fun v h1 x1 H1 op1 e1 r1 rh1 => ⟨ρ, h1, _, Z, rs.ext e1, rh1, op1, fun w h2 x2 H2 op2 e2 r2 rh2 => ?_⟩⟩
  have r1 := r1.ext e2
  cases v with
  | ref l =>
    cases r1
    obtain ⟨b, ks, zs, rfl, hl, hz, len, op3⟩ := op2
    cases r2
    obtain ⟨ys, hl', rx⟩ := rh2.o _ _ hl
    obtain rfl := RVs.keysZ rx
    obtain ⟨zs', hz', rz⟩ := rh2.o _ _ hz
    rw [G.hK]
    refine ⟨l, b, ks, zs', rfl, SqL.of hl', SqL.of hz', by rw [len, rz.length], fun p nl => ?_⟩
    have ex : Ext H2 (upd H2 p (.dK (mergeK [] (ks.zip zs')))) := .upd (.none nl)
    exact q _ _ _ _ (op3 p (rh2.fresh nl)) ((e1.trans e2).trans ex) (.ref p) (rh2.alloc nl ⟨_, upd_same, (RFs.merge (RFs.zips len rz) .nil).ext ex⟩)
  | _ => exact op2.elim
theorem ae_trvT (G : Good g k X N sc) {p p2 pos2 : Pos} (ha : PE X x (cE g ta)) (hg : glB sc "tuple" = true) (hg2 : glB sc "reversed" = true) (hs : isStar x = false) :
    PE X (.Call (.Name "tuple" p) [.Call (.Name "reversed" p2) [x] [] pos2] [] pos) (cE g fun ρ h Q => ta ρ h fun v h1 => aTrvT v h1 Q) := by
  refine pe_imp (tup_revT G.calm (G.gl hg) (G.bl _ (by decide +kernel)) (G.gl hg2) (G.bl _ (by decide +kernel)) ha (star_ok hs [] X.env)) fun σ H Q ⟨ρ, h, Qa, Z, rs, rh, op, q⟩ =>
    ⟨ρ, h, _, Z, rs, rh, op, fun v h1 x1 H1 op1 e1 r1 rh1 => ?_⟩
  cases v with
  | tup xs =>
    cases r1 with
    | @tup _ _ ys hp rx =>
      rw [G.hK]
      exact ⟨_, _, rfl, hp.sq, newS_of rh1 rx.reverse op1 fun u h' z H' qa e r rh' => q _ _ _ _ qa (e1.trans e) r rh'⟩
  | _ => exact op1.elim
theorem RVs.cutB {H : Hp} {b : Bool} {v : List Va} {x : List V} (r : RVs g H v x) : RVs g H (F2.cutB b v) (F2.cutB b x) := by
  cases b with
  | false => exact r
  | true => cases r with
    | nil => exact .nil
    | cons _ d => exact d
theorem ae_slB (G : Good g k X N sc) {p2 : Pos} (ha : PE X x (cE g ta)) (hm : PE X y (cE g tb)) :
    PE X (.Subscript x (.Slice (some y) none none p2) pos) (cE g fun ρ h Q => ta ρ h fun v h1 => tb ρ h1 fun w h2 => aSlB v w h2 Q) := by
  refine pe_imp (pe_slB ha hm) fun σ H Q ⟨ρ, h, Qa, Z, rs, rh, op, q⟩ => ⟨ρ, h, _, Z, rs, rh, op, fun v h1 x1 H1 op1 e1 r1 rh1 => ⟨ρ, h1, _, Z, rs.ext e1, rh1, op1, fun w h2 x2 H2 op2 e2 r2 rh2 => ?_⟩⟩
  have r1 := r1.ext e2
  cases v with
  | ref a =>
    obtain ⟨b, xs, rfl, hl, op2⟩ := op2
    cases r1
    cases r2
    obtain ⟨ys, hy, rx⟩ := rh2.o _ _ hl
    rw [G.hK]
    exact ⟨_, _, b, rfl, rfl, SqL.of hy, newL_of rh2 rx.cutB op2 fun u h' z H' qa e' r rh' => q _ _ _ _ qa ((e1.trans e2).trans e') r rh'⟩
  | _ => exact op2.elim
theorem ae_dctL (G : Good g k X N sc) {p : Pos} (ha : PE X x (cE g ta)) (hg : glB sc "dict" = true) (hs : isStar x = false) :
    PE X (.Call (.Name "dict" p) [x] [] pos) (cE g fun ρ h Q => ta ρ h fun v h1 => aDctL v h1 Q) := by
  refine pe_imp (pe_callTy (call_dictP G.calm) (G.gl hg) (G.bl _ (by decide +kernel)) (by decide +kernel) (pa_cons ha pa_nil (star_ok hs [] X.env)) (by decide +kernel) (by decide +kernel) (star_ok hs [] X.env) rfl) fun σ H Q ⟨ρ, h, Qa, Z, rs, rh, op, q⟩ =>
    ⟨ρ, h, _, Z, rs, rh, op, fun v h1 x1 H1 op1 e1 r1 rh1 => ?_⟩
  cases v with
  | ref a =>
    obtain ⟨kvs, ha, op1⟩ := op1
    cases r1
    obtain ⟨ys, ha', rx⟩ := rh1.o _ _ ha
    obtain ⟨ps, kvs', rfl, hp, rf⟩ := pairs_get rx
    rw [G.hK]
    refine ⟨a, ps, kvs', rfl, SqL.of ha', hp, fun l nl => ?_⟩
    have ex : Ext H1 (upd H1 l (.dK (mergeK [] kvs'))) := .upd (.none nl)
    exact q _ _ _ _ (op1 l (rh1.fresh nl)) (e1.trans ex) (.ref l) (rh1.alloc nl ⟨_, upd_same, (RFs.merge rf .nil).ext ex⟩)
  | _ => exact op1.elim
end
end F2
set_option Elab.async false
set_option linter.all false
set_option maxRecDepth 100000
set_option maxHeartbeats 4000000
namespace F2
open PySem PySem.Spec PyProof.Rows
open L2
section
variable {g : Gx} {k : Nat} {X : Cx} {N : List Str} {sc : Scope}
variable {x y z tg : Expr} {ta tb tc te : TEa} {pos : Pos} {tt tu : TTa}
mutual
def needE : E → List Need
  | .var _ | .int _ | .bl _ | .non | .str _ | .dct0 => []
  | .gint x n => [.con x n]
  | .gdef x a => [.gd x a]
  | .rpl a _ _ => needE a
  | .gstr x s => [.cos x s]
  | .sm _ a b | .bin _ a b | .cmp _ a b | .and a b | .or a b | .ix a b | .b2 _ a b | .app a b | .ext a b | .popAt a b | .cnt a b | .idx a b | .idxD a b | .rem a b | .dct1 a b | .rsl a b | .orv a b | .get1 a b | .sumL a b | .dctZ a b | .slB a b | .inD a b | .gtT a b => needE a ++ needE b
  | .neg a | .not a | .b1 _ a | .isi a _ | .lrev a | .trev a | .trvT a | .pop a | .srtR a | .lset a | .sset a | .ssetT a | .sortR a | .dctL a | .rvs a => needE a
  | .strD a => .grd :: needE a
  | .chn _ _ a b c | .ife a b c | .get a b c | .ins a b c => needE a ++ (needE b ++ needE c)
  | .tup es | .lst es => needEs es
  | .sl a lo hi => needE a ++ (needP lo ++ needP hi)
  | .stp a lo m => needE a ++ (needP lo ++ needE m)
  | .lrg r | .trg r => needR r
  | .call f sp es => .fn f sp :: needEs es
  | .callG f sp es => .fnG f sp :: needEs es
  | .callH f sp es => .fnZ f sp :: needEs es
  | .fld C o f => .fld C f :: needE o
  | .om C m sp o es => .mth C m sp :: (needE o ++ needEs es)
  | .mk C sp es => .mk C sp :: needEs es
  | .isE a kn cs => kn.flatMap (fun C => cs.map fun D => Need.isx C D) ++ (cs.map Need.isn ++ needE a)
  | .comp _ elt _ it c => needE elt ++ (needI it ++ needP c)
def needEs : Es → List Need
  | .nil => []
  | .cons e es => needE e ++ needEs es
def needP : Po → List Need
  | .no => []
  | .at e => needE e
def needR : Rg → List Need
  | .one b => needE b
  | .two a b => needE a ++ needE b
def needI : I → List Need
  | .seq e | .enum e | .txt e => needE e
  | .rg r => needR r
  | .zip a b | .dn a b => needE a ++ needE b
end
def needX : Xe → List Need
  | .call f sp es => .fnX f sp :: needEs es
  | .om C m sp o es => .mthX C m sp :: (needE o ++ needEs es)
  | .lst2 a x => needE a ++ needX x
  | .ix x i => needX x ++ needE i
  | .cl f sp x => .fn f sp :: needX x
  | .cal2 _ a sp b tp es => .fnA a sp :: .fnA b tp :: needEs es
  | .b1 _ x => needX x
  | .comp _ elt _ x c => needE elt ++ (needX x ++ needP c)
mutual
def needS : S → List Need
  | .asg _ e | .asgL _ e | .aug _ e | .ret e | .ex e => needE e
  | .sub o i e | .augS o i e => needE o ++ (needE i ++ needE e)
  | .fld C o f e => .fld C f :: (needE o ++ needE e)
  | .par _ _ a b => needE a ++ needE b
  | .par3 _ _ _ a b c => needE a ++ (needE b ++ needE c)
  | .swp o i p j e => needE o ++ (needE i ++ (needE p ++ (needE j ++ needE e)))
  | .retn | .pass | .never => []
  | .ite c a b => needE c ++ (needSs a ++ needSs b)
  | .whl c b => needE c ++ needSs b
  | .for_ _ it b => needI it ++ needSs b
  | .asgX _ x | .exX x | .retX x => needX x
  | .rse C => [.exc C]
  | .try_ kn b hs => needSs b ++ needHs kn hs
  | .forD _ _ b => needSs b
def needHs (kn : List Str) : Hs → List Need
  | .nil => []
  | .cons D _ su r => .hnd D :: (kn.map (fun C => Need.exm C D) ++ (needSs su ++ needHs kn r))
def needSs : Ss → List Need
  | .nil => []
  | .cons s ss => needS s ++ needSs ss
end
theorem all_l {P : Need → Prop} {a b : List Need} (h : ∀ q ∈ a ++ b, P q) : ∀ q ∈ a, P q := fun q hq => h q (List.mem_append_left _ hq)
theorem all_r {P : Need → Prop} {a b : List Need} (h : ∀ q ∈ a ++ b, P q) : ∀ q ∈ b, P q := fun q hq => h q (List.mem_append_right _ hq)
theorem all_h {P : Need → Prop} {a : Need} {b : List Need} (h : ∀ q ∈ a :: b, P q) : P a := h a List.mem_cons_self
theorem all_t {P : Need → Prop} {a : Need} {b : List Need} (h : ∀ q ∈ a :: b, P q) : ∀ q ∈ b, P q := fun q hq => h q (List.mem_cons_of_mem _ hq)
theorem isx_in {kn cs : List Str} {P : Need → Prop} {r : List Need} (h : ∀ q ∈ kn.flatMap (fun C => cs.map fun D => Need.isx C D) ++ r, P q) : ∀ C ∈ kn, ∀ D ∈ cs, P (.isx C D) := fun C hC D hD => h _ (List.mem_append_left _ (List.mem_flatMap.mpr ⟨C, hC, List.mem_map.mpr ⟨D, hD, rfl⟩⟩))
theorem isn_in {cs : List Str} {P : Need → Prop} {a r : List Need} (h : ∀ q ∈ a ++ (cs.map Need.isn ++ r), P q) : ∀ D ∈ cs, P (.isn D) := fun D hD => h _ (List.mem_append_right _ (List.mem_append_left _ (List.mem_map.mpr ⟨D, hD, rfl⟩)))
theorem nb {b : Bool} (h : (!b) = true) : b = false := by simpa using h
theorem pts_imp {e : List Expr} {t t' : TT} (h : PTs X e t) (i : ∀ σ H Q, t' σ H Q → t σ H Q) : PTs X e t' := ⟨fun pins s σ H Q I w => h.run pins s σ H Q I (i σ H Q w)⟩
mutual
theorem sndE : ∀ {e : E} {X : Cx} {sc : Scope} {x : Expr}, Good g k X N sc → (∀ q ∈ needE e, Nd g k X q) → chkE N e sc x = true → PE X x (cE g (rdE e))
  | .var i, X, sc, x, G, nd, h => by
    unfold chkE at h
    split at h
    · simp only [Bool.and_eq_true, decide_eq_true_eq] at h
      exact ae_var G h.1.1 h.1.2 h.2
    · cases h
  | .int n, X, sc, x, G, nd, h => by
    unfold chkE at h
    split at h
    · rw [of_decide_eq_true h]; exact ae_const pe_int (fun _ => .int _) fun ρ h Q op => op
    · cases h
  | .bl n, X, sc, x, G, nd, h => by
    unfold chkE at h
    split at h
    · rw [of_decide_eq_true h]; exact ae_const pe_bl (fun _ => .bl _) fun ρ h Q op => op
    · cases h
  | .non, X, sc, x, G, nd, h => by
    unfold chkE at h
    split at h
    · exact ae_const pe_non (fun _ => .non) fun ρ h Q op => op
    · cases h
  | .str n, X, sc, x, G, nd, h => by
    unfold chkE at h
    split at h
    · rw [of_decide_eq_true h]; exact ae_const pe_str (fun _ => .str _) fun ρ h Q op => op
    · cases h
  | .gstr n v, X, sc, x, G, nd, h => by
    unfold chkE at h
    split at h
    · simp only [Bool.and_eq_true, decide_eq_true_eq] at h
      obtain ⟨⟨rfl, h2⟩, h3⟩ := h
      obtain ⟨t, hm⟩ := nd (.cos n v) (by unfold needE; simp)
      exact ae_const (pe_glob (v := .str v) (G.gl h2) hm ⟨t, rfl⟩ (okN_ok h3).1) (fun _ => .str _) fun ρ h Q op => op
    · cases h
  | .gdef n v, X, sc, x, G, nd, h => by
    unfold chkE at h
    split at h
    · simp only [Bool.and_eq_true, decide_eq_true_eq] at h
      obtain ⟨⟨rfl, h2⟩, h3⟩ := h
      have hm := nd (.gd n v) (by unfold needE; simp)
      exact ae_const (pe_glob (v := .ref v) (G.gl h2) hm rfl (okN_ok h3).1) (fun _ => .ref _) fun ρ h Q op => op
    · cases h
  | .rpl a yt zt, X, sc, x, G, nd, h => by
    unfold chkE at h
    unfold needE at nd
    split at h
    · simp only [Bool.and_eq_true, decide_eq_true_eq] at h
      obtain ⟨⟨⟨⟨⟨⟨⟨⟨rfl, rfl⟩, rfl⟩, rfl⟩, h1⟩, h2⟩, h3⟩, h4⟩, h5⟩ := h
      exact ae_rpl G (sndE G nd h5) (nb h1) h2 h3 (nb h4)
    · cases h
  | .gint n v, X, sc, x, G, nd, h => by
    unfold chkE at h
    split at h
    · simp only [Bool.and_eq_true, decide_eq_true_eq] at h
      obtain ⟨⟨rfl, h2⟩, h3⟩ := h
      obtain ⟨t, hm⟩ := nd (.con n v) (by unfold needE; simp)
      exact ae_const (pe_glob (v := .int v) (G.gl h2) hm ⟨t, rfl⟩ (okN_ok h3).1) (fun _ => .int _) fun ρ h Q op => op
    · cases h
  | .bin o a b, X, sc, x, G, nd, h => by
    unfold chkE at h
    unfold needE at nd
    split at h
    · simp only [Bool.and_eq_true, decide_eq_true_eq] at h
      obtain ⟨⟨rfl, h2⟩, h3⟩ := h
      exact ae_bin G (sndE G (all_l nd) h2) (sndE G (all_r nd) h3)
    · cases h
  | .neg a, X, sc, x, G, nd, h => by
    unfold chkE at h
    unfold needE at nd
    split at h
    · exact ae_neg (sndE G nd h)
    · cases h
  | .not a, X, sc, x, G, nd, h => by
    unfold chkE at h
    unfold needE at nd
    split at h
    · exact ae_not (sndE G nd h)
    · cases h
  | .cmp o a b, X, sc, x, G, nd, h => by
    unfold chkE at h
    unfold needE at nd
    split at h
    · simp only [Bool.and_eq_true, decide_eq_true_eq] at h
      obtain ⟨⟨⟨rfl, h1⟩, h2⟩, h3⟩ := h
      exact ae_cmp G (sndE G (all_l nd) h2) (sndE G (all_r nd) h3) (nb h1)
    · cases h
  | .chn o p a b c, X, sc, x, G, nd, h => by
    unfold chkE at h
    unfold needE at nd
    split at h
    · simp only [Bool.and_eq_true, decide_eq_true_eq] at h
      obtain ⟨⟨⟨⟨⟨rfl, rfl⟩, h1⟩, h2⟩, h3⟩, h4⟩ := h
      exact ae_chn G (sndE G (all_l nd) h2) (sndE G (all_l (all_r nd)) h3) (sndE G (all_r (all_r nd)) h4) (nb h1)
    · cases h
  | .and a b, X, sc, x, G, nd, h => by
    unfold chkE at h
    unfold needE at nd
    split at h
    · rename_i x y r p
      rw [Bool.and_eq_true] at h
      have ha := sndE G (all_l nd) h.1
      cases r with
      | nil => exact ae_and ha (pe_one (sndE G (all_r nd) h.2))
      | cons z r => exact ae_and ha (sndE G (all_r nd) h.2)
    · cases h
  | .or a b, X, sc, x, G, nd, h => by
    unfold chkE at h
    unfold needE at nd
    split at h
    · rename_i x y r p
      rw [Bool.and_eq_true] at h
      have ha := sndE G (all_l nd) h.1
      cases r with
      | nil => exact ae_or ha (pe_one (sndE G (all_r nd) h.2))
      | cons z r => exact ae_or ha (sndE G (all_r nd) h.2)
    · cases h
  | .ife c a b, X, sc, x, G, nd, h => by
    unfold chkE at h
    unfold needE at nd
    split at h
    · simp only [Bool.and_eq_true] at h
      exact ae_ife (sndT G (all_l nd) h.1.1).1 (sndE G (all_l (all_r nd)) h.1.2) (sndE G (all_r (all_r nd)) h.2)
    · cases h
  | .tup es, X, sc, x, G, nd, h => by
    unfold chkE at h
    unfold needE at nd
    split at h
    · exact ae_tup (sndEs G nd h)
    · cases h
  | .lst es, X, sc, x, G, nd, h => by
    unfold chkE at h
    unfold needE at nd
    split at h
    · exact ae_lst (sndEs G nd h)
    · cases h
  | .dct0, X, sc, x, G, nd, h => by
    unfold chkE at h
    split at h
    · exact ae_dct0
    · cases h
  | .sm f o a, X, sc, x, G, nd, h => by
    unfold chkE at h
    unfold needE at nd
    split at h
    · simp only [Bool.and_eq_true, decide_eq_true_eq] at h
      obtain ⟨⟨⟨⟨⟨rfl, h1⟩, h2⟩, h3⟩, h4⟩, h5⟩ := h
      exact ae_sm (sndE G (all_l nd) h4) (sndE G (all_r nd) h5) (nb h1) h2 (nb h3)
    · cases h
  | .ix a i, X, sc, x, G, nd, h => by
    unfold chkE at h
    unfold needE at nd
    split at h
    · simp only [Bool.and_eq_true] at h
      exact ae_ix G (sndE G (all_l nd) h.1.2) (sndE G (all_r nd) h.2) (nb h.1.1)
    · cases h
  | .sl a lo hi, X, sc, x, G, nd, h => by
    unfold chkE at h
    unfold needE at nd
    split at h
    · simp only [Bool.and_eq_true] at h
      exact ae_sl G (sndE G (all_l nd) h.1.1) (sndP G (all_l (all_r nd)) h.1.2) (sndP G (all_r (all_r nd)) h.2)
    · cases h
  | .b1 f a, X, sc, x, G, nd, h => by
    unfold chkE at h
    unfold needE at nd
    split at h
    · simp only [Bool.and_eq_true, decide_eq_true_eq] at h
      obtain ⟨⟨⟨rfl, h1⟩, h2⟩, h3⟩ := h
      exact ae_b1 G (sndE G nd h3) h1 (nb h2)
    · cases h
  | .b2 mx a b, X, sc, x, G, nd, h => by
    unfold chkE at h
    unfold needE at nd
    split at h
    · simp only [Bool.and_eq_true, decide_eq_true_eq] at h
      obtain ⟨⟨⟨⟨⟨h0, h1⟩, h2⟩, h3⟩, h4⟩, h5⟩ := h
      exact ae_b2 G h0 (sndE G (all_l nd) h4) (sndE G (all_r nd) h5) h1 (nb h2) (nb h3)
    · cases h
  | .isi a T, X, sc, x, G, nd, h => by
    unfold chkE at h
    unfold needE at nd
    split at h
    · simp only [Bool.and_eq_true, decide_eq_true_eq] at h
      obtain ⟨⟨⟨⟨⟨⟨rfl, h1⟩, h2⟩, rfl⟩, h4⟩, h5⟩, h6⟩ := h
      exact ae_isi G (by simpa using h4) (sndE G nd h6) h1 h2 (nb h5)
    · cases h
  | .lrev a, X, sc, x, G, nd, h => by
    unfold chkE at h
    unfold needE at nd
    split at h
    · simp only [Bool.and_eq_true, decide_eq_true_eq] at h
      obtain ⟨⟨⟨⟨⟨rfl, rfl⟩, h1⟩, h2⟩, h5⟩, h6⟩ := h
      exact ae_lrev G (sndE G nd h6) h1 h2 (nb h5)
    · cases h
  | .trev a, X, sc, x, G, nd, h => by
    unfold chkE at h
    unfold needE at nd
    split at h
    · simp only [Bool.and_eq_true, decide_eq_true_eq] at h
      obtain ⟨⟨⟨⟨⟨rfl, rfl⟩, h1⟩, h2⟩, h5⟩, h6⟩ := h
      exact ae_trev G (sndE G nd h6) h1 h2 (nb h5)
    · cases h
  | .stp a lo m, X, sc, x, G, nd, h => by
    unfold chkE at h
    unfold needE at nd
    split at h
    · simp only [Bool.and_eq_true] at h
      exact ae_stp G (sndE G (all_l nd) h.1.1) (sndP G (all_l (all_r nd)) h.1.2) (sndE G (all_r (all_r nd)) h.2)
    · cases h
  | .srtR a, X, sc, x, G, nd, h => by
    unfold chkE at h
    unfold needE at nd
    split at h
    · simp only [Bool.and_eq_true, decide_eq_true_eq] at h
      obtain ⟨⟨⟨⟨rfl, hk⟩, h1⟩, h2⟩, h3⟩ := h
      obtain ⟨kk, pc, pk, rfl⟩ := rev_ok hk
      exact ae_srtR G (sndE G nd h3) h1 (nb h2)
    · cases h
  | .lset a, X, sc, x, G, nd, h => by
    unfold chkE at h
    unfold needE at nd
    split at h
    · simp only [Bool.and_eq_true, decide_eq_true_eq] at h
      obtain ⟨⟨⟨⟨⟨rfl, rfl⟩, h1⟩, h2⟩, h5⟩, h6⟩ := h
      exact ae_lset G (sndE G nd h6) h1 h2 (nb h5)
    · cases h
  | .sset a, X, sc, x, G, nd, h => by
    unfold chkE at h
    unfold needE at nd
    split at h
    · simp only [Bool.and_eq_true, decide_eq_true_eq] at h
      obtain ⟨⟨⟨⟨⟨rfl, rfl⟩, h1⟩, h2⟩, h5⟩, h6⟩ := h
      exact ae_sset G (sndE G nd h6) h1 h2 (nb h5)
    · cases h
  | .sortR a, X, sc, x, G, nd, h => by
    unfold chkE at h
    unfold needE at nd
    split at h
    · simp only [Bool.and_eq_true, decide_eq_true_eq] at h
      obtain ⟨⟨⟨rfl, h1⟩, h5⟩, h6⟩ := h
      exact ae_sortR G (sndE G nd h6) h1 (nb h5)
    · cases h
  | .strD a, X, sc, x, G, nd, h => by
    unfold chkE at h
    unfold needE at nd
    split at h
    · simp only [Bool.and_eq_true, decide_eq_true_eq] at h
      obtain ⟨⟨⟨rfl, h1⟩, h5⟩, h6⟩ := h
      exact ae_strD G (nd _ List.mem_cons_self) (sndE G (fun q hq => nd q (List.mem_cons_of_mem _ hq)) h6) h1 (nb h5)
    · cases h
  | .inD a b, X, sc, x, G, nd, h => by
    unfold chkE at h
    unfold needE at nd
    split at h
    · simp only [Bool.and_eq_true, decide_eq_true_eq] at h
      obtain ⟨⟨⟨rfl, h1⟩, h6⟩, h7⟩ := h
      exact ae_inD G (sndE G (all_l nd) h6) (sndE G (all_r nd) h7) (nb h1)
    · cases h
  | .gtT a b, X, sc, x, G, nd, h => by
    unfold chkE at h
    unfold needE at nd
    split at h
    · simp only [Bool.and_eq_true, decide_eq_true_eq] at h
      obtain ⟨⟨⟨rfl, h1⟩, h6⟩, h7⟩ := h
      exact ae_gtT G (sndE G (all_l nd) h6) (sndE G (all_r nd) h7) (nb h1)
    · cases h
  | .dctZ a b, X, sc, x, G, nd, h => by
    unfold chkE at h
    unfold needE at nd
    split at h
    · simp only [Bool.and_eq_true, decide_eq_true_eq] at h
      obtain ⟨⟨⟨⟨⟨⟨⟨rfl, rfl⟩, h1⟩, h2⟩, h4⟩, h5⟩, h6⟩, h7⟩ := h
      exact ae_dctZ G (sndE G (all_l nd) h6) (sndE G (all_r nd) h7) h1 h2 (nb h4) (nb h5)
    · cases h
  | .trvT a, X, sc, x, G, nd, h => by
    unfold chkE at h
    unfold needE at nd
    split at h
    · simp only [Bool.and_eq_true, decide_eq_true_eq] at h
      obtain ⟨⟨⟨⟨⟨rfl, rfl⟩, h1⟩, h2⟩, h5⟩, h6⟩ := h
      exact ae_trvT G (sndE G nd h6) h1 h2 (nb h5)
    · cases h
  | .slB a m, X, sc, x, G, nd, h => by
    unfold chkE at h
    unfold needE at nd
    split at h
    · simp only [Bool.and_eq_true] at h
      exact ae_slB G (sndE G (all_l nd) h.1) (sndE G (all_r nd) h.2)
    · cases h
  | .sumL a b, X, sc, x, G, nd, h => by
    unfold chkE at h
    unfold needE at nd
    split at h
    · simp only [Bool.and_eq_true, decide_eq_true_eq] at h
      obtain ⟨⟨⟨⟨⟨rfl, h1⟩, h4⟩, h5⟩, h6⟩, h7⟩ := h
      exact ae_sumL G (sndE G (all_l nd) h6) (sndE G (all_r nd) h7) h1 (nb h4) (nb h5)
    · cases h
  | .ssetT a, X, sc, x, G, nd, h => by
    unfold chkE at h
    unfold needE at nd
    split at h
    · simp only [Bool.and_eq_true, decide_eq_true_eq] at h
      obtain ⟨⟨⟨⟨⟨rfl, rfl⟩, h1⟩, h2⟩, h5⟩, h6⟩ := h
      exact ae_ssetT G (sndE G nd h6) h1 h2 (nb h5)
    · cases h
  | .dct1 a b, X, sc, x, G, nd, h => by
    unfold chkE at h
    unfold needE at nd
    split at h
    · simp only [Bool.and_eq_true] at h
      exact ae_dct1 (sndE G (all_l nd) h.1) (sndE G (all_r nd) h.2)
    · cases h
  | .dctL a, X, sc, x, G, nd, h => by
    unfold chkE at h
    unfold needE at nd
    split at h
    · simp only [Bool.and_eq_true, decide_eq_true_eq] at h
      obtain ⟨⟨⟨rfl, h1⟩, h2⟩, h3⟩ := h
      exact ae_dctL G (sndE G nd h3) h1 (nb h2)
    · cases h
  | .lrg r, X, sc, x, G, nd, h => by
    unfold chkE at h
    unfold needE at nd
    split at h
    · simp only [Bool.and_eq_true, decide_eq_true_eq] at h
      obtain ⟨⟨⟨rfl, h1⟩, h2⟩, h3⟩ := h
      exact ae_lrg G (sndR G nd h3) h1 (nb h2)
    · cases h
  | .trg r, X, sc, x, G, nd, h => by
    unfold chkE at h
    unfold needE at nd
    split at h
    · simp only [Bool.and_eq_true, decide_eq_true_eq] at h
      obtain ⟨⟨⟨rfl, h1⟩, h2⟩, h3⟩ := h
      exact ae_trg G (sndR G nd h3) h1 (nb h2)
    · cases h
  | .call f sp es, X, sc, x, G, nd, h => by
    unfold chkE at h
    unfold needE at nd
    split at h
    · rename_i n p xs q
      simp only [Bool.and_eq_true, decide_eq_true_eq] at h
      obtain ⟨⟨⟨⟨rfl, h1⟩, h2⟩, h3⟩, h4⟩ := h
      have hs := sndEs G (all_t nd) h4
      cases xs with
      | nil =>
        cases es with
        | nil => exact ae_call0 G (all_h nd) h1 h2
        | cons _ _ => unfold chkEs at h4; cases (show false = true from h4)
      | cons x xs => exact ae_call G (all_h nd) hs h1 h2 h3
    · cases h
  | .callG f sp es, X, sc, x, G, nd, h => by
    unfold chkE at h
    unfold needE at nd
    split at h
    · rename_i n p xs q
      simp only [Bool.and_eq_true, decide_eq_true_eq] at h
      obtain ⟨⟨⟨⟨rfl, h1⟩, h2⟩, h3⟩, h4⟩ := h
      have hs := sndEs G (all_t nd) h4
      cases xs with
      | nil =>
        cases es with
        | nil => exact ae_callG0 G (all_h nd) h1 h2
        | cons _ _ => unfold chkEs at h4; cases (show false = true from h4)
      | cons x xs => exact ae_callG G (all_h nd) hs h1 h2 h3
    · cases h
  | .callH f sp es, X, sc, x, G, nd, h => by
    unfold chkE at h
    unfold needE at nd
    split at h
    · rename_i n p xs q
      simp only [Bool.and_eq_true, decide_eq_true_eq] at h
      obtain ⟨⟨⟨⟨rfl, h1⟩, h2⟩, h3⟩, h4⟩ := h
      have hs := sndEs G (all_t nd) h4
      cases xs with
      | nil =>
        cases es with
        | nil => exact ae_call0 G (nd_ofZ (all_h nd)) h1 h2
        | cons _ _ => unfold chkEs at h4; cases (show false = true from h4)
      | cons x xs => exact ae_call G (nd_ofZ (all_h nd)) hs h1 h2 h3
    · cases h
  | .app o a, X, sc, x, G, nd, h => by
    unfold chkE at h
    unfold needE at nd
    split at h
    · simp only [Bool.and_eq_true, decide_eq_true_eq] at h
      obtain ⟨⟨⟨⟨⟨rfl, h1⟩, h2⟩, h3⟩, h4⟩, h5⟩ := h
      exact ae_app (sndE G (all_l nd) h4) (sndE G (all_r nd) h5) (nb h1) h2 (nb h3)
    · cases h
  | .ext o a, X, sc, x, G, nd, h => by
    unfold chkE at h
    unfold needE at nd
    split at h
    · simp only [Bool.and_eq_true, decide_eq_true_eq] at h
      obtain ⟨⟨⟨⟨⟨rfl, h1⟩, h2⟩, h3⟩, h4⟩, h5⟩ := h
      exact ae_ext (sndE G (all_l nd) h4) (sndE G (all_r nd) h5) (nb h1) h2 (nb h3)
    · cases h
  | .pop o, X, sc, x, G, nd, h => by
    unfold chkE at h
    unfold needE at nd
    split at h
    · simp only [Bool.and_eq_true, decide_eq_true_eq] at h
      obtain ⟨⟨⟨rfl, h1⟩, h2⟩, h3⟩ := h
      exact ae_pop (sndE G nd h3) (nb h1) h2
    · cases h
  | .popAt o a, X, sc, x, G, nd, h => by
    unfold chkE at h
    unfold needE at nd
    split at h
    · simp only [Bool.and_eq_true, decide_eq_true_eq] at h
      obtain ⟨⟨⟨⟨⟨rfl, h1⟩, h2⟩, h3⟩, h4⟩, h5⟩ := h
      exact ae_popAt (sndE G (all_l nd) h4) (sndE G (all_r nd) h5) (nb h1) h2 (nb h3)
    · cases h
  | .get o a b, X, sc, x, G, nd, h => by
    unfold chkE at h
    unfold needE at nd
    split at h
    · simp only [Bool.and_eq_true, decide_eq_true_eq] at h
      obtain ⟨⟨⟨⟨⟨⟨⟨rfl, h1⟩, h2⟩, h3⟩, h4⟩, h5⟩, h6⟩, h7⟩ := h
      exact ae_get G (sndE G (all_l nd) h5) (sndE G (all_l (all_r nd)) h6) (sndE G (all_r (all_r nd)) h7) (nb h1) h2 (nb h3) (nb h4)
    · cases h
  | .cnt o a, X, sc, x, G, nd, h => by
    unfold chkE at h
    unfold needE at nd
    split at h
    · simp only [Bool.and_eq_true, decide_eq_true_eq] at h
      obtain ⟨⟨⟨⟨⟨rfl, h1⟩, h2⟩, h3⟩, h4⟩, h5⟩ := h
      exact ae_cnt G (sndE G (all_l nd) h4) (sndE G (all_r nd) h5) (nb h1) h2 (nb h3)
    · cases h
  | .isE a kn cs, X, sc, x, G, nd, h => by
    unfold chkE at h
    unfold needE at nd
    split at h
    · simp only [Bool.and_eq_true, decide_eq_true_eq] at h
      obtain ⟨⟨⟨⟨⟨⟨rfl, h1⟩, h2⟩, h3⟩, h4⟩, h5⟩, h6⟩ := h
      exact ah_isE G.H (isx_in nd) (isn_in nd) (sndE G (all_r (all_r nd)) h3) h1 (nb h2) h4 (by simpa using h5) h6
    · cases h
  | .ins o a b, X, sc, x, G, nd, h => by
    unfold chkE at h
    unfold needE at nd
    split at h
    · simp only [Bool.and_eq_true, decide_eq_true_eq] at h
      obtain ⟨⟨⟨⟨⟨⟨⟨rfl, h1⟩, h2⟩, h3⟩, h4⟩, h5⟩, h6⟩, h7⟩ := h
      exact ae_ins (sndE G (all_l nd) h5) (sndE G (all_l (all_r nd)) h6) (sndE G (all_r (all_r nd)) h7) (nb h1) h2 (nb h3) (nb h4)
    · cases h
  | .rvs o, X, sc, x, G, nd, h => by
    unfold chkE at h
    unfold needE at nd
    split at h
    · simp only [Bool.and_eq_true, decide_eq_true_eq] at h
      obtain ⟨⟨⟨rfl, h1⟩, h2⟩, h3⟩ := h
      exact ae_rvs (sndE G nd h3) (nb h1) h2
    · cases h
  | .get1 o a, X, sc, x, G, nd, h => by
    unfold chkE at h
    unfold needE at nd
    split at h
    · simp only [Bool.and_eq_true, decide_eq_true_eq] at h
      obtain ⟨⟨⟨⟨⟨rfl, h1⟩, h2⟩, h3⟩, h4⟩, h5⟩ := h
      exact ae_get1 G (sndE G (all_l nd) h4) (sndE G (all_r nd) h5) (nb h1) h2 (nb h3)
    · cases h
  | .orv a b, X, sc, x, G, nd, h => by
    unfold chkE at h
    unfold needE at nd
    split at h
    · simp only [Bool.and_eq_true] at h
      exact ae_orv G (sndE G (all_l nd) h.1) (sndE G (all_r nd) h.2)
    · cases h
  | .rsl a m, X, sc, x, G, nd, h => by
    unfold chkE at h
    unfold needE at nd
    split at h
    · simp only [Bool.and_eq_true] at h
      exact ae_rsl G (sndE G (all_l nd) h.1) (sndE G (all_r nd) h.2)
    · cases h
  | .idx o a, X, sc, x, G, nd, h => by
    unfold chkE at h
    unfold needE at nd
    split at h
    · simp only [Bool.and_eq_true, decide_eq_true_eq] at h
      obtain ⟨⟨⟨⟨⟨rfl, h1⟩, h2⟩, h3⟩, h4⟩, h5⟩ := h
      exact ae_idx G (sndE G (all_l nd) h4) (sndE G (all_r nd) h5) (nb h1) h2 (nb h3)
    · cases h
  | .idxD o a, X, sc, x, G, nd, h => by
    unfold chkE at h
    unfold needE at nd
    split at h
    · simp only [Bool.and_eq_true, decide_eq_true_eq] at h
      obtain ⟨⟨⟨⟨⟨rfl, h1⟩, h2⟩, h3⟩, h4⟩, h5⟩ := h
      exact ae_idxD G (sndE G (all_l nd) h4) (sndE G (all_r nd) h5) (nb h1) h2 (nb h3)
    · cases h
  | .rem o a, X, sc, x, G, nd, h => by
    unfold chkE at h
    unfold needE at nd
    split at h
    · simp only [Bool.and_eq_true, decide_eq_true_eq] at h
      obtain ⟨⟨⟨⟨⟨rfl, h1⟩, h2⟩, h3⟩, h4⟩, h5⟩ := h
      exact ae_rem G (sndE G (all_l nd) h4) (sndE G (all_r nd) h5) (nb h1) h2 (nb h3)
    · cases h
  | .fld C o f, X, sc, x, G, nd, h => by
    unfold chkE at h
    unfold needE at nd
    split at h
    · simp only [Bool.and_eq_true, decide_eq_true_eq] at h
      obtain ⟨⟨rfl, h1⟩, h2⟩ := h
      exact ae_fld (all_h nd) (sndE G (all_t nd) h2) (nb h1)
    · cases h
  | .om C m sp o es, X, sc, x, G, nd, h => by
    unfold chkE at h
    unfold needE at nd
    split at h
    · rename_i x n p xs q
      simp only [Bool.and_eq_true, decide_eq_true_eq] at h
      obtain ⟨⟨⟨⟨⟨⟨rfl, h1⟩, h2⟩, h3⟩, h4⟩, h5⟩, h6⟩ := h
      have ho := sndE G (all_l (all_t nd)) h5
      have hs := sndEs G (all_r (all_t nd)) h6
      cases xs with
      | nil =>
        cases es with
        | nil => exact ae_om0 G (all_h nd) ho (nb h1) h2
        | cons _ _ => unfold chkEs at h6; cases (show false = true from h6)
      | cons x xs => exact ae_om G (all_h nd) ho hs (nb h1) h2 h3 h4
    · cases h
  | .mk C sp es, X, sc, x, G, nd, h => by
    unfold chkE at h
    unfold needE at nd
    split at h
    · rename_i n p xs q
      simp only [Bool.and_eq_true, decide_eq_true_eq] at h
      obtain ⟨⟨⟨⟨rfl, h1⟩, h2⟩, h3⟩, h4⟩ := h
      have hs := sndEs G (all_t nd) h4
      cases xs with
      | nil =>
        cases es with
        | nil => exact ae_mk0 G (all_h nd) h1 h2
        | cons _ _ => unfold chkEs at h4; cases (show false = true from h4)
      | cons x xs => exact ae_mk G (all_h nd) hs h1 h2 h3
    · cases h
  | .comp own elt tg it c, X, sc, x, G, nd, h => by
    unfold chkE at h
    unfold needE at nd
    split at h
    · rename_i y t i ifs scope p
      simp only [Bool.and_eq_true, List.all_eq_true] at h
      obtain ⟨⟨⟨⟨⟨⟨h1, h2⟩, h3⟩, h4⟩, h5⟩, h6⟩, h7⟩ := h
      have ok : BlkOk X.N X.env.scope scope own := by rw [G.hN, G.hsc]; exact blkOk_by h1
      have hv : ∀ i ∈ tgIx tg, i ∈ own.map (·.2) := fun i hi => by simpa using h2 i hi
      exact pe_imp (pe_lc G.calm (by rw [G.hN]; exact G.nd) (sndI G (all_l (all_r nd)) h4) ok
        (fun s H C cl fp => sndTgI (G.blk s H scope C cl fp) (fun n e => e) (vs := own.map (·.2)) h5 hv h4)
        (fun s H C cl fp => sndC (G.blk s H scope C cl fp) (all_r (all_r nd)) h6)
        (fun s H C cl fp => sndE (G.blk s H scope C cl fp) (all_l nd) h7) (fun v => set_ok (nb h3) X.env v)) fun σ H Q w => comp_of w
    · cases h
theorem sndT : ∀ {e : E} {X : Cx} {sc : Scope} {x : Expr}, Good g k X N sc → (∀ q ∈ needE e, Nd g k X q) → chkT N e sc x = true → PT X x (cT g (rdT e)) ∧ (isBop x = true → PW X x (cT g (rdT e)))
  | .not a, X, sc, x, G, nd, h => by
    unfold chkT at h
    unfold needE at nd
    split at h
    · exact ⟨at_not (sndT G nd h).1, fun z => by cases (show false = true from z)⟩
    · cases h
  | .and a b, X, sc, x, G, nd, h => by
    unfold chkT at h
    unfold needE at nd
    split at h
    · rename_i x y r p
      rw [Bool.and_eq_true] at h
      have ha := (sndT G (all_l nd) h.1).1
      have w : PW X (.BoolOp .And (x :: y :: r) p) (cT g (rdT (.and a b))) := by
        cases r with
        | nil => exact aw_and ha (pw_and1 (sndT G (all_r nd) h.2).1)
        | cons z r => exact aw_and ha ((sndT G (all_r nd) h.2).2 rfl)
      exact ⟨w.pt, fun _ => w⟩
    · cases h
  | .or a b, X, sc, x, G, nd, h => by
    unfold chkT at h
    unfold needE at nd
    split at h
    · rename_i x y r p
      rw [Bool.and_eq_true] at h
      have ha := (sndT G (all_l nd) h.1).1
      have w : PW X (.BoolOp .Or (x :: y :: r) p) (cT g (rdT (.or a b))) := by
        cases r with
        | nil => exact aw_or ha (pw_or1 (sndT G (all_r nd) h.2).1)
        | cons z r => exact aw_or ha ((sndT G (all_r nd) h.2).2 rfl)
      exact ⟨w.pt, fun _ => w⟩
    · cases h
  | .inD a b, X, sc, x, G, nd, h => by
    unfold chkT at h
    unfold needE at nd
    split at h
    · simp only [Bool.and_eq_true, decide_eq_true_eq] at h
      obtain ⟨⟨⟨rfl, h1⟩, h6⟩, h7⟩ := h
      exact ⟨at_inD G (sndE G (all_l nd) h6) (sndE G (all_r nd) h7) (nb h1), fun z => by cases (show false = true from z)⟩
    · cases h
  | .gtT a b, X, sc, x, G, nd, h => by
    unfold chkT at h
    unfold needE at nd
    split at h
    · simp only [Bool.and_eq_true, decide_eq_true_eq] at h
      obtain ⟨⟨⟨rfl, h1⟩, h6⟩, h7⟩ := h
      exact ⟨at_gtT G (sndE G (all_l nd) h6) (sndE G (all_r nd) h7) (nb h1), fun z => by cases (show false = true from z)⟩
    · cases h
  | .cmp o a b, X, sc, x, G, nd, h => by
    unfold chkT at h
    unfold needE at nd
    split at h
    · simp only [Bool.and_eq_true, decide_eq_true_eq] at h
      obtain ⟨⟨⟨rfl, h1⟩, h2⟩, h3⟩ := h
      exact ⟨at_cmp G (sndE G (all_l nd) h2) (sndE G (all_r nd) h3) (nb h1), fun z => by cases (show false = true from z)⟩
    · cases h
  | .chn o p a b c, X, sc, x, G, nd, h => by
    unfold chkT at h
    unfold needE at nd
    split at h
    · simp only [Bool.and_eq_true, decide_eq_true_eq] at h
      obtain ⟨⟨⟨⟨⟨rfl, rfl⟩, h1⟩, h2⟩, h3⟩, h4⟩ := h
      exact ⟨at_chn G (sndE G (all_l nd) h2) (sndE G (all_l (all_r nd)) h3) (sndE G (all_r (all_r nd)) h4) (nb h1), fun z => by cases (show false = true from z)⟩
    · cases h
  | .var i, X, sc, x, G, nd, h => by
    unfold chkT at h
    split at h
    · simp only [Bool.and_eq_true, decide_eq_true_eq] at h
      refine ⟨pt_imp (at_tru G (ae_var G h.1.1 h.1.2 h.2) rfl) fun σ H Q ⟨ρ, h, Qa, Z, rs, rh, op, q⟩ => ⟨ρ, h, Qa, Z, rs, rh, op, q⟩, fun z => by cases (show false = true from z)⟩
    · cases h
  | .bl b, X, sc, x, G, nd, h => by
    unfold chkT at h
    split at h
    · rw [of_decide_eq_true h]
      exact ⟨at_tru G (ta := rdE (.bl _)) (ae_const pe_bl (fun _ => .bl _) fun ρ h Q op => op) rfl, fun z => by cases (show false = true from z)⟩
    · cases h
  | .b1 f a, X, sc, x, G, nd, h => by
    unfold chkT at h
    unfold needE at nd
    split at h
    · simp only [Bool.and_eq_true, decide_eq_true_eq] at h
      obtain ⟨⟨⟨rfl, h1⟩, h2⟩, h3⟩ := h
      exact ⟨at_tru G (ae_b1 G (sndE G nd h3) h1 (nb h2)) rfl, fun z => by cases (show false = true from z)⟩
    · cases h
  | .sm f o a, X, sc, x, G, nd, h => by
    unfold chkT at h
    unfold needE at nd
    split at h
    · simp only [Bool.and_eq_true, decide_eq_true_eq] at h
      obtain ⟨⟨⟨⟨⟨rfl, h1⟩, h2⟩, h3⟩, h4⟩, h5⟩ := h
      exact ⟨at_tru G (ae_sm (sndE G (all_l nd) h4) (sndE G (all_r nd) h5) (nb h1) h2 (nb h3)) rfl, fun z => by cases (show false = true from z)⟩
    · cases h
  | .isi a T, X, sc, x, G, nd, h => by
    unfold chkT at h
    unfold needE at nd
    split at h
    · simp only [Bool.and_eq_true, decide_eq_true_eq] at h
      obtain ⟨⟨⟨⟨⟨⟨rfl, h1⟩, h2⟩, rfl⟩, h4⟩, h5⟩, h6⟩ := h
      exact ⟨at_tru G (ae_isi G (by simpa using h4) (sndE G nd h6) h1 h2 (nb h5)) rfl, fun z => by cases (show false = true from z)⟩
    · cases h
  | .call f sp es, X, sc, x, G, nd, h => by
    unfold chkT at h
    unfold needE at nd
    split at h
    · rename_i n p xs q
      simp only [Bool.and_eq_true, decide_eq_true_eq] at h
      obtain ⟨⟨⟨⟨rfl, h1⟩, h2⟩, h3⟩, h4⟩ := h
      have hs := sndEs G (all_t nd) h4
      refine ⟨?_, fun z => by cases (show false = true from z)⟩
      cases xs with
      | nil =>
        cases es with
        | nil => exact at_tru G (ae_call0 G (all_h nd) h1 h2) rfl
        | cons _ _ => unfold chkEs at h4; cases (show false = true from h4)
      | cons x xs => exact at_tru G (ae_call G (all_h nd) hs h1 h2 h3) rfl
    · cases h
  | .callG f sp es, X, sc, x, G, nd, h => by
    unfold chkT at h
    unfold needE at nd
    split at h
    · rename_i n p xs q
      simp only [Bool.and_eq_true, decide_eq_true_eq] at h
      obtain ⟨⟨⟨⟨rfl, h1⟩, h2⟩, h3⟩, h4⟩ := h
      have hs := sndEs G (all_t nd) h4
      refine ⟨?_, fun z => by cases (show false = true from z)⟩
      cases xs with
      | nil =>
        cases es with
        | nil => exact at_tru G (ae_callG0 G (all_h nd) h1 h2) rfl
        | cons _ _ => unfold chkEs at h4; cases (show false = true from h4)
      | cons x xs => exact at_tru G (ae_callG G (all_h nd) hs h1 h2 h3) rfl
    · cases h
  | .ix a i, X, sc, x, G, nd, h => by
    unfold chkT at h
    unfold needE at nd
    split at h
    · simp only [Bool.and_eq_true] at h
      exact ⟨at_tru G (ae_ix G (sndE G (all_l nd) h.1.2) (sndE G (all_r nd) h.2) (nb h.1.1)) rfl, fun z => by cases (show false = true from z)⟩
    · cases h
  | .fld C o f, X, sc, x, G, nd, h => by
    unfold chkT at h
    unfold needE at nd
    split at h
    · simp only [Bool.and_eq_true, decide_eq_true_eq] at h
      obtain ⟨⟨rfl, h1⟩, h2⟩ := h
      exact ⟨at_tru G (ae_fld (all_h nd) (sndE G (all_t nd) h2) (nb h1)) rfl, fun z => by cases (show false = true from z)⟩
    · cases h
  | .isE a kn cs, X, sc, x, G, nd, h => by
    unfold chkT at h
    unfold needE at nd
    split at h
    · simp only [Bool.and_eq_true, decide_eq_true_eq] at h
      obtain ⟨⟨⟨⟨⟨⟨rfl, h1⟩, h2⟩, h3⟩, h4⟩, h5⟩, h6⟩ := h
      exact ⟨at_tru G (ah_isE G.H (isx_in nd) (isn_in nd) (sndE G (all_r (all_r nd)) h3) h1 (nb h2) h4 (by simpa using h5) h6) rfl, fun z => by cases (show false = true from z)⟩
    · cases h
  | .om C m sp o es, X, sc, x, G, nd, h => by
    unfold chkT at h
    unfold needE at nd
    split at h
    · rename_i x n p xs q
      simp only [Bool.and_eq_true, decide_eq_true_eq] at h
      obtain ⟨⟨⟨⟨⟨⟨rfl, h1⟩, h2⟩, h3⟩, h4⟩, h5⟩, h6⟩ := h
      have ho := sndE G (all_l (all_t nd)) h5
      have hs := sndEs G (all_r (all_t nd)) h6
      refine ⟨?_, fun z => by cases (show false = true from z)⟩
      cases xs with
      | nil =>
        cases es with
        | nil => exact at_tru G (ae_om0 G (all_h nd) ho (nb h1) h2) rfl
        | cons _ _ => unfold chkEs at h6; cases (show false = true from h6)
      | cons x xs => exact at_tru G (ae_om G (all_h nd) ho hs (nb h1) h2 h3 h4) rfl
    · cases h
  | .bin o a b, X, sc, x, G, nd, h => by
    unfold chkT at h
    unfold needE at nd
    split at h
    · simp only [Bool.and_eq_true, decide_eq_true_eq] at h
      obtain ⟨⟨rfl, h2⟩, h3⟩ := h
      exact ⟨at_tru G (ae_bin G (sndE G (all_l nd) h2) (sndE G (all_r nd) h3)) rfl, fun z => by cases (show false = true from z)⟩
    · cases h
  | .int _, _, _, _, _, _, h | .non, _, _, _, _, _, h | .str _, _, _, _, _, _, h | .gint _ _, _, _, _, _, _, h | .gstr _ _, _, _, _, _, _, h | .gdef _ _, _, _, _, _, _, h | .rpl _ _ _, _, _, _, _, _, h | .neg _, _, _, _, _, _, h | .ife _ _ _, _, _, _, _, _, h | .tup _, _, _, _, _, _, h
  | .lst _, _, _, _, _, _, h | .dct0, _, _, _, _, _, h | .sl _ _ _, _, _, _, _, _, h | .b2 _ _ _, _, _, _, _, _, h | .lrev _, _, _, _, _, _, h | .trev _, _, _, _, _, _, h | .trvT _, _, _, _, _, _, h | .slB _ _, _, _, _, _, _, h | .lrg _, _, _, _, _, _, h | .trg _, _, _, _, _, _, h | .lset _, _, _, _, _, _, h | .sset _, _, _, _, _, _, h | .ssetT _, _, _, _, _, _, h | .sortR _, _, _, _, _, _, h | .sumL _ _, _, _, _, _, _, h | .dctZ _ _, _, _, _, _, _, h | .strD _, _, _, _, _, _, h | .dct1 _ _, _, _, _, _, _, h | .dctL _, _, _, _, _, _, h
  | .app _ _, _, _, _, _, _, h | .ext _ _, _, _, _, _, _, h | .pop _, _, _, _, _, _, h | .popAt _ _, _, _, _, _, _, h | .get _ _ _, _, _, _, _, _, h | .cnt _ _, _, _, _, _, _, h | .idx _ _, _, _, _, _, _, h | .idxD _ _, _, _, _, _, _, h | .rem _ _, _, _, _, _, _, h | .ins _ _ _, _, _, _, _, _, h | .rvs _, _, _, _, _, _, h | .get1 _ _, _, _, _, _, _, h | .rsl _ _, _, _, _, _, _, h | .orv _ _, _, _, _, _, _, h | .stp _ _ _, _, _, _, _, _, h | .srtR _, _, _, _, _, _, h
  | .callH _ _ _, _, _, _, _, _, h | .mk _ _ _, _, _, _, _, _, h | .comp _ _ _ _ _, _, _, _, _, _, h => by unfold chkT at h; cases h
theorem sndEs : ∀ {es : Es} {X : Cx} {sc : Scope} {xs : List Expr}, Good g k X N sc → (∀ q ∈ needEs es, Nd g k X q) → chkEs N es sc xs = true → PA X xs (cA g (rdEs es))
  | .nil, X, sc, xs, G, nd, h => by
    unfold chkEs at h
    cases xs with
    | nil => exact aa_nil
    | cons _ _ => cases (show false = true from h)
  | .cons e es, X, sc, xs, G, nd, h => by
    unfold chkEs at h
    unfold needEs at nd
    cases xs with
    | nil => cases (show false = true from h)
    | cons x r =>
      have h : (!isStar x && chkE N e sc x && chkEs N es sc r) = true := h
      simp only [Bool.and_eq_true] at h
      exact aa_cons (sndE G (all_l nd) h.1.2) (sndEs G (all_r nd) h.2) (nb h.1.1)
theorem sndP : ∀ {p : Po} {X : Cx} {sc : Scope} {x : Option Expr}, Good g k X N sc → (∀ q ∈ needP p, Nd g k X q) → chkP N p sc x = true → PO X x (cP g (rdP p))
  | .no, X, sc, x, G, nd, h => by
    unfold chkP at h
    cases x with
    | none => exact ap_no
    | some _ => cases (show false = true from h)
  | .at e, X, sc, x, G, nd, h => by
    unfold chkP at h
    unfold needP at nd
    cases x with
    | none => cases (show false = true from h)
    | some y => exact ap_at (sndE G nd h)
theorem sndC : ∀ {p : Po} {X : Cx} {sc : Scope} {x : List Expr}, Good g k X N sc → (∀ q ∈ needP p, Nd g k X q) → chkC N p sc x = true → PTs X x (cT g (rdC p))
  | .no, X, sc, x, G, nd, h => by
    unfold chkC at h
    cases x with
    | nil => exact pts_imp pts_nil fun σ H Q ⟨ρ, h, Qa, Z, rs, rh, op, q⟩ => q _ _ _ op .refl rh
    | cons _ _ => cases (show false = true from h)
  | .at e, X, sc, x, G, nd, h => by
    unfold chkC at h
    unfold needP at nd
    split at h
    · exact pts_one (sndT G nd h).1
    · cases h
theorem sndR : ∀ {r : Rg} {X : Cx} {sc : Scope} {x : Expr}, Good g k X N sc → (∀ q ∈ needR r, Nd g k X q) → chkR N r sc x = true → PRg X x (cR g (rdR r))
  | .one b, X, sc, x, G, nd, h => by
    unfold chkR at h
    unfold needR at nd
    split at h
    · simp only [Bool.and_eq_true, decide_eq_true_eq] at h
      obtain ⟨⟨⟨rfl, h1⟩, h2⟩, h3⟩ := h
      exact ar_one G (sndE G nd h3) h1 (nb h2)
    · cases h
  | .two a b, X, sc, x, G, nd, h => by
    unfold chkR at h
    unfold needR at nd
    split at h
    · simp only [Bool.and_eq_true, decide_eq_true_eq] at h
      obtain ⟨⟨⟨⟨⟨rfl, h1⟩, h2⟩, h3⟩, h4⟩, h5⟩ := h
      exact ar_two G (sndE G (all_l nd) h4) (sndE G (all_r nd) h5) h1 (nb h3) (nb h2)
    · cases h
theorem sndI : ∀ {i : I} {X : Cx} {sc : Scope} {t x : Expr}, Good g k X N sc → (∀ q ∈ needI i, Nd g k X q) → chkI N i sc t x = true → PI X t x (cI g (wkI i) (rdI i))
  | .seq e, X, sc, t, x, G, nd, h => by
    unfold chkI at h
    unfold needI at nd
    exact pi_seq G (sndE G nd h)
  | .txt e, X, sc, t, x, G, nd, h => by
    unfold chkI at h
    unfold needI at nd
    exact pi_txt (sndE G nd h)
  | .rg r, X, sc, t, x, G, nd, h => by
    unfold chkI at h
    unfold needI at nd
    exact ai_rg G (sndR G nd h)
  | .enum e, X, sc, t, x, G, nd, h => by
    unfold chkI at h
    unfold needI at nd
    split at h
    · simp only [Bool.and_eq_true, decide_eq_true_eq] at h
      obtain ⟨⟨⟨rfl, h1⟩, h2⟩, h3⟩ := h
      exact ai_enum G (sndE G nd h3) h1 (nb h2)
    · cases h
  | .zip a b, X, sc, t, x, G, nd, h => by
    unfold chkI at h
    unfold needI at nd
    split at h
    · simp only [Bool.and_eq_true, decide_eq_true_eq] at h
      obtain ⟨⟨⟨⟨⟨rfl, h1⟩, h2⟩, h3⟩, h4⟩, h5⟩ := h
      exact ai_zip G (sndE G (all_l nd) h4) (sndE G (all_r nd) h5) h1 (nb h2) (nb h3)
    · cases h
  | .dn a b, X, sc, t, x, G, nd, h => by
    unfold chkI at h
    unfold needI at nd
    split at h
    · simp only [Bool.and_eq_true, decide_eq_true_eq] at h
      obtain ⟨⟨⟨⟨⟨⟨rfl, rfl⟩, h1⟩, h2⟩, h3⟩, h4⟩, h5⟩ := h
      exact ai_dn G (sndE G (all_l nd) h4) (sndE G (all_r nd) h5) h1 (nb h2) (nb h3)
    · cases h
end
theorem sndX {W : WX} : ∀ {e : Xe} {x : Expr}, Good g k X N sc → L2N.Takes X W → (∀ q ∈ needX e, Nd g k X q) → chkX N sc e x = true → PE X x (cX g W (rdX e))
  | .call f sp es, x, G, tk, nd, h => by
    unfold chkX at h
    unfold needX at nd
    split at h
    · rename_i n p xs q
      simp only [Bool.and_eq_true, decide_eq_true_eq] at h
      obtain ⟨⟨⟨⟨⟨rfl, h1⟩, h2⟩, h0⟩, h3⟩, h4⟩ := h
      have hs := sndEs G (all_t nd) h4
      cases xs with
      | nil => cases h0
      | cons x xs => exact ax_call G tk (all_h nd) hs h1 h2 h3
    · cases h
  | .om C m sp o es, x, G, tk, nd, h => by
    unfold chkX at h
    unfold needX at nd
    split at h
    · rename_i x n p xs q
      simp only [Bool.and_eq_true, decide_eq_true_eq] at h
      obtain ⟨⟨⟨⟨⟨⟨rfl, h1⟩, h2⟩, h3⟩, h4⟩, h5⟩, h6⟩ := h
      have ho := sndE G (all_l (all_t nd)) h5
      have hs := sndEs G (all_r (all_t nd)) h6
      cases xs with
      | nil =>
        cases es with
        | nil => exact ax_om0 G tk (all_h nd) ho (nb h1) h2
        | cons _ _ => unfold chkEs at h6; cases (show false = true from h6)
      | cons x xs => exact ax_om G tk (all_h nd) ho hs (nb h1) h2 h3 h4
    · cases h
  | .cal2 i a sp b tp es, x, G, tk, nd, h => by
    unfold chkX at h
    unfold needX at nd
    split at h
    · rename_i n p xs q
      simp only [Bool.and_eq_true, decide_eq_true_eq] at h
      obtain ⟨⟨⟨⟨⟨h1, h2⟩, h3⟩, h0⟩, h5⟩, h4⟩ := h
      have hs := sndEs G (all_t (all_t nd)) h4
      cases xs with
      | nil => cases h0
      | cons x xs => exact ax_cal2 G tk (all_h nd) (all_h (all_t nd)) hs h1 h2 h3 h5
    · cases h
  | .lst2 a x, e, G, tk, nd, h => by
    unfold chkX at h
    unfold needX at nd
    split at h
    · simp only [Bool.and_eq_true] at h
      obtain ⟨⟨⟨h1, h2⟩, h3⟩, h4⟩ := h
      exact ax_lst2 (sndE G (all_l nd) h3) (sndX G tk (all_r nd) h4) (nb h1) (nb h2)
    · cases h
  | .ix x i, e, G, tk, nd, h => by
    unfold chkX at h
    unfold needX at nd
    split at h
    · simp only [Bool.and_eq_true] at h
      exact ax_ix G (sndX G tk (all_l nd) h.1.2) (sndE G (all_r nd) h.2) (nb h.1.1)
    · cases h
  | .cl f sp x, e, G, tk, nd, h => by
    unfold chkX at h
    unfold needX at nd
    split at h
    · simp only [Bool.and_eq_true, decide_eq_true_eq] at h
      obtain ⟨⟨⟨⟨rfl, h1⟩, h2⟩, h3⟩, h4⟩ := h
      exact ax_cl G (all_h nd) (sndX G tk (all_t nd) h4) h1 h2 (nb h3)
    · cases h
  | .b1 f x, e, G, tk, nd, h => by
    unfold chkX at h
    unfold needX at nd
    split at h
    · simp only [Bool.and_eq_true, decide_eq_true_eq] at h
      obtain ⟨⟨⟨rfl, h1⟩, h2⟩, h3⟩ := h
      exact ax_b1 G (sndX G tk nd h3) h1 (nb h2)
    · cases h
  | .comp own elt tg x c, e, G, tk, nd, h => by
    unfold chkX at h
    unfold needX at nd
    split at h
    · rename_i y t i ifs scope p
      simp only [Bool.and_eq_true, List.all_eq_true] at h
      obtain ⟨⟨⟨⟨⟨⟨h1, h2⟩, h3⟩, h4⟩, h5⟩, h6⟩, h7⟩ := h
      have ok : BlkOk X.N X.env.scope scope own := by rw [G.hN, G.hsc]; exact blkOk_by h1
      have hv : ∀ i ∈ tgIx tg, i ∈ own.map (·.2) := fun i hi => by simpa using h2 i hi
      exact pe_imp (pe_lc G.calm (by rw [G.hN]; exact G.nd) (pi_seqX G (sndX G tk (all_l (all_r nd)) h4)) ok
        (fun s H C cl fp => sndTg (G.blk s H scope C cl fp) (fun n e => e) (vs := own.map (·.2)) h5 hv)
        (fun s H C cl fp => sndC (G.blk s H scope C cl fp) (all_r (all_r nd)) h6)
        (fun s H C cl fp => sndE (G.blk s H scope C cl fp) (all_l nd) h7) (fun v => set_ok (nb h3) X.env v)) fun σ H Q w => comp_ofX w
    · cases h
theorem varH {g : Gx} {X : Cx} {sc : Scope} {e : E} {x : Expr} (G : GoodH g X N sc) (ho : isVarE e = true) (h : chkE N e sc x = true) : PE X x (cE g (rdE e)) := by
  cases e with
  | var i =>
    unfold chkE at h
    split at h
    · simp only [Bool.and_eq_true, decide_eq_true_eq] at h
      exact ah_var G h.1.1 h.1.2 h.2
    · cases h
  | _ => cases (show false = true from ho)
theorem conH {g : Gx} {X : Cx} {sc : Scope} {c : Po} {x : List Expr} (G : GoodH g X N sc) (ho : (match c with | .no => true | .at e => isVarE e) = true) (h : chkC N c sc x = true) : PTs X x (cT g (rdC c)) := by
  cases c with
  | no =>
    unfold chkC at h
    cases x with
    | nil => exact pts_imp pts_nil fun σ H Q ⟨ρ, h, Qa, Z, rs, rh, op, q⟩ => q _ _ _ op .refl rh
    | cons _ _ => cases (show false = true from h)
  | «at» e =>
    unfold chkC at h
    split at h
    · cases e with
      | var i =>
        unfold chkT at h
        split at h
        · simp only [Bool.and_eq_true, decide_eq_true_eq] at h
          exact pts_one (pt_imp (ah_tru G (ah_var G h.1.1 h.1.2 h.2) rfl) fun σ H Q ⟨ρ, h, Qa, Z, rs, rh, op, q⟩ => ⟨ρ, h, Qa, Z, rs, rh, op, q⟩)
        · cases h
      | _ => cases (show false = true from ho)
    · cases h
variable {a0 : Addr}
mutual
theorem sndEH : ∀ {e : E} {x : Expr}, GoodH (g.h a0) X N sc → X.A.handled = some (.ref a0) → (∀ q ∈ needE e, Nd g k X q) → hotE e = true → chkE N e sc x = true → PE X x (cE (g.h a0) (rdE e))
  | .var i, x, G, hA, nd, ho, h => by
    unfold chkE at h
    split at h
    · simp only [Bool.and_eq_true, decide_eq_true_eq] at h
      exact ah_var G h.1.1 h.1.2 h.2
    · cases h
  | .int n, x, G, hA, nd, ho, h => by
    unfold chkE at h
    split at h
    · rw [of_decide_eq_true h]; exact ae_const pe_int (fun _ => .int _) fun ρ h Q op => op
    · cases h
  | .bl n, x, G, hA, nd, ho, h => by
    unfold chkE at h
    split at h
    · rw [of_decide_eq_true h]; exact ae_const pe_bl (fun _ => .bl _) fun ρ h Q op => op
    · cases h
  | .non, x, G, hA, nd, ho, h => by
    unfold chkE at h
    split at h
    · exact ae_const pe_non (fun _ => .non) fun ρ h Q op => op
    · cases h
  | .str n, x, G, hA, nd, ho, h => by
    unfold chkE at h
    split at h
    · rw [of_decide_eq_true h]; exact ae_const pe_str (fun _ => .str _) fun ρ h Q op => op
    · cases h
  | .isE a kn cs, x, G, hA, nd, ho, h => by
    unfold chkE at h
    unfold needE at nd
    unfold hotE at ho
    split at h
    · simp only [Bool.and_eq_true, decide_eq_true_eq] at h
      obtain ⟨⟨⟨⟨⟨⟨rfl, h1⟩, h2⟩, h3⟩, h4⟩, h5⟩, h6⟩ := h
      exact ah_isE (k := k) G (fun C hC D hD => (isx_in nd C hC D hD : Nd g k X (.isx C D))) (fun D hD => (isn_in nd D hD : Nd g k X (.isn D))) (sndEH G hA (all_r (all_r nd)) ho h3) h1 (nb h2) h4 (by simpa using h5) h6
    · cases h
  | .and a b, x, G, hA, nd, ho, h => by
    unfold chkE at h
    unfold needE at nd
    unfold hotE at ho
    rw [Bool.and_eq_true] at ho
    split at h
    · rename_i x y r p
      rw [Bool.and_eq_true] at h
      have ha := sndEH G hA (all_l nd) ho.1 h.1
      cases r with
      | nil => exact ae_and ha (pe_one (sndEH G hA (all_r nd) ho.2 h.2))
      | cons z r => exact ae_and ha (sndEH G hA (all_r nd) ho.2 h.2)
    · cases h
  | .or a b, x, G, hA, nd, ho, h => by
    unfold chkE at h
    unfold needE at nd
    unfold hotE at ho
    rw [Bool.and_eq_true] at ho
    split at h
    · rename_i x y r p
      rw [Bool.and_eq_true] at h
      have ha := sndEH G hA (all_l nd) ho.1 h.1
      cases r with
      | nil => exact ae_or ha (pe_one (sndEH G hA (all_r nd) ho.2 h.2))
      | cons z r => exact ae_or ha (sndEH G hA (all_r nd) ho.2 h.2)
    · cases h
  | .callH f sp es, x, G, hA, nd, ho, h => by
    unfold chkE at h
    unfold needE at nd
    unfold hotE at ho
    split at h
    · rename_i n p xs q
      simp only [Bool.and_eq_true, decide_eq_true_eq] at h
      obtain ⟨⟨⟨⟨rfl, h1⟩, h2⟩, h3⟩, h4⟩ := h
      have hs := sndEsH G hA (all_t nd) ho h4
      cases xs with
      | nil =>
        cases es with
        | nil => exact ah_call0 G hA (all_h nd) h1 h2
        | cons _ _ => unfold chkEs at h4; cases (show false = true from h4)
      | cons x xs => exact ah_call G hA (all_h nd) hs h1 h2 h3
    · cases h
  | .not a, x, G, hA, nd, ho, h => by
    unfold chkE at h
    unfold needE at nd
    unfold hotE at ho
    split at h
    · exact ae_not (sndEH G hA nd ho h)
    · cases h
  | .bin o a b, x, G, hA, nd, ho, h => by
    unfold chkE at h
    unfold needE at nd
    unfold hotE at ho
    rw [Bool.and_eq_true] at ho
    split at h
    · simp only [Bool.and_eq_true, decide_eq_true_eq] at h
      obtain ⟨⟨rfl, h2⟩, h3⟩ := h
      exact ah_bin G (sndEH G hA (all_l nd) ho.1 h2) (sndEH G hA (all_r nd) ho.2 h3)
    · cases h
  | .lst es, x, G, hA, nd, ho, h => by
    unfold chkE at h
    unfold needE at nd
    unfold hotE at ho
    split at h
    · exact ae_lst (sndEsH G hA nd ho h)
    · cases h
  | .tup es, x, G, hA, nd, ho, h => by
    unfold chkE at h
    unfold needE at nd
    unfold hotE at ho
    split at h
    · exact ae_tup (sndEsH G hA nd ho h)
    · cases h
  | .comp own elt tg it c, x, G, hA, nd, ho, h => by
    unfold chkE at h
    unfold hotE at ho
    split at h
    · rename_i y t i ifs scope p
      simp only [Bool.and_eq_true, List.all_eq_true] at h ho
      obtain ⟨⟨⟨⟨⟨⟨h1, h2⟩, h3⟩, h4⟩, h5⟩, h6⟩, h7⟩ := h
      obtain ⟨⟨⟨o1, o2⟩, o3⟩, o4⟩ := ho
      have ok : BlkOk X.N X.env.scope scope own := by rw [G.hN, G.hsc]; exact blkOk_by h1
      have hv : ∀ i ∈ tgIx tg, i ∈ own.map (·.2) := fun i hi => by simpa using h2 i hi
      cases it with
      | seq e =>
        unfold chkI at h4
        refine pe_imp (pe_lcH (by rw [G.hN]; exact G.nd) (pih_seq G rfl hA (varH G o3 h4)) ok
          (fun s H C cl fp => sndTgH (G.blk s H scope C cl fp) (fun n e => e) (vs := own.map (·.2)) o2 h5 hv)
          (fun s H C cl fp => conH (G.blk s H scope C cl fp) o4 h6)
          (fun s H C cl fp => varH (G.blk s H scope C cl fp) o1 h7) (fun v => set_ok (nb h3) X.env v)) fun σ H Q w => comp_ofH rfl hA w
      | _ => cases o3
    · cases h
  | .gint _ _, _, _, _, _, ho, _ | .gstr _ _, _, _, _, _, ho, _ | .gdef _ _, _, _, _, _, ho, _ | .rpl _ _ _, _, _, _, _, ho, _ | .neg _, _, _, _, _, ho, _ | .cmp _ _ _, _, _, _, _, ho, _ | .chn _ _ _ _ _, _, _, _, _, ho, _ | .ife _ _ _, _, _, _, _, ho, _ | .dct0, _, _, _, _, ho, _ | .sm _ _ _, _, _, _, _, ho, _ | .ix _ _, _, _, _, _, ho, _ | .sl _ _ _, _, _, _, _, ho, _ | .b1 _ _, _, _, _, _, ho, _ | .b2 _ _ _, _, _, _, _, ho, _ | .isi _ _, _, _, _, _, ho, _
  | .lrev _, _, _, _, _, ho, _ | .trev _, _, _, _, _, ho, _ | .trvT _, _, _, _, _, ho, _ | .slB _ _, _, _, _, _, ho, _ | .lset _, _, _, _, _, ho, _ | .sset _, _, _, _, _, ho, _ | .ssetT _, _, _, _, _, ho, _ | .sortR _, _, _, _, _, ho, _ | .sumL _ _, _, _, _, _, ho, _ | .dctZ _ _, _, _, _, _, ho, _ | .strD _, _, _, _, _, ho, _ | .inD _ _, _, _, _, _, ho, _ | .gtT _ _, _, _, _, _, ho, _ | .dct1 _ _, _, _, _, _, ho, _ | .dctL _, _, _, _, _, ho, _ | .lrg _, _, _, _, _, ho, _ | .trg _, _, _, _, _, ho, _ | .call _ _ _, _, _, _, _, ho, _ | .callG _ _ _, _, _, _, _, ho, _ | .rsl _ _, _, _, _, _, ho, _ | .orv _ _, _, _, _, _, ho, _ | .stp _ _ _, _, _, _, _, ho, _ | .srtR _, _, _, _, _, ho, _
  | .app _ _, _, _, _, _, ho, _ | .ext _ _, _, _, _, _, ho, _ | .pop _, _, _, _, _, ho, _ | .popAt _ _, _, _, _, _, ho, _ | .get _ _ _, _, _, _, _, ho, _ | .cnt _ _, _, _, _, _, ho, _ | .idx _ _, _, _, _, _, ho, _ | .idxD _ _, _, _, _, _, ho, _ | .rem _ _, _, _, _, _, ho, _ | .ins _ _ _, _, _, _, _, ho, _ | .rvs _, _, _, _, _, ho, _ | .get1 _ _, _, _, _, _, ho, _ | .fld _ _ _, _, _, _, _, ho, _ | .om _ _ _ _ _, _, _, _, _, ho, _ | .mk _ _ _, _, _, _, _, ho, _ => by unfold hotE at ho; cases ho
theorem sndEsH : ∀ {es : Es} {xs : List Expr}, GoodH (g.h a0) X N sc → X.A.handled = some (.ref a0) → (∀ q ∈ needEs es, Nd g k X q) → hotE.hotEs es = true → chkEs N es sc xs = true → PA X xs (cA (g.h a0) (rdEs es))
  | .nil, xs, G, hA, nd, ho, h => by
    unfold chkEs at h
    cases xs with
    | nil => exact aa_nil
    | cons _ _ => cases (show false = true from h)
  | .cons e es, xs, G, hA, nd, ho, h => by
    unfold chkEs at h
    unfold needEs at nd
    unfold hotE.hotEs at ho
    rw [Bool.and_eq_true] at ho
    cases xs with
    | nil => cases (show false = true from h)
    | cons x r =>
      have h : (!isStar x && chkE N e sc x && chkEs N es sc r) = true := h
      simp only [Bool.and_eq_true] at h
      exact aa_cons (sndEH G hA (all_l nd) ho.1 h.1.2) (sndEsH G hA (all_r nd) ho.2 h.2) (nb h.1.1)
end
theorem hot_ncmp {e : E} {x : Expr} (ho : hotE e = true) (hc : isCmpE e = false) (h : chkE N e sc x = true) : isCmpr x = false := by
  cases e <;> first | (unfold hotE at ho; cases ho; done) | (cases hc; done) | (unfold chkE at h; split at h <;> first | rfl | cases h)
end
end F2
set_option Elab.async false
set_option linter.all false
set_option maxRecDepth 100000
set_option maxHeartbeats 4000000
namespace F2
open PySem PySem.Spec PyProof.Rows
open L2
section
variable {g : Gx} {k : Nat} {X : Cx} {N : List Str} {sc : Scope}
variable {x y z tg : Expr} {ta tb tc te : TEa} {pos : Pos} {tt tu : TTa} {ts tv : TSa} {W : WX}
theorem as_asg {tgb : Va → Sa → (Sa → Prop) → Prop} {σ : L2.St} {H : Hp} {D : Ends} (w : cS g W (fun D ρ h => ta ρ h fun v h1 => tgb v ρ fun ρ' => D.nx ρ' h1) D σ H) {vs : List Nat} : tAsg (cE g ta) (cG g false vs tgb) D σ H := by
  obtain ⟨ρ, h, Da, Z, rs, rh, op, qn, qr, qx⟩ := w
  exact ⟨ρ, h, _, Z, rs, rh, op, fun v h1 x1 H1 op1 e1 r1 rh1 => ⟨v, ρ, _, r1, rs.ext e1, op1, fun ρ' σ' op2 rs2 _ => qn _ _ _ _ op2 e1 rs2 rh1⟩⟩
theorem as_nm {i : Nat} {σ : L2.St} {H : Hp} {D : Ends} {tE : TE} (he : ∀ Q, cE g ta σ H Q → tE σ H Q) (w : cS g W (fun D ρ h => ta ρ h fun v h1 => bnd (.nm i) v ρ fun ρ' => D.nx ρ' h1) D σ H) : tAsg tE (gName i) D σ H := by
  obtain ⟨ρ, h, Da, Z, rs, rh, op, qn, qr, qx⟩ := w
  exact he _ ⟨ρ, h, _, Z, rs, rh, op, fun v h1 x1 H1 op1 e1 r1 rh1 => qn _ _ _ _ op1 e1 ((rs.ext e1).set r1 i) rh1⟩
theorem sw_val {elt : Expr} {gs : List Comprehension} {scope : Scope} {p py : Pos} {n : Str} {l : Nat} {env : Env} (hk : env.scope.kind = .function) :
    swapsWith (.ListComp elt gs scope p) (some (.Name n py)) l env = pure (env.kindOf n == some .local && py.line == p.line && !(scope.names.any fun (m, k) => m == n && (k == .local || k == .cell))) := by
  have hb : env.blockKind = .function := by unfold Env.blockKind; rw [hk]; rfl
  unfold swapsWith
  simp only [hb, Expr.pos]
  rfl
theorem fm_lt {α β : Type} {f : α → Option β} : ∀ {l : List α}, (∃ x ∈ l, f x = none) → (l.filterMap f).length < l.length
  | [], ⟨x, h, _⟩ => by cases h
  | y :: l, ⟨x, h, e⟩ => by
    have le : (l.filterMap f).length ≤ l.length := List.length_filterMap_le _ _
    rw [List.filterMap_cons]
    rcases List.mem_cons.mp h with rfl | h
    · rw [e]; simp only [List.length_cons]; omega
    · have := fm_lt ⟨x, h, e⟩
      cases f y <;> simp only [List.length_cons] <;> omega
theorem stores_ok {t e : Expr} {env : Env} (h : (isTupD t && isTupD e && !noSw env.scope t) = false) : swappedStores [t] e env = pure none := by
  unfold swappedStores
  split
  · rename_i ts vs hm
    split at hm
    · rename_i heq
      cases heq
      cases hm
      simp only [isTupD, Bool.and_self, Bool.true_and, Bool.not_eq_false'] at h
      unfold noSw at h
      rw [List.any_eq_true] at h
      obtain ⟨x, hx, hc⟩ := h
      have key : ∀ l : Nat, ((ts.filterMap fun
          | .Name id pos => if env.kindOf id == some .local && pos.line == l then some id else none
          | _ => none).length != ts.length) = true := fun l => by
        rw [bne_iff_ne]
        refine Nat.ne_of_lt (fm_lt ⟨x, hx, ?_⟩)
        cases x with
        | Name id pos =>
          have : (env.kindOf id == some .local) = false := by
            have : (env.scope.names.lookup id == some .local) = false := by simpa using hc
            exact this
          simp only [this, Bool.false_and, Bool.false_eq_true, if_false]
        | _ => rfl
      split
      · rfl
      · split
        · rfl
        · refine if_pos ?_
          rw [Bool.or_eq_true]
          exact .inl (key _)
    · rename_i heq
      cases heq
      simp [isTupD, noSw] at h
    · cases hm
  · rfl
theorem sole_ok {t e : Expr} (h : isCmpr e = false) (l : Nat) (env : Env) : swapsWithSole [t] e l env = pure false := swap_ok h (some t) l env
theorem sole_ix {e x y : Expr} {p : Pos} (l : Nat) (env : Env) : swapsWithSole [.Subscript x y p] e l env = pure false := swap_ix (x := x) (y := y) (p := p) l env
theorem par_ok {a b : Str} {p1 p2 pt pt2 : Pos} {kt k2 : Nat} {env : Env} (hk : env.scope.kind = .function) (h1 : (p2.line == p1.line) = true) (h2 : (b == a) = false) (h3 : ([x, y].all (foldedForSure 8)) = false) (h4 : ([x, y].all (constantsAlone 8)) = false)
    (ha : env.scope.names.lookup a = some .local) (hb : env.scope.names.lookup b = some .local) (sx : isStar x = false) (sy : isStar y = false) :
    swappedStores [.Tuple [.Name a p1, .Name b p2] kt pt] (.Tuple [x, y] k2 pt2) env = pure (some [a, b]) := by
  have hbk : env.blockKind = .function := by unfold Env.blockKind; rw [hk]; rfl
  have ka : env.kindOf a = some .local := ha
  have kb : env.kindOf b = some .local := hb
  have ed : [a, b].eraseDups.length = 2 := by
    have : [a, b].eraseDups = [a, b] := by
      rw [List.eraseDups_cons]
      have : (List.filter (fun c => !c == a) [b]) = [b] := by simp [h2]
      rw [this, List.eraseDups_cons]
      rfl
    rw [this]; rfl
  unfold swappedStores
  simp only [List.length_cons, List.length_nil, hbk, List.head?_cons, Option.map_some, Option.getD_some, Expr.pos, List.filterMap_cons, List.filterMap_nil, ka, kb, h1, BEq.rfl, Bool.and_self, if_true]
  rw [h3, h4, ed, if_neg (by decide), if_neg (fun hh => ?_), if_neg (by decide), if_neg Bool.false_ne_true, if_neg Bool.false_ne_true]
  rw [List.any_eq_true] at hh
  obtain ⟨e, he, hh⟩ := hh
  have hs : isStar e = false := by
    rcases List.mem_cons.mp he with z | z
    · rw [z]; exact sx
    · rw [List.mem_singleton.mp z]; exact sy
  cases e <;> first | cases (show false = true from hh) | cases (show true = false from hs)
theorem pset_any (hu : X.A.units + 1 < cLine) : PSet X (fun o i v H Q => rSetL o i v H Q ∨ ∃ a H', o = .ref a ∧ DPut H a i v H' ∧ Q H') := by
  intro pins s σ H o i v ov iv u Q I ro ri rv h
  rcases h with h | ⟨a, H', rfl, d, q⟩
  · exact set_list pins s σ H o i v ov iv u Q I ro ri rv h
  · cases ro
    exact d_setItem hu I d ri rv fun s' I' => ⟨H', I', q⟩
theorem as_sub (G : Good g k X N sc) {p : Pos} (ho : PE X x (cE g ta)) (hi : PE X y (cE g tb)) (he : PE X z (cE g tc)) (hs : isSlc y = false) :
    PS X (.Assign [.Subscript x y p] z pos) (cS g W fun D ρ h => tc ρ h fun u h1 => ta ρ h1 fun v h2 => tb ρ h2 fun w h3 => aSet v w u h3 fun h4 => D.nx ρ h4) := by
  have asg : ∀ v, assign (.Subscript x y p) X.env v = (do
      let ov ← holding [v] (eval x X.env)
      let iv ← holding [v, ov] (eval y X.env)
      standAt p
      holding [v, ov, iv] (setItem ov iv v)
      release [v, ov, iv] []) := by
    intro v
    cases y <;> first | rfl | cases (show true = false from hs)
  refine ps_imp (ps_asg he (pg_sub ho hi (pset_any (by have := G.room.units; omega)) asg) (sole_ix _ _) (stores_ok rfl) rfl) fun D σ H ⟨ρ, h, Da, Z, rs, rh, op, qn, qr, qx⟩ => ?_
  refine ⟨ρ, h, _, Z, rs, rh, op, fun u h1 x1 H1 op1 e1 r1 rh1 => ⟨ρ, h1, _, Z, rs.ext e1, rh1, op1, fun v h2 x2 H2 op2 e2 r2 rh2 => ⟨ρ, h2, _, Z, rs.ext (e1.trans e2), rh2, op2, fun w h3 x3 H3 op3 e3 r3 rh3 => ?_⟩⟩⟩
  have r1' := r1.ext (e2.trans e3)
  have rs' := rs.ext (e1.trans (e2.trans e3))
  cases v with
  | ref a =>
    cases r2
    rcases op3 with ⟨xs, i, j, ha, rfl, hj, op3⟩ | ⟨kvs, ky, ha, ek, hz, op3⟩
    · obtain ⟨ys, ha', rx⟩ := rh3.o _ _ ha
      cases r3
      refine .inl ⟨a, ys, i, j, rfl, rfl, ha', by rw [← rx.length]; exact hj, ?_⟩
      have ex : Ext H3 (upd H3 a (.lst (ys.set j x1))) := .upd (.lst ha')
      exact qn _ _ _ _ op3 ((e1.trans (e2.trans e3)).trans ex) (rs'.ext ex) (rh3.write (.lst ha') ha ⟨_, upd_same, (rx.set r1' j).ext ex⟩)
    · obtain ⟨ys, ha', rx⟩ := rh3.o _ _ ha
      have e := key_of r3 ek
      subst e
      refine .inr ⟨a, _, rfl, DPut.k ha' (by rw [← rx.length]; exact hz), ?_⟩
      have ex : Ext H3 (upd H3 a (.dK (putK ys ky x1))) := .upd (.dk ha')
      exact qn _ _ _ _ op3 ((e1.trans (e2.trans e3)).trans ex) (rs'.ext ex) (rh3.write (.dk ha') ha ⟨_, upd_same, (rx.put r1').ext ex⟩)
  | _ => exact op3.elim
theorem sub_asg {x y : Expr} {p : Pos} {env : Env} (hs : isSlc y = false) : ∀ v, assign (.Subscript x y p) env v = (do
      let ov ← holding [v] (eval x env)
      let iv ← holding [v, ov] (eval y env)
      standAt p
      holding [v, ov, iv] (setItem ov iv v)
      release [v, ov, iv] []) := by
  intro v
  cases y <;> first | rfl | cases (show true = false from hs)
theorem set_go {Z : Hp} {H : Hp} {h : Ah} {v w u : Va} {xv xw xu : V} {P : Ah → Prop} {Q : Hp → Prop} (op : aSet v w u h P) (r2 : RV g H v xv) (r3 : RV g H w xw) (r1 : RV g H u xu) (rh : RH g Z H h)
    (kk : ∀ h' H', P h' → Ext H H' → RH g Z H' h' → Q H') : rSetL xv xw xu H Q ∨ ∃ a H', xv = .ref a ∧ DPut H a xw xu H' ∧ Q H' := by
  cases v with
  | ref a =>
    cases r2
    rcases op with ⟨xs, i, j, ha, rfl, hj, op3⟩ | ⟨kvs, ky, ha, ek, hz, op3⟩
    · obtain ⟨ys, ha', rx⟩ := rh.o _ _ ha
      cases r3
      refine .inl ⟨a, ys, i, j, rfl, rfl, ha', by rw [← rx.length]; exact hj, ?_⟩
      have ex : Ext H (upd H a (.lst (ys.set j xu))) := .upd (.lst ha')
      exact kk _ _ op3 ex (rh.write (.lst ha') ha ⟨_, upd_same, (rx.set r1 j).ext ex⟩)
    · obtain ⟨ys, ha', rx⟩ := rh.o _ _ ha
      have e := key_of r3 ek
      subst e
      refine .inr ⟨a, _, rfl, DPut.k ha' (by rw [← rx.length]; exact hz), ?_⟩
      have ex : Ext H (upd H a (.dK (putK ys ky xu))) := .upd (.dk ha')
      exact kk _ _ op3 ex (rh.write (.dk ha') ha ⟨_, upd_same, (rx.put r1).ext ex⟩)
  | _ => exact op.elim
theorem as_swp (G : Good g k X N sc) {x2 y2 : Expr} {td te : TEa} {p q pt : Pos} {kt : Nat} (ho : PE X x (cE g ta)) (hi : PE X y (cE g tb)) (ho2 : PE X x2 (cE g tc)) (hi2 : PE X y2 (cE g td)) (he : PE X z (cE g te)) (hs : isSlc y = false) (hs2 : isSlc y2 = false) (hc : isCmpr z = false) :
    PS X (.Assign [.Tuple [.Subscript x y p, .Subscript x2 y2 q] kt pt] z pos) (cS g W fun D ρ h => te ρ h fun u h1 => ∃ u1 u2, u = .tup [u1, u2] ∧ ta ρ h1 fun v h2 => tb ρ h2 fun w h3 => aSet v w u1 h3 fun h4 => tc ρ h4 fun v2 h5 => td ρ h5 fun w2 h6 => aSet v2 w2 u2 h6 fun h7 => D.nx ρ h7) := by
  have hu : X.A.units + 1 < cLine := by have := G.room.units; omega
  refine ps_imp (ps_asg he (pg_tup G.calm (pgs_cons (pg_sub ho hi (pset_any hu) (sub_asg hs)) (pgs_cons (pg_sub ho2 hi2 (pset_any hu) (sub_asg hs2)) pgs_nil))) (sole_ok hc _ _) (stores_ok (by show (true && isTupD z && !true) = false; simp)) rfl) fun D σ H ⟨ρ, h, Da, Z, rs, rh, op, qn, qr, qx⟩ => ?_
  refine ⟨ρ, h, _, Z, rs, rh, op, fun u h1 x1 H1 op1 e1 r1 rh1 => ?_⟩
  obtain ⟨u1, u2, rfl, op1⟩ := op1
  cases r1 with | tup hp rx =>
  cases rx with | cons ra rx =>
  cases rx with | cons rb rx =>
  cases rx
  rw [G.hK]
  refine ⟨_, _, rfl, hp.sq, rfl, _, _, rfl, ?_⟩
  refine ⟨ρ, h1, _, Z, rs.ext e1, rh1, op1, fun v h2 x2 H2 op2 e2 r2 rh2 => ⟨ρ, h2, _, Z, rs.ext (e1.trans e2), rh2, op2, fun w h3 x3 H3 op3 e3 r3 rh3 => ?_⟩⟩
  refine set_go op3 (r2.ext e3) r3 (ra.ext (e2.trans e3)) rh3 fun h4 H4 op4 e4 rh4 => ?_
  have E4 := (e2.trans e3).trans e4
  refine ⟨_, _, rfl, ?_⟩
  refine ⟨ρ, h4, _, Z, rs.ext (e1.trans E4), rh4, op4, fun v2 h5 x5 H5 op5 e5 r5 rh5 => ⟨ρ, h5, _, Z, rs.ext ((e1.trans E4).trans e5), rh5, op5, fun w2 h6 x6 H6 op6 e6 r6 rh6 => ?_⟩⟩
  have E6 := (E4.trans e5).trans e6
  refine set_go op6 (r5.ext e6) r6 (rb.ext E6) rh6 fun h7 H7 op7 e7 rh7 => ?_
  exact ⟨rfl, qn _ _ _ _ op7 ((e1.trans E6).trans e7) (rs.ext ((e1.trans E6).trans e7)) rh7⟩
def gL (K : PySem.W.Frag) : V → V → Hp → VK → Prop := fun o i H Q => ∃ (a : Addr) (xs : List V) (j : Nat) (x : V), o = .ref a ∧ i = .int (j : Nat) ∧ SqL K H a xs ∧ xs[j]? = some x ∧ j < 2 ^ 62 ∧ Q x H
theorem pget_list : PGet X (gL X.K) := by
  intro pins s σ H o i ov iv Q I r1 r2 h
  obtain ⟨a, xs, j, x, rfl, rfl, hs, hx, hj, q⟩ := h
  cases r1
  obtain ⟨t, rfl⟩ := r2
  obtain ⟨its, rv, hl, hz⟩ := I.list hs
  obtain ⟨u, hu, ru⟩ := rv.get hx
  exact wpAny_getItem_list hl.isList (by omega) (by omega) (by simpa using hu) ⟨x, H, I, ru, q⟩
theorem as_augS (G : Good g k X N sc) {p : Pos} (ho : PE X x (cE g ta)) (hi : PE X y (cE g tb)) (he : PE X z (cE g tc)) (hs : isSlc y = false) :
    PS X (.AugAssign (.Subscript x y p) .Add z pos) (cS g W fun D ρ h => ta ρ h fun v h1 => tb ρ h1 fun w h2 => aGetL v w h2 fun u => tc ρ h2 fun e h3 => aInt1 u fun a => aInt1 e fun b => aSet v w (.int (a + b)) h3 fun h4 => D.nx ρ h4) := by
  refine ps_imp (ps_augS ho hi pget_list he ip_add (pset_any (by have := G.room.units; omega)) (by intro ov iv new; cases y <;> first | rfl | cases (show true = false from hs))) fun D σ H ⟨ρ, h, Da, Z, rs, rh, op, qn, qr, qx⟩ => ?_
  refine ⟨ρ, h, _, Z, rs, rh, op, fun v h1 x1 H1 op1 e1 r1 rh1 => ⟨ρ, h1, _, Z, rs.ext e1, rh1, op1, fun w h2 x2 H2 op2 e2 r2 rh2 => ?_⟩⟩
  obtain ⟨a, xs, j, u, rfl, rfl, ha, hu, hj, op2⟩ := op2
  cases r1
  cases r2
  obtain ⟨ys, ha', rx⟩ := rh2.o _ _ ha
  obtain ⟨yu, hyu, ru⟩ := rx.got hu
  rw [G.hK]
  refine ⟨a, ys, j, yu, rfl, rfl, SqL.of ha', hyu, hj, ρ, h2, _, Z, rs.ext (e1.trans e2), rh2, op2, fun e h3 x3 H3 op3 e3 r3 rh3 => ?_⟩
  have ru' := ru.ext e3
  have rs' := rs.ext (e1.trans (e2.trans e3))
  cases u with
  | int i1 => cases e with
    | int i2 =>
      cases ru'
      cases r3
      refine ⟨i1, i2, rfl, rfl, ?_⟩
      rcases op3 with ⟨xs', i, j', hb, ei, hj', op3⟩ | ⟨kvs, ky, hb, ek, hz, op3⟩
      · obtain ⟨ys', hb', rx'⟩ := rh3.o _ _ hb
        cases ei
        refine .inl ⟨a, ys', _, j', rfl, rfl, hb', by rw [← rx'.length]; exact hj', ?_⟩
        have ex : Ext H3 (upd H3 a (.lst (ys'.set j' (.int (i1 + i2))))) := .upd (.lst hb')
        exact qn _ _ _ _ op3 ((e1.trans (e2.trans e3)).trans ex) (rs'.ext ex) (rh3.write (.lst hb') hb ⟨_, upd_same, (rx'.set (.int _) j').ext ex⟩)
      · obtain ⟨ys', hb', rx'⟩ := rh3.o _ _ hb
        have e := key_of (g := g) (H := H3) (.int _) ek
        refine .inr ⟨a, _, rfl, by rw [e]; exact DPut.k hb' (by rw [← rx'.length]; exact hz), ?_⟩
        have ex : Ext H3 (upd H3 a (.dK (putK ys' ky (.int (i1 + i2))))) := .upd (.dk hb')
        exact qn _ _ _ _ op3 ((e1.trans (e2.trans e3)).trans ex) (rs'.ext ex) (rh3.write (.dk hb') hb ⟨_, upd_same, (rx'.put (.int _)).ext ex⟩)
    | _ => exact op3.elim
  | _ => exact op3.elim
theorem RFs.putF {H : Hp} {f : Str} {v : Va} {u : V} (r : RV g H v u) : ∀ {fs : List (Str × Va)} {us : List (Str × V)}, RFs g H fs us → RFs g H (putFA f v fs) (L2.putF f u us)
  | _, _, .nil => .cons r .nil
  | _, _, .cons (f := f') a q => by
    unfold putFA L2.putF
    by_cases e : f' = f
    · simp only [e, if_true]; exact .cons r q
    · simp only [e, if_false]; exact .cons a (RFs.putF r q)
theorem as_fld {C f : Str} {p : Pos} (nd : Nd g k X (.fld C f)) (ho : PE X x (cE g ta)) (he : PE X z (cE g tc)) :
    PS X (.Assign [.Attribute x f p] z pos) (cS g W fun D ρ h => tc ρ h fun u h1 => ta ρ h1 fun v h2 => aSetF C v f u h2 fun h3 => D.nx ρ h3) := by
  refine ps_imp (ps_fld ho he (swap_at _ _)) fun D σ H ⟨ρ, h, Da, Z, rs, rh, op, qn, qr, qx⟩ => ?_
  refine ⟨ρ, h, _, Z, rs, rh, op, fun u h1 x1 H1 op1 e1 r1 rh1 => ⟨ρ, h1, _, Z, rs.ext e1, rh1, op1, fun v h2 x2 H2 op2 e2 r2 rh2 => ?_⟩⟩
  cases v with
  | ref a =>
    cases r2
    obtain ⟨fs, ha, hz, op2⟩ := op2
    obtain ⟨dx, ys, ha', rx⟩ := rh2.o _ _ ha
    refine ⟨a, g.CA C, dx, ys, rfl, ha', nd.1, nd.2, by rw [← rx.length]; exact hz, ?_⟩
    have ex : Ext H2 (upd H2 a (.ins (g.CA C) dx (L2.putF f x1 ys))) := .upd (.ins ha')
    exact qn _ _ _ _ op2 ((e1.trans e2).trans ex) ((rs.ext (e1.trans e2)).ext ex) (rh2.write (.ins ha') ha ⟨dx, _, upd_same, (RFs.putF (r1.ext e2) rx).ext ex⟩)
  | _ => exact op2.elim
theorem as_par (G : Good g k X N sc) (hk : sc.kind = .function) {i j : Nat} {a b : Str} {p1 p2 pt pt2 : Pos} {kt k2 : Nat} (h1 : (p2.line == p1.line) = true) (h2 : (b == a) = false) (h3 : ([x, y].all (foldedForSure 8)) = false) (h4 : ([x, y].all (constantsAlone 8)) = false)
    (hi : N[i]? = some a) (hj : N[j]? = some b) (hij : i ≠ j) (ha : sc.names.lookup a = some .local) (hb : sc.names.lookup b = some .local) (sx : isStar x = false) (sy : isStar y = false) (hx : PE X x (cE g ta)) (hy : PE X y (cE g tb)) :
    PS X (.Assign [.Tuple [.Name a p1, .Name b p2] kt pt] (.Tuple [x, y] k2 pt2) pos) (cS g W fun D ρ h => ta ρ h fun v h1 => tb ρ h1 fun w h2 => D.nx ((ρ.set i (some v)).set j (some w)) h2) := by
  refine ps_imp (ps_par G.calm (by rw [G.hN]; exact G.nd) (by rw [G.hN]; exact hi) (by rw [G.hN]; exact hj) hij (by rw [G.hsc]; exact ha) (by rw [G.hsc]; exact hb) (pa_cons hx (pa_cons hy pa_nil (star_ok sy [] X.env)) (star_ok sx [y] X.env))
    (par_ok (by rw [G.hsc]; exact hk) h1 h2 h3 h4 (by rw [G.hsc]; exact ha) (by rw [G.hsc]; exact hb) sx sy) rfl) fun D σ H ⟨ρ, h, Da, Z, rs, rh, op, qn, qr, qx⟩ => ?_
  refine ⟨ρ, h, _, Z, rs, rh, op, fun u h1 x1 H1 op1 e1 r1 rh1 => ⟨ρ, h1, _, Z, rs.ext e1, rh1, op1, fun v h2 x2 H2 op2 e2 r2 rh2 => ?_⟩⟩
  exact ⟨x1, x2, rfl, qn _ _ _ _ op2 (e1.trans e2) (((rs.ext (e1.trans e2)).set (r1.ext e2) i).set r2 j) rh2⟩
theorem par3_ok {a b c : Str} {p1 p2 p3 pt pt2 : Pos} {kt k2 : Nat} {env : Env} {x y z : Expr} (hk : env.scope.kind = .function) (h1 : (p2.line == p1.line) = true) (h1' : (p3.line == p1.line) = true) (h2 : (b == a) = false) (h2' : (c == a) = false) (h2'' : (c == b) = false) (h3 : ([x, y, z].all (foldedForSure 8)) = false) (h4 : ([x, y, z].all (constantsAlone 8)) = false)
    (ha : env.scope.names.lookup a = some .local) (hb : env.scope.names.lookup b = some .local) (hc : env.scope.names.lookup c = some .local) (sx : isStar x = false) (sy : isStar y = false) (sz : isStar z = false) :
    swappedStores [.Tuple [.Name a p1, .Name b p2, .Name c p3] kt pt] (.Tuple [x, y, z] k2 pt2) env = pure (some [a, b, c]) := by
  have hbk : env.blockKind = .function := by unfold Env.blockKind; rw [hk]; rfl
  have ka : env.kindOf a = some .local := ha
  have kb : env.kindOf b = some .local := hb
  have kc : env.kindOf c = some .local := hc
  have ed : [a, b, c].eraseDups.length = 3 := by
    have e1 : [a, b, c].eraseDups = [a, b, c] := by
      rw [List.eraseDups_cons, show List.filter (fun d => !d == a) [b, c] = [b, c] by simp [h2, h2'], List.eraseDups_cons, show List.filter (fun d => !d == b) [c] = [c] by simp [h2''], List.eraseDups_cons]
      rfl
    rw [e1]; rfl
  unfold swappedStores
  simp only [List.length_cons, List.length_nil, hbk, List.head?_cons, Option.map_some, Option.getD_some, Expr.pos, List.filterMap_cons, List.filterMap_nil, ka, kb, kc, h1, h1', BEq.rfl, Bool.and_self, if_true]
  rw [h3, h4, ed, if_neg (by decide), if_neg (fun hh => ?_), if_neg (by decide), if_neg Bool.false_ne_true, if_neg Bool.false_ne_true]
  rw [List.any_eq_true] at hh
  obtain ⟨e, he, hh⟩ := hh
  have hs : isStar e = false := by
    simp only [List.mem_cons, List.not_mem_nil, or_false] at he
    rcases he with rfl | rfl | rfl
    · exact sx
    · exact sy
    · exact sz
  cases e <;> first | cases (show false = true from hh) | cases (show true = false from hs)
theorem as_par3 (G : Good g k X N sc) (hk : sc.kind = .function) {i j l : Nat} {a b c : Str} {p1 p2 p3 pt pt2 : Pos} {kt k2 : Nat} {z : Expr} {tc : TEa} (h1 : (p2.line == p1.line) = true) (h1' : (p3.line == p1.line) = true) (h2 : (b == a) = false) (h2' : (c == a) = false) (h2'' : (c == b) = false) (h3 : ([x, y, z].all (foldedForSure 8)) = false) (h4 : ([x, y, z].all (constantsAlone 8)) = false)
    (hi : N[i]? = some a) (hj : N[j]? = some b) (hl : N[l]? = some c) (hij : i ≠ j) (hil : i ≠ l) (hjl : j ≠ l) (ha : sc.names.lookup a = some .local) (hb : sc.names.lookup b = some .local) (hc : sc.names.lookup c = some .local) (sx : isStar x = false) (sy : isStar y = false) (sz : isStar z = false)
    (hx : PE X x (cE g ta)) (hy : PE X y (cE g tb)) (hz : PE X z (cE g tc)) :
    PS X (.Assign [.Tuple [.Name a p1, .Name b p2, .Name c p3] kt pt] (.Tuple [x, y, z] k2 pt2) pos) (cS g W fun D ρ h => ta ρ h fun u h1 => tb ρ h1 fun v h2 => tc ρ h2 fun w h3 => D.nx (((ρ.set i (some u)).set j (some v)).set l (some w)) h3) := by
  refine ps_imp (ps_par3 G.calm (by rw [G.hN]; exact G.nd) (by rw [G.hN]; exact hi) (by rw [G.hN]; exact hj) (by rw [G.hN]; exact hl) hij hil hjl (by rw [G.hsc]; exact ha) (by rw [G.hsc]; exact hb) (by rw [G.hsc]; exact hc)
    (pa_cons hx (pa_cons hy (pa_cons hz pa_nil (star_ok sz [] X.env)) (star_ok sy [z] X.env)) (star_ok sx [y, z] X.env))
    (par3_ok (by rw [G.hsc]; exact hk) h1 h1' h2 h2' h2'' h3 h4 (by rw [G.hsc]; exact ha) (by rw [G.hsc]; exact hb) (by rw [G.hsc]; exact hc) sx sy sz) rfl) fun D σ H ⟨ρ, h, Da, Z, rs, rh, op, qn, qr, qx⟩ => ?_
  refine ⟨ρ, h, _, Z, rs, rh, op, fun u h1 x1 H1 op1 e1 r1 rh1 => ⟨ρ, h1, _, Z, rs.ext e1, rh1, op1, fun v h2 x2 H2 op2 e2 r2 rh2 => ⟨ρ, h2, _, Z, (rs.ext e1).ext e2, rh2, op2, fun w h3 x3 H3 op3 e3 r3 rh3 => ?_⟩⟩⟩
  exact ⟨x1, x2, x3, rfl, qn _ _ _ _ op3 ((e1.trans e2).trans e3) ((((rs.ext ((e1.trans e2).trans e3)).set ((r1.ext e2).ext e3) i).set (r2.ext e3) j).set r3 l) rh3⟩
theorem as_aug (G : Good g k X N sc) {i : Nat} {n : Str} {p : Pos} (hi : N[i]? = some n) (hl : locB sc (fun _ => true) n = true) (hf : X.fn n = true) (he : PE X y (cE g ta)) :
    PS X (.AugAssign (.Name n p) .Add y pos) (cS g W fun D ρ h => gv ρ i fun v => ta ρ h fun w h1 => aInt1 v fun x => aInt1 w fun y => D.nx (ρ.set i (some (.int (x + y)))) h1) := by
  refine ps_imp (ps_aug (i := i) (by rw [G.hN]; exact G.nd) (by rw [G.hN]; exact hi) (by rw [G.hsc]; exact (loc_ok hl).1) he ip_add (.inl hf)) fun D σ H ⟨ρ, h, Da, Z, rs, rh, op, qn, qr, qx⟩ => ?_
  obtain ⟨v, ev, op⟩ := gv_of op
  obtain ⟨xv, ex, rv⟩ := rs.2 i v ev
  refine ⟨xv, ex, ρ, h, _, Z, rs, rh, op, fun w h1 x1 H1 op1 e1 r1 rh1 => ?_⟩
  cases v with
  | int a => cases w with
    | int b =>
      cases rv
      cases r1
      exact ⟨a, b, rfl, rfl, qn _ _ _ _ op1 e1 ((rs.ext e1).set (.int _) i) rh1⟩
    | _ => exact op1.elim
  | _ => exact op1.elim
theorem as_if {as bs : List Stmt} (hc : PT X x (cT g tt)) (ha : PSs X as (cS g W ts)) (hb : PSs X bs (cS g W tv)) : PS X (.If x as bs pos) (cS g W fun D ρ h => tt ρ h fun t h1 => if t = true then ts D ρ h1 else tv D ρ h1) := by
  refine ps_imp (ps_if hc ha hb) fun D σ H ⟨ρ, h, Da, Z, rs, rh, op, qn, qr, qx⟩ => ⟨ρ, h, _, Z, rs, rh, op, fun b h1 H1 op1 e1 rh1 => ?_⟩
  have fin : ∀ {t : TSa}, t Da ρ h1 → cS g W t D σ H1 := fun {t} w => ⟨ρ, h1, Da, Z, rs.ext e1, rh1, w, fun ρ' h' σ' H' q e r rh' => qn _ _ _ _ q (e1.trans e) r rh', fun v h' x H' q e r rh' => qr _ _ _ _ q (e1.trans e) r rh', fun C ρ' h' σ' H' q e r rh' => qx _ _ _ _ _ q (e1.trans e) r rh'⟩
  cases b with
  | true => rw [if_pos rfl] at op1; exact iteT (fin op1)
  | false => rw [if_neg Bool.false_ne_true] at op1; exact iteF (fin op1)
theorem as_while (G : Good g k X N sc) {bs : List Stmt} (hc : PT X x (cT g tt)) (hb : PSs X bs (cS g W ts)) : PS X (.While x bs [] pos) (cS g W fun D ρ h => ∃ n, turns tt ts D n ρ h) := by
  refine ps_imp (ps_while G.po hc hb) fun D σ0 H0 ⟨ρ0, h0, Da, Z, rs0, rh0, ⟨n, op0⟩, qn, qr, qx⟩ => ?_
  refine ⟨fun m σ H => ∃ ρ h, RS g H ρ σ ∧ RH g Z H h ∧ Ext H0 H ∧ turns tt ts Da m ρ h, ⟨n, ρ0, h0, rs0, rh0, .refl, op0⟩, ?_⟩
  rintro m σ H ⟨ρ, h, rs, rh, e0, op⟩
  cases m with
  | zero => exact (show False from op).elim
  | succ m =>
    refine ⟨ρ, h, _, Z, rs, rh, op, fun b h1 H1 op1 e1 rh1 => ?_⟩
    cases b with
    | false => rw [if_neg Bool.false_ne_true] at op1 ⊢; exact qn _ _ _ _ op1 (e0.trans e1) (rs.ext e1) rh1
    | true =>
      rw [if_pos rfl] at op1 ⊢
      refine ⟨fun σ' H' => ∃ ρ h, RS g H' ρ σ' ∧ RH g Z H' h ∧ Ext H0 H' ∧ turns tt ts Da m ρ h, fun σ' H' w => ⟨m, Nat.lt_succ_self m, w⟩, ρ, h1, _, Z, rs.ext e1, rh1, op1, fun ρ' h' σ' H' q e r rh' => ?_, fun v h' x H' q e r rh' => ?_, fun C ρ' h' σ' H' q e r rh' => ?_⟩
      · exact ⟨ρ', h', r, rh', (e0.trans e1).trans e, q⟩
      · exact qr _ _ _ _ q ((e0.trans e1).trans e) r rh'
      · exact qx _ _ _ _ _ q ((e0.trans e1).trans e) r rh'
theorem as_for (G : Good g k X N sc) {bs : List Stmt} {tgb : Va → Sa → (Sa → Prop) → Prop} {vs : List Nat} {w : Bool} {tic : TIa} (hi : PI X tg x (cI g w tic)) (hg : PG X tg (cG g w vs tgb)) (hb : PSs X bs (cS g W ts)) (hs : isSetD x = false) :
    PS X (.For tg x bs [] pos) (cS g W fun D ρ h => tic ρ h fun xs gd h1 => loop gd (fun x ρ1 h2 k => tgb x ρ1 fun ρ2 => ts { D with nx := k } ρ2 h2) xs ρ h1 D.nx) := by
  refine ps_imp (ps_for G.po G.calm hi hg hb fun v => set_ok hs X.env v) fun D σ0 H0 ⟨ρ0, h0, Da, Z, rs0, rh0, op0, qn, qr, qx⟩ => ?_
  refine ⟨ρ0, h0, _, Z, rs0, rh0, op0, fun xs gd h1 J H1 op1 gd1 e1 rh1 it => ?_⟩
  refine ⟨fun i m σ H => ∃ ρ h, m = xs.length - i ∧ i ≤ xs.length ∧ RS g H ρ σ ∧ RH g Z H h ∧ Ext H1 H ∧ gd h ∧ loop gd (fun x ρ1 h2 k => tgb x ρ1 fun ρ2 => ts { Da with nx := k } ρ2 h2) (xs.drop i) ρ h Da.nx,
    ⟨xs.length, ρ0, h1, by simp, Nat.zero_le _, rs0.ext e1, rh1, .refl, gd1, by rw [List.drop_zero]; exact op1⟩, ?_⟩
  rintro i m σ H ⟨ρ, h, rfl, hi, rs, rh, e0, gdh, op⟩
  by_cases hlt : i < xs.length
  · right
    have hx : xs[i]? = some xs[i] := List.getElem?_eq_getElem hlt
    obtain ⟨go, yl⟩ := it.go _ i H h _ e0 rh gdh hx
    rw [List.drop_eq_getElem_cons hlt] at op
    refine ⟨go, fun σ' H' => ∃ ρ h, RS g H' ρ σ' ∧ RH g Z H' h ∧ Ext H1 H' ∧ gd h ∧ loop gd (fun x ρ1 h2 k => tgb x ρ1 fun ρ2 => ts { Da with nx := k } ρ2 h2) (xs.drop (i + 1)) ρ h Da.nx,
      fun σ' H' ⟨ρ', h', a1, a2, a3, a4, a5⟩ => ⟨xs.length - (i + 1), by omega, ρ', h', rfl, hlt, a1, a2, a3, a4, a5⟩, fun y H' hy => ?_⟩
    obtain ⟨e3, rv3, rh3⟩ := yl y H' hy
    refine ⟨xs[i], ρ, _, rv3, rs.ext e3, op, fun ρ2 σ2 op2 rs2 _ => ?_⟩
    refine ⟨ρ2, h, _, Z, rs2, rh3, op2, fun ρ' h' σ' H2 q e r rh' => ?_, fun v h' x H2 q e r rh' => ?_, fun C ρ' h' σ' H2 q e r rh' => ?_⟩
    · exact ⟨ρ', h', r, rh', (e0.trans e3).trans e, q.1, q.2⟩
    · exact qr _ _ _ _ q ((e1.trans (e0.trans e3)).trans e) r rh'
    · exact qx _ _ _ _ _ q ((e1.trans (e0.trans e3)).trans e) r rh'
  · left
    have ei : i = xs.length := by omega
    subst ei
    rw [List.drop_length] at op
    exact ⟨it.stop _ H h e0 rh gdh, qn _ _ _ _ op (e1.trans e0) rs rh⟩
structure Top (X : Cx) : Prop where
  st : X.stack = X.env :: X.outer
  fr : X.env.frame = some X.env.locals
  ex : X.ex = []
theorem ax_asg {tgb : Va → Sa → (Sa → Prop) → Prop} {tx : TXa} {σ : L2.St} {H : Hp} {D : Ends} (w : cS g W (fun D ρ h => tx ρ h (fun v h1 => tgb v ρ fun ρ' => D.nx ρ' h1) fun C h1 => D.ex C ρ h1) D σ H) {vs : List Nat} : tAsg (cX g W tx) (cG g false vs tgb) D σ H := by
  obtain ⟨ρ, h, Da, Z, rs, rh, op, qn, qr, qx⟩ := w
  exact ⟨ρ, h, _, _, Z, rs, rh, op, fun v h1 x1 H1 op1 e1 r1 rh1 => ⟨v, ρ, _, r1, rs.ext e1, op1, fun ρ' σ' op2 rs2 _ => qn _ _ _ _ op2 e1 rs2 rh1⟩, fun C h1 H1 q e rh1 => qx _ _ _ _ _ q e (rs.ext e) rh1⟩
theorem ax_nm {i : Nat} {tx : TXa} {σ : L2.St} {H : Hp} {D : Ends} (w : cS g W (fun D ρ h => tx ρ h (fun v h1 => bnd (.nm i) v ρ fun ρ' => D.nx ρ' h1) fun C h1 => D.ex C ρ h1) D σ H) : tAsg (cX g W tx) (gName i) D σ H := by
  obtain ⟨ρ, h, Da, Z, rs, rh, op, qn, qr, qx⟩ := w
  exact ⟨ρ, h, _, _, Z, rs, rh, op, fun v h1 x1 H1 op1 e1 r1 rh1 => qn _ _ _ _ op1 e1 ((rs.ext e1).set r1 i) rh1, fun C h1 H1 q e rh1 => qx _ _ _ _ _ q e (rs.ext e) rh1⟩
theorem RS.bndT {H : Hp} {ρ : Sa} {σ : L2.St} (r : RS g H ρ σ) (i : Option Nat) (a : Addr) : RS g H (bndA i a ρ) (bndT i a σ) := by
  cases i with
  | none => exact r
  | some i => exact r.set (.ref a) i
theorem RS.clrT {H : Hp} {ρ : Sa} {σ : L2.St} (r : RS g H ρ σ) (i : Option Nat) : RS g H (clrA i ρ) (clrT i σ) := by
  cases i with
  | none => exact r
  | some i => exact r.wipe [i]
def hL (g : Gx) : Hs → List Hnd
  | .nil => []
  | .cons D i su r => (.ref (g.CA D), i, fun a _ => cS (g.h a) (fun _ _ _ _ => False) (rdSs su)) :: hL g r
theorem sndSsH : ∀ {ss : Ss} {X : Cx} {st : List Stmt} {a0 : Addr}, GoodH (g.h a0) X N sc → X.A.handled = some (.ref a0) → (∀ n, X.fn n = true) → (∀ q ∈ needSs ss, Nd g k X q) → hotSs ss = true → chkSs N sc ss st = true → PSs X st (cS (g.h a0) W (rdSs ss))
  | .nil, X, st, a0, G, hA, hf, nd, ho, h => by
    unfold chkSs at h
    cases st with
    | nil => exact pss_imp pss_nil fun D σ H ⟨ρ, h, Da, Z, rs, rh, op, qn, qr, qx⟩ => qn _ _ _ _ op .refl rs rh
    | cons _ _ => cases (show false = true from h)
  | .cons s ss, X, st, a0, G, hA, hf, nd, ho, h => by
    unfold chkSs at h
    unfold needSs at nd
    cases st with
    | nil => cases (show false = true from h)
    | cons x r =>
      have h : (chkS N sc s x && chkSs N sc ss r) = true := h
      rw [Bool.and_eq_true] at h
      have one : PS X x (cS (g.h a0) W (rdS s)) ∧ hotSs ss = true := by
        have h1 := h.1
        have nd := all_l nd
        unfold chkS at h1
        unfold needS at nd
        unfold hotSs at ho
        cases s with
        | never => exact ⟨ps_imp ps_never fun D σ H ⟨ρ, h, Da, Z, rs, rh, op, qn, qr, qx⟩ => op, ho⟩
        | asg t e =>
          cases t with
          | nm i =>
            simp only [Bool.and_eq_true, Bool.not_eq_true'] at ho
            refine ⟨?_, ho.2⟩
            simp only at h1 nd
            split at h1
            · rename_i x y p
              simp only [Bool.and_eq_true] at h1
              obtain ⟨⟨⟨h1, h2⟩, h3⟩, h4⟩ := h1
              unfold chkTg at h1
              split at h1
              · rename_i n q
                simp only [Bool.and_eq_true, decide_eq_true_eq] at h1
                exact ps_imp (ps_set (i := i) (by rw [G.hN]; exact G.nd) (by rw [G.hN]; exact h1.1) (by rw [G.hsc]; exact (loc_ok h1.2).1) (sndEH G hA nd ho.1.1 h2) (swap_ok (hot_ncmp ho.1.1 ho.1.2 h2) _ _ _) (.inl (hf n))) fun D σ H w => as_nm (fun Q z => z) w
              · cases h1
            · cases h1
          | _ => cases ho
        | ret e =>
          simp only [Bool.and_eq_true] at ho
          refine ⟨?_, ho.2⟩
          simp only at h1 nd
          split at h1
          · exact ps_imp (ps_ret (sndEH G hA nd ho.1 h1)) fun D σ H ⟨ρ, h, Da, Z, rs, rh, op, qn, qr, qx⟩ => ⟨ρ, h, _, Z, rs, rh, op, qr⟩
          · cases h1
        | _ => cases ho
      refine pss_imp (pss_cons one.1 (sndSsH G hA hf (all_r nd) one.2 h.2)) fun D σ H ⟨ρ, h, Da, Z, rs, rh, op, qn, qr, qx⟩ => ⟨ρ, h, _, Z, rs, rh, op, fun ρ' h' σ' H' q e r rh' => ?_, fun v h' x H' q e r rh' => qr _ _ _ _ q e r rh', qx⟩
      exact ⟨ρ', h', Da, Z, r, rh', q, fun ρ2 h2 σ2 H2 q2 e2 r2 rh2 => qn _ _ _ _ q2 (e.trans e2) r2 rh2, fun v h2 x H2 q2 e2 r2 rh2 => qr _ _ _ _ q2 (e.trans e2) r2 rh2, fun C ρ2 h2 σ2 H2 q2 e2 r2 rh2 => qx _ _ _ _ _ q2 (e.trans e2) r2 rh2⟩
theorem sndHs {kn : List Str} (G : Good g k X N sc) (hf : ∀ n, X.fn n = true) : ∀ {hs : Hs} {xs : List ExceptHandler}, (∀ q ∈ needHs kn hs, Nd g k X q) → chkHs N sc hs xs = true → HdT X xs (hL g hs)
  | .nil, xs, nd, h => by
    unfold chkHs at h
    cases xs with
    | nil => exact .nil
    | cons _ _ => cases (show false = true from h)
  | .cons D i su r, xs, nd, h => by
    unfold chkHs at h
    unfold needHs at nd
    split at h
    · rename_i x np n y ys pos' more
      simp only [Bool.and_eq_true, decide_eq_true_eq] at h
      obtain ⟨⟨⟨⟨⟨⟨rfl, h1⟩, h2⟩, h3⟩, h4⟩, h5⟩, h6⟩ := h
      refine HdT.cons ⟨G.gl h1, (okN_ok h2).1, .inl (all_h nd)⟩ ?_ (fun a cls pn => sndSsH (g := g) (a0 := a) ⟨G.hK, G.hN, G.hsc, G.nd, G.bl⟩ rfl hf (all_l (all_r (all_t nd))) h4 h5) (sndHs G hf (all_r (all_r (all_t nd))) h6)
      cases n with
      | none => cases i with
        | none => trivial
        | some _ => cases h3
      | some n => cases i with
        | none => cases h3
        | some i =>
          simp only [Bool.and_eq_true, decide_eq_true_eq] at h3
          exact ⟨by rw [G.hN]; exact h3.1, by show X.env.scope.names.lookup n = _; rw [G.hsc]; exact h3.2⟩
    · cases h
theorem wT_of {kn : List Str} {C : Str} (hn : g.hot = none) (hC : C ∈ kn) {D : Ends} {Da : Enda} {Z H0 : Hp} (qn : ∀ ρ' h' σ' H', Da.nx ρ' h' → Ext H0 H' → RS g H' ρ' σ' → RH g Z H' h' → D.nx σ' H') (qr : ∀ v h' x H', Da.rt v h' → Ext H0 H' → RV g H' v x → RH g Z H' h' → D.rt x H')
    (qx : ∀ C ρ' h' σ' H', Da.ex C ρ' h' → Ext H0 H' → RS g H' ρ' σ' → RH g Z H' h' → W (.ref (g.CA C)) none σ' H') {ρ : Sa} {h : Ah} {σ : L2.St} {H : Hp} (e : Ext H0 H) (rs : RS g H ρ σ) (rh : RH g Z H h) :
    ∀ {hs : Hs}, (∀ q ∈ needHs kn hs, Nd g k X q) → rdHs hs Da C ρ h → wT X.K W D (hL g hs) (.ref (g.CA C)) none σ H
  | .nil, nd, w => by unfold rdHs at w; exact qx _ _ _ _ _ w e rs rh
  | .cons E i su r, nd, w => by
    unfold rdHs at w
    unfold needHs at nd
    refine ⟨excSub C E, (all_l (all_t nd)) _ (List.mem_map.mpr ⟨C, hC, rfl⟩), fun hb => ⟨rfl, fun a na => ?_⟩, fun hb => ?_⟩
    · rw [if_pos hb] at w
      have ex : Ext H (upd H a (ErO (.ref (g.CA C)) a)) := .upd (.none na)
      exact ⟨bndA i a ρ, put h a (.err C), _, Z, RS.chg (g := g) (g' := g.h a) rfl ((rs.ext ex).bndT i a), RH.into (rh.alloc na upd_same) upd_same, w a (rh.fresh na), fun ρ2 h2 σ2 H2 q e2 r2 rh2 => qn _ _ _ _ q ((e.trans ex).trans e2) ((RS.chg (g := g.h a) (g' := g) rfl r2).clrT i) (rh2.outof hn),
        fun v h2 x H2 q e2 r2 rh2 => qr _ _ _ _ q ((e.trans ex).trans e2) (RV.chg (g := g.h a) (g' := g) rfl r2) (rh2.outof hn), fun _ _ _ _ _ q _ _ _ => q.elim⟩
    · rw [if_neg (by rw [hb]; exact Bool.false_ne_true)] at w
      exact wT_of hn hC qn qr qx e rs rh (all_r (all_r (all_t nd))) w
section
variable {H : Hp} {a : Addr} {o : Obj} {ys : List (Key × V)} {w : HO}
theorem unl_f (h : H a = some (.frz o (.dK ys))) {p : Addr} {o' : Obj} {u : HO} (hp : H p = some (.frz o' u)) (n : ∀ zs, u ≠ .dK zs) : upd H a w p = some (.frz o' u) := by
  rw [upd_ne fun z => ?_]
  · exact hp
  · rw [z, h] at hp; cases hp; exact n _ rfl
mutual
theorem RV.unl (h : H a = some (.frz o (.dK ys))) : ∀ {v : Va} {x : V}, RV g H v x → RV g (upd H a w) v x
  | _, _, .non => .non
  | _, _, .bl b => .bl b
  | _, _, .int i => .int i
  | _, _, .str x => .str x
  | _, _, .ref a => .ref a
  | _, _, .tup ⟨o', e, c⟩ r => .tup ⟨o', unl_f h e (fun _ z => nomatch z), c⟩ (RVs.unl h r)
  | _, _, .fls f r => .fls (match f with
    | .inl ⟨o', e⟩ => .inl ⟨o', unl_f h e (fun _ z => nomatch z)⟩
    | .inr q => .inr q) (RVs.unl h r)
theorem RVs.unl (h : H a = some (.frz o (.dK ys))) : ∀ {v : List Va} {x : List V}, RVs g H v x → RVs g (upd H a w) v x
  | _, _, .nil => .nil
  | _, _, .cons q r => .cons (RV.unl h q) (RVs.unl h r)
end
theorem RFs.unl {κ : Type} (h : H a = some (.frz o (.dK ys))) : ∀ {v : List (κ × Va)} {x : List (κ × V)}, RFs g H v x → RFs g (upd H a w) v x
  | _, _, .nil => .nil
  | _, _, .cons q r => .cons (q.unl h) (RFs.unl h r)
theorem RS.unl (h : H a = some (.frz o (.dK ys))) {ρ : Sa} {σ : L2.St} (r : RS g H ρ σ) : RS g (upd H a w) ρ σ := ⟨r.1, fun i v e => let ⟨x, p, q⟩ := r.2 i v e; ⟨x, p, q.unl h⟩⟩
theorem RH.unl {Z : Hp} {h : Ah} {kvs : List (Key × Va)} (hf : H a = some (.frz o (.dK ys))) (ha : h a = some (.fdk kvs)) (r : RH g Z H h) : RH g Z (upd H a (.dK ys)) (put h a (.dk kvs)) := by
  refine ⟨fun b ob e => ?_, fun b u z => ?_, r.i.upd ⟨fun _ e => (by rw [hf] at e; cases e), fun _ e => (by rw [hf] at e; cases e)⟩, r.n⟩
  · by_cases eb : b = a
    · subst eb
      rw [put_same] at e
      cases e
      obtain ⟨o', ys', h', rf⟩ := r.o _ _ ha
      rw [hf] at h'
      cases h'
      exact ⟨ys, upd_same, rf.unl hf⟩
    · rw [put_ne eb] at e
      have q := r.o b ob e
      have u := upd_ne (H := H) (o := .dK ys) eb
      cases ob with
      | lst xs => obtain ⟨zs, h1, r1⟩ := q; exact ⟨zs, u.trans h1, r1.unl hf⟩
      | dk xs => obtain ⟨zs, h1, r1⟩ := q; exact ⟨zs, u.trans h1, r1.unl hf⟩
      | st S n => exact u.trans q
      | ins C fs => obtain ⟨dx, zs, h1, r1⟩ := q; exact ⟨dx, zs, u.trans h1, r1.unl hf⟩
      | err C => exact u.trans q
      | fdk xs => obtain ⟨o', zs, h1, r1⟩ := q; exact ⟨o', zs, u.trans h1, r1.unl hf⟩
  · obtain ⟨z1, z2⟩ := r.z b u z
    have eb : b ≠ a := fun e => by rw [e, ha] at z1; cases z1
    rw [put_ne eb, upd_ne eb]
    exact ⟨z1, z2⟩
end
theorem as_forD (G : Good g k X N sc) {i : Nat} {bs : List Stmt} {tgb : Va → Sa → (Sa → Prop) → Prop} {vs : List Nat} (hi : PE X x (cE g (rdE (.var i)))) (hg : PG X tg (cG g false vs tgb)) (hb : PSs X bs (cS g W ts)) (hs : isSetD x = false) :
    PS X (.For tg x bs [] pos) (cS g W fun D ρ h => gv ρ i fun v => ∃ a kvs, v = .ref a ∧ h a = some (.dk kvs) ∧
      loop (fun h' => h' a = some (.fdk kvs)) (fun x ρ1 h2 k => tgb x ρ1 fun ρ2 => ts { nx := k, rt := fun v h' => h' a = some (.fdk kvs) ∧ D.rt v (put h' a (.dk kvs)) } ρ2 h2) (keysV kvs) ρ (put h a (.fdk kvs)) fun ρ' h' => D.nx ρ' (put h' a (.dk kvs))) := by
  refine ps_imp (ps_lock (ps_for G.po G.calm (pi_keys hi) hg hb fun v => set_ok hs X.env v)) fun D σ0 H0 ⟨ρ0, h0, Da, Z, rs0, rh0, op0, qn, qr, qx⟩ => ?_
  obtain ⟨v, ev, a, kvs, rfl, ha, op0⟩ := gv_of op0
  obtain ⟨ys, ha', rf⟩ := rh0.o _ _ ha
  refine ⟨a, .dK ys, ha', trivial, fun od => ?_⟩
  have ex : Ext H0 (upd H0 a (.frz od (.dK ys))) := .upd (.dk ha')
  have rh1 : RH g Z (upd H0 a (.frz od (.dK ys))) (put h0 a (.fdk kvs)) := rh0.write (.dk ha') ha ⟨od, ys, upd_same, rf.ext ex⟩
  refine ⟨ρ0, put h0 a (.fdk kvs), fun v h => v = .ref a ∧ h = put h0 a (.fdk kvs), Z, rs0.ext ex, rh1, ?_, fun v h' x H1 q e1 r rh2 => ?_⟩
  · show gv ρ0 i _
    unfold gv
    rw [ev]
    exact ⟨rfl, rfl⟩
  obtain ⟨rfl, rfl⟩ := q
  cases r
  have hf1 : H1 a = some (.frz od (.dK ys)) := e1.f _ _ _ upd_same
  refine ⟨a, od, rfl, .inl ⟨ys, hf1, ?_⟩⟩
  have it := iter_keys (g := g) hf1 (rf.ext (ex.trans e1))
  have toE : ∀ {H' : Hp}, Ext H1 H' → Ext H0 (upd H' a (.dK ys)) := fun {H'} e => ⟨fun b xs hb => by
      rw [upd_ne fun z => by rw [z, ha'] at hb; cases hb]
      exact (ex.trans (e1.trans e)).t b xs hb, fun b o u hb => by
      rw [upd_ne fun z => by rw [z, ha'] at hb; cases hb]
      exact (ex.trans (e1.trans e)).f b o u hb⟩
  generalize hxs : keysV kvs = xs at op0 it
  refine ⟨fun i m σ H => ∃ ρ h, m = xs.length - i ∧ i ≤ xs.length ∧ RS g H ρ σ ∧ RH g Z H h ∧ Ext H1 H ∧ h a = some (.fdk kvs) ∧ loop (fun h' => h' a = some (.fdk kvs)) (fun x ρ1 h2 k => tgb x ρ1 fun ρ2 => ts { nx := k, rt := fun v h' => h' a = some (.fdk kvs) ∧ Da.rt v (put h' a (.dk kvs)) } ρ2 h2) (xs.drop i) ρ h fun ρ' h' => Da.nx ρ' (put h' a (.dk kvs)),
    ⟨xs.length, ρ0, _, by simp, Nat.zero_le _, rs0.ext (ex.trans e1), rh2, .refl, put_same, by rw [List.drop_zero]; exact op0⟩, ?_⟩
  rintro i m σ H ⟨ρ, h, rfl, hi, rs, rh, e0, gdh, op⟩
  have hfH : ∀ {H' : Hp}, Ext H1 H' → H' a = some (.frz od (.dK ys)) := fun e => e.f _ _ _ hf1
  by_cases hlt : i < xs.length
  · right
    have hx : xs[i]? = some xs[i] := List.getElem?_eq_getElem hlt
    obtain ⟨go, yl⟩ := it.go _ i H h _ e0 rh gdh hx
    rw [List.drop_eq_getElem_cons hlt] at op
    refine ⟨go, fun σ' H' => ∃ ρ h, RS g H' ρ σ' ∧ RH g Z H' h ∧ Ext H1 H' ∧ h a = some (.fdk kvs) ∧ loop (fun h' => h' a = some (.fdk kvs)) (fun x ρ1 h2 k => tgb x ρ1 fun ρ2 => ts { nx := k, rt := fun v h' => h' a = some (.fdk kvs) ∧ Da.rt v (put h' a (.dk kvs)) } ρ2 h2) (xs.drop (i + 1)) ρ h fun ρ' h' => Da.nx ρ' (put h' a (.dk kvs)),
      fun σ' H' ⟨ρ', h', a1, a2, a3, a4, a5⟩ => ⟨xs.length - (i + 1), by omega, ρ', h', rfl, hlt, a1, a2, a3, a4, a5⟩, fun y H' hy => ?_⟩
    obtain ⟨e3, rv3, rh3⟩ := yl y H' hy
    refine ⟨xs[i], ρ, _, rv3, rs.ext e3, op, fun ρ2 σ2 op2 rs2 _ => ?_⟩
    refine ⟨ρ2, h, _, Z, rs2, rh3, op2, fun ρ' h' σ' H2 q e r rh' => ?_, fun v h' x H2 q e r rh' => ?_, fun _ _ _ _ _ q _ _ _ => q.elim⟩
    · exact ⟨ρ', h', r, rh', (e0.trans e3).trans e, q.1, q.2⟩
    · have eH := (e0.trans e3).trans e
      exact ⟨hfH eH, qr _ _ _ _ q.2 (toE eH) (r.unl (hfH eH)) (rh'.unl (hfH eH) q.1)⟩
  · left
    have ei : i = xs.length := by omega
    subst ei
    rw [List.drop_length] at op
    exact ⟨it.stop _ H h e0 rh gdh, hfH e0, qn _ _ _ _ op (toE e0) (rs.unl (hfH e0)) (rh.unl (hfH e0) gdh)⟩
theorem pg_tupL {X : Cx} {es : List Expr} {k : Nat} {t : TGs} {n : Nat} {pos : Pos} (hc : X.calm = true) (h : PGs X es t)
    (hn : (assignEach es X.env).length = n := by rfl) (hst : (assignEach es X.env).findIdx? (·.1) = none := by rfl) : PG X (.Tuple es k pos) (fun v σ H Q => ∃ a xs, v = .ref a ∧ SqL X.K H a xs ∧ xs.length = n ∧ t xs σ H Q) := by
  refine ⟨fun pins s σ H v u Q I r hw => ?_⟩
  obtain ⟨a, xs, e1, hq, hl, hw⟩ := hw
  subst e1
  cases r
  obtain ⟨its, rv, p, hz⟩ := I.list hq
  rw [assign_Tuple]
  refine wpAny_bind (wpAny_standAt ?_)
  unfold unpack
  rw [show (assignEach es X.env).length = its.toArray.size by simp [hn, ← hl, rv.length], hst]
  refine wpAny_bind (wpAny_holding (PySem.W.kun_itemsOf (I.ok.hd hc) p.isList fun h' hx => ?_))
  have I1 : Inv X pins σ H { s with heap := h' } := I.kept (t' := s.toks) fun b o e => hx b o (Nat.ne_of_lt (Heap.lt_size e)) e
  exact h.run pins _ σ H xs _ Q I1 (by simpa using rv) hw
theorem as_asgL {σ : L2.St} {H : Hp} {D : Ends} {ts : Tgs} {es : List Expr} {K : PySem.W.Frag} (hK : K = g.K) {vs : List Nat} (hl : ∀ {us : List Va} {ρ : Sa} {q : Sa → Prop}, bnds ts us ρ q → us.length = es.length) (w : cS g W (fun D ρ h => ta ρ h fun v h1 => aLst v h1 fun xs => bnds ts xs ρ fun ρ' => D.nx ρ' h1) D σ H) :
    tAsg (cE g ta) (fun v σ H Q => ∃ a xs, v = .ref a ∧ SqL K H a xs ∧ xs.length = es.length ∧ cGs g vs (bnds ts) xs σ H Q) D σ H := by
  obtain ⟨ρ, h, Da, Z, rs, rh, op, qn, qr, qx⟩ := w
  refine ⟨ρ, h, _, Z, rs, rh, op, fun v h1 x1 H1 op1 e1 r1 rh1 => ?_⟩
  cases v with
  | ref a =>
    obtain ⟨xs, ha, op1⟩ := op1
    cases r1
    obtain ⟨xs', ha', rx⟩ := rh1.o _ _ ha
    exact ⟨a, xs', rfl, by rw [hK]; exact SqL.of ha', by rw [← rx.length]; exact hl op1, xs, ρ, _, rx, rs.ext e1, op1, fun ρ' σ' op2 rs2 _ => qn _ _ _ _ op2 e1 rs2 rh1⟩
  | _ => exact op1.elim
mutual
theorem sndS (hk : sc.kind = .function) : ∀ {s : S} {X : Cx} {W : WX} {st : Stmt}, Good g k X N sc → (∀ n, X.fn n = true) → Top X → L2N.Takes X W → (∀ q ∈ needS s, Nd g k X q) → chkS N sc s st = true → PS X st (cS g W (rdS s))
  | .asgL ts e, X, W, st, G, hf, hX, tk, nd, h => by
    unfold chkS at h
    unfold needS at nd
    split at h
    · rename_i es n q y p
      simp only [Bool.and_eq_true] at h
      obtain ⟨⟨⟨h1, h2⟩, h3⟩, h4⟩ := h
      have he := sndE G nd h2
      have hc : isCmpr y = false := nb h4
      have ht : isTupD y = false := nb h3
      exact ps_imp (ps_asg he (pg_tupL G.calm (sndTgs G (fun n _ => hf n) (vs := tgsIx ts) h1 fun i hi => hi) (each_len X.env es) (tgs_each X.env h1)) (sole_ok hc _ _) (stores_ok (by rw [ht]; simp)) rfl) fun D σ H w => as_asgL G.hK (fun b => tgs_len h1 b) w
    · cases h
  | .asg t e, X, W, st, G, hf, hX, tk, nd, h => by
    unfold chkS at h
    unfold needS at nd
    split at h
    · rename_i x y p
      simp only [Bool.and_eq_true] at h
      obtain ⟨⟨⟨h1, h2⟩, h3⟩, h4⟩ := h
      have he := sndE G nd h2
      cases hc : isCmpr y with
      | false =>
        cases t with
        | nm i =>
          unfold chkTg at h1
          split at h1
          · rename_i n q
            simp only [Bool.and_eq_true, decide_eq_true_eq] at h1
            exact ps_imp (ps_set (i := i) (by rw [G.hN]; exact G.nd) (by rw [G.hN]; exact h1.1) (by rw [G.hsc]; exact (loc_ok h1.2).1) he (swap_ok hc _ _ _) (.inl (hf n))) fun D σ H w => as_nm (fun Q z => z) w
          · cases h1
        | tp ts => exact ps_imp (ps_asg he (sndTg G (fun n _ => hf n) (vs := tgIx (.tp ts)) h1 fun i hi => hi) (sole_ok hc _ _) (stores_ok (by rw [G.hsc]; exact nb h3)) (by
            have := tg_star h1
            rw [asg_ok this]; rfl)) fun D σ H w => as_asg w
      | true =>
        cases t with
        | tp ts =>
          unfold chkTg at h1
          split at h1
          · have : isCmpr y = false := by simpa [isTupD] using h4
            rw [this] at hc; cases hc
          · cases h1
        | nm i =>
          unfold chkTg at h1
          split at h1
          · rename_i n q
            simp only [Bool.and_eq_true, decide_eq_true_eq] at h1
            have hN : X.N.Nodup := by rw [G.hN]; exact G.nd
            have hi : X.N[i]? = some n := by rw [G.hN]; exact h1.1
            have hkx : X.env.scope.kind = .function := by rw [G.hsc]; exact hk
            cases e with
            | comp own elt tg it c =>
              have h2' := h2
              unfold chkE at h2'
              unfold needE at nd
              split at h2'
              · rename_i y t i' ifs scope p'
                cases hsw : (X.env.kindOf n == some .local && q.line == p'.line && !(scope.names.any fun (m, k) => m == n && (k == .local || k == .cell))) with
                | false => exact ps_imp (ps_set (i := i) hN hi (by rw [G.hsc]; exact (loc_ok h1.2).1) he (by rw [sw_val hkx, hsw]) (.inl (hf n))) fun D σ H w => as_nm (fun Q z => z) w
                | true =>
                  have hloc : X.env.scope.names.lookup n = some .local := by
                    rw [Bool.and_eq_true, Bool.and_eq_true] at hsw
                    have := hsw.1.1
                    exact eq_of_beq this
                  simp only [Bool.and_eq_true, List.all_eq_true] at h2'
                  obtain ⟨⟨⟨⟨⟨⟨c1, c2⟩, c3⟩, c4⟩, c5⟩, c6⟩, c7⟩ := h2'
                  have ok : BlkOk X.N X.env.scope scope own := by rw [G.hN, G.hsc]; exact blkOk_by c1
                  have hv : ∀ i ∈ tgIx tg, i ∈ own.map (·.2) := fun i hi => by simpa using c2 i hi
                  exact ps_imp (ps_setLc (i := i) G.calm hN hi hloc (by rw [sw_val hkx, hsw]) (sndI G (all_l (all_r nd)) c4) ok
                    (fun s H C cl fp => sndTgI (G.blk s H scope C cl fp) (fun n e => e) (vs := own.map (·.2)) c5 hv c4)
                    (fun s H C cl fp => sndC (G.blk s H scope C cl fp) (all_r (all_r nd)) c6)
                    (fun s H C cl fp => sndE (G.blk s H scope C cl fp) (all_l nd) c7) (fun v => set_ok (nb c3) X.env v)) fun D σ H w => as_nm (fun Q z => comp_of z) w
              · cases h2'
            | _ => exact absurd hc (by
                unfold chkE at h2
                split at h2 <;> first | (intro z; cases (show false = true from z)) | cases h2)
          · cases h1
    · cases h
  | .sub o i e, X, W, st, G, hf, hX, tk, nd, h => by
    unfold chkS at h
    unfold needS at nd
    split at h
    · simp only [Bool.and_eq_true] at h
      obtain ⟨⟨⟨h1, h3⟩, h4⟩, h5⟩ := h
      exact as_sub G (sndE G (all_l nd) h3) (sndE G (all_l (all_r nd)) h4) (sndE G (all_r (all_r nd)) h5) (nb h1)
    · cases h
  | .augS o i e, X, W, st, G, hf, hX, tk, nd, h => by
    unfold chkS at h
    unfold needS at nd
    split at h
    · simp only [Bool.and_eq_true] at h
      obtain ⟨⟨⟨h1, h3⟩, h4⟩, h5⟩ := h
      exact as_augS G (sndE G (all_l nd) h3) (sndE G (all_l (all_r nd)) h4) (sndE G (all_r (all_r nd)) h5) (nb h1)
    · cases h
  | .fld C o f e, X, W, st, G, hf, hX, tk, nd, h => by
    unfold chkS at h
    unfold needS at nd
    split at h
    · simp only [Bool.and_eq_true, decide_eq_true_eq] at h
      obtain ⟨⟨rfl, h3⟩, h4⟩ := h
      exact as_fld (all_h nd) (sndE G (all_l (all_t nd)) h3) (sndE G (all_r (all_t nd)) h4)
    · cases h
  | .swp o i p j e, X, W, st, G, hf, hX, tk, nd, h => by
    unfold chkS at h
    unfold needS at nd
    split at h
    · simp only [Bool.and_eq_true] at h
      obtain ⟨⟨⟨⟨⟨⟨⟨c1, c2⟩, c3⟩, c4⟩, c5⟩, c6⟩, c7⟩, c8⟩ := h
      exact as_swp G (sndE G (all_l nd) c4) (sndE G (all_l (all_r nd)) c5) (sndE G (all_l (all_r (all_r nd))) c6) (sndE G (all_l (all_r (all_r (all_r nd)))) c7) (sndE G (all_r (all_r (all_r (all_r nd)))) c8) (nb c1) (nb c2) (nb c3)
    · cases h
  | .par i j a b, X, W, st, G, hf, hX, tk, nd, h => by
    unfold chkS at h
    unfold needS at nd
    split at h
    · simp only [Bool.and_eq_true, decide_eq_true_eq] at h
      obtain ⟨⟨⟨⟨⟨⟨⟨⟨⟨⟨⟨⟨⟨c0, c1⟩, c2⟩, c3⟩, c4⟩, c5⟩, c6⟩, c7⟩, c8⟩, c9⟩, c10⟩, c11⟩, c12⟩, c13⟩ := h
      exact as_par G hk c1 (nb c2) (nb c3) (nb c4) c5 c6 c7 c8 c9 (nb c10) (nb c11) (sndE G (all_l nd) c12) (sndE G (all_r nd) c13)
    · cases h
  | .par3 i j l a b c, X, W, st, G, hf, hX, tk, nd, h => by
    unfold chkS at h
    unfold needS at nd
    split at h
    · simp only [Bool.and_eq_true, decide_eq_true_eq] at h
      obtain ⟨⟨⟨⟨⟨⟨⟨⟨⟨⟨⟨⟨⟨⟨⟨⟨⟨⟨⟨⟨⟨c1, c2⟩, c3⟩, c4⟩, c5⟩, c6⟩, c7⟩, c8⟩, c9⟩, c10⟩, c11⟩, c12⟩, c13⟩, c14⟩, c15⟩, c16⟩, c17⟩, c18⟩, c19⟩, c20⟩, c21⟩, c22⟩ := h
      exact as_par3 G hk c1 c2 (nb c3) (nb c4) (nb c5) (nb c6) (nb c7) c8 c9 c10 c11 c12 c13 c14 c15 c16 (nb c17) (nb c18) (nb c19) (sndE G (all_l nd) c20) (sndE G (all_l (all_r nd)) c21) (sndE G (all_r (all_r nd)) c22)
    · cases h
  | .aug i e, X, W, st, G, hf, hX, tk, nd, h => by
    unfold chkS at h
    unfold needS at nd
    split at h
    · simp only [Bool.and_eq_true, decide_eq_true_eq] at h
      exact as_aug G h.1.1 h.1.2 (hf _) (sndE G nd h.2)
    · cases h
  | .ret e, X, W, st, G, hf, hX, tk, nd, h => by
    unfold chkS at h
    unfold needS at nd
    split at h
    · exact ps_imp (ps_ret (sndE G nd h)) fun D σ H ⟨ρ, h, Da, Z, rs, rh, op, qn, qr, qx⟩ => ⟨ρ, h, _, Z, rs, rh, op, qr⟩
    · cases h
  | .retn, X, W, st, G, hf, hX, tk, nd, h => by
    unfold chkS at h
    split at h
    · exact ps_imp ps_retN fun D σ H ⟨ρ, h, Da, Z, rs, rh, op, qn, qr, qx⟩ => qr _ _ _ _ op .refl .non rh
    · cases h
  | .ex e, X, W, st, G, hf, hX, tk, nd, h => by
    unfold chkS at h
    unfold needS at nd
    split at h
    · rw [Bool.and_eq_true] at h
      exact ps_imp (ps_expr (sndE G nd h.2) (swap_ok (nb h.1) _ _ _)) fun D σ H ⟨ρ, h, Da, Z, rs, rh, op, qn, qr, qx⟩ => ⟨ρ, h, _, Z, rs, rh, op, fun v h1 x1 H1 op1 e1 r1 rh1 => qn _ _ _ _ op1 e1 (rs.ext e1) rh1⟩
    · cases h
  | .ite c a b, X, W, st, G, hf, hX, tk, nd, h => by
    unfold chkS at h
    unfold needS at nd
    split at h
    · simp only [Bool.and_eq_true] at h
      exact as_if (sndT G (all_l nd) h.1.1).1 (sndSs hk G hf hX tk (all_l (all_r nd)) h.1.2) (sndSs hk G hf hX tk (all_r (all_r nd)) h.2)
    · cases h
  | .whl c b, X, W, st, G, hf, hX, tk, nd, h => by
    unfold chkS at h
    unfold needS at nd
    split at h
    · simp only [Bool.and_eq_true] at h
      exact as_while G (sndT G (all_l nd) h.1).1 (sndSs hk G hf hX tk (all_r nd) h.2)
    · cases h
  | .for_ t it b, X, W, st, G, hf, hX, tk, nd, h => by
    unfold chkS at h
    unfold needS at nd
    split at h
    · simp only [Bool.and_eq_true] at h
      obtain ⟨⟨⟨h1, h2⟩, h3⟩, h4⟩ := h
      exact as_for G (sndI G (all_l nd) h3) (sndTgI G (fun n _ => hf n) (vs := tgIx t) h2 (fun i hi => hi) h3) (sndSs hk G hf hX tk (all_r nd) h4) (nb h1)
    · cases h
  | .pass, X, W, st, G, hf, hX, tk, nd, h => by
    unfold chkS at h
    split at h
    · exact ps_imp ps_pass fun D σ H ⟨ρ, h, Da, Z, rs, rh, op, qn, qr, qx⟩ => qn _ _ _ _ op .refl rs rh
    · cases h
  | .never, X, W, st, G, hf, hX, tk, nd, h => ps_imp ps_never fun D σ H ⟨ρ, h, Da, Z, rs, rh, op, qn, qr, qx⟩ => op
  | .asgX t e, X, W, st, G, hf, hX, tk, nd, h => by
    unfold chkS at h
    unfold needS at nd
    split at h
    · rename_i x y p
      simp only [Bool.and_eq_true] at h
      obtain ⟨⟨⟨h1, h2⟩, h3⟩, h4⟩ := h
      have he := sndX G tk nd h2
      have hc := nb h4
      cases t with
      | nm i =>
        unfold chkTg at h1
        split at h1
        · rename_i n q
          simp only [Bool.and_eq_true, decide_eq_true_eq] at h1
          exact ps_imp (ps_set (i := i) (by rw [G.hN]; exact G.nd) (by rw [G.hN]; exact h1.1) (by rw [G.hsc]; exact (loc_ok h1.2).1) he (swap_ok hc _ _ _) (.inl (hf n))) fun D σ H w => ax_nm w
        · cases h1
      | tp ts => exact ps_imp (ps_asg he (sndTg G (fun n _ => hf n) (vs := tgIx (.tp ts)) h1 fun i hi => hi) (sole_ok hc _ _) (stores_ok (by
            have h3 := nb h3
            rw [h3]; rfl)) (by
            have := tg_star h1
            rw [asg_ok this]; rfl)) fun D σ H w => ax_asg w
    · cases h
  | .exX e, X, W, st, G, hf, hX, tk, nd, h => by
    unfold chkS at h
    unfold needS at nd
    split at h
    · rw [Bool.and_eq_true] at h
      exact ps_imp (ps_expr (sndX G tk nd h.2) (swap_ok (nb h.1) _ _ _)) fun D σ H ⟨ρ, h, Da, Z, rs, rh, op, qn, qr, qx⟩ => ⟨ρ, h, _, _, Z, rs, rh, op, fun v h1 x1 H1 op1 e1 r1 rh1 => qn _ _ _ _ op1 e1 (rs.ext e1) rh1, fun C h1 H1 q e rh1 => qx _ _ _ _ _ q e (rs.ext e) rh1⟩
    · cases h
  | .retX e, X, W, st, G, hf, hX, tk, nd, h => by
    unfold chkS at h
    unfold needS at nd
    split at h
    · exact ps_imp (ps_ret (sndX G tk nd h)) fun D σ H ⟨ρ, h, Da, Z, rs, rh, op, qn, qr, qx⟩ => ⟨ρ, h, _, _, Z, rs, rh, op, qr, fun C h1 H1 q e rh1 => qx _ _ _ _ _ q e (rs.ext e) rh1⟩
    · cases h
  | .rse C, X, W, st, G, hf, hX, tk, nd, h => by
    unfold chkS at h
    unfold needS at nd
    split at h
    · rename_i x p xs q r
      simp only [Bool.and_eq_true, decide_eq_true_eq] at h
      obtain ⟨⟨⟨rfl, h1⟩, h2⟩, h3⟩ := h
      obtain ⟨m1, m2, m3, m4, m5⟩ := all_h nd
      have fin : ∀ {e : Expr}, L2N.PMk X e (fun _ H Q => Q (.ref (g.CA x)) none H) → PS X (.Raise (some e) none r) (cS g W (rdS (.rse x))) := fun he =>
        ps_imp (L2N.ps_raise G.calm tk he) fun D σ H ⟨ρ, h, Da, Z, rs, rh, op, qn, qr, qx⟩ => qx _ _ _ _ _ op .refl rs rh
      unfold isMsg at h3
      split at h3
      · exact fin (pmk0 PySem.F.excBase_ValueError m2 m1 m3 (raises_own m4 m5) (G.gl h1) (okN_ok h2).1)
      · exact fin (L2N.pmk_own PySem.F.excBase_ValueError m2 m1 m3 (raises_own m4 m5) (G.gl h1) (okN_ok h2).1)
      · cases h3
    · cases h
  | .try_ kn b hs, X, W, st, G, hf, hX, tk, nd, h => by
    unfold chkS at h
    unfold needS at nd
    split at h
    · simp only [Bool.and_eq_true] at h
      refine ps_imp (ps_tryT hX.st hX.fr hX.ex (by rw [G.hN]; exact G.nd) tk (tb := fun W => cS g W (rdSs b)) (fun W' pn xe tk' po => sndSs hk ⟨G.hK, G.hN, G.hsc, G.nd, G.calm, po, G.room, G.bl, G.hn⟩ hf ⟨hX.st, hX.fr, hX.ex⟩ tk' (all_l nd) h.1) (sndHs G hf (all_r nd) h.2)) fun D σ H ⟨ρ, h, Da, Z, rs, rh, op, qn, qr, qx⟩ => ?_
      exact ⟨ρ, h, _, Z, rs, rh, op, qn, qr, fun C ρ' h' σ' H' q e r rh' => wT_of (X := X) (k := k) G.hn q.1 qn qr qx e r rh' (all_r nd) q.2⟩
    · cases h
  | .forD t i b, X, W, st, G, hf, hX, tk, nd, h => by
    unfold chkS at h
    unfold needS at nd
    split at h
    · simp only [Bool.and_eq_true, decide_eq_true_eq] at h
      obtain ⟨⟨⟨⟨h1, h2⟩, h3⟩, h4⟩, h5⟩ := h
      exact as_forD G (ae_var G h1 h2 h3) (sndTg G (fun n _ => hf n) (vs := tgIx t) h4 fun i hi => hi) (sndSs hk G hf hX tk nd h5) rfl
    · cases h
theorem sndSs (hk : sc.kind = .function) : ∀ {ss : Ss} {X : Cx} {W : WX} {st : List Stmt}, Good g k X N sc → (∀ n, X.fn n = true) → Top X → L2N.Takes X W → (∀ q ∈ needSs ss, Nd g k X q) → chkSs N sc ss st = true → PSs X st (cS g W (rdSs ss))
  | .nil, X, W, st, G, hf, hX, tk, nd, h => by
    unfold chkSs at h
    cases st with
    | nil => exact pss_imp pss_nil fun D σ H ⟨ρ, h, Da, Z, rs, rh, op, qn, qr, qx⟩ => qn _ _ _ _ op .refl rs rh
    | cons _ _ => cases (show false = true from h)
  | .cons s ss, X, W, st, G, hf, hX, tk, nd, h => by
    unfold chkSs at h
    unfold needSs at nd
    cases st with
    | nil => cases (show false = true from h)
    | cons x r =>
      have h : (chkS N sc s x && chkSs N sc ss r) = true := h
      rw [Bool.and_eq_true] at h
      refine pss_imp (pss_cons (sndS hk G hf hX tk (all_l nd) h.1) (sndSs hk G hf hX tk (all_r nd) h.2)) fun D σ H ⟨ρ, h, Da, Z, rs, rh, op, qn, qr, qx⟩ => ⟨ρ, h, _, Z, rs, rh, op, fun ρ' h' σ' H' q e r rh' => ?_, fun v h' x H' q e r rh' => qr _ _ _ _ q e r rh', qx⟩
      exact ⟨ρ', h', Da, Z, r, rh', q, fun ρ2 h2 σ2 H2 q2 e2 r2 rh2 => qn _ _ _ _ q2 (e.trans e2) r2 rh2, fun v h2 x H2 q2 e2 r2 rh2 => qr _ _ _ _ q2 (e.trans e2) r2 rh2, fun C ρ2 h2 σ2 H2 q2 e2 r2 rh2 => qx _ _ _ _ _ q2 (e.trans e2) r2 rh2⟩
end
end
end F2
set_option Elab.async false
set_option linter.all false
set_option maxRecDepth 100000
set_option maxHeartbeats 4000000
namespace F2
open PySem PySem.Spec PyProof.Rows
open L2
def startA (n : Nat) (vs : List Va) : Sa := vs.map some ++ List.replicate (n - vs.length) none
def Ret (Q : KA) : KA := fun v h' => ∃ h'', (∀ a o, h'' a = some o → h' a = some o) ∧ Q v h''
theorem ret_of {Q : KA} {v : Va} {h : Ah} (q : Q v h) : Ret Q v h := ⟨h, fun _ _ e => e, q⟩
def FnA (np n : Nat) (sp : ASp) (ir : Ss) : Prop := ∀ avs h Q, sp avs h Q → avs.length = np ∧ rdSs ir { nx := fun _ h' => Ret Q .non h', rt := Ret Q } (startA n avs) h
theorem RS.start {g : Gx} {H : Hp} {N : List Str} : ∀ {avs : List Va} {vs : List V}, RVs g H avs vs → RS g H (startA N.length avs) (L2.start N vs) := by
  intro avs vs r
  have hl := r.length
  refine ⟨by unfold startA L2.start; rw [List.length_append, List.length_append, List.length_map, List.length_map, List.length_replicate, List.length_replicate, hl], fun i v e => ?_⟩
  unfold startA at e
  unfold L2.start
  by_cases hi : i < avs.length
  · rw [List.getElem?_append_left (by simpa using hi), List.getElem?_map] at e
    cases q : avs[i]? with
    | none => rw [q] at e; cases e
    | some a =>
      rw [q] at e
      cases e
      obtain ⟨y, hy, ry⟩ := r.got q
      refine ⟨y, ?_, ry⟩
      rw [List.getElem?_append_left (by simpa using hl ▸ hi), List.getElem?_map, hy]
      rfl
  · rw [List.getElem?_append_right (by simpa using hi), List.getElem?_replicate] at e
    split at e <;> cases e
theorem fn_ok {g : Gx} {P : Program} {w : World} {K : PySem.W.Frag} {mg : Str → Option Value} {base : Heap} {n qual : Str} {st : Stmt} {f : Addr} {fd : FuncData} {N ps : List Str} {k m : Nat} {sp : ASp} {ir : Ss}
    (hK : g.K = K) (hn : g.hot = none) (F : Fun K n qual st f fd) (S : FnScope N ps (defScope st)) (bl : ∀ n ∈ bNames, mg n = none) (nd : ∀ q ∈ needSs ir, NdP g k P w K mg base q) (c : chkSs N (defScope st) ir (defBody st) = true)
    (hm : N.length = m) (ok : FnA ps.length m sp ir) : FnOk P w K mg base CX0 (k + 1) f fd ps (cSp g sp) := by
  subst hm
  refine F.ok S (fun vs H Q E h => ?_) fun cdv A outer s H vs Q E hr h => ?_
  · obtain ⟨avs, h, Qa, Z, rv, rh, hsp, _⟩ := h
    rw [← rv.length]
    exact (ok avs h Qa hsp).1
  · obtain ⟨avs, h, Qa, Z, rv, rh, hsp, q⟩ := h
    have G : Good g k (cxOf CX0 P w K mg base N qual (defScope st) f cdv A outer s H E).nox N (defScope st) := ⟨hK.symm, rfl, rfl, S.nd, rfl, PassesOwn.never, hr, bl, hn⟩
    refine ⟨_, sndSs (W := fun _ _ _ _ => False) S.kind G (fun _ => rfl) ⟨rfl, rfl, rfl⟩ takes0N (fun q hq => (nd q hq).nd (Room.z hr)) c, startA N.length avs, h, _, Z, .start rv, rh, (ok avs h Qa hsp).2, fun ρ' h' σ' H' hq e r rh' => ?_, fun v h' x H' hq e r rh' => ?_, fun _ _ _ _ _ q _ _ _ => q.elim⟩
    · obtain ⟨h'', hs, hq⟩ := hq
      exact q _ _ _ _ hq e .non (rh'.sub hs)
    · obtain ⟨h'', hs, hq⟩ := hq
      exact q _ _ _ _ hq e r (rh'.sub hs)
def RetX (E : XEa) : Str → Sa → Ah → Prop := fun C _ h' => ∃ h'', (∀ a o, h'' a = some o → h' a = some o) ∧ E C h''
def FnXA (np n : Nat) (sp : XSp) (ir : Ss) : Prop := ∀ avs h Q E, sp avs h Q E → avs.length = np ∧ rdSs ir { nx := fun _ h' => Ret Q .non h', rt := Ret Q, ex := RetX E } (startA n avs) h
theorem nd_fn {g : Gx} {P : Program} {w : World} {K : PySem.W.Frag} {mg : Str → Option Value} {base : Heap} {j k : Nat} {a : Addr} {fd : FuncData} {ps : List Str} {f : Str} {sp : ASp} (F : FnOk P w K mg base CX0 j a fd ps (cSp g sp)) (hj : j ≤ k) (hm : mg f = some (.ref a)) (kp : PySem.W.keepIn K (.ref a) = true) (b : Binds K fd ps []) :
    NdP g k P w K mg base (.fn f sp) := ⟨a, fd, ps, F.mono hj, hm, kp, b⟩
def spLaw : ASp := fun avs _ Q => ∃ ns : List Int, avs = [.fls (ns.map Va.int)] ∧ ns.length ≤ 63 ∧ ∀ h', Q (.bl true) h'
theorem law_sp {K : PySem.W.Frag} {CA : Str → Addr} {H : Hp} {a : Addr} {ns : List Int} (hl : ns.length ≤ 63) (hO : Only H) (hS : SqL K H a (ns.map V.int)) : cSp (gx K CA) spLaw [.ref a] H (fun v _ => v = .bl true) fun _ _ _ => False := by
  have hF : FrzL K H a (ns.map V.int) := by
    rcases hS with (h | ⟨o, h⟩) | h
    · rcases hO a with z | ⟨o, xs, z⟩
      · rw [h] at z; cases z
      · rw [h] at z; cases z
    · exact .inl ⟨o, h⟩
    · exact .inr h
  refine ⟨[.fls (ns.map Va.int)], fun _ => none, fun v _ => v = .bl true, fun _ => none, .cons (.fls hF (RVs.of_ints ns)) .nil, ⟨fun _ _ e => (nomatch e), fun _ _ e => (nomatch e), GI.none, fun _ _ e => (nomatch e)⟩, ⟨ns, rfl, hl, fun _ => rfl⟩, fun v h' x H' e _ r _ => ?_⟩
  subst e
  cases r
  rfl
end F2
set_option Elab.async false
set_option linter.all false
set_option maxRecDepth 100000
set_option maxHeartbeats 4000000
namespace F2
open PySem PySem.Spec PyProof.Rows
open L2
def Sub (h h' : Ah) : Prop := ∀ a o, h a = some o → h' a = some o
theorem Sub.rfl' {h : Ah} : Sub h h := fun _ _ e => e
theorem Sub.trans {a b c : Ah} (x : Sub a b) (y : Sub b c) : Sub a c := fun p o e => y p o (x p o e)
theorem Sub.nn {h h' : Ah} {p : Addr} (x : Sub h h') (n : h' p = none) : h p = none := by
  cases q : h p with
  | none => rfl
  | some o => rw [x _ _ q] at n; cases n
theorem Sub.put {h h' : Ah} {p : Addr} {o : Ob} (x : Sub h h') (n : h p = none) : Sub h (put h' p o) := fun a u e => by
  rw [put_ne (fun z => by subst z; rw [n] at e; cases e)]
  exact x _ _ e
theorem Sub.new {h h' : Ah} {p : Addr} {o : Ob} (x : Sub h h') (n : h' p = none) : Sub h (F2.put h' p o) := x.put (x.nn n)
theorem Sub.both {h h' : Ah} {p : Addr} {o : Ob} (x : Sub h h') : Sub (F2.put h p o) (F2.put h' p o) := fun a u e => by
  unfold F2.put at e ⊢
  split
  · rename_i z; rw [if_pos z] at e; exact e
  · rename_i z; rw [if_neg z] at e; exact x _ _ e
theorem ret_sub {Q : KA} {v : Va} {h h' : Ah} (s : Sub h h') (q : Q v h) : Ret Q v h' := ⟨h, s, q⟩
theorem loop_at {gd : Ah → Prop} {f : Va → Sa → Ah → (Sa → Ah → Prop) → Prop} {k : Sa → Ah → Prop} (Inv : Nat → Sa → Ah → Prop) (xs : List Va) {ρ : Sa} {h : Ah} (h0 : Inv 0 ρ h)
    (hs : ∀ (i : Nat) (hi : i < xs.length) ρ h (K : Sa → Ah → Prop), Inv i ρ h → (∀ ρ' h', Inv (i + 1) ρ' h' → gd h' → K ρ' h') → f xs[i] ρ h K) (hn : ∀ ρ h, Inv xs.length ρ h → k ρ h) :
    loop gd f xs ρ h k := by
  suffices ∀ (n i : Nat) (ρ : Sa) (h : Ah), n + i = xs.length → Inv i ρ h → loop gd f (xs.drop i) ρ h k by
    have := this xs.length 0 ρ h rfl h0
    simpa using this
  intro n
  induction n with
  | zero =>
    intro i ρ h hi inv
    have : i = xs.length := by omega
    subst this
    rw [List.drop_length]
    exact hn ρ h inv
  | succ n ih =>
    intro i ρ h hi inv
    have hl : i < xs.length := by omega
    rw [List.drop_eq_getElem_cons hl]
    exact hs i hl ρ h _ inv fun ρ' h' inv' g => ⟨g, ih (i + 1) ρ' h' (by omega) inv'⟩
theorem comps_pure {gd : Ah → Prop} {f : Va → Ah → (Option Va → Ah → Prop) → Prop} {k : List Va → Ah → Prop} {h : Ah} (G : Va → Option Va) (g : gd h) :
    ∀ (xs acc : List Va), (∀ x ∈ xs, ∀ K : Option Va → Ah → Prop, K (G x) h → f x h K) → k (acc ++ xs.filterMap G) h → comps gd f xs acc h k
  | [], acc, _, q => by simpa [comps] using q
  | x :: xs, acc, hs, q => by
    refine hs x List.mem_cons_self _ ⟨g, comps_pure G g xs _ (fun y hy => hs y (List.mem_cons_of_mem _ hy)) ?_⟩
    rw [List.filterMap_cons] at q
    cases e : G x with
    | none => rw [e] at q; simpa using q
    | some v => rw [e] at q; simpa using q
theorem comps_enc {α : Type} {gd : Ah → Prop} {f : Va → Ah → (Option Va → Ah → Prop) → Prop} {k : List Va → Ah → Prop} {h : Ah} (enc : α → Va) (G : α → Option Va) (g : gd h) :
    ∀ (l : List α) (acc : List Va), (∀ x ∈ l, ∀ K : Option Va → Ah → Prop, K (G x) h → f (enc x) h K) → k (acc ++ l.filterMap G) h → comps gd f (l.map enc) acc h k
  | [], acc, _, q => by simpa [comps] using q
  | x :: xs, acc, hs, q => by
    refine hs x List.mem_cons_self _ ⟨g, comps_enc enc G g xs _ (fun y hy => hs y (List.mem_cons_of_mem _ hy)) ?_⟩
    rw [List.filterMap_cons] at q
    cases e : G x with
    | none => rw [e] at q; simpa using q
    | some v => rw [e] at q; simpa using q
theorem comps_map {α : Type} {gd : Ah → Prop} {f : Va → Ah → (Option Va → Ah → Prop) → Prop} {k : List Va → Ah → Prop} {h : Ah} (enc G : α → Va) (g : gd h) (l : List α)
    (hs : ∀ x ∈ l, ∀ K : Option Va → Ah → Prop, K (some (G x)) h → f (enc x) h K) (q : k (l.map G) h) : comps gd f (l.map enc) [] h k :=
  comps_enc enc (fun x => some (G x)) g l [] hs (by rw [List.filterMap_eq_map']; exact q)
theorem loop_enc {α : Type} {gd : Ah → Prop} {f : Va → Sa → Ah → (Sa → Ah → Prop) → Prop} {k : Sa → Ah → Prop} (enc : α → Va) (Inv : Nat → Sa → Ah → Prop) (l : List α) {ρ : Sa} {h : Ah} (h0 : Inv 0 ρ h)
    (hs : ∀ (i : Nat) (hi : i < l.length) ρ h (K : Sa → Ah → Prop), Inv i ρ h → (∀ ρ' h', Inv (i + 1) ρ' h' → gd h' → K ρ' h') → f (enc l[i]) ρ h K) (hn : ∀ ρ h, Inv l.length ρ h → k ρ h) :
    loop gd f (l.map enc) ρ h k :=
  loop_at Inv (l.map enc) h0 (fun i hi ρ h K inv q => by rw [List.getElem_map]; exact hs i (by simpa using hi) ρ h K inv q) (fun ρ h inv => hn ρ h (by simpa using inv))
theorem loop_rg {gd : Ah → Prop} {f : Va → Sa → Ah → (Sa → Ah → Prop) → Prop} {k : Sa → Ah → Prop} {a b : Int} (Inv : Nat → Sa → Ah → Prop) {ρ : Sa} {h : Ah} (h0 : Inv 0 ρ h)
    (hs : ∀ (i : Nat) (hi : i < (b - a).toNat) ρ h (K : Sa → Ah → Prop), Inv i ρ h → (∀ ρ' h', Inv (i + 1) ρ' h' → gd h' → K ρ' h') → f (.int (a + i)) ρ h K) (hn : ∀ ρ h, Inv (b - a).toNat ρ h → k ρ h) :
    loop gd f (rgA a b) ρ h k :=
  loop_enc (fun i : Nat => Va.int (a + i)) Inv (List.range (b - a).toNat) h0 (fun i hi ρ h K inv q => by rw [List.getElem_range]; exact hs i (by simpa using hi) ρ h K inv q) (fun ρ h inv => hn ρ h (by simpa using inv))
theorem comps_sub {α : Type} {gd : Ah → Prop} {f : Va → Ah → (Option Va → Ah → Prop) → Prop} {k : List Va → Ah → Prop} {h1 : Ah} (enc : α → Va) (G : α → Option Va) (gd1 : ∀ h', Sub h1 h' → gd h') :
    ∀ (l : List α) (acc : List Va) (h2 : Ah), Sub h1 h2 → (∀ x ∈ l, ∀ h2 (K : Option Va → Ah → Prop), Sub h1 h2 → (∀ h3, Sub h1 h3 → K (G x) h3) → f (enc x) h2 K) → (∀ h', Sub h1 h' → k (acc ++ l.filterMap G) h') → comps gd f (l.map enc) acc h2 k
  | [], acc, h2, s2, _, q => by have := q h2 s2; simpa [comps] using this
  | x :: xs, acc, h2, s2, hs, q => by
    refine hs x List.mem_cons_self h2 _ s2 fun h3 s3 => ⟨gd1 h3 s3, comps_sub enc G gd1 xs _ h3 s3 (fun y hy => hs y (List.mem_cons_of_mem _ hy)) fun h' s' => ?_⟩
    have := q h' s'
    rw [List.filterMap_cons] at this
    cases e : G x with
    | none => rw [e] at this; simpa using this
    | some v => rw [e] at this; simpa using this
theorem gv_zero {v : Va} {ρ : Sa} {k : Va → Prop} : gv (some v :: ρ) 0 k = k v := rfl
theorem gv_succ {o : Option Va} {ρ : Sa} {i : Nat} {k : Va → Prop} : gv (o :: ρ) (i + 1) k = gv ρ i k := rfl
theorem wipeA_nil {ρ : Sa} : wipeA ρ [] = ρ := rfl
theorem wipeA_cons {ρ : Sa} {i : Nat} {is : List Nat} : wipeA ρ (i :: is) = (wipeA ρ is).set i none := rfl
section
variable {h : Ah} {Q : KA} {k : Bool → Prop} {i j : Int} {a b : Addr} {xs ys : List Va} {v w : Va}
theorem bin_add : aBin .Add = aAdd := rfl
theorem bin_mul : aBin .Mult = aMul := rfl
theorem bin_sub : aBin .Sub (.int i) (.int j) h Q = Q (.int (i - j)) h := propext ⟨fun z => z.2, fun z => ⟨trivial, z⟩⟩
theorem bin_div : aBin .FloorDiv (.int i) (.int j) h Q = (CDiv i j ∧ Q (.int (i / j)) h) := rfl
theorem bin_mod : aBin .Mod (.int i) (.int j) h Q = (0 < j ∧ Q (.int (i % j)) h) := rfl
theorem bin_pow : aBin .Pow (.int i) (.int j) h Q = (CPow i j ∧ Q (.int (i ^ j.toNat)) h) := rfl
theorem bin_shr : aBin .RShift (.int i) (.int j) h Q = (0 ≤ j ∧ Q (.int (i / 2 ^ j.toNat)) h) := rfl
theorem bin_shl : aBin .LShift (.int i) (.int j) h Q = (CPow i j ∧ Q (.int (i * 2 ^ j.toNat)) h) := rfl
theorem bin_and : aBin .BitAnd (.int i) (.int j) h Q = Q (.int (Builtin.bitAnd i j)) h := propext ⟨fun z => z.2, fun z => ⟨trivial, z⟩⟩
theorem cmp_eq : aCmp .Eq v w h k = aEq v w h k := rfl
theorem cmp_ne : aCmp .NotEq v w h k = aEq v w h fun b => k (!b) := rfl
theorem cmp_lt : aCmp .Lt (.int i) (.int j) h k = k (decide (i < j)) := rfl
theorem cmp_le : aCmp .LtE (.int i) (.int j) h k = k (decide (i ≤ j)) := rfl
theorem cmp_gt : aCmp .Gt (.int i) (.int j) h k = k (decide (j < i)) := rfl
theorem cmp_ge : aCmp .GtE (.int i) (.int j) h k = k (decide (j ≤ i)) := rfl
theorem cmp_is : aCmp .Is v w h k = aIs v w h k := rfl
theorem cmp_isn : aCmp .IsNot v w h k = aIs v w h fun b => k (!b) := rfl
theorem cmp_in : aCmp .In v w h k = aIn v w h k := rfl
theorem cmp_nin : aCmp .NotIn v w h k = aIn v w h fun b => k (!b) := rfl
theorem aAdd_int : aAdd (.int i) (.int j) h Q = Q (.int (i + j)) h := rfl
theorem aAdd_str {x y : Str} : aAdd (.str x) (.str y) h Q = (x.length + y.length ≤ sizeLine ∧ Q (.str (x ++ y)) h) := rfl
theorem aAdd_tup : aAdd (.tup xs) (.tup ys) h Q = (xs.length + ys.length ≤ sizeLine ∧ Q (.tup (xs ++ ys)) h) := rfl
theorem aAdd_ref : aAdd (.ref a) (.ref b) h Q = ∃ xs ys, h a = some (.lst xs) ∧ h b = some (.lst ys) ∧ xs.length + ys.length ≤ sizeLine ∧ newL (xs ++ ys) h Q := rfl
theorem aMul_int : aMul (.int i) (.int j) h Q = (CMul i j ∧ Q (.int (i * j)) h) := rfl
theorem aMul_tup : aMul (.tup xs) (.int j) h Q = (-1000 ≤ j ∧ j ≤ 1000 ∧ xs.length ≤ 1000 ∧ Q (.tup (List.replicate j.toNat xs).flatten) h) := rfl
theorem aMul_ref : aMul (.ref a) (.int j) h Q = ∃ xs, h a = some (.lst xs) ∧ -(2 ^ 63) ≤ j ∧ j < 2 ^ 63 ∧ xs.length * j.toNat ≤ sizeLine ∧ newL (List.replicate j.toNat xs).flatten h Q := rfl
theorem aInt1_int {f : Int → Prop} : aInt1 (.int i) f = f i := rfl
theorem aBool_bl {c : Bool} : aBool (.bl c) k = k c := rfl
theorem aIx_tup : aIx (.tup xs) (.int i) h Q = ∃ u, atI xs i = some u ∧ Q u h := rfl
theorem aIx_ref : aIx (.ref a) w h Q = ((∃ xs i u, h a = some (.lst xs) ∧ w = .int i ∧ atI xs i = some u ∧ Q u h) ∨ ∃ kvs ky u, (h a = some (.dk kvs) ∨ h a = some (.fdk kvs)) ∧ keyA w = some ky ∧ valA kvs ky = some u ∧ Q u h) := by cases w <;> rfl
theorem aSl_tup {lo hi : Option Int} : aSl (.tup xs) lo hi h Q = Q (.tup (cutA xs lo hi)) h := rfl
theorem aSl_fls {lo hi : Option Int} : aSl (.fls xs) lo hi h Q = newL (cutA xs lo hi) h Q := rfl
theorem aSl_ref {lo hi : Option Int} : aSl (.ref a) lo hi h Q = ∃ xs, h a = some (.lst xs) ∧ newL (cutA xs lo hi) h Q := rfl
theorem aTru_bl {c : Bool} : aTru (.bl c) h k = k c := rfl
theorem aTru_int : aTru (.int i) h k = k (i != 0) := rfl
theorem aTru_non : aTru .non h k = k false := rfl
theorem aTru_tup : aTru (.tup xs) h k = k (!xs.isEmpty) := rfl
theorem aTru_ref : aTru (.ref a) h k = ((∃ xs, h a = some (.lst xs) ∧ k (!xs.isEmpty)) ∨ ∃ kvs, h a = some (.dk kvs) ∧ k (!kvs.isEmpty)) := rfl
theorem aSeq_tup {R : List Va → (Ah → Prop) → Prop} : aSeq (.tup xs) h R = R xs fun _ => True := rfl
theorem aSeq_ref {R : List Va → (Ah → Prop) → Prop} : aSeq (.ref a) h R = ∃ xs, h a = some (.lst xs) ∧ R xs fun h' => h' a = some (.lst xs) := rfl
theorem len_tup : a1 .len (.tup xs) h Q = Q (.int xs.length) h := rfl
theorem len_fls : a1 .len (.fls xs) h Q = Q (.int xs.length) h := rfl
theorem len_ref : a1 .len (.ref a) h Q = ((∃ xs, h a = some (.lst xs) ∧ Q (.int xs.length) h) ∨ ∃ kvs, h a = some (.dk kvs) ∧ Q (.int kvs.length) h) := rfl
theorem list_tup : a1 .list (.tup xs) h Q = newL xs h Q := rfl
theorem list_fls : a1 .list (.fls xs) h Q = newL xs h Q := rfl
theorem list_ref : a1 .list (.ref a) h Q = ((∃ xs, h a = some (.lst xs) ∧ newL xs h Q) ∨ ∃ kvs, h a = some (.dk kvs) ∧ newL (kvs.map fun p => match p.1 with | .inl i => Va.int i | .inr x => Va.str x) h Q) := rfl
theorem tuple_tup : a1 .tuple (.tup xs) h Q = Q (.tup xs) h := rfl
theorem tuple_ref : a1 .tuple (.ref a) h Q = ∃ xs, h a = some (.lst xs) ∧ Q (.tup xs) h := rfl
theorem int_int : a1 .int (.int i) h Q = Q (.int i) h := rfl
theorem int_bl {c : Bool} : a1 .int (.bl c) h Q = Q (.int (if c then 1 else 0)) h := rfl
theorem bool_int : a1 .bool (.int i) h Q = Q (.bl (i != 0)) h := rfl
theorem bool_bl {c : Bool} : a1 .bool (.bl c) h Q = Q (.bl c) h := rfl
theorem max_tup : a1 .max (.tup xs) h Q = ∃ ns : List Int, xs = ns.map Va.int ∧ 0 < ns.length ∧ ∀ m, m ∈ ns → (∀ y, y ∈ ns → y ≤ m) → Q (.int m) h := rfl
theorem max_ref : a1 .max (.ref a) h Q = ∃ xs, h a = some (.lst xs) ∧ ∃ ns : List Int, xs = ns.map Va.int ∧ 0 < ns.length ∧ ∀ m, m ∈ ns → (∀ y, y ∈ ns → y ≤ m) → Q (.int m) h := rfl
theorem min_tup : a1 .min (.tup xs) h Q = ∃ ns : List Int, xs = ns.map Va.int ∧ 0 < ns.length ∧ ∀ m, m ∈ ns → (∀ y, y ∈ ns → m ≤ y) → Q (.int m) h := rfl
theorem min_ref : a1 .min (.ref a) h Q = ∃ xs, h a = some (.lst xs) ∧ ∃ ns : List Int, xs = ns.map Va.int ∧ 0 < ns.length ∧ ∀ m, m ∈ ns → (∀ y, y ∈ ns → m ≤ y) → Q (.int m) h := rfl
theorem sum_tup : a1 .sum (.tup xs) h Q = ∃ ns : List Int, xs = ns.map Va.int ∧ Q (.int ns.sum) h := rfl
theorem sum_ref : a1 .sum (.ref a) h Q = ∃ xs, h a = some (.lst xs) ∧ ∃ ns : List Int, xs = ns.map Va.int ∧ Q (.int ns.sum) h := rfl
theorem rsl_tup : aRsl (.tup xs) (.int i) h Q = (i = -1 ∧ Q (.tup xs.reverse) h) := by unfold aRsl; simp only [Va.int.injEq]
theorem sorted_tup : a1 .sorted (.tup xs) h Q = ∃ ns : List Int, xs = ns.map Va.int ∧ ∀ ns' : List Int, ns'.Perm ns → ns'.Pairwise (· ≤ ·) → newL (ns'.map Va.int) h Q := rfl
theorem stp_ref {lo : Option Int} : aStp (.ref a) lo (.int i) h Q = (i ≠ 0 ∧ ∃ xs, h a = some (.lst xs) ∧ newL (pickA xs lo i) h Q) := rfl
theorem stp_fls {lo : Option Int} : aStp (.fls xs) lo (.int i) h Q = (i ≠ 0 ∧ newL (pickA xs lo i) h Q) := rfl
theorem srtR_ref : aSrtR (.ref a) h Q = ∃ ns : List Int, h a = some (.lst (ns.map Va.int)) ∧ ∀ ns' : List Int, ns'.Perm ns → ns'.Pairwise (· ≥ ·) → newL (ns'.map Va.int) h Q := rfl
theorem sortP_ref : a1 .sortP (.ref a) h Q = ∃ ps : List (Int × Int), h a = some (.lst (ps.map prV)) ∧ ∀ ps' : List (Int × Int), ps'.Perm ps → ps'.Pairwise (fun p q => SrtO.lexB q p = false) → newL (ps'.map prV) h Q := rfl
theorem sortS_ref : a1 .sortS (.ref a) h Q = ∃ ss : List Str, h a = some (.lst (ss.map Va.str)) ∧ ss.length < 64 ∧ ∀ ss' : List Str, ss'.Perm ss → sortedS ss' = true → newL (ss'.map Va.str) h Q := rfl
theorem sorted_ref : a1 .sorted (.ref a) h Q = ∃ ns : List Int, h a = some (.lst (ns.map Va.int)) ∧ ∀ ns' : List Int, ns'.Perm ns → ns'.Pairwise (· ≤ ·) → newL (ns'.map Va.int) h Q := rfl
theorem sortD_ref : a1 .sortD (.ref a) h Q = ∃ (kvs : List (Key × Va)) (ns : List Int), h a = some (.dk kvs) ∧ (kvs.map fun p => match p.1 with | .inl i => Va.int i | .inr x => Va.str x) = ns.map Va.int ∧ ∀ ns' : List Int, ns'.Perm ns → ns'.Pairwise (· ≤ ·) → newL (ns'.map Va.int) h Q := rfl
theorem all_ref : a1 .all (.ref a) h Q = ∃ bs : List Bool, h a = some (.lst (bs.map Va.bl)) ∧ Q (.bl (bs.all id)) h := rfl
theorem a2_int {m : Bool} : a2 m (.int i) (.int j) h Q = Q (.int (if m then (if j > i then j else i) else (if j < i then j else i))) h := rfl
theorem aIn_tup : aIn v (.tup xs) h k = (flatA v = true ∧ xs.all flatA = true ∧ k (inA v xs)) := by cases v <;> rfl
theorem aIn_ref : aIn v (.ref a) h k = ((∃ ws, h a = some (.lst ws) ∧ flatA v = true ∧ ws.all flatA = true ∧ k (inA v ws)) ∨ (∃ kvs ky, h a = some (.dk kvs) ∧ keyA v = some ky ∧ k (valA kvs ky).isSome)) := by cases v <;> rfl
theorem aIs_non : aIs v .non h k = k (isNon v) := by cases v <;> rfl
theorem aIs_bl {c d : Bool} : aIs (.bl c) (.bl d) h k = k (decide (c = d)) := rfl
def wr (h : Ah) (a : Addr) (o : Ob) (f : Ah → Prop) : Prop := ∀ h', h' a = some o → (∀ b, b ≠ a → h' b = h b) → f h'
theorem wr_eq {o : Ob} {f : Ah → Prop} : wr h a o f = f (put h a o) := propext ⟨fun z => z _ put_same fun _ n => put_ne n, fun z h' e n => by
  have : h' = put h a o := by
    funext b
    by_cases q : b = a
    · rw [q, e, put_same]
    · rw [n b q, put_ne q]
  rw [this]; exact z⟩
theorem app_ref : aAppend (.ref a) w h Q = ∃ xs, h a = some (.lst xs) ∧ xs.length < sizeLine ∧ wr h a (.lst (xs ++ [w])) (Q .non) := by simp only [wr_eq]; rfl
theorem ext_ref : aExtend (.ref a) (.ref b) h Q = ∃ xs ys, h a = some (.lst xs) ∧ h b = some (.lst ys) ∧ xs.length + ys.length ≤ sizeLine ∧ wr h a (.lst (xs ++ ys)) (Q .non) := by simp only [wr_eq]; rfl
theorem pop_ref : aPop (.ref a) h Q = ∃ xs u, h a = some (.lst xs) ∧ xs[xs.length - 1]? = some u ∧ wr h a (.lst xs.dropLast) (Q u) := by simp only [wr_eq]; rfl
theorem popAt_ref : aPopAt (.ref a) (.int i) h Q = ∃ xs k u, h a = some (.lst xs) ∧ -(2 ^ 63) ≤ i ∧ i < 2 ^ 63 ∧ seqIndex? i xs.length = some k ∧ xs[k]? = some u ∧ wr h a (.lst (xs.eraseIdx k)) (Q u) := by simp only [wr_eq]; rfl
theorem set_ref {u : Va} {f : Ah → Prop} : aSet (.ref a) w u h f = ((∃ xs i j, h a = some (.lst xs) ∧ w = .int i ∧ ixN xs.length i = some j ∧ f (put h a (.lst (xs.set j u)))) ∨
      ∃ kvs ky, h a = some (.dk kvs) ∧ keyA w = some ky ∧ kvs.length < sizeLine ∧ f (put h a (.dk (putA kvs ky u)))) := rfl
theorem isL_ref : isL (.ref a) h = ∃ xs, h a = some (.lst xs) := by
  unfold isL
  exact propext ⟨fun ⟨_, xs, e, h⟩ => ⟨xs, by cases e; exact h⟩, fun ⟨xs, h⟩ => ⟨_, xs, rfl, h⟩⟩
theorem isLT_ref : isLT (.ref a) h = ∃ xs, h a = some (.lst xs) := by
  unfold isLT
  rw [isL_ref]
  exact propext ⟨fun z => z.elim (fun ⟨_, e⟩ => nomatch e) id, .inr⟩
theorem isLT_tup : isLT (.tup xs) h = True := eq_true (.inl ⟨xs, rfl⟩)
theorem isT_tup : isT (.tup xs) = True := propext ⟨fun _ => trivial, fun _ => ⟨_, rfl⟩⟩
theorem rem_ref {w : Va} : aRem (.ref a) w h Q = ∃ (xs : List Va) (ds : List PyData) (d : PyData) (j : Nat) (z : PyData), h a = some (.lst xs) ∧ Das h xs ds ∧ Da h w d ∧ PyData.canLayAll0 ds = true ∧ d.canLay0 = true ∧ d.depth ≤ 60 ∧ ds[j]? = some z ∧ PyData.eqv z d = true ∧ (∀ (m : Nat) (z' : PyData), m < j → ds[m]? = some z' → PyData.eqv z' d = false) ∧ wr h a (.lst (xs.eraseIdx j)) (Q .non) := by simp only [wr_eq]; rfl
theorem ins_ref {u : Va} : aIns (.ref a) (.int i) u h Q = ∃ xs, h a = some (.lst xs) ∧ xs.length < sizeLine ∧ 0 ≤ i ∧ i < 2 ^ 63 ∧ wr h a (.lst (xs.take i.toNat ++ [u] ++ xs.drop i.toNat)) (Q .non) := by simp only [wr_eq]; rfl
theorem rvs_ref : aRvs (.ref a) h Q = ∃ xs, h a = some (.lst xs) ∧ wr h a (.lst xs.reverse) (Q .non) := by simp only [wr_eq]; rfl
theorem lset_ref : aLset (.ref a) h Q = ∃ xs, h a = some (.lst xs) ∧ ∃ ns : List Int, xs = ns.map Va.int ∧ ns.length ≤ 4000 ∧ ∀ ms : List Int, ms.Nodup → (∀ k, k ∈ ms ↔ k ∈ ns) → Q (.int (ms.length : Nat)) h := rfl
theorem lset_tup : aLset (.tup xs) h Q = ∃ ns : List Int, xs = ns.map Va.int ∧ ns.length ≤ 4000 ∧ ∀ ms : List Int, ms.Nodup → (∀ k, k ∈ ms ↔ k ∈ ns) → Q (.int (ms.length : Nat)) h := rfl
theorem sset_ref : aSset (.ref a) h Q = ∃ xs, h a = some (.lst xs) ∧ ∃ ns us : List Int, xs = ns.map Va.int ∧ ns.length ≤ 4000 ∧ us.length < 4000 ∧ (∀ k ∈ ns, k ∈ us) ∧ ∀ ms : List Int, ms.Pairwise (· < ·) → (∀ k, k ∈ ms ↔ k ∈ ns) → newL (ms.map Va.int) h Q := rfl
theorem sortR_ref : aSortR (.ref a) h Q = ∃ rs : List (List Int), h a = some (.lst (rs.map rowI)) ∧ (∀ r ∈ rs, r ≠ []) ∧ ∀ rs' : List (List Int), rs'.Perm rs → rs'.Pairwise (· ≤ ·) → newL (rs'.map rowI) h Q := rfl
theorem sumL_ref {w : Va} : aSumL (.ref a) w h Q = ∃ (z : Addr) (as : List Addr) (rows : List (List Va)), w = .ref z ∧ h a = some (.lst (as.map Va.ref)) ∧ h z = some (.lst []) ∧ as.length = rows.length ∧ (∀ (i : Nat) (a : Addr) (r : List Va), as[i]? = some a → rows[i]? = some r → h a = some (.lst r)) ∧ rows.flatten.length ≤ sizeLine ∧ (rows.flatten = [] → Q (.ref z) h) ∧ newL rows.flatten h Q := rfl
theorem inD_ref {w : Addr} {k : Bool → Prop} : aInD v (.ref w) h k = ∃ (d : PyData) (ds : List PyData), Da h v d ∧ Da h (.ref w) (.list ds) ∧ PyData.plainAll ds = true ∧ d.plain = true ∧ d.depth ≤ 60 ∧ k (ds.any fun y => PyData.eqv y d) := rfl
theorem gtT_tup {xs ys : List Va} {k : Bool → Prop} : aGtT (.tup xs) (.tup ys) h k = ∃ ns ms : List Int, xs = ns.map Va.int ∧ ys = ms.map Va.int ∧ k (decide (ms < ns)) := rfl
theorem strD_tup {xs : List Va} : aStrD (.tup xs) h Q = ∃ d, Da h (.tup xs) d ∧ d.showable = true ∧ d.hasDict = false ∧ d.shown.length ≤ sizeLine ∧ d.depth ≤ 60 ∧ Q (.str d.shown) h := propext ⟨fun z => z.2, fun z => ⟨trivial, z⟩⟩
theorem strD_ref {w : Addr} : aStrD (.ref w) h Q = ∃ d, Da h (.ref w) d ∧ d.showable = true ∧ d.hasDict = false ∧ d.shown.length ≤ sizeLine ∧ d.depth ≤ 60 ∧ Q (.str d.shown) h := propext ⟨fun z => z.2, fun z => ⟨trivial, z⟩⟩
theorem ssetT_tup : aSsetT (.tup xs) h Q = ∃ ps : List (Int × Int), xs = ps.map prV ∧ ps.length < 64 ∧ (∀ p ∈ ps, (0 ≤ p.1 ∧ p.1 < 64) ∧ (0 ≤ p.2 ∧ p.2 < 64)) ∧ ∀ ps' : List (Int × Int), (∀ p, p ∈ ps' ↔ p ∈ ps) → ps'.Pairwise lessP → newL (ps'.map prV) h Q := rfl
theorem sortP_tup : a1 .sortP (.tup xs) h Q = ∃ ps : List (Int × Int), xs = ps.map prV ∧ ∀ ps' : List (Int × Int), ps'.Perm ps → ps'.Pairwise (fun p q => SrtO.lexB q p = false) → newL (ps'.map prV) h Q := rfl
theorem sset_tup : aSset (.tup xs) h Q = ∃ ns us : List Int, xs = ns.map Va.int ∧ ns.length ≤ 4000 ∧ us.length < 4000 ∧ (∀ k ∈ ns, k ∈ us) ∧ ∀ ms : List Int, ms.Pairwise (· < ·) → (∀ k, k ∈ ms ↔ k ∈ ns) → newL (ms.map Va.int) h Q := rfl
def newD (kvs : List (Key × Va)) (h : Ah) (Q : KA) : Prop := ∀ p, h p = none → Q (.ref p) (put h p (.dk kvs))
theorem dct1_int {x : Va} : aDct1 (.int i) x h Q = newD [(.inl i, x)] h Q := propext ⟨fun ⟨_, e, z⟩ => by cases e; exact z, fun z => ⟨_, rfl, z⟩⟩
theorem dct1_str {s : Str} {x : Va} : aDct1 (.str s) x h Q = newD [(.inr s, x)] h Q := propext ⟨fun ⟨_, e, z⟩ => by cases e; exact z, fun z => ⟨_, rfl, z⟩⟩
theorem isS_str {s : Str} : isS (.str s) = True := eq_true ⟨s, rfl⟩
theorem sm_edw {s t : Str} : aSm .edw (.str s) (.str t) h Q = Q (.bl (Txt.endswith s t)) h := propext ⟨fun ⟨_, _, e1, e2, q⟩ => by cases e1; cases e2; exact q, fun q => ⟨_, _, rfl, rfl, q⟩⟩
theorem sm_split {s t : Str} : aSm .split (.str s) (.str t) h Q = ((t.length == 0) = false ∧ s.length + 2 ≤ sizeLine ∧ newL ((Txt.split s t).map Va.str) h Q) := propext ⟨fun ⟨_, _, e1, e2, q⟩ => by cases e1; cases e2; exact q, fun q => ⟨_, _, rfl, rfl, q⟩⟩
theorem sm_join {s : Str} : aSm .join (.str s) (.ref a) h Q = ∃ ys : List Str, h a = some (.lst (ys.map Va.str)) ∧ (ys.map (·.length)).sum + ys.length * s.length ≤ 16777216 ∧ Q (.str (Txt.join s ys)) h := propext ⟨fun ⟨_, _, ys, e1, e2, q⟩ => by cases e1; cases e2; exact ⟨ys, q⟩, fun ⟨ys, q⟩ => ⟨_, _, ys, rfl, rfl, q⟩⟩
theorem sm_index {s t : Str} : aSm .index (.str s) (.str t) h Q = ∃ i rest, Builtin.Str.occurrences s t 0 s.length 1 = i :: rest ∧ Q (.int (i : Nat)) h := propext ⟨fun ⟨_, _, i, r, e1, e2, q⟩ => by cases e1; cases e2; exact ⟨i, r, q⟩, fun ⟨i, r, q⟩ => ⟨_, _, i, r, rfl, rfl, q⟩⟩
theorem dctL_ref : aDctL (.ref a) h Q = ∃ kvs : List (Key × Va), h a = some (.lst (kvs.map fun kv => Va.tup [kA kv.1, kv.2])) ∧ newD (mergeA [] kvs) h Q := rfl
theorem fld_ref {C f : Str} : aFld C (.ref a) f h Q = ∃ fs u, h a = some (.ins C fs) ∧ fs.lookup f = some u ∧ Q u h := rfl
theorem setF_ref {C f : Str} {u : Va} {q : Ah → Prop} : aSetF C (.ref a) f u h q = ∃ fs, h a = some (.ins C fs) ∧ fs.length < 1000 ∧ wr h a (.ins C (putFA f u fs)) q := by simp only [wr_eq]; rfl
theorem isC_ref {C m : Str} : isC C m (.ref a) h = ∃ fs, h a = some (.ins C fs) ∧ fs.lookup m = none := propext ⟨fun ⟨_, fs, e, z⟩ => ⟨fs, by cases e; exact z⟩, fun ⟨fs, z⟩ => ⟨a, fs, rfl, z⟩⟩
theorem ty_non {f : String → Prop} : tyA .non h f = f "NoneType" := rfl
theorem ty_bl {f : String → Prop} {c : Bool} : tyA (.bl c) h f = f "bool" := rfl
theorem ty_int {f : String → Prop} : tyA (.int i) h f = f "int" := rfl
theorem ty_str {f : String → Prop} {x : Str} : tyA (.str x) h f = f "str" := rfl
theorem ty_tup {f : String → Prop} : tyA (.tup xs) h f = f "tuple" := rfl
theorem ty_ref {f : String → Prop} : tyA (.ref a) h f = ((∃ xs, h a = some (.lst xs) ∧ f "list") ∨ ∃ kvs, h a = some (.dk kvs) ∧ f "dict") := rfl
theorem ix_at (g : h a = some (.lst xs)) : aIx (.ref a) (.int i) h Q = ∃ u, atI xs i = some u ∧ Q u h := by
  rw [aIx_ref]; simp only [g, Option.some.injEq, Ob.lst.injEq, reduceCtorEq, false_and, exists_false, or_false, exists_and_left, exists_eq_left', Va.int.injEq]
theorem tru_at (g : h a = some (.lst xs)) : aTru (.ref a) h k = k (!xs.isEmpty) := by
  rw [aTru_ref]; simp only [g, Option.some.injEq, Ob.lst.injEq, reduceCtorEq, false_and, exists_false, or_false, exists_and_left, exists_eq_left']
theorem len_at (g : h a = some (.lst xs)) : a1 .len (.ref a) h Q = Q (.int xs.length) h := by
  rw [len_ref]; simp only [g, Option.some.injEq, Ob.lst.injEq, reduceCtorEq, false_and, exists_false, or_false, exists_and_left, exists_eq_left']
theorem list_at (g : h a = some (.lst xs)) : a1 .list (.ref a) h Q = newL xs h Q := by
  rw [list_ref]; simp only [g, Option.some.injEq, Ob.lst.injEq, reduceCtorEq, false_and, exists_false, or_false, exists_and_left, exists_eq_left']
theorem in_at (g : h a = some (.lst xs)) : aIn v (.ref a) h k = (flatA v = true ∧ xs.all flatA = true ∧ k (inA v xs)) := by
  rw [aIn_ref]; simp only [g, Option.some.injEq, Ob.lst.injEq, reduceCtorEq, false_and, exists_false, or_false, exists_and_left, exists_eq_left']
theorem set_at {u : Va} {f : Ah → Prop} (g : h a = some (.lst xs)) : aSet (.ref a) (.int i) u h f = ∃ j, ixN xs.length i = some j ∧ wr h a (.lst (xs.set j u)) f := by
  rw [set_ref]; simp only [wr_eq, g, Option.some.injEq, Ob.lst.injEq, reduceCtorEq, false_and, exists_false, or_false, exists_and_left, exists_eq_left', Va.int.injEq]
theorem ty_at {f : String → Prop} (g : h a = some (.lst xs)) : tyA (.ref a) h f = f "list" := by
  rw [ty_ref]; simp only [g, Option.some.injEq, Ob.lst.injEq, reduceCtorEq, false_and, exists_false, or_false, exists_and_left, exists_eq_left', exists_const]
section
variable {kvs : List (Key × Va)}
theorem isE_non : aIsE kn cs .non h Q = Q (.bl false) h := rfl
end
theorem newL_in (H : ∀ p h', Sub h h' → h p = none → h' p = some (.lst xs) → Q (.ref p) h') : newL xs h Q := fun p np => H p _ (Sub.rfl'.new np) np put_same
theorem newL_put (H : ∀ p, h p = none → Q (.ref p) (put h p (.lst xs))) : newL xs h Q := H
end
mutual
def toD : Va → PyData
  | .non => .none
  | .bl b => .bool b
  | .int i => .int i
  | .str x => .str x
  | .tup xs => .tuple (toDs xs)
  | .fls _ => .none
  | .ref _ => .none
def toDs : List Va → List PyData
  | [] => []
  | x :: xs => toD x :: toDs xs
end
mutual
def okD : Va → Nat → Bool
  | .non, _ => true
  | .bl _, _ => true
  | .int _, _ => true
  | .str x, _ => PyData.strOk x
  | .tup xs, n => match n with
    | 0 => false
    | n + 1 => okDs xs n
  | .fls _, _ => false
  | .ref _, _ => false
def okDs : List Va → Nat → Bool
  | [], _ => true
  | x :: xs, n => okD x n && okDs xs n
end
mutual
theorem okD_of {h : Ah} : ∀ (v : Va) (n : Nat), okD v n = true → Da h v (toD v) ∧ (toD v).canLay0 = true ∧ (toD v).depth ≤ n ∧ ∀ d, Da h v d → d = toD v
  | .non, n, _ => ⟨.non, rfl, Nat.zero_le _, fun d e => by cases e; rfl⟩
  | .bl b, n, _ => ⟨.bl b, rfl, Nat.zero_le _, fun d e => by cases e; rfl⟩
  | .int b, n, _ => ⟨.int b, rfl, Nat.zero_le _, fun d e => by cases e; rfl⟩
  | .str b, n, e => ⟨.str b, by unfold okD at e; unfold toD PyData.canLay0; exact e, Nat.zero_le _, fun d e => by cases e; rfl⟩
  | .tup xs, 0, e => by unfold okD at e; cases e
  | .tup xs, n + 1, e => by
    obtain ⟨h1, h2, h3, h4⟩ := okDs_of (h := h) xs n (by unfold okD at e; exact e)
    refine ⟨.tup h1, by unfold toD PyData.canLay0; exact h2, by unfold toD PyData.depth; omega, fun d e => ?_⟩
    cases e with | tup q => rw [h4 _ q]; rfl
  | .fls _, n, e => by unfold okD at e; cases e
  | .ref _, n, e => by unfold okD at e; cases e
theorem okDs_of {h : Ah} : ∀ (v : List Va) (n : Nat), okDs v n = true → Das h v (toDs v) ∧ PyData.canLayAll0 (toDs v) = true ∧ PyData.depthAll (toDs v) ≤ n ∧ ∀ d, Das h v d → d = toDs v
  | [], n, _ => ⟨.nil, rfl, Nat.zero_le _, fun d e => by cases e; rfl⟩
  | x :: xs, n, e => by
    unfold okDs at e
    rw [Bool.and_eq_true] at e
    obtain ⟨h1, h2, h3, h4⟩ := okD_of (h := h) x n e.1
    obtain ⟨g1, g2, g3, g4⟩ := okDs_of (h := h) xs n e.2
    refine ⟨.cons h1 g1, by unfold toDs PyData.canLayAll0; rw [h2, g2]; rfl, by unfold toDs PyData.depthAll; omega, fun d e => ?_⟩
    cases e with | cons q r => rw [h4 _ q, g4 _ r]; rfl
end
theorem Das.len {h : Ah} : ∀ {xs : List Va} {ds : List PyData}, Das h xs ds → ds.length = xs.length
  | _, _, .nil => rfl
  | _, _, .cons _ r => by rw [List.length_cons, List.length_cons, Das.len r]
theorem aEq_free {v w : Va} {h : Ah} {k : Bool → Prop} {n m : Nat} (hv : okD v n = true) (hw : okD w m = true) (hn : n ≤ 64) (hm : m ≤ 64) : aEq v w h k = k (PyData.eqv (toD v) (toD w)) := by
  obtain ⟨h1, h2, h3, h4⟩ := okD_of (h := h) v n hv
  obtain ⟨g1, g2, g3, g4⟩ := okD_of (h := h) w m hw
  refine propext ⟨fun t => ?_, fun q => .inl ⟨_, _, h1, g1, ?_, ?_, q⟩⟩
  · rcases t with ⟨d, e, q1, q2, _, _, q⟩ | ⟨xs, rfl, rfl, q⟩ | ⟨a, b, xs, ys, rfl, rfl, _, _, _, _⟩
    · rw [h4 _ q1, g4 _ q2] at q; exact q
    · cases xs <;> exact q
    · cases hv
  · unfold SeqAt.shaped; rw [h2, decide_eq_true (by omega)]; rfl
  · unfold SeqAt.shaped; rw [g2, decide_eq_true (by omega)]; rfl
theorem aEq_lists {a b : Addr} {xs ys : List Va} {h : Ah} {k : Bool → Prop} {n m : Nat} (ha : h a = some (.lst xs)) (hb : h b = some (.lst ys)) (hv : okDs xs n = true) (hw : okDs ys m = true) (hn : n ≤ 63) (hm : m ≤ 63) :
    aEq (.ref a) (.ref b) h k = k (PyData.eqvAll (toDs xs) (toDs ys)) := by
  obtain ⟨h1, h2, h3, h4⟩ := okDs_of (h := h) xs n hv
  obtain ⟨g1, g2, g3, g4⟩ := okDs_of (h := h) ys m hw
  refine propext ⟨fun t => ?_, fun q => .inl ⟨.list (toDs xs), .list (toDs ys), .lst ha h1, .lst hb g1, ?_, ?_, q⟩⟩
  · rcases t with ⟨d, e, q1, q2, _, _, q⟩ | ⟨xs, e, _, q⟩ | ⟨a', b', xs', ys', e1, e2, e3, e4, ne, q⟩
    · cases q1 with | lst e1 r1 =>
      cases q2 with | lst e2 r2 =>
      rw [ha] at e1; cases e1
      rw [hb] at e2; cases e2
      rw [h4 _ r1, g4 _ r2] at q; exact q
    · cases e
    · cases e1; cases e2
      rw [ha] at e3; cases e3
      rw [hb] at e4; cases e4
      rw [SeqAt.eqvAll_other_length (by rw [h1.len, g1.len] ; exact ne)]; exact q
  · unfold SeqAt.shaped PyData.canLay0 PyData.depth; rw [h2, decide_eq_true (by omega)]; rfl
  · unfold SeqAt.shaped PyData.canLay0 PyData.depth; rw [g2, decide_eq_true (by omega)]; rfl
section
variable {h : Ah} {k : Bool → Prop} {i j : Int}
theorem aEq_int : aEq (.int i) (.int j) h k = k (i == j) := aEq_free (n := 0) (m := 0) rfl rfl (by decide) (by decide)
theorem aEq_bl {c d : Bool} : aEq (.bl c) (.bl d) h k = k (c == d) := aEq_free (n := 0) (m := 0) rfl rfl (by decide) (by decide)
theorem aEq_bi {c : Bool} : aEq (.bl c) (.int j) h k = k ((if c then 1 else 0) == j) := aEq_free (n := 0) (m := 0) rfl rfl (by decide) (by decide)
theorem aEq_ib {c : Bool} : aEq (.int j) (.bl c) h k = k (j == (if c then 1 else 0)) := aEq_free (n := 0) (m := 0) rfl rfl (by decide) (by decide)
theorem aEq_nn : aEq .non .non h k = k true := aEq_free (n := 0) (m := 0) rfl rfl (by decide) (by decide)
theorem aEq_ni : aEq .non (.int i) h k = k false := aEq_free (n := 0) (m := 0) rfl rfl (by decide) (by decide)
theorem aEq_in : aEq (.int i) .non h k = k false := aEq_free (n := 0) (m := 0) rfl rfl (by decide) (by decide)
end
theorem okDs_ints (ns : List Int) (n : Nat) : okDs (ns.map Va.int) n = true := by
  induction ns with
  | nil => rfl
  | cons a r ih => rw [List.map_cons]; unfold okDs; rw [ih]; rfl
theorem atI_nat {xs : List Va} {i : Nat} : atI xs (i : Int) = xs[i]? := by
  unfold atI ixN
  rw [if_pos (by omega)]
  by_cases e : i < xs.length
  · rw [if_pos (by omega)]; simp
  · rw [if_neg (by omega)]; simp; omega
theorem ixN_pos {n : Nat} {i : Int} (h0 : 0 ≤ i) (h1 : i < n) : ixN n i = some i.toNat := by
  unfold ixN
  rw [if_pos h0, if_pos h1]
theorem atI_0 {x : Va} {xs : List Va} : atI (x :: xs) 0 = some x := atI_nat (i := 0)
theorem atI_1 {x y : Va} {xs : List Va} : atI (x :: y :: xs) 1 = some y := atI_nat (i := 1)
theorem atI_2 {x y z : Va} {xs : List Va} : atI (x :: y :: z :: xs) 2 = some z := atI_nat (i := 2)
theorem atI_3 {x y z u : Va} {xs : List Va} : atI (x :: y :: z :: u :: xs) 3 = some u := atI_nat (i := 3)
theorem turns_inv {c : TTa} {b : TSa} {D : Enda} (Inv : Nat → Sa → Ah → Prop)
    (hs : ∀ m ρ h, Inv m ρ h → ∀ K : Sa → Ah → Prop, (∀ m' ρ' h', m' < m → Inv m' ρ' h' → K ρ' h') → c ρ h fun t h' => if t = true then b { D with nx := K } ρ h' else D.nx ρ h') :
    ∀ (N m : Nat) (ρ : Sa) (h : Ah), m ≤ N → Inv m ρ h → turns c b D (N + 1) ρ h := by
  intro N
  induction N with
  | zero => exact fun m ρ h hm inv => hs m ρ h inv _ fun m' _ _ hl => absurd hl (by omega)
  | succ N ih => exact fun m ρ h hm inv => hs m ρ h inv _ fun m' ρ' h' hl inv' => ih m' ρ' h' (by omega) inv'
theorem whl_inv {c : TTa} {b : TSa} {D : Enda} (Inv : Nat → Sa → Ah → Prop) {m : Nat} {ρ : Sa} {h : Ah} (h0 : Inv m ρ h)
    (hs : ∀ m ρ h, Inv m ρ h → ∀ K : Sa → Ah → Prop, (∀ m' ρ' h', m' < m → Inv m' ρ' h' → K ρ' h') → c ρ h fun t h' => if t = true then b { D with nx := K } ρ h' else D.nx ρ h') :
    ∃ n, turns c b D n ρ h := ⟨m + 1, turns_inv Inv hs m m ρ h (Nat.le_refl _) h0⟩
theorem cutA_from {xs : List Va} {k : Nat} : cutA xs (some (k : Int)) none = xs.drop k := by
  unfold cutA
  rw [HT.sIx_nat, HT.sIx_none]
  by_cases e : k ≤ xs.length
  · rw [Nat.min_eq_left e, List.take_of_length_le (by rw [List.length_drop]; exact Nat.le_refl _)]
  · rw [Nat.min_eq_right (by omega), List.drop_eq_nil_of_le (Nat.le_refl _), List.drop_eq_nil_of_le (by omega)]; simp
theorem rgA_nat {n : Nat} : rgA 0 n = ((List.range n).map fun i : Nat => (i : Int)).map Va.int := by
  unfold rgA
  rw [List.map_map, show ((n : Int) - 0).toNat = n by omega]
  congr 1
  funext i
  show Va.int (0 + (i : Int)) = Va.int i
  rw [Int.zero_add]
theorem seqIx_nat {n i : Nat} (h : i < n) : seqIndex? (i : Int) n = some i := by
  unfold seqIndex?
  rw [if_neg (by omega : ¬ (i : Int) < 0)]
  simp; omega
theorem sub_NoneType_int : isSub "NoneType" "int" = false := by decide
theorem sub_NoneType_bool : isSub "NoneType" "bool" = false := by decide
theorem sub_NoneType_tuple : isSub "NoneType" "tuple" = false := by decide
theorem sub_NoneType_str : isSub "NoneType" "str" = false := by decide
theorem sub_NoneType_list : isSub "NoneType" "list" = false := by decide
theorem sub_NoneType_dict : isSub "NoneType" "dict" = false := by decide
theorem sub_bool_int : isSub "bool" "int" = true := by decide
theorem sub_bool_bool : isSub "bool" "bool" = true := by decide
theorem sub_bool_tuple : isSub "bool" "tuple" = false := by decide
theorem sub_bool_str : isSub "bool" "str" = false := by decide
theorem sub_bool_list : isSub "bool" "list" = false := by decide
theorem sub_bool_dict : isSub "bool" "dict" = false := by decide
theorem sub_int_int : isSub "int" "int" = true := by decide
theorem sub_int_bool : isSub "int" "bool" = false := by decide
theorem sub_int_tuple : isSub "int" "tuple" = false := by decide
theorem sub_int_str : isSub "int" "str" = false := by decide
theorem sub_int_list : isSub "int" "list" = false := by decide
theorem sub_int_dict : isSub "int" "dict" = false := by decide
theorem sub_str_int : isSub "str" "int" = false := by decide
theorem sub_str_bool : isSub "str" "bool" = false := by decide
theorem sub_str_tuple : isSub "str" "tuple" = false := by decide
theorem sub_str_str : isSub "str" "str" = true := by decide
theorem sub_str_list : isSub "str" "list" = false := by decide
theorem sub_str_dict : isSub "str" "dict" = false := by decide
theorem sub_tuple_int : isSub "tuple" "int" = false := by decide
theorem sub_tuple_bool : isSub "tuple" "bool" = false := by decide
theorem sub_tuple_tuple : isSub "tuple" "tuple" = true := by decide
theorem sub_tuple_str : isSub "tuple" "str" = false := by decide
theorem sub_tuple_list : isSub "tuple" "list" = false := by decide
theorem sub_tuple_dict : isSub "tuple" "dict" = false := by decide
theorem sub_list_int : isSub "list" "int" = false := by decide
theorem sub_list_bool : isSub "list" "bool" = false := by decide
theorem sub_list_tuple : isSub "list" "tuple" = false := by decide
theorem sub_list_str : isSub "list" "str" = false := by decide
theorem sub_list_list : isSub "list" "list" = true := by decide
theorem sub_list_dict : isSub "list" "dict" = false := by decide
theorem sub_dict_int : isSub "dict" "int" = false := by decide
theorem sub_dict_bool : isSub "dict" "bool" = false := by decide
theorem sub_dict_tuple : isSub "dict" "tuple" = false := by decide
theorem sub_dict_str : isSub "dict" "str" = false := by decide
theorem sub_dict_list : isSub "dict" "list" = false := by decide
theorem sub_dict_dict : isSub "dict" "dict" = true := by decide
end F2
set_option Elab.async false
set_option linter.all false
set_option maxRecDepth 100000
set_option maxHeartbeats 1000000
namespace F2
open PySem PySem.Spec PyProof.Rows
open L2
mutual
def stE : E → E
  | .bin o a b => .bin o (stE a) (stE b)
  | .neg a => .neg (stE a)
  | .not a => .not (stE a)
  | .cmp o a b => .cmp o (stE a) (stE b)
  | .chn o o' a b c => .chn o o' (stE a) (stE b) (stE c)
  | .and a b => .and (stE a) (stE b)
  | .or a b => .or (stE a) (stE b)
  | .ife c a b => .ife (stE c) (stE a) (stE b)
  | .tup es => .tup (stEs es)
  | .lst es => .lst (stEs es)
  | .ix a i => .ix (stE a) (stE i)
  | .sl a lo hi => .sl (stE a) (stP lo) (stP hi)
  | .b1 f a => .b1 f (stE a)
  | .b2 mx a b => .b2 mx (stE a) (stE b)
  | .isi a T => .isi (stE a) T
  | .lrev a => .lrev (stE a)
  | .trev a => .trev (stE a)
  | .stp a lo m => .stp (stE a) (stP lo) (stE m)
  | .srtR a => .srtR (stE a)
  | .lset a => .lset (stE a)
  | .sm f o a => .sm f (stE o) (stE a)
  | .sset a => .sset (stE a)
  | .ssetT a => .ssetT (stE a)
  | .sortR a => .sortR (stE a)
  | .sumL a b => .sumL (stE a) (stE b)
  | .dctZ a b => .dctZ (stE a) (stE b)
  | .trvT a => .trvT (stE a)
  | .slB a b => .slB (stE a) (stE b)
  | .strD a => .strD (stE a)
  | .inD a b => .inD (stE a) (stE b)
  | .gtT a b => .gtT (stE a) (stE b)
  | .dct1 a b => .dct1 (stE a) (stE b)
  | .dctL a => .dctL (stE a)
  | .lrg r => .lrg (stR r)
  | .trg r => .trg (stR r)
  | .call _ sp es => .call "" sp (stEs es)
  | .callG f sp es => .callG f sp (stEs es)
  | .callH f sp es => .callH f sp (stEs es)
  | .rsl a m => .rsl (stE a) (stE m)
  | .orv a b => .orv (stE a) (stE b)
  | .app o a => .app (stE o) (stE a)
  | .ext o a => .ext (stE o) (stE a)
  | .pop o => .pop (stE o)
  | .popAt o a => .popAt (stE o) (stE a)
  | .get o a b => .get (stE o) (stE a) (stE b)
  | .cnt o a => .cnt (stE o) (stE a)
  | .ins o a b => .ins (stE o) (stE a) (stE b)
  | .rvs o => .rvs (stE o)
  | .get1 o a => .get1 (stE o) (stE a)
  | .idx o a => .idx (stE o) (stE a)
  | .idxD o a => .idxD (stE o) (stE a)
  | .rem o a => .rem (stE o) (stE a)
  | .fld C o f => .fld C (stE o) f
  | .om C m sp o es => .om C m sp (stE o) (stEs es)
  | .mk C sp es => .mk C sp (stEs es)
  | .isE a kn cs => .isE (stE a) kn cs
  | .comp own elt tg it c => .comp (own.map fun p => (Str.empty, p.2)) (stE elt) tg (stI it) (stP c)
  | .gint _ n => .gint "" n
  | .gstr _ s => .gstr "" s
  | .gdef _ a => .gdef "" a
  | .rpl a y z => .rpl (stE a) y z
  | e => e
def stEs : Es → Es
  | .nil => .nil
  | .cons e es => .cons (stE e) (stEs es)
def stP : Po → Po
  | .no => .no
  | .at e => .at (stE e)
def stR : Rg → Rg
  | .one b => .one (stE b)
  | .two a b => .two (stE a) (stE b)
def stI : I → I
  | .seq e => .seq (stE e)
  | .txt e => .txt (stE e)
  | .rg r => .rg (stR r)
  | .enum e => .enum (stE e)
  | .zip a b => .zip (stE a) (stE b)
  | .dn a b => .dn (stE a) (stE b)
end
def stX : Xe → Xe
  | .call f sp es => .call f sp (stEs es)
  | .om C m sp o es => .om C m sp (stE o) (stEs es)
  | .lst2 a x => .lst2 (stE a) (stX x)
  | .ix x i => .ix (stX x) (stE i)
  | .cl f sp x => .cl f sp (stX x)
  | .cal2 i a sp b tp es => .cal2 i a sp b tp (stEs es)
  | .b1 f x => .b1 f (stX x)
  | .comp own elt tg x c => .comp (own.map fun p => (Str.empty, p.2)) (stE elt) tg (stX x) (stP c)
mutual
def stS : S → S
  | .asg t e => .asg t (stE e)
  | .asgL t e => .asgL t (stE e)
  | .sub o i e => .sub (stE o) (stE i) (stE e)
  | .augS o i e => .augS (stE o) (stE i) (stE e)
  | .fld C o f e => .fld C (stE o) f (stE e)
  | .par i j a b => .par i j (stE a) (stE b)
  | .par3 i j l a b c => .par3 i j l (stE a) (stE b) (stE c)
  | .swp o i p j e => .swp (stE o) (stE i) (stE p) (stE j) (stE e)
  | .aug i e => .aug i (stE e)
  | .ret e => .ret (stE e)
  | .ex e => .ex (stE e)
  | .ite c a b => .ite (stE c) (stSs a) (stSs b)
  | .whl c b => .whl (stE c) (stSs b)
  | .for_ t it b => .for_ t (stI it) (stSs b)
  | .asgX t x => .asgX t (stX x)
  | .exX x => .exX (stX x)
  | .retX x => .retX (stX x)
  | .try_ kn b hs => .try_ kn (stSs b) (stHs hs)
  | .forD t i b => .forD t i (stSs b)
  | s => s
def stHs : Hs → Hs
  | .nil => .nil
  | .cons C i su r => .cons C i (stSs su) (stHs r)
def stSs : Ss → Ss
  | .nil => .nil
  | .cons s ss => .cons (stS s) (stSs ss)
end
theorem own_st (own : List (Str × Nat)) : (own.map fun p => ((Str.empty : Str), p.2)).map (·.2) = own.map (·.2) := by rw [List.map_map]; rfl
mutual
theorem rd_stE : ∀ e : E, rdE (stE e) = rdE e ∧ rdT (stE e) = rdT e
  | .bin o a b => by simp only [stE, rdE, rdT, (rd_stE a).1, (rd_stE b).1, and_self]
  | .neg a => by simp only [stE, rdE, rdT, (rd_stE a).1, and_self]
  | .not a => by simp only [stE, rdE, rdT, (rd_stE a).1, (rd_stE a).2, and_self]
  | .cmp o a b => by simp only [stE, rdE, rdT, (rd_stE a).1, (rd_stE b).1, and_self]
  | .chn o o' a b c => by simp only [stE, rdE, rdT, (rd_stE a).1, (rd_stE b).1, (rd_stE c).1, and_self]
  | .and a b => by simp only [stE, rdE, rdT, (rd_stE a).1, (rd_stE b).1, (rd_stE a).2, (rd_stE b).2, and_self]
  | .or a b => by simp only [stE, rdE, rdT, (rd_stE a).1, (rd_stE b).1, (rd_stE a).2, (rd_stE b).2, and_self]
  | .ife c a b => by simp only [stE, rdE, rdT, (rd_stE a).1, (rd_stE b).1, (rd_stE c).2, and_self]
  | .tup es => by simp only [stE, rdE, rdT, rd_stEs es, and_self]
  | .lst es => by simp only [stE, rdE, rdT, rd_stEs es, and_self]
  | .ix a i => by simp only [stE, rdE, rdT, (rd_stE a).1, (rd_stE i).1, and_self]
  | .sl a lo hi => by simp only [stE, rdE, rdT, (rd_stE a).1, (rd_stP lo).1, (rd_stP hi).1, and_self]
  | .b1 f a => by simp only [stE, rdE, rdT, (rd_stE a).1, and_self]
  | .b2 mx a b => by simp only [stE, rdE, rdT, (rd_stE a).1, (rd_stE b).1, and_self]
  | .isi a T => by simp only [stE, rdE, rdT, (rd_stE a).1, and_self]
  | .lrev a => by simp only [stE, rdE, rdT, (rd_stE a).1, and_self]
  | .trev a => by simp only [stE, rdE, rdT, (rd_stE a).1, and_self]
  | .stp a lo m => by simp only [stE, rdE, rdT, (rd_stE a).1, (rd_stP lo).1, (rd_stE m).1, and_self]
  | .srtR a => by simp only [stE, rdE, rdT, (rd_stE a).1, and_self]
  | .lset a => by simp only [stE, rdE, rdT, (rd_stE a).1, and_self]
  | .sm f o a => by simp only [stE, rdE, rdT, (rd_stE o).1, (rd_stE a).1, and_self]
  | .sset a => by simp only [stE, rdE, rdT, (rd_stE a).1, and_self]
  | .ssetT a => by simp only [stE, rdE, rdT, (rd_stE a).1, and_self]
  | .sortR a => by simp only [stE, rdE, rdT, (rd_stE a).1, and_self]
  | .trvT a => by simp only [stE, rdE, rdT, (rd_stE a).1, and_self]
  | .slB a b => by simp only [stE, rdE, rdT, (rd_stE a).1, (rd_stE b).1, and_self]
  | .dctZ a b => by simp only [stE, rdE, rdT, (rd_stE a).1, (rd_stE b).1, and_self]
  | .sumL a b => by simp only [stE, rdE, rdT, (rd_stE a).1, (rd_stE b).1, and_self]
  | .strD a => by simp only [stE, rdE, rdT, (rd_stE a).1, and_self]
  | .inD a b => by simp only [stE, rdE, rdT, (rd_stE a).1, (rd_stE b).1, and_self]
  | .gtT a b => by simp only [stE, rdE, rdT, (rd_stE a).1, (rd_stE b).1, and_self]
  | .dct1 a b => by simp only [stE, rdE, rdT, (rd_stE a).1, (rd_stE b).1, and_self]
  | .dctL a => by simp only [stE, rdE, rdT, (rd_stE a).1, and_self]
  | .lrg r => by simp only [stE, rdE, rdT, rd_stR r, and_self]
  | .trg r => by simp only [stE, rdE, rdT, rd_stR r, and_self]
  | .call f sp es => by simp only [stE, rdE, rdT, rd_stEs es, and_self]
  | .callG f sp es => by simp only [stE, rdE, rdT, rd_stEs es, and_self]
  | .callH f sp es => by simp only [stE, rdE, rdT, rd_stEs es, and_self]
  | .rsl a m => by simp only [stE, rdE, rdT, (rd_stE a).1, (rd_stE m).1, and_self]
  | .orv a b => by simp only [stE, rdE, rdT, (rd_stE a).1, (rd_stE b).1, and_self]
  | .app o a => by simp only [stE, rdE, rdT, (rd_stE a).1, (rd_stE o).1, and_self]
  | .ext o a => by simp only [stE, rdE, rdT, (rd_stE a).1, (rd_stE o).1, and_self]
  | .pop o => by simp only [stE, rdE, rdT, (rd_stE o).1, and_self]
  | .popAt o a => by simp only [stE, rdE, rdT, (rd_stE a).1, (rd_stE o).1, and_self]
  | .get o a b => by simp only [stE, rdE, rdT, (rd_stE a).1, (rd_stE b).1, (rd_stE o).1, and_self]
  | .cnt o a => by simp only [stE, rdE, rdT, (rd_stE a).1, (rd_stE o).1, and_self]
  | .idx o a => by simp only [stE, rdE, rdT, (rd_stE a).1, (rd_stE o).1, and_self]
  | .idxD o a => by simp only [stE, rdE, rdT, (rd_stE a).1, (rd_stE o).1, and_self]
  | .rem o a => by simp only [stE, rdE, rdT, (rd_stE a).1, (rd_stE o).1, and_self]
  | .ins o a b => by simp only [stE, rdE, rdT, (rd_stE a).1, (rd_stE b).1, (rd_stE o).1, and_self]
  | .rvs o => by simp only [stE, rdE, rdT, (rd_stE o).1, and_self]
  | .get1 o a => by simp only [stE, rdE, rdT, (rd_stE a).1, (rd_stE o).1, and_self]
  | .fld C o f => by simp only [stE, rdE, rdT, (rd_stE o).1, and_self]
  | .om C m sp o es => by simp only [stE, rdE, rdT, (rd_stE o).1, rd_stEs es, and_self]
  | .mk C sp es => by simp only [stE, rdE, rdT, rd_stEs es, and_self]
  | .isE a kn cs => by simp only [stE, rdE, rdT, (rd_stE a).1, and_self]
  | .comp own elt tg it c => by simp only [stE, rdE, rdT, (rd_stE elt).1, rd_stI it, (rd_stP c).2, own_st, and_self]
  | .var _ | .int _ | .bl _ | .non | .str _ | .gint _ _ | .gstr _ _ | .gdef _ _ | .dct0 => ⟨rfl, rfl⟩
  | .rpl a y z => by simp only [stE, rdE, rdT, (rd_stE a).1, and_self]
theorem rd_stEs : ∀ es : Es, rdEs (stEs es) = rdEs es
  | .nil => rfl
  | .cons e es => by simp only [stEs, rdEs, (rd_stE e).1, rd_stEs es]
theorem rd_stP : ∀ p : Po, rdP (stP p) = rdP p ∧ rdC (stP p) = rdC p
  | .no => ⟨rfl, rfl⟩
  | .at e => by simp only [stP, rdP, rdC, (rd_stE e).1, (rd_stE e).2, and_self]
theorem rd_stR : ∀ r : Rg, rdR (stR r) = rdR r
  | .one b => by simp only [stR, rdR, (rd_stE b).1]
  | .two a b => by simp only [stR, rdR, (rd_stE a).1, (rd_stE b).1]
theorem rd_stI : ∀ i : I, rdI (stI i) = rdI i
  | .seq e => by simp only [stI, rdI, (rd_stE e).1]
  | .txt e => by simp only [stI, rdI, (rd_stE e).1]
  | .rg r => by simp only [stI, rdI, rd_stR r]
  | .enum e => by simp only [stI, rdI, (rd_stE e).1]
  | .zip a b => by simp only [stI, rdI, (rd_stE a).1, (rd_stE b).1]
  | .dn a b => by simp only [stI, rdI, (rd_stE a).1, (rd_stE b).1]
end
theorem rd_stX : ∀ x : Xe, rdX (stX x) = rdX x
  | .call f sp es => by simp only [stX, rdX, rd_stEs es]
  | .om C m sp o es => by simp only [stX, rdX, (rd_stE o).1, rd_stEs es]
  | .lst2 a x => by simp only [stX, rdX, (rd_stE a).1, rd_stX x]
  | .ix x i => by simp only [stX, rdX, (rd_stE i).1, rd_stX x]
  | .cl f sp x => by simp only [stX, rdX, rd_stX x]
  | .cal2 i a sp b tp es => by simp only [stX, rdX, rd_stEs es]
  | .b1 f x => by simp only [stX, rdX, rd_stX x]
  | .comp own elt tg x c => by simp only [stX, rdX, (rd_stE elt).1, rd_stX x, (rd_stP c).2, own_st]
mutual
theorem rd_stS : ∀ s : S, rdS (stS s) = rdS s
  | .asg t e => by simp only [stS, rdS, (rd_stE e).1]
  | .asgL t e => by simp only [stS, rdS, (rd_stE e).1]
  | .sub o i e => by simp only [stS, rdS, (rd_stE e).1, (rd_stE o).1, (rd_stE i).1]
  | .augS o i e => by simp only [stS, rdS, (rd_stE e).1, (rd_stE o).1, (rd_stE i).1]
  | .fld C o f e => by simp only [stS, rdS, (rd_stE e).1, (rd_stE o).1]
  | .par i j a b => by simp only [stS, rdS, (rd_stE a).1, (rd_stE b).1]
  | .par3 i j l a b c => by simp only [stS, rdS, (rd_stE a).1, (rd_stE b).1, (rd_stE c).1]
  | .swp o i p j e => by simp only [stS, rdS, (rd_stE o).1, (rd_stE i).1, (rd_stE p).1, (rd_stE j).1, (rd_stE e).1]
  | .aug i e => by simp only [stS, rdS, (rd_stE e).1]
  | .ret e => by simp only [stS, rdS, (rd_stE e).1]
  | .ex e => by simp only [stS, rdS, (rd_stE e).1]
  | .ite c a b => by simp only [stS, rdS, (rd_stE c).2, rd_stSs a, rd_stSs b]
  | .whl c b => by simp only [stS, rdS, (rd_stE c).2, rd_stSs b]
  | .for_ t it b => by simp only [stS, rdS, rd_stI it, rd_stSs b]
  | .asgX t x => by simp only [stS, rdS, rd_stX x]
  | .exX x => by simp only [stS, rdS, rd_stX x]
  | .retX x => by simp only [stS, rdS, rd_stX x]
  | .try_ kn b hs => by simp only [stS, rdS, rd_stSs b, rd_stHs hs]
  | .forD t i b => by simp only [stS, rdS, rd_stSs b]
  | .retn | .pass | .never | .rse _ => rfl
theorem rd_stHs : ∀ hs : Hs, rdHs (stHs hs) = rdHs hs
  | .nil => by simp only [stHs]
  | .cons C i su r => by simp only [stHs, rdHs, rd_stSs su, rd_stHs r]
theorem rd_stSs : ∀ ss : Ss, rdSs (stSs ss) = rdSs ss
  | .nil => rfl
  | .cons s ss => by simp only [stSs, rdSs, rd_stS s, rd_stSs ss]
end
theorem FnA.same {np n : Nat} {sp : ASp} {ir ir' : Ss} (F : FnA np n sp ir) (e : stSs ir' = stSs ir) : FnA np n sp ir' := by
  intro avs h Q q
  obtain ⟨a, b⟩ := F avs h Q q
  refine ⟨a, ?_⟩
  rw [← rd_stSs ir', e, rd_stSs ir]
  exact b
theorem FnXA.same {np n : Nat} {sp : XSp} {ir ir' : Ss} (F : FnXA np n sp ir) (e : stSs ir' = stSs ir) : FnXA np n sp ir' := by
  intro avs h Q E q
  obtain ⟨a, b⟩ := F avs h Q E q
  refine ⟨a, ?_⟩
  rw [← rd_stSs ir', e, rd_stSs ir]
  exact b
end F2
set_option Elab.async false
set_option linter.all false
set_option maxRecDepth 100000
set_option maxHeartbeats 1000000
namespace F2
open PySem PySem.Spec PyProof.Rows
open L2
theorem kit_ty {K : PySem.W.Frag} {t : Value} {b : Bool} (h : PySem.W.subIn K t (.type "ValueError") = some b) : PySem.W.kitCls K t (.type "ValueError") = some b := by
  show (if PySem.W.kitMeta "ValueError" = true then PySem.W.subIn K t (.type "ValueError") else none) = some b
  rw [if_pos (by decide +kernel)]
  exact h
end F2
set_option Elab.async false
set_option linter.all false
set_option maxRecDepth 100000
set_option maxHeartbeats 4000000
namespace F2
open PySem PySem.Spec PyProof.Rows
open L2
structure KeyS (sc scope : Scope) (p t : Str) : Prop where
  kind : scope.kind = .function
  co : scope.isCoroutine = false
  gen : scope.isGenerator = false
  noc : ∀ y ∈ scope.names, y.2 ≠ .cell
  pf : scope.names.lookup p = some .free
  tl : scope.names.lookup t = some .local
  out : sc.names.lookup p = some .cell
  all : ∀ y ∈ scope.names, y.2 = .free → sc.names.lookup y.1 = some .cell ∨ sc.names.lookup y.1 = some .free
inductive OrdArg (p : Str) : Expr → Prop
  | rng {a b c d e : Pos} : OrdArg p (.Call (.Name "range" a) [.Call (.Name "len" b) [.Name p c] [] d] [] e)
  | lst {a b c d e f h : Pos} : OrdArg p (.Call (.Name "list" f) [.Call (.Name "range" a) [.Call (.Name "len" b) [.Name p c] [] d] [] e] [] h)
section
variable {g : Gx} {k : Nat} {X : Cx} {N : List Str} {sc : Scope}
end
end F2
set_option Elab.async false
set_option linter.all false
set_option maxRecDepth 100000
set_option maxHeartbeats 4000000
namespace F2
open PySem PySem.Spec PyProof.Rows
open L2
end F2
set_option Elab.async false
set_option linter.all false
set_option maxRecDepth 100000
set_option maxHeartbeats 4000000
namespace F2
open PySem PySem.Spec PyProof.Rows
open L2
end F2
set_option Elab.async false
set_option linter.all false
set_option maxRecDepth 100000
set_option maxHeartbeats 4000000
namespace F2
local macro_rules | `(tactic| simp_arith only [$xs,*] $[$loc:location]?) => `(tactic| simp only [$xs,*, rdSs, rdS, rdX, rdHs, bndA, clrA, isE_non, rdE, rdT, rdEs, rdP, rdR, rdC, rdI, bnd, bnds, bin_add, bin_mul, bin_sub, bin_div, bin_mod, bin_pow, bin_shr, bin_shl, bin_and, cmp_eq, cmp_ne, cmp_lt, cmp_le, cmp_gt, cmp_ge, cmp_is, cmp_isn, cmp_in, cmp_nin, aAdd_int, aAdd_str, aAdd_tup, aAdd_ref, aMul_int, aMul_tup, aMul_ref, aInt1_int, aBool_bl, aIx_tup, aSl_tup, aSl_fls, aSl_ref, aTru_bl, aTru_int, aTru_non, aTru_tup, aSeq_tup, aSeq_ref, len_tup, len_fls, list_tup, list_fls, tuple_tup, tuple_ref, int_int, int_bl, bool_int, bool_bl, max_tup, max_ref, min_tup, min_ref, sum_tup, sum_ref, sorted_ref, sortD_ref, sortS_ref, sortP_ref, sortP_tup, ssetT_tup, sortR_ref, sumL_ref, inD_ref, gtT_tup, strD_tup, strD_ref, srtR_ref, stp_ref, stp_fls, sorted_tup, rsl_tup, all_ref, a2_int, aIn_tup, aIs_non, aIs_bl, app_ref, ext_ref, pop_ref, popAt_ref, isL_ref, isLT_ref, isLT_tup, isT_tup, rem_ref, ins_ref, rvs_ref, fld_ref, setF_ref, isC_ref, Ob.ins.injEq, lset_ref, lset_tup, sset_ref, sset_tup, dct1_int, dct1_str, dctL_ref, ty_non, ty_bl, ty_int, ty_str, ty_tup, aEq_int, aEq_bl, aEq_bi, aEq_ib, aEq_nn, aEq_ni, aEq_in, startA, List.map_cons, List.map_nil, List.length_cons, List.length_nil, List.length_map, List.replicate, List.cons_append, List.nil_append, gv_zero, gv_succ, List.set_cons_zero, List.set_cons_succ, wipeA_nil, wipeA_cons, Nat.reduceAdd, Nat.reduceSub, if_true, if_false, Option.some.injEq, Ob.lst.injEq, Va.int.injEq, exists_eq_left', exists_eq_left, exists_and_left, reduceCtorEq, false_and, and_false, exists_false, exists_const, or_false, false_or, true_and, and_true, Bool.false_eq_true, Bool.not_true, Bool.not_false, put_same, atI_0, atI_1, atI_2, atI_3, sub_NoneType_int, sub_NoneType_bool, sub_NoneType_tuple, sub_NoneType_str, sub_NoneType_list, sub_NoneType_dict, sub_bool_int, sub_bool_bool, sub_bool_tuple, sub_bool_str, sub_bool_list, sub_bool_dict, sub_int_int, sub_int_bool, sub_int_tuple, sub_int_str, sub_int_list, sub_int_dict, sub_str_int, sub_str_bool, sub_str_tuple, sub_str_str, sub_str_list, sub_str_dict, sub_tuple_int, sub_tuple_bool, sub_tuple_tuple, sub_tuple_str, sub_tuple_list, sub_tuple_dict, sub_list_int, sub_list_bool, sub_list_tuple, sub_list_str, sub_list_list, sub_list_dict, sub_dict_int, sub_dict_bool, sub_dict_tuple, sub_dict_str, sub_dict_list, sub_dict_dict] $[$loc:location]?)
open PySem PySem.Spec PyProof.Rows
open L2
def numT (n : Nat) : Str := (toString (n : Int) : String)
def valT (cs : List Nat) : Nat := cs.foldl (fun a c => 10 * a + (c - 48)) 0
def numB (n : Nat) : Bool := (numT n).cps.toList.all (fun c => decide (48 ≤ c) && decide (c ≤ 57)) && (decide (1 ≤ (numT n).cps.size) && decide ((numT n).cps.size ≤ 3) && decide (valT (numT n).cps.toList = n))
theorem numB_all : ∀ n, n < 1000 → numB n = true := by decide +kernel
theorem occ_fig : ∀ c, 48 ≤ c → c ≤ 57 → Builtin.Str.occurrences "0123456789" ⟨#[c]⟩ 0 (Str.length "0123456789") 1 = [c - 48] := by
  have : ∀ d, d < 10 → Builtin.Str.occurrences "0123456789" ⟨#[d + 48]⟩ 0 (Str.length "0123456789") 1 = [d + 48 - 48] := by decide +kernel
  intro c h1 h2
  have := this (c - 48) (by omega)
  rwa [show c - 48 + 48 = c by omega] at this
theorem aEq_strX {h : Ah} {a b : Str} {k : Bool → Prop} (ha : PyData.strOk a = true) (hb : PyData.strOk b = true) : aEq (.str a) (.str b) h k = k (a == b) := aEq_free (n := 0) (m := 0) ha hb (by decide) (by decide)
theorem valT_snoc (l : List Nat) (c : Nat) : valT (l ++ [c]) = 10 * valT l + (c - 48) := by unfold valT; rw [List.foldl_append]; rfl
theorem valT_ltR : ∀ (r : List Nat), (∀ c ∈ r, 48 ≤ c ∧ c ≤ 57) → valT r.reverse < 10 ^ r.length
  | [], _ => by decide
  | c :: r, h => by
    have h1 := valT_ltR r fun x hx => h x (List.mem_cons_of_mem _ hx)
    have h2 := h c (by simp)
    rw [List.reverse_cons, valT_snoc, List.length_cons, Nat.pow_succ]
    omega
theorem valT_lt {l : List Nat} (h : ∀ c ∈ l, 48 ≤ c ∧ c ≤ 57) : valT l < 10 ^ l.length := by
  have := valT_ltR l.reverse fun c hc => h c (List.mem_reverse.mp hc)
  rwa [List.reverse_reverse, List.length_reverse] at this
theorem len_strX {s : Str} {h : Ah} {Q : KA} : a1 .len (.str s) h Q = (s.length ≤ sizeLine ∧ Q (.int (s.length : Nat)) h) := rfl
theorem in_strX {x y : Str} {h : Ah} {k : Bool → Prop} : aIn (.str x) (.str y) h k = k (!(Builtin.Str.occurrences y x 0 y.length 1).isEmpty) := rfl
structure NumT (n : Nat) : Prop where
  dg : ∀ c ∈ (numT n).cps.toList, 48 ≤ c ∧ c ≤ 57
  l1 : 1 ≤ (numT n).cps.size
  l3 : (numT n).cps.size ≤ 3
  val : valT (numT n).cps.toList = n
theorem numT_ok {n : Nat} (h : n < 1000) : NumT n := by
  have := numB_all n h
  unfold numB at this
  rw [Bool.and_eq_true, Bool.and_eq_true, Bool.and_eq_true, List.all_eq_true, decide_eq_true_eq, decide_eq_true_eq, decide_eq_true_eq] at this
  exact ⟨fun c hc => by
    have := this.1 c hc
    rw [Bool.and_eq_true, decide_eq_true_eq, decide_eq_true_eq] at this
    exact this, this.2.1.1, this.2.1.2, this.2.2⟩
theorem strOk_of {s : Str} (h : ∀ c ∈ s.cps.toList, c < 0x110000) : PyData.strOk s = true := by
  unfold PyData.strOk
  rw [Array.all_eq_true']
  intro c hc
  simpa using h c (by simpa using hc)
def sp_number_of : ASp := fun avs h Q => ∃ n : Nat, avs = [.str (numT n)] ∧ n < 1000 ∧ Q (.int (n : Nat)) h
def nm_number_of : List Str := ["word", "found", "sign"]
def ir_number_of_L8 : Ss := .cons (.ret (.var 1)) .nil
def ir_number_of_L7 : Ss := .cons (.asg (.nm 1) (.bin .Add (.bin .Mult (.int 10) (.var 1)) (.sm .index (.gstr "FIGURES" "0123456789") (.var 2)))) .nil
def ir_number_of_L6 : Ss := .cons (.ret .non) .nil
def ir_number_of_L5 : Ss := .cons (.ite (.cmp .NotIn (.var 2) (.gstr "FIGURES" "0123456789")) ir_number_of_L6 .nil) ir_number_of_L7
def ir_number_of_L4 : Ss := .cons (.for_ (.nm 2) (.txt (.var 0)) ir_number_of_L5) ir_number_of_L8
def ir_number_of_L3 : Ss := .cons (.asg (.nm 1) (.int 0)) ir_number_of_L4
def ir_number_of_L2 : Ss := .cons (.ret .non) .nil
def ir_number_of : Ss := .cons (.ite (.or (.cmp .Eq (.var 0) (.str "")) (.cmp .Gt (.b1 .len (.var 0)) (.gint "MOST_FIGURES" (3)))) ir_number_of_L2 .nil) ir_number_of_L3
theorem fa_number_of : FnA 1 3 sp_number_of ir_number_of := by
  rintro avs h Q ⟨n, rfl, hn, q⟩
  refine ⟨rfl, ?_⟩
  obtain ⟨dg, l1, l3, val⟩ := numT_ok hn
  have so : PyData.strOk (numT n) = true := strOk_of fun c hc => by have := dg c hc; omega
  simp_arith only [ir_number_of]
  rw [aEq_strX so (by decide +kernel)]
  have ne : (numT n == "") = false := by
    rw [beq_eq_false_iff_ne]
    intro z
    rw [z] at l1
    exact absurd l1 (by decide +kernel)
  rw [ne]
  try simp_arith only [rdSs]
  have el : (numT n).length = (numT n).cps.toList.length := by simp [Str.length]
  have ll : (numT n).length ≤ 3 := l3
  simp_arith only [len_strX]
  refine ⟨by rw [sizeLine_eq]; omega, ?_⟩
  rw [decide_eq_false (show ¬ (3 : Int) < (((numT n).length : Nat) : Int) by omega)]
  try simp_arith only [rdSs]
  simp_arith only [ir_number_of_L3]
  simp_arith only [ir_number_of_L4]
  refine ⟨numT n, rfl, ?_⟩
  unfold sgA
  generalize numT n = z at dg val ll el
  generalize z.cps.toList = cs at dg val el
  refine loop_enc (fun c : Nat => Va.str ⟨#[c]⟩) (fun i ρ h' => (∃ o2, ρ = [some (.str z), some (.int (valT (cs.take i) : Nat)), o2]) ∧ h' = h) cs ⟨⟨_, rfl⟩, rfl⟩ (fun i hi ρ h2 K inv hK => ?_) (fun ρ h2 inv => ?_)
  · obtain ⟨⟨o2, rfl⟩, rfl⟩ := inv
    have hc := dg _ (List.getElem_mem hi)
    have tk : cs.take (i + 1) = cs.take i ++ [cs[i]] := by rw [List.take_add_one, List.getElem?_eq_getElem hi]; rfl
    have lt := valT_lt (l := cs.take i) fun c hc => dg c (List.mem_of_mem_take hc)
    have l2 : (cs.take i).length ≤ 3 := by rw [List.length_take]; omega
    have lt3 : valT (cs.take i) < 1000 := Nat.lt_of_lt_of_le lt (Nat.pow_le_pow_right (by omega) l2)
    have vs : valT (cs.take (i + 1)) = 10 * valT (cs.take i) + (cs[i] - 48) := by rw [tk, valT_snoc]
    rw [vs] at hK
    generalize cs[i] = c at *
    generalize valT (cs.take i) = v at *
    have oc := occ_fig c hc.1 hc.2
    simp_arith only [ir_number_of_L5, in_strX, oc]
    try simp_arith only [List.isEmpty_cons]
    simp_arith only [ir_number_of_L7, isS_str, sm_index, oc]
    refine ⟨by unfold CMul; omega, c - 48, [], rfl, ?_⟩
    rw [show (10 : Int) * (v : Nat) + ((c - 48 : Nat) : Int) = ((10 * v + (c - 48) : Nat) : Int) by omega]
    exact hK _ _ ⟨⟨_, rfl⟩, rfl⟩ trivial
  · obtain ⟨⟨o2, rfl⟩, rfl⟩ := inv
    rw [List.take_length, val]
    simp_arith only [ir_number_of_L8]
    exact ret_of q
theorem ends_snoc (x : Str) : Txt.endswith (x ++ "\n") "\n" = true := by
  have e : (x ++ "\n" : Str) = ⟨(TL.tl x ++ [10]).toArray⟩ := TL.ext_tl (by rw [TL.tl_append]; rfl)
  rw [e]
  unfold Txt.endswith Builtin.Str.subAt
  have l1 : (Str.ofString "\n").length = 1 := by decide +kernel
  have l2 : Str.length ⟨(TL.tl x ++ [10]).toArray⟩ = (TL.tl x).length + 1 := by simp [Str.length]
  rw [l1, l2, Bool.and_eq_true, decide_eq_true_eq, beq_iff_eq]
  refine ⟨by omega, ?_⟩
  rw [show (TL.tl x).length + 1 - 1 = (TL.tl x).length by omega, show (Str.ofString "\n").cps = #[10] by decide +kernel]
  rw [← Array.toList_inj, Array.toList_extract]
  simp
theorem cut_snoc (x : Str) : cutS (x ++ "\n") none (some (-1)) = x := by
  have e : (x ++ "\n" : Str) = SX.S (TL.tl x ++ [10]) := TL.ext_tl (by rw [TL.tl_append]; rfl)
  rw [C8.cutS_slice, e, SX.butlast_snoc]
theorem split_lines {parts : List Str} (hne : parts ≠ []) (hp : ∀ p ∈ parts, 10 ∉ TL.tl p) : Txt.split (Txt.join "\n" parts) "\n" = parts := TL.split_join (s := 10) (S := []) (by decide +kernel) (by decide +kernel) hne hp
theorem split_words {parts : List Str} (hne : parts ≠ []) (hp : ∀ p ∈ parts, 32 ∉ TL.tl p) : Txt.split (Txt.join " " parts) " " = parts := TL.split_join (s := 32) (S := []) (by decide +kernel) (by decide +kernel) hne hp
def tieT (t : Nat × Nat) : Str := "tie " ++ numT t.1 ++ " " ++ numT t.2
def ptsT (n : Nat) : Str := "points " ++ numT n
theorem tieT_join (t : Nat × Nat) : tieT t = Txt.join " " ["tie", numT t.1, numT t.2] := by
  rw [TL.join_eq]
  refine TL.ext_tl ?_
  unfold tieT
  rw [TL.tl_append, TL.tl_append, TL.tl_append, TL.tl_join]
  simp only [TL.joinL, List.map_cons, List.map_nil]
  rw [show TL.tl (Str.ofString "tie ") = TL.tl (Str.ofString "tie") ++ TL.tl (Str.ofString " ") by decide +kernel]
  simp only [List.append_assoc]
end F2
set_option Elab.async false
set_option linter.all false
set_option maxRecDepth 100000
set_option maxHeartbeats 4000000
namespace F2
local macro_rules | `(tactic| simp_arith only [$xs,*] $[$loc:location]?) => `(tactic| simp only [$xs,*, rdSs, rdS, rdX, rdHs, bndA, clrA, isE_non, rdE, rdT, rdEs, rdP, rdR, rdC, rdI, bnd, bnds, bin_add, bin_mul, bin_sub, bin_div, bin_mod, bin_pow, bin_shr, bin_shl, bin_and, cmp_eq, cmp_ne, cmp_lt, cmp_le, cmp_gt, cmp_ge, cmp_is, cmp_isn, cmp_in, cmp_nin, aAdd_int, aAdd_str, aAdd_tup, aAdd_ref, aMul_int, aMul_tup, aMul_ref, aInt1_int, aBool_bl, aIx_tup, aSl_tup, aSl_fls, aSl_ref, aTru_bl, aTru_int, aTru_non, aTru_tup, aSeq_tup, aSeq_ref, len_tup, len_fls, list_tup, list_fls, tuple_tup, tuple_ref, int_int, int_bl, bool_int, bool_bl, max_tup, max_ref, min_tup, min_ref, sum_tup, sum_ref, sorted_ref, sortD_ref, sortS_ref, sortP_ref, srtR_ref, stp_ref, stp_fls, sorted_tup, rsl_tup, all_ref, a2_int, aIn_tup, aIs_non, aIs_bl, app_ref, ext_ref, pop_ref, popAt_ref, isL_ref, isLT_ref, isLT_tup, ins_ref, rvs_ref, fld_ref, setF_ref, isC_ref, Ob.ins.injEq, lset_ref, lset_tup, sset_ref, sset_tup, dct1_int, dct1_str, dctL_ref, ty_non, ty_bl, ty_int, ty_str, ty_tup, aEq_int, aEq_bl, aEq_bi, aEq_ib, aEq_nn, aEq_ni, aEq_in, startA, List.map_cons, List.map_nil, List.length_cons, List.length_nil, List.length_map, List.replicate, List.cons_append, List.nil_append, gv_zero, gv_succ, List.set_cons_zero, List.set_cons_succ, wipeA_nil, wipeA_cons, Nat.reduceAdd, Nat.reduceSub, if_true, if_false, Option.some.injEq, Ob.lst.injEq, Va.int.injEq, exists_eq_left', exists_eq_left, exists_and_left, reduceCtorEq, false_and, and_false, exists_false, exists_const, or_false, false_or, true_and, and_true, Bool.false_eq_true, Bool.not_true, Bool.not_false, put_same, atI_0, atI_1, atI_2, atI_3, sub_NoneType_int, sub_NoneType_bool, sub_NoneType_tuple, sub_NoneType_str, sub_NoneType_list, sub_NoneType_dict, sub_bool_int, sub_bool_bool, sub_bool_tuple, sub_bool_str, sub_bool_list, sub_bool_dict, sub_int_int, sub_int_bool, sub_int_tuple, sub_int_str, sub_int_list, sub_int_dict, sub_str_int, sub_str_bool, sub_str_tuple, sub_str_str, sub_str_list, sub_str_dict, sub_tuple_int, sub_tuple_bool, sub_tuple_tuple, sub_tuple_str, sub_tuple_list, sub_tuple_dict, sub_list_int, sub_list_bool, sub_list_tuple, sub_list_str, sub_list_list, sub_list_dict, sub_dict_int, sub_dict_bool, sub_dict_tuple, sub_dict_str, sub_dict_list, sub_dict_dict] $[$loc:location]?)
open PySem PySem.Spec PyProof.Rows
open L2
def sp__law_mixed : ASp := fun avs h Q => ∃ c k : Int, avs = [.int c, .int k] ∧ 0 ≤ k ∧ k < 2 ^ 30 ∧ ∀ n : Int, Q (.int n) h
def nm__law_mixed : List Str := ["_law_cell", "_law_k", "_law_number"]
def ir__law_mixed_L4 : Ss := .cons (.ret (.bin .FloorDiv (.bin .Mod (.bin .Mult (.var 2) (.var 2)) (.int 2305843009213693951)) (.int 1024))) .nil
def ir__law_mixed_L3 : Ss := .cons (.asg (.nm 2) (.bin .Mod (.bin .Mult (.bin .Add (.bin .Add (.var 2) (.bin .Mult (.var 1) (.int 7919))) (.int 1)) (.int 48271)) (.int 2305843009213693951))) ir__law_mixed_L4
def ir__law_mixed_L2 : Ss := .cons (.asg (.nm 2) (.bin .Mod (.bin .Mult (.var 2) (.var 2)) (.int 2305843009213693951))) ir__law_mixed_L3
def ir__law_mixed : Ss := .cons (.asg (.nm 2) (.bin .Mod (.bin .Add (.bin .Add (.var 0) (.bin .Mult (.bin .Mult (.var 1) (.var 1)) (.int 40503))) (.int 12345)) (.int 2305843009213693951))) ir__law_mixed_L2
theorem fa__law_mixed : FnA 2 3 sp__law_mixed ir__law_mixed := by
  rintro avs h Q ⟨c, k, rfl, h0, h1, q⟩
  refine ⟨rfl, ?_⟩
  simp_arith only [ir__law_mixed_L4, ir__law_mixed_L3, ir__law_mixed_L2, ir__law_mixed]
  refine ⟨.inl (by omega), .inr (by omega), by omega, .inl (by omega), by omega, .inl (by omega), .inr (by omega), by omega, .inl (by omega), by omega, by unfold CDiv; omega, ret_of (q _)⟩
def Deck (xs : List Va) : Prop := ∀ v ∈ xs, ∃ n : Int, v = .int n ∧ 0 ≤ n ∧ n < 1000
theorem Deck.nil : Deck [] := fun _ h => (nomatch h)
theorem Deck.app {xs : List Va} {n : Int} (d : Deck xs) (h0 : 0 ≤ n) (h1 : n < 1000) : Deck (xs ++ [.int n]) := fun v hv => by
  rcases List.mem_append.mp hv with h | h
  · exact d v h
  · rw [List.mem_singleton.mp h]; exact ⟨n, rfl, h0, h1⟩
theorem Deck.dropLast {xs : List Va} (d : Deck xs) : Deck xs.dropLast := fun v hv => d v (List.dropLast_subset _ hv)
def rnd (h : Ah) (d : Addr) (k : Ah → Prop) : Prop := ∀ h' xs, h' d = some (.lst xs) → Deck xs → (∀ b, b ≠ d → h' b = h b) → k h'
structure Dk (h : Ah) (d : Addr) (h' : Ah) : Prop where
  o : ∀ b o, b ≠ d → h b = some o → h' b = some o
  d : ∃ xs, h' d = some (.lst xs) ∧ Deck xs
section
variable {h h1 h2 : Ah} {d p : Addr} {xs ys : List Va} {Q : KA} {v : Va}
theorem Dk.start (e : h d = some (.lst xs)) (x : Deck xs) : Dk h d h := ⟨fun _ _ _ e => e, xs, e, x⟩
theorem Dk.step (k : Dk h d h1) (e : h2 d = some (.lst xs)) (x : Deck xs) (n : ∀ b, b ≠ d → h2 b = h1 b) : Dk h d h2 := ⟨fun b o q e => by rw [n b q]; exact k.o b o q e, xs, e, x⟩
theorem Dk.sub (k : Dk h d h1) (s : Sub h1 h2) : Dk h d h2 := by
  obtain ⟨xs, e, x⟩ := k.d
  exact ⟨fun b o q e => s _ _ (k.o b o q e), xs, s _ _ e, x⟩
theorem Dk.own (k : Dk h d h1) (np : h p = none) (nd : p ≠ d) (n : ∀ b, b ≠ p → h2 b = h1 b) : Dk h d h2 := by
  obtain ⟨xs, e, x⟩ := k.d
  exact ⟨fun b o q e => by rw [n b (fun z => by subst z; rw [np] at e; cases e)]; exact k.o b o q e, xs, by rw [n _ nd.symm]; exact e, x⟩
theorem Dk.nn (k : Dk h d h1) (e : h1 p = none) : h p = none ∧ p ≠ d := by
  obtain ⟨xs, e', x⟩ := k.d
  have nd : p ≠ d := fun z => by subst z; rw [e'] at e; cases e
  refine ⟨?_, nd⟩
  cases q : h p with
  | none => rfl
  | some o => rw [k.o p o nd q] at e; cases e
theorem Dk.trans (a : Dk h d h1) (b : Dk h1 d h2) : Dk h d h2 := ⟨fun c o q e => b.o c o q (a.o c o q e), b.d⟩
theorem ret_dk (k : Dk h d h1) (q : rnd h d (Q v)) : Ret Q v h1 := by
  obtain ⟨xs, e, x⟩ := k.d
  refine ⟨put h d (.lst xs), fun b o z => ?_, q _ xs put_same x fun b n => put_ne n⟩
  by_cases n : b = d
  · subst n; rw [put_same] at z; cases z; exact e
  · rw [put_ne n] at z; exact k.o b o n z
theorem ret_dkL (k : Dk h d h1) (np : h p = none) (nd : p ≠ d) (e : h1 p = some (.lst ys)) (q : rnd (put h p (.lst ys)) d (Q (.ref p))) : Ret Q (.ref p) h1 := by
  refine ret_dk (h := put h p (.lst ys)) ⟨fun b o n z => ?_, k.d⟩ q
  by_cases n : b = p
  · subst n; rw [put_same] at z; cases z; exact e
  · rw [put_ne n] at z; exact k.o b o ‹_› z
end
def sp__law_next : ASp := fun avs h Q => ∃ a xs, avs = [.ref a] ∧ h a = some (.lst xs) ∧ Deck xs ∧ ∀ n : Nat, n < 1000 → rnd h a (Q (.int n))
def nm__law_next : List Str := ["_law_deck_here"]
def ir__law_next_L3 : Ss := .cons (.ret (.int 0)) .nil
def ir__law_next_L2 : Ss := .cons (.ret (.pop (.var 0))) .nil
def ir__law_next : Ss := .cons (.ite (.cmp .Gt (.b1 .len (.var 0)) (.int 0)) ir__law_next_L2 .nil) ir__law_next_L3
theorem fa__law_next : FnA 1 1 sp__law_next ir__law_next := by
  rintro avs h Q ⟨a, xs, rfl, ha, d, q⟩
  refine ⟨rfl, ?_⟩
  simp_arith only [ir__law_next_L3, ir__law_next_L2, ir__law_next, ha, ix_at (ha), tru_at (ha), len_at (ha), list_at (ha), in_at (ha), set_at (ha), ty_at (ha)]
  by_cases e : xs = []
  · subst e
    simp only [List.length_nil, Int.natCast_zero, Int.lt_irrefl, decide_false, Bool.false_eq_true, if_false]
    exact ret_of (q 0 (by omega) h [] ha d fun _ _ => rfl)
  · have hl : 0 < xs.length := List.length_pos_iff.mpr e
    rw [if_pos (by simpa using hl)]
    obtain ⟨n, hn, h0, h1⟩ := d _ (List.getElem_mem (show xs.length - 1 < xs.length by omega))
    obtain ⟨n, rfl⟩ := Int.eq_ofNat_of_zero_le h0
    exact ⟨.int n, by rw [List.getElem?_eq_getElem (by omega), hn], fun h' e en => ret_of (q n (by omega) h' _ e d.dropLast en)⟩
def sp__law_deck : ASp := fun avs h Q => ∃ (ns : List Int) (m : Nat), avs = [.fls (ns.map Va.int), .int m] ∧ ns.length ≤ 63 ∧ m < 100000 ∧ ∀ a xs, h a = none → Deck xs → Q (.ref a) (put h a (.lst xs))
def nm__law_deck : List Str := ["_law_script", "_law_many", "_law_own", "_law_rest", "_law_cell", "_law_deck_here", "_law_k", "_law_at"]
def ir__law_deck_L11 : Ss := .cons (.ret (.lrev (.var 5))) .nil
def ir__law_deck_L8 : Ss := .cons (.sub (.var 3) (.var 7) (.bin .FloorDiv (.ix (.var 3) (.var 7)) (.int 1000))) .nil
def ir__law_deck_L7 : Ss := .cons (.ex (.app (.var 5) (.bin .Mod (.ix (.var 3) (.var 7)) (.int 1000)))) ir__law_deck_L8
def ir__law_deck_L10 : Ss := .cons (.ex (.app (.var 5) (.bin .Mod (.call "_law_mixed" sp__law_mixed (.cons (.ix (.var 2) (.var 7)) (.cons (.bin .Add (.var 6) (.int 1)) .nil))) (.int 1000)))) .nil
def ir__law_deck_L6 : Ss := .cons (.ite (.cmp .Gt (.ix (.var 3) (.var 7)) (.int 0)) ir__law_deck_L7 ir__law_deck_L10) .nil
def ir__law_deck_L5 : Ss := .cons (.asg (.nm 7) (.bin .Mod (.var 6) (.b1 .len (.var 2)))) ir__law_deck_L6
def ir__law_deck_L4 : Ss := .cons (.for_ (.nm 6) (.rg (.one (.var 1))) ir__law_deck_L5) ir__law_deck_L11
def ir__law_deck_L3 : Ss := .cons (.asg (.nm 5) (.lst .nil)) ir__law_deck_L4
def ir__law_deck_L2 : Ss := .cons (.asg (.nm 3) (.comp [("_law_cell", 4)] (.bin .Mult (.var 4) (.b1 .int (.cmp .GtE (.var 4) (.bin .Pow (.int 10) (.int 18))))) (.nm 4) (.seq (.var 2)) .no)) ir__law_deck_L3
def ir__law_deck : Ss := .cons (.asg (.nm 2) (.bin .Add (.b1 .list (.sl (.var 0) .no (.at (.int 60)))) (.bin .Mult (.lst (.cons (.int 0) .nil)) (.b1 .int (.cmp .Eq (.b1 .len (.var 0)) (.int 0)))))) ir__law_deck_L2
theorem fa__law_deck : FnA 2 8 sp__law_deck ir__law_deck := by
  rintro avs h Q ⟨ns, m, rfl, hl, hm, q⟩
  refine ⟨rfl, ?_⟩
  simp_arith only [ir__law_deck]
  refine newL_in fun p1 h1 s1 n1 e1 => ?_
  simp_arith only [e1, ix_at (e1), tru_at (e1), len_at (e1), list_at (e1), in_at (e1), set_at (e1), ty_at (e1)]
  refine newL_in fun p2 h2 s2 n2 e2 => ⟨by decide +kernel, newL_in fun p3 h3 s3 n3 e3 => ?_⟩
  simp_arith only [e3, s3 _ _ e2]
  refine ⟨by split <;> omega, by split <;> omega, ?_, newL_in fun p4 h4 s4 n4 e4 => ?_⟩
  · rw [sizeLine_eq]; split <;> simp
  simp_arith only [e4, s4 _ _ (s3 _ _ e2)]
  have S4 : Sub h h4 := ((s1.trans s2).trans s3).trans s4
  obtain ⟨own, eo, ho, hz⟩ : ∃ own : List Int, cutA (ns.map Va.int) none (some 60) ++ (List.replicate (if ((ns.length : Int) == 0) = true then 1 else 0 : Int).toNat [Va.int 0]).flatten = own.map Va.int ∧ 0 < own.length ∧ own.length ≤ 64 := by
    refine ⟨ns.take 60 ++ if ns.length = 0 then [0] else [], ?_, ?_, ?_⟩
    · have e1 : HT.sIx (ns.map Va.int).length 0 none = 0 := rfl
      have e2 : HT.sIx (ns.map Va.int).length (ns.map Va.int).length (some 60) = min 60 ns.length := by rw [← List.length_map (as := ns) Va.int]; exact HT.sIx_nat _ _ 60
      unfold cutA
      rw [e1, e2]
      by_cases e : ns.length = 0
      · have : ns = [] := List.length_eq_zero_iff.mp e
        subst this; rfl
      · rw [if_neg (by rw [beq_iff_eq]; omega : ¬ ((ns.length : Int) == 0) = true), if_neg e]
        simp only [List.drop_zero, Nat.sub_zero, Int.toNat_zero, List.replicate_zero, List.flatten_nil, List.append_nil]
        rw [← List.map_take]
        congr 1
        by_cases f : 60 ≤ ns.length
        · rw [Nat.min_eq_left f]
        · rw [Nat.min_eq_right (by omega), List.take_of_length_le (Nat.le_refl _), List.take_of_length_le (by omega)]
    · by_cases e : ns.length = 0
      · simp [e]
      · simp [e]; omega
    · by_cases e : ns.length = 0
      · simp [e]
      · simp [e]; omega
  rw [← List.length_append, eo]
  refine ⟨by rw [List.length_map, sizeLine_eq]; omega, newL_in fun p5 h5 s5 n5 e5 => ?_⟩
  simp_arith only [ir__law_deck_L2, e5]
  refine ⟨by rw [sizeLine_eq]; omega, ?_⟩
  refine comps_map Va.int (fun c => .int (c * (if (1000000000000000000 : Int) ≤ c then 1 else 0))) e5 _ (fun c hc K hK => ?_) ?_
  · simp_arith only [rdSs]
    refine ⟨by unfold CPow; omega, .inr ?_, ?_⟩
    · split <;> omega
    · simpa using hK
  rw [show own.map (fun c : Int => Va.int (c * (if (1000000000000000000 : Int) ≤ c then 1 else 0))) = (own.map fun c : Int => c * (if (1000000000000000000 : Int) ≤ c then 1 else 0)).map Va.int by rw [List.map_map]; rfl]
  generalize hr : (own.map fun c : Int => c * (if (1000000000000000000 : Int) ≤ c then 1 else 0)) = rest
  have lr : rest.length = own.length := by rw [← hr, List.length_map]
  clear hr
  refine newL_in fun p6 h6 s6 n6 e6 => ?_
  simp_arith only [ir__law_deck_L3]
  refine ⟨by omega, newL_in fun p7 h7 s7 n7 e7 => ?_⟩
  simp_arith only [ir__law_deck_L4]
  refine ⟨by omega, ?_⟩
  have S7 : Sub h h7 := ((S4.trans s5).trans s6).trans s7
  have n67 : p6 ≠ p7 := fun e => by subst e; rw [e6] at n7; cases n7
  have n57 : p5 ≠ p7 := fun e => by subst e; rw [s6 _ _ e5] at n7; cases n7
  have n56 : p5 ≠ p6 := fun e => by subst e; rw [e5] at n6; cases n6
  have m6 : h p6 = none := (S4.trans s5).nn n6
  have m7 : h p7 = none := ((S4.trans s5).trans s6).nn n7
  refine loop_rg (fun i ρ h' => (∃ o1 o2, ρ = [some (.fls (ns.map Va.int)), some (.int m), some (.ref p5), some (.ref p6), none, some (.ref p7), o1, o2]) ∧ Sub h h' ∧ h' p5 = some (.lst (own.map Va.int)) ∧
    (∃ rs : List Int, h' p6 = some (.lst (rs.map Va.int)) ∧ rs.length = own.length) ∧ ∃ xs, h' p7 = some (.lst xs) ∧ Deck xs ∧ xs.length = i) ?_ (fun i hi ρ h' K inv hK => ?_) (fun ρ h' inv => ?_)
  · exact ⟨⟨none, none, rfl⟩, S7, s7 _ _ (s6 _ _ e5), ⟨rest, s7 _ _ e6, lr⟩, [], e7, .nil, rfl⟩
  · obtain ⟨⟨o1, o2, rfl⟩, S, g5, ⟨rs, g6, hrl⟩, xs, g7, dx, lx⟩ := inv
    simp_arith only [ir__law_deck_L5, ir__law_deck_L6, g5, ix_at (g5), tru_at (g5), len_at (g5), list_at (g5), in_at (g5), set_at (g5), ty_at (g5), g6, ix_at (g6), tru_at (g6), len_at (g6), list_at (g6), in_at (g6), set_at (g6), ty_at (g6), g7, ix_at (g7), tru_at (g7), len_at (g7), list_at (g7), in_at (g7), set_at (g7), ty_at (g7)]
    have b1 : 0 ≤ ((0 : Int) + i) % own.length := Int.emod_nonneg _ (by omega)
    have b2 : ((0 : Int) + i) % own.length < own.length := Int.emod_lt_of_pos _ (by omega)
    generalize ((0 : Int) + i) % own.length = t at b1 b2
    obtain ⟨t, rfl⟩ := Int.eq_ofNat_of_zero_le b1
    have ht : t < rs.length := by omega
    have ht' : t < own.length := by omega
    have hz2 : xs.length < sizeLine := by rw [sizeLine_eq]; omega
    refine ⟨by omega, .int rs[t], by rw [atI_nat, List.getElem?_map, List.getElem?_eq_getElem ht]; rfl, ?_⟩
    simp_arith only [rdSs]
    split
    · simp_arith only [ir__law_deck_L7, ir__law_deck_L8, g5, ix_at (g5), tru_at (g5), len_at (g5), list_at (g5), in_at (g5), set_at (g5), ty_at (g5), g6, ix_at (g6), tru_at (g6), len_at (g6), list_at (g6), in_at (g6), set_at (g6), ty_at (g6), g7, ix_at (g7), tru_at (g7), len_at (g7), list_at (g7), in_at (g7), set_at (g7), ty_at (g7)]
      refine ⟨⟨_, rfl⟩, .int rs[t], by rw [atI_nat, List.getElem?_map, List.getElem?_eq_getElem ht]; rfl, ?_⟩
      simp_arith only [g7]
      refine ⟨by omega, hz2, fun h2 k7 kn => ?_⟩
      have k6 : h2 p6 = _ := (kn _ n67).trans g6
      simp_arith only [k6, ix_at (k6), tru_at (k6), len_at (k6), list_at (k6), in_at (k6), set_at (k6), ty_at (k6), k7, ix_at (k7), tru_at (k7), len_at (k7), list_at (k7), in_at (k7), set_at (k7), ty_at (k7)]
      refine ⟨.int rs[t], by rw [atI_nat, List.getElem?_map, List.getElem?_eq_getElem ht]; rfl, ?_⟩
      simp_arith only [k6, ix_at (k6), tru_at (k6), len_at (k6), list_at (k6), in_at (k6), set_at (k6), ty_at (k6), k7, ix_at (k7), tru_at (k7), len_at (k7), list_at (k7), in_at (k7), set_at (k7), ty_at (k7)]
      refine ⟨by unfold CDiv; omega, t, ixN_pos (by omega) (by omega), fun h3 l6 ln => hK _ _ ⟨⟨_, _, rfl⟩, ?_, ?_, ?_, ?_⟩ trivial⟩
      · exact fun b o e => by
          rw [ln b (fun z => by subst z; rw [m6] at e; cases e), kn b (fun z => by subst z; rw [m7] at e; cases e)]
          exact S _ _ e
      · rw [ln _ n56, kn _ n57, g5]
      · refine ⟨rs.set t (rs[t] / 1000), ?_, by rw [List.length_set]; exact hrl⟩
        rw [l6, List.map_set]
      · exact ⟨_, (ln _ n67.symm).trans k7, dx.app (by omega) (by omega), by simp [lx]⟩
    · simp_arith only [ir__law_deck_L10, g5, ix_at (g5), tru_at (g5), len_at (g5), list_at (g5), in_at (g5), set_at (g5), ty_at (g5), g6, ix_at (g6), tru_at (g6), len_at (g6), list_at (g6), in_at (g6), set_at (g6), ty_at (g6), g7, ix_at (g7), tru_at (g7), len_at (g7), list_at (g7), in_at (g7), set_at (g7), ty_at (g7)]
      refine ⟨⟨_, rfl⟩, .int own[t], by rw [atI_nat, List.getElem?_map, List.getElem?_eq_getElem ht']; rfl, _, _, rfl, by omega, by omega, fun n => ?_⟩
      simp_arith only [g7]
      refine ⟨by omega, hz2, fun h2 k7 kn => hK _ _ ⟨⟨_, _, rfl⟩, ?_, ?_, ?_, ?_⟩ trivial⟩
      · exact fun b o e => by
          rw [kn b (fun z => by subst z; rw [m7] at e; cases e)]
          exact S _ _ e
      · rw [kn _ n57, g5]
      · exact ⟨rs, by rw [kn _ n67, g6], hrl⟩
      · exact ⟨_, k7, dx.app (by omega) (by omega), by simp [lx]⟩
  · obtain ⟨⟨o1, o2, rfl⟩, S, g5, ⟨rs, g6, hrl⟩, xs, g7, dx, lx⟩ := inv
    simp_arith only [ir__law_deck_L11, g7]
    refine newL_put fun p np => ret_sub (Sub.both S) (q p _ (S.nn np) fun v hv => dx v (List.mem_reverse.mp hv))
end F2
set_option Elab.async false
set_option linter.all false
set_option maxRecDepth 100000
set_option maxHeartbeats 4000000
namespace F2
local macro_rules | `(tactic| simp_arith only [$xs,*] $[$loc:location]?) => `(tactic| simp only [$xs,*, rdSs, rdS, rdX, rdHs, bndA, clrA, isE_non, rdE, rdT, rdEs, rdP, rdR, rdC, rdI, bnd, bnds, bin_add, bin_mul, bin_sub, bin_div, bin_mod, bin_pow, bin_shr, bin_shl, bin_and, cmp_eq, cmp_ne, cmp_lt, cmp_le, cmp_gt, cmp_ge, cmp_is, cmp_isn, cmp_in, cmp_nin, aAdd_int, aAdd_str, aAdd_tup, aAdd_ref, aMul_int, aMul_tup, aMul_ref, aInt1_int, aBool_bl, aIx_tup, aSl_tup, aSl_fls, aSl_ref, aTru_bl, aTru_int, aTru_non, aTru_tup, aSeq_tup, aSeq_ref, len_tup, len_fls, list_tup, list_fls, tuple_tup, tuple_ref, int_int, int_bl, bool_int, bool_bl, max_tup, max_ref, min_tup, min_ref, sum_tup, sum_ref, sorted_ref, sortD_ref, sortS_ref, sortP_ref, srtR_ref, stp_ref, stp_fls, sorted_tup, rsl_tup, all_ref, a2_int, aIn_tup, aIs_non, aIs_bl, app_ref, ext_ref, pop_ref, popAt_ref, isL_ref, isLT_ref, isLT_tup, ins_ref, rvs_ref, fld_ref, setF_ref, isC_ref, Ob.ins.injEq, lset_ref, lset_tup, sset_ref, sset_tup, dct1_int, dct1_str, dctL_ref, ty_non, ty_bl, ty_int, ty_str, ty_tup, aEq_int, aEq_bl, aEq_bi, aEq_ib, aEq_nn, aEq_ni, aEq_in, startA, List.map_cons, List.map_nil, List.length_cons, List.length_nil, List.length_map, List.replicate, List.cons_append, List.nil_append, gv_zero, gv_succ, List.set_cons_zero, List.set_cons_succ, wipeA_nil, wipeA_cons, Nat.reduceAdd, Nat.reduceSub, if_true, if_false, Option.some.injEq, Ob.lst.injEq, Va.int.injEq, exists_eq_left', exists_eq_left, exists_and_left, reduceCtorEq, false_and, and_false, exists_false, exists_const, or_false, false_or, true_and, and_true, Bool.false_eq_true, Bool.not_true, Bool.not_false, put_same, atI_0, atI_1, atI_2, atI_3, sub_NoneType_int, sub_NoneType_bool, sub_NoneType_tuple, sub_NoneType_str, sub_NoneType_list, sub_NoneType_dict, sub_bool_int, sub_bool_bool, sub_bool_tuple, sub_bool_str, sub_bool_list, sub_bool_dict, sub_int_int, sub_int_bool, sub_int_tuple, sub_int_str, sub_int_list, sub_int_dict, sub_str_int, sub_str_bool, sub_str_tuple, sub_str_str, sub_str_list, sub_str_dict, sub_tuple_int, sub_tuple_bool, sub_tuple_tuple, sub_tuple_str, sub_tuple_list, sub_tuple_dict, sub_list_int, sub_list_bool, sub_list_tuple, sub_list_str, sub_list_list, sub_list_dict, sub_dict_int, sub_dict_bool, sub_dict_tuple, sub_dict_str, sub_dict_list, sub_dict_dict] $[$loc:location]?)
open PySem PySem.Spec PyProof.Rows
open L2
def tieV (t : Nat × Nat) : Va := .tup [.int t.1, .int t.2]
def webV (n : Nat) (ts : List (Nat × Nat)) : Va := .tup [.int n, .tup (ts.map tieV)]
def TieOk (n : Nat) (t : Nat × Nat) : Prop := t.1 < t.2 ∧ t.2 < n
def WebOk (n : Nat) (ts : List (Nat × Nat)) : Prop := 1 ≤ n ∧ ∀ t ∈ ts, TieOk n t
def Ty (h : Ah) (v : Va) : Prop := tyA v h fun _ => True
def isIntB : Va → Int → Int → Bool
  | .int i, a, b => decide (a ≤ i) && decide (i ≤ b)
  | _, _, _ => false
end F2
set_option Elab.async false
set_option linter.all false
set_option maxRecDepth 100000
set_option maxHeartbeats 4000000
namespace F2
local macro_rules | `(tactic| simp_arith only [$xs,*] $[$loc:location]?) => `(tactic| simp only [$xs,*, rdSs, rdS, rdX, rdHs, bndA, clrA, isE_non, rdE, rdT, rdEs, rdP, rdR, rdC, rdI, bnd, bnds, bin_add, bin_mul, bin_sub, bin_div, bin_mod, bin_pow, bin_shr, bin_shl, bin_and, cmp_eq, cmp_ne, cmp_lt, cmp_le, cmp_gt, cmp_ge, cmp_is, cmp_isn, cmp_in, cmp_nin, aAdd_int, aAdd_str, aAdd_tup, aAdd_ref, aMul_int, aMul_tup, aMul_ref, aInt1_int, aBool_bl, aIx_tup, aSl_tup, aSl_fls, aSl_ref, aTru_bl, aTru_int, aTru_non, aTru_tup, aSeq_tup, aSeq_ref, len_tup, len_fls, list_tup, list_fls, tuple_tup, tuple_ref, int_int, int_bl, bool_int, bool_bl, max_tup, max_ref, min_tup, min_ref, sum_tup, sum_ref, sorted_ref, sortD_ref, sortS_ref, sortP_ref, srtR_ref, stp_ref, stp_fls, sorted_tup, rsl_tup, all_ref, a2_int, aIn_tup, aIs_non, aIs_bl, app_ref, ext_ref, pop_ref, popAt_ref, isL_ref, isLT_ref, isLT_tup, ins_ref, rvs_ref, fld_ref, setF_ref, isC_ref, Ob.ins.injEq, lset_ref, lset_tup, sset_ref, sset_tup, dct1_int, dct1_str, dctL_ref, ty_non, ty_bl, ty_int, ty_str, ty_tup, aEq_int, aEq_bl, aEq_bi, aEq_ib, aEq_nn, aEq_ni, aEq_in, startA, List.map_cons, List.map_nil, List.length_cons, List.length_nil, List.length_map, List.replicate, List.cons_append, List.nil_append, gv_zero, gv_succ, List.set_cons_zero, List.set_cons_succ, wipeA_nil, wipeA_cons, Nat.reduceAdd, Nat.reduceSub, if_true, if_false, Option.some.injEq, Ob.lst.injEq, Va.int.injEq, exists_eq_left', exists_eq_left, exists_and_left, reduceCtorEq, false_and, and_false, exists_false, exists_const, or_false, false_or, true_and, and_true, Bool.false_eq_true, Bool.not_true, Bool.not_false, put_same, atI_0, atI_1, atI_2, atI_3, sub_NoneType_int, sub_NoneType_bool, sub_NoneType_tuple, sub_NoneType_str, sub_NoneType_list, sub_NoneType_dict, sub_bool_int, sub_bool_bool, sub_bool_tuple, sub_bool_str, sub_bool_list, sub_bool_dict, sub_int_int, sub_int_bool, sub_int_tuple, sub_int_str, sub_int_list, sub_int_dict, sub_str_int, sub_str_bool, sub_str_tuple, sub_str_str, sub_str_list, sub_str_dict, sub_tuple_int, sub_tuple_bool, sub_tuple_tuple, sub_tuple_str, sub_tuple_list, sub_tuple_dict, sub_list_int, sub_list_bool, sub_list_tuple, sub_list_str, sub_list_list, sub_list_dict, sub_dict_int, sub_dict_bool, sub_dict_tuple, sub_dict_str, sub_dict_list, sub_dict_dict] $[$loc:location]?)
open PySem PySem.Spec PyProof.Rows
open L2
theorem erase_perm {α : Type} : ∀ (l : List α) (t : Nat) (h : t < l.length), (l[t] :: l.eraseIdx t).Perm l
  | a :: r, 0, _ => List.Perm.refl _
  | a :: r, t + 1, h => by
    have ih := erase_perm r t (by simpa using h)
    simp only [List.getElem_cons_succ, List.eraseIdx_cons_succ]
    exact (List.Perm.swap _ _ _).trans (ih.cons a)
theorem okDs_mem : ∀ {xs : List Va} {n : Nat}, okDs xs n = true ↔ ∀ v ∈ xs, okD v n = true
  | [], n => ⟨fun _ v hv => (nomatch hv), fun _ => rfl⟩
  | x :: xs, n => by
    unfold okDs
    rw [Bool.and_eq_true, okDs_mem (xs := xs), List.forall_mem_cons]
theorem okDs_sub {xs ys : List Va} {n : Nat} (h : okDs xs n = true) (s : ∀ v ∈ ys, v ∈ xs) : okDs ys n = true := okDs_mem.mpr fun v hv => okDs_mem.mp h v (s v hv)
theorem perm_map {α β : Type} (f : α → β) {ys : List β} {l : List α} (h : ys.Perm (l.map f)) : ∃ l' : List α, ys = l'.map f ∧ l'.Perm l := by
  induction ys generalizing l with
  | nil =>
    have : l = [] := by simpa using h.symm.eq_nil
    subst this
    exact ⟨[], rfl, List.Perm.refl _⟩
  | cons y ys ih =>
    have hy : y ∈ l.map f := h.subset List.mem_cons_self
    obtain ⟨a, ha, rfl⟩ := List.mem_map.mp hy
    obtain ⟨l1, l2, rfl⟩ := List.append_of_mem ha
    have p2 : ys.Perm ((l1 ++ l2).map f) := by
      rw [List.map_append] at h ⊢
      exact List.Perm.cons_inv (h.trans (by rw [List.map_cons]; exact List.perm_middle))
    obtain ⟨l', rfl, pl⟩ := ih p2
    exact ⟨a :: l', rfl, (pl.cons a).trans List.perm_middle.symm⟩
theorem rgA_len {a b : Int} : (rgA a b).length = (b - a).toNat := by unfold rgA; rw [List.length_map, List.length_range]
theorem sz {n : Nat} (h : n ≤ 16777216) : n ≤ sizeLine := by rw [sizeLine_eq]; omega
theorem sz' {n : Nat} (h : n < 16777216) : n < sizeLine := by rw [sizeLine_eq]; omega
theorem comps_dk {α : Type} {gd : Ah → Prop} {f : Va → Ah → (Option Va → Ah → Prop) → Prop} {k : List Va → Ah → Prop} {h : Ah} {d : Addr} (xs : List Va) (R : Nat → α → Prop) (enc : α → Va) {h1 : Ah} (k1 : Dk h d h1) (gd1 : ∀ h', Dk h1 d h' → gd h')
    (hs : ∀ (i : Nat) (hi : i < xs.length) h2 (K : Option Va → Ah → Prop), Dk h1 d h2 → (∀ a h3, R i a → Dk h1 d h3 → K (some (enc a)) h3) → f xs[i] h2 K)
    (q : ∀ (l : List α) h', l.length = xs.length → (∀ (i : Nat) (hi : i < l.length), R i l[i]) → Dk h1 d h' → k (l.map enc) h') : comps gd f xs [] h1 k := by
  suffices ∀ (n : Nat) (ys : List Va) (l : List α) h', l.length + n = xs.length → ys = xs.drop l.length → (∀ (i : Nat) (hi : i < l.length), R i l[i]) → Dk h1 d h' → comps gd f ys (l.map enc) h' k by
    have h0 : Dk h1 d h1 := ⟨fun _ _ _ e => e, k1.d⟩
    exact this xs.length xs [] h1 (by simp) (by simp) (fun i hi => absurd hi (by simp)) h0
  intro n
  induction n with
  | zero =>
    intro ys l h' hl hy hR hk
    rw [hy, List.drop_eq_nil_of_le (by omega)]
    exact q l h' (by omega) hR hk
  | succ n ih =>
    intro ys l h' hl hy hR hk
    have hi : l.length < xs.length := by omega
    rw [hy, List.drop_eq_getElem_cons hi]
    refine hs _ hi _ _ hk fun a h3 ra hk3 => ⟨gd1 _ hk3, ?_⟩
    have := ih (xs.drop (l.length + 1)) (l ++ [a]) h3 (by simp; omega) (by simp) (fun i hi => ?_) hk3
    · simpa using this
    · by_cases e : i < l.length
      · rw [List.getElem_append_left e]; exact hR i e
      · have : i = l.length := by simp at hi; omega
        subst this
        simpa using ra
end F2
set_option Elab.async false
set_option linter.all false
set_option maxRecDepth 100000
set_option maxHeartbeats 4000000
namespace F2
local macro_rules | `(tactic| simp_arith only [$xs,*] $[$loc:location]?) => `(tactic| simp only [$xs,*, rdSs, rdS, rdX, rdHs, bndA, clrA, isE_non, rdE, rdT, rdEs, rdP, rdR, rdC, rdI, bnd, bnds, bin_add, bin_mul, bin_sub, bin_div, bin_mod, bin_pow, bin_shr, bin_shl, bin_and, cmp_eq, cmp_ne, cmp_lt, cmp_le, cmp_gt, cmp_ge, cmp_is, cmp_isn, cmp_in, cmp_nin, aAdd_int, aAdd_str, aAdd_tup, aAdd_ref, aMul_int, aMul_tup, aMul_ref, aInt1_int, aBool_bl, aIx_tup, aSl_tup, aSl_fls, aSl_ref, aTru_bl, aTru_int, aTru_non, aTru_tup, aSeq_tup, aSeq_ref, len_tup, len_fls, list_tup, list_fls, tuple_tup, tuple_ref, int_int, int_bl, bool_int, bool_bl, max_tup, max_ref, min_tup, min_ref, sum_tup, sum_ref, sorted_ref, sortD_ref, sortS_ref, sortP_ref, srtR_ref, stp_ref, stp_fls, sorted_tup, rsl_tup, all_ref, a2_int, aIn_tup, aIs_non, aIs_bl, app_ref, ext_ref, pop_ref, popAt_ref, isL_ref, isLT_ref, isLT_tup, ins_ref, rvs_ref, fld_ref, setF_ref, isC_ref, Ob.ins.injEq, lset_ref, lset_tup, sset_ref, sset_tup, dct1_int, dct1_str, dctL_ref, ty_non, ty_bl, ty_int, ty_str, ty_tup, aEq_int, aEq_bl, aEq_bi, aEq_ib, aEq_nn, aEq_ni, aEq_in, startA, List.map_cons, List.map_nil, List.length_cons, List.length_nil, List.length_map, List.replicate, List.cons_append, List.nil_append, gv_zero, gv_succ, List.set_cons_zero, List.set_cons_succ, wipeA_nil, wipeA_cons, Nat.reduceAdd, Nat.reduceSub, if_true, if_false, Option.some.injEq, Ob.lst.injEq, Va.int.injEq, exists_eq_left', exists_eq_left, exists_and_left, reduceCtorEq, false_and, and_false, exists_false, exists_const, or_false, false_or, true_and, and_true, Bool.false_eq_true, Bool.not_true, Bool.not_false, put_same, atI_0, atI_1, atI_2, atI_3, sub_NoneType_int, sub_NoneType_bool, sub_NoneType_tuple, sub_NoneType_str, sub_NoneType_list, sub_NoneType_dict, sub_bool_int, sub_bool_bool, sub_bool_tuple, sub_bool_str, sub_bool_list, sub_bool_dict, sub_int_int, sub_int_bool, sub_int_tuple, sub_int_str, sub_int_list, sub_int_dict, sub_str_int, sub_str_bool, sub_str_tuple, sub_str_str, sub_str_list, sub_str_dict, sub_tuple_int, sub_tuple_bool, sub_tuple_tuple, sub_tuple_str, sub_tuple_list, sub_tuple_dict, sub_list_int, sub_list_bool, sub_list_tuple, sub_list_str, sub_list_list, sub_list_dict, sub_dict_int, sub_dict_bool, sub_dict_tuple, sub_dict_str, sub_dict_list, sub_dict_dict] $[$loc:location]?)
open PySem PySem.Spec PyProof.Rows
open L2
def sp_is_int : ASp := fun avs h Q => ∃ v a b, avs = [v, .int a, .int b] ∧ Ty h v ∧ Q (.bl (isIntB v a b)) h
def nm_is_int : List Str := ["thing", "least", "most"]
def ir_is_int : Ss := .cons (.ret (.and (.isi (.var 0) "int") (.and (.not (.isi (.var 0) "bool")) (.chn .LtE .LtE (.var 1) (.var 0) (.var 2))))) .nil
theorem fa_is_int : FnA 3 3 sp_is_int ir_is_int := by
  rintro avs h Q ⟨v, a, b, rfl, ty, q⟩
  refine ⟨rfl, ?_⟩
  cases v with
  | int i =>
    simp_arith only [ir_is_int]
    by_cases e : a ≤ i
    · simp only [e, decide_true, if_true]
      refine ret_of ?_
      simpa [isIntB, e] using q
    · simp only [e, decide_false, Bool.false_eq_true, if_false]
      refine ret_of ?_
      simpa [isIntB, e] using q
  | ref p =>
    simp_arith only [ir_is_int]
    rcases ty with ⟨xs, hp, -⟩ | ⟨kvs, hp, -⟩
    · simp_arith only [ty_at hp]; exact ret_of q
    · rw [ty_ref]
      refine .inr ⟨kvs, hp, ?_⟩
      simp_arith only [rdSs]; exact ret_of q
  | fls xs => exact ty.elim
  | _ => simp_arith only [ir_is_int]; exact ret_of q
def isTupW : Va → Va → Bool
  | .tup xs, .int n => (xs.length : Int) == n
  | .tup _, _ => true
  | _, _ => false
def sp_is_tuple : ASp := fun avs h Q => ∃ v w, avs = [v, w] ∧ (w = .non ∨ ∃ n, w = .int n) ∧ Ty h v ∧ Q (.bl (isTupW v w)) h
def nm_is_tuple : List Str := ["thing", "length"]
def ir_is_tuple : Ss := .cons (.ret (.and (.isi (.var 0) "tuple") (.or (.cmp .Is (.var 1) .non) (.cmp .Eq (.b1 .len (.var 0)) (.var 1))))) .nil
theorem fa_is_tuple : FnA 2 2 sp_is_tuple ir_is_tuple := by
  rintro avs h Q ⟨v, w, rfl, hw, ty, q⟩
  refine ⟨rfl, ?_⟩
  cases v with
  | tup xs =>
    rcases hw with rfl | ⟨n, rfl⟩
    · simp_arith only [ir_is_tuple, isNon]
      exact ret_of q
    · simp_arith only [ir_is_tuple, isNon]
      exact ret_of q
  | ref p =>
    simp_arith only [ir_is_tuple]
    rcases ty with ⟨xs, hp, -⟩ | ⟨kvs, hp, -⟩
    · simp_arith only [ty_at hp]; exact ret_of q
    · rw [ty_ref]
      refine .inr ⟨kvs, hp, ?_⟩
      simp_arith only [rdSs]; exact ret_of q
  | fls xs => exact ty.elim
  | _ => simp_arith only [ir_is_tuple]; exact ret_of q
def Ty2 (h : Ah) (v : Va) : Prop := Ty h v ∧ ∀ xs, v = .tup xs → ∀ x ∈ xs, Ty h x
def nV (i : Nat) : Va := .int i
def lotV (l : List Nat) : Va := .tup (l.map nV)
def Lot (n : Nat) (l : List Nat) : Prop := l.Pairwise (· < ·) ∧ ∀ i ∈ l, i < n
theorem flats_lot (l : List Nat) : (l.map nV).all flatA = true := by
  rw [List.all_map]; exact List.all_eq_true.mpr fun _ _ => rfl
theorem nodup_len {l : List Nat} {m : Nat} (nd : l.Nodup) (hb : ∀ i ∈ l, i < m) : l.length ≤ m := by
  have := nodup_le (ms := l.map fun i : Nat => (i : Int)) (us := (List.range m).map fun i : Nat => (i : Int)) ?_ ?_
  · simpa using this
  · rw [List.Nodup, List.pairwise_map]
    exact nd.imp fun hab => by omega
  · intro k hk
    obtain ⟨i, hi, rfl⟩ := List.mem_map.mp hk
    exact List.mem_map.mpr ⟨i, List.mem_range.mpr (hb i hi), rfl⟩
theorem Lot.nodup {n : Nat} {l : List Nat} (h : Lot n l) : l.Nodup := h.1.imp fun hab => Nat.ne_of_lt hab
theorem Lot.len {n : Nat} {l : List Nat} (h : Lot n l) : l.length ≤ n := nodup_len h.nodup h.2
end F2
set_option Elab.async false
set_option linter.all false
set_option maxRecDepth 100000
set_option maxHeartbeats 4000000
namespace F2
local macro_rules | `(tactic| simp_arith only [$xs,*] $[$loc:location]?) => `(tactic| simp only [$xs,*, rdSs, rdS, rdX, rdHs, bndA, clrA, isE_non, rdE, rdT, rdEs, rdP, rdR, rdC, rdI, bnd, bnds, bin_add, bin_mul, bin_sub, bin_div, bin_mod, bin_pow, bin_shr, bin_shl, bin_and, cmp_eq, cmp_ne, cmp_lt, cmp_le, cmp_gt, cmp_ge, cmp_is, cmp_isn, cmp_in, cmp_nin, aAdd_int, aAdd_str, aAdd_tup, aAdd_ref, aMul_int, aMul_tup, aMul_ref, aInt1_int, aBool_bl, aIx_tup, aSl_tup, aSl_fls, aSl_ref, aTru_bl, aTru_int, aTru_non, aTru_tup, aSeq_tup, aSeq_ref, len_tup, len_fls, list_tup, list_fls, tuple_tup, tuple_ref, int_int, int_bl, bool_int, bool_bl, max_tup, max_ref, min_tup, min_ref, sum_tup, sum_ref, sorted_ref, sortD_ref, sortS_ref, sortP_ref, srtR_ref, stp_ref, stp_fls, sorted_tup, rsl_tup, all_ref, a2_int, aIn_tup, aIs_non, aIs_bl, app_ref, ext_ref, pop_ref, popAt_ref, isL_ref, isLT_ref, isLT_tup, ins_ref, rvs_ref, fld_ref, setF_ref, isC_ref, Ob.ins.injEq, lset_ref, lset_tup, sset_ref, sset_tup, dct1_int, dct1_str, dctL_ref, ty_non, ty_bl, ty_int, ty_str, ty_tup, aEq_int, aEq_bl, aEq_bi, aEq_ib, aEq_nn, aEq_ni, aEq_in, startA, List.map_cons, List.map_nil, List.length_cons, List.length_nil, List.length_map, List.replicate, List.cons_append, List.nil_append, gv_zero, gv_succ, List.set_cons_zero, List.set_cons_succ, wipeA_nil, wipeA_cons, Nat.reduceAdd, Nat.reduceSub, if_true, if_false, Option.some.injEq, Ob.lst.injEq, Va.int.injEq, exists_eq_left', exists_eq_left, exists_and_left, reduceCtorEq, false_and, and_false, exists_false, exists_const, or_false, false_or, true_and, and_true, Bool.false_eq_true, Bool.not_true, Bool.not_false, put_same, atI_0, atI_1, atI_2, atI_3, sub_NoneType_int, sub_NoneType_bool, sub_NoneType_tuple, sub_NoneType_str, sub_NoneType_list, sub_NoneType_dict, sub_bool_int, sub_bool_bool, sub_bool_tuple, sub_bool_str, sub_bool_list, sub_bool_dict, sub_int_int, sub_int_bool, sub_int_tuple, sub_int_str, sub_int_list, sub_int_dict, sub_str_int, sub_str_bool, sub_str_tuple, sub_str_str, sub_str_list, sub_str_dict, sub_tuple_int, sub_tuple_bool, sub_tuple_tuple, sub_tuple_str, sub_tuple_list, sub_tuple_dict, sub_list_int, sub_list_bool, sub_list_tuple, sub_list_str, sub_list_list, sub_list_dict, sub_dict_int, sub_dict_bool, sub_dict_tuple, sub_dict_str, sub_dict_list, sub_dict_dict] $[$loc:location]?)
open PySem PySem.Spec PyProof.Rows
open L2
def hd (H : List Nat) (i : Nat) : Nat := H.getD i 0
def joinH (H : List Nat) (a b : Nat) : List Nat := H.map fun x => if x = hd H a ∨ x = hd H b then min (hd H a) (hd H b) else x
def HOk (H : List Nat) : Prop := ∀ i, i < H.length → hd H i ≤ i ∧ hd H (hd H i) = hd H i
theorem hd_range {n i : Nat} (h : i < n) : hd (List.range n) i = i := by simp [hd, h]
theorem joinH_len {H : List Nat} {a b : Nat} : (joinH H a b).length = H.length := by unfold joinH; rw [List.length_map]
theorem hd_join {H : List Nat} {a b i : Nat} (h : i < H.length) : hd (joinH H a b) i = if hd H i = hd H a ∨ hd H i = hd H b then min (hd H a) (hd H b) else hd H i := by
  unfold joinH
  have : ∀ f : Nat → Nat, hd (H.map f) i = f (hd H i) := fun f => by unfold hd; simp [h]
  rw [this]
def headsOf (n : Nat) (ts : List (Nat × Nat)) : List Nat := ts.foldl (fun H t => joinH H t.1 t.2) (List.range n)
def ringB : List Nat → List (Nat × Nat) → Bool
  | _, [] => true
  | H, t :: r => (hd H t.1 != hd H t.2) && ringB (joinH H t.1 t.2) r
def roots (H : List Nat) : List Nat := (List.range H.length).filter fun i => hd H i == i
structure Rep (U H : List Nat) : Prop where
  len : U.length = H.length
  ok : HOk H
  le : ∀ i, i < U.length → hd U i ≤ i
  eq : ∀ i, i < U.length → hd H (hd U i) = hd H i
  rt : ∀ i, i < U.length → (hd U i = i ↔ hd H i = i)
def UAt (h : Ah) (u p : Addr) (H : List Nat) : Prop := u ≠ p ∧ h u = some (.ins "Union" [("heads", .ref p)]) ∧ ∃ U, h p = some (.lst (U.map nV)) ∧ Rep U H
end F2
set_option Elab.async false
set_option linter.all false
set_option maxRecDepth 100000
set_option maxHeartbeats 4000000
namespace F2
local macro_rules | `(tactic| simp_arith only [$xs,*] $[$loc:location]?) => `(tactic| simp only [$xs,*, rdSs, rdS, rdX, rdHs, bndA, clrA, isE_non, rdE, rdT, rdEs, rdP, rdR, rdC, rdI, bnd, bnds, bin_add, bin_mul, bin_sub, bin_div, bin_mod, bin_pow, bin_shr, bin_shl, bin_and, cmp_eq, cmp_ne, cmp_lt, cmp_le, cmp_gt, cmp_ge, cmp_is, cmp_isn, cmp_in, cmp_nin, aAdd_int, aAdd_str, aAdd_tup, aAdd_ref, aMul_int, aMul_tup, aMul_ref, aInt1_int, aBool_bl, aIx_tup, aSl_tup, aSl_fls, aSl_ref, aTru_bl, aTru_int, aTru_non, aTru_tup, aSeq_tup, aSeq_ref, len_tup, len_fls, list_tup, list_fls, tuple_tup, tuple_ref, int_int, int_bl, bool_int, bool_bl, max_tup, max_ref, min_tup, min_ref, sum_tup, sum_ref, sorted_ref, sortD_ref, sortS_ref, sortP_ref, srtR_ref, stp_ref, stp_fls, sorted_tup, rsl_tup, all_ref, a2_int, aIn_tup, aIs_non, aIs_bl, app_ref, ext_ref, pop_ref, popAt_ref, isL_ref, isLT_ref, isLT_tup, ins_ref, rvs_ref, fld_ref, setF_ref, isC_ref, Ob.ins.injEq, lset_ref, lset_tup, sset_ref, sset_tup, dct1_int, dct1_str, dctL_ref, ty_non, ty_bl, ty_int, ty_str, ty_tup, aEq_int, aEq_bl, aEq_bi, aEq_ib, aEq_nn, aEq_ni, aEq_in, startA, List.map_cons, List.map_nil, List.length_cons, List.length_nil, List.length_map, List.replicate, List.cons_append, List.nil_append, gv_zero, gv_succ, List.set_cons_zero, List.set_cons_succ, wipeA_nil, wipeA_cons, Nat.reduceAdd, Nat.reduceSub, if_true, if_false, Option.some.injEq, Ob.lst.injEq, Va.int.injEq, exists_eq_left', exists_eq_left, exists_and_left, reduceCtorEq, false_and, and_false, exists_false, exists_const, or_false, false_or, true_and, and_true, Bool.false_eq_true, Bool.not_true, Bool.not_false, put_same, atI_0, atI_1, atI_2, atI_3, sub_NoneType_int, sub_NoneType_bool, sub_NoneType_tuple, sub_NoneType_str, sub_NoneType_list, sub_NoneType_dict, sub_bool_int, sub_bool_bool, sub_bool_tuple, sub_bool_str, sub_bool_list, sub_bool_dict, sub_int_int, sub_int_bool, sub_int_tuple, sub_int_str, sub_int_list, sub_int_dict, sub_str_int, sub_str_bool, sub_str_tuple, sub_str_str, sub_str_list, sub_str_dict, sub_tuple_int, sub_tuple_bool, sub_tuple_tuple, sub_tuple_str, sub_tuple_list, sub_tuple_dict, sub_list_int, sub_list_bool, sub_list_tuple, sub_list_str, sub_list_list, sub_list_dict, sub_dict_int, sub_dict_bool, sub_dict_tuple, sub_dict_str, sub_dict_list, sub_dict_dict] $[$loc:location]?)
open PySem PySem.Spec PyProof.Rows
open L2
def classOf (H : List Nat) (i r : Nat) : List Nat := (List.range i).filter fun j => hd H j == r
def dictAt (H : List Nat) (i : Nat) : List (Key × Va) := ((roots H).filter fun r => decide (r < i)).map fun r : Nat => (.inl (r : Int), lotV (classOf H i r))
end F2
set_option Elab.async false
set_option linter.all false
set_option maxRecDepth 100000
set_option maxHeartbeats 4000000
namespace F2
local macro_rules | `(tactic| simp_arith only [$xs,*] $[$loc:location]?) => `(tactic| simp only [$xs,*, rdSs, rdS, rdX, rdHs, bndA, clrA, isE_non, rdE, rdT, rdEs, rdP, rdR, rdC, rdI, bnd, bnds, bin_add, bin_mul, bin_sub, bin_div, bin_mod, bin_pow, bin_shr, bin_shl, bin_and, cmp_eq, cmp_ne, cmp_lt, cmp_le, cmp_gt, cmp_ge, cmp_is, cmp_isn, cmp_in, cmp_nin, aAdd_int, aAdd_str, aAdd_tup, aAdd_ref, aMul_int, aMul_tup, aMul_ref, aInt1_int, aBool_bl, aIx_tup, aSl_tup, aSl_fls, aSl_ref, aTru_bl, aTru_int, aTru_non, aTru_tup, aSeq_tup, aSeq_ref, len_tup, len_fls, list_tup, list_fls, tuple_tup, tuple_ref, int_int, int_bl, bool_int, bool_bl, max_tup, max_ref, min_tup, min_ref, sum_tup, sum_ref, sorted_ref, sortD_ref, sortS_ref, sortP_ref, srtR_ref, stp_ref, stp_fls, sorted_tup, rsl_tup, all_ref, a2_int, aIn_tup, aIs_non, aIs_bl, app_ref, ext_ref, pop_ref, popAt_ref, isL_ref, isLT_ref, isLT_tup, ins_ref, rvs_ref, fld_ref, setF_ref, isC_ref, Ob.ins.injEq, lset_ref, lset_tup, sset_ref, sset_tup, dct1_int, dct1_str, dctL_ref, ty_non, ty_bl, ty_int, ty_str, ty_tup, aEq_int, aEq_bl, aEq_bi, aEq_ib, aEq_nn, aEq_ni, aEq_in, startA, List.map_cons, List.map_nil, List.length_cons, List.length_nil, List.length_map, List.replicate, List.cons_append, List.nil_append, gv_zero, gv_succ, List.set_cons_zero, List.set_cons_succ, wipeA_nil, wipeA_cons, Nat.reduceAdd, Nat.reduceSub, if_true, if_false, Option.some.injEq, Ob.lst.injEq, Va.int.injEq, exists_eq_left', exists_eq_left, exists_and_left, reduceCtorEq, false_and, and_false, exists_false, exists_const, or_false, false_or, true_and, and_true, Bool.false_eq_true, Bool.not_true, Bool.not_false, put_same, atI_0, atI_1, atI_2, atI_3, sub_NoneType_int, sub_NoneType_bool, sub_NoneType_tuple, sub_NoneType_str, sub_NoneType_list, sub_NoneType_dict, sub_bool_int, sub_bool_bool, sub_bool_tuple, sub_bool_str, sub_bool_list, sub_bool_dict, sub_int_int, sub_int_bool, sub_int_tuple, sub_int_str, sub_int_list, sub_int_dict, sub_str_int, sub_str_bool, sub_str_tuple, sub_str_str, sub_str_list, sub_str_dict, sub_tuple_int, sub_tuple_bool, sub_tuple_tuple, sub_tuple_str, sub_tuple_list, sub_tuple_dict, sub_list_int, sub_list_bool, sub_list_tuple, sub_list_str, sub_list_list, sub_list_dict, sub_dict_int, sub_dict_bool, sub_dict_tuple, sub_dict_str, sub_dict_list, sub_dict_dict] $[$loc:location]?)
open PySem PySem.Spec PyProof.Rows
open L2
end F2
set_option Elab.async false
set_option linter.all false
set_option maxRecDepth 100000
set_option maxHeartbeats 4000000
namespace F2
local macro_rules | `(tactic| simp_arith only [$xs,*] $[$loc:location]?) => `(tactic| simp only [$xs,*, rdSs, rdS, rdX, rdHs, bndA, clrA, isE_non, rdE, rdT, rdEs, rdP, rdR, rdC, rdI, bnd, bnds, bin_add, bin_mul, bin_sub, bin_div, bin_mod, bin_pow, bin_shr, bin_shl, bin_and, cmp_eq, cmp_ne, cmp_lt, cmp_le, cmp_gt, cmp_ge, cmp_is, cmp_isn, cmp_in, cmp_nin, aAdd_int, aAdd_str, aAdd_tup, aAdd_ref, aMul_int, aMul_tup, aMul_ref, aInt1_int, aBool_bl, aIx_tup, aSl_tup, aSl_fls, aSl_ref, aTru_bl, aTru_int, aTru_non, aTru_tup, aSeq_tup, aSeq_ref, len_tup, len_fls, list_tup, list_fls, tuple_tup, tuple_ref, int_int, int_bl, bool_int, bool_bl, max_tup, max_ref, min_tup, min_ref, sum_tup, sum_ref, sorted_ref, sortD_ref, sortS_ref, sortP_ref, srtR_ref, stp_ref, stp_fls, sorted_tup, rsl_tup, all_ref, a2_int, aIn_tup, aIs_non, aIs_bl, app_ref, ext_ref, pop_ref, popAt_ref, isL_ref, isLT_ref, isLT_tup, ins_ref, rvs_ref, fld_ref, setF_ref, isC_ref, Ob.ins.injEq, lset_ref, lset_tup, sset_ref, sset_tup, dct1_int, dct1_str, dctL_ref, ty_non, ty_bl, ty_int, ty_str, ty_tup, aEq_int, aEq_bl, aEq_bi, aEq_ib, aEq_nn, aEq_ni, aEq_in, startA, List.map_cons, List.map_nil, List.length_cons, List.length_nil, List.length_map, List.replicate, List.cons_append, List.nil_append, gv_zero, gv_succ, List.set_cons_zero, List.set_cons_succ, wipeA_nil, wipeA_cons, Nat.reduceAdd, Nat.reduceSub, if_true, if_false, Option.some.injEq, Ob.lst.injEq, Va.int.injEq, exists_eq_left', exists_eq_left, exists_and_left, reduceCtorEq, false_and, and_false, exists_false, exists_const, or_false, false_or, true_and, and_true, Bool.false_eq_true, Bool.not_true, Bool.not_false, put_same, atI_0, atI_1, atI_2, atI_3, sub_NoneType_int, sub_NoneType_bool, sub_NoneType_tuple, sub_NoneType_str, sub_NoneType_list, sub_NoneType_dict, sub_bool_int, sub_bool_bool, sub_bool_tuple, sub_bool_str, sub_bool_list, sub_bool_dict, sub_int_int, sub_int_bool, sub_int_tuple, sub_int_str, sub_int_list, sub_int_dict, sub_str_int, sub_str_bool, sub_str_tuple, sub_str_str, sub_str_list, sub_str_dict, sub_tuple_int, sub_tuple_bool, sub_tuple_tuple, sub_tuple_str, sub_tuple_list, sub_tuple_dict, sub_list_int, sub_list_bool, sub_list_tuple, sub_list_str, sub_list_list, sub_list_dict, sub_dict_int, sub_dict_bool, sub_dict_tuple, sub_dict_str, sub_dict_list, sub_dict_dict] $[$loc:location]?)
open PySem PySem.Spec PyProof.Rows
open L2
def tiesAt (ts : List (Nat × Nat)) (ks : List Nat) : List (Nat × Nat) := ks.map fun k => ts.getD k (0, 0)
theorem ringB_cons {H : List Nat} {t : Nat × Nat} {r : List (Nat × Nat)} : ringB H (t :: r) = ((hd H t.1 != hd H t.2) && ringB (joinH H t.1 t.2) r) := rfl
end F2
set_option Elab.async false
set_option linter.all false
set_option maxRecDepth 100000
set_option maxHeartbeats 4000000
namespace F2
local macro_rules | `(tactic| simp_arith only [$xs,*] $[$loc:location]?) => `(tactic| simp only [$xs,*, rdSs, rdS, rdX, rdHs, bndA, clrA, isE_non, rdE, rdT, rdEs, rdP, rdR, rdC, rdI, bnd, bnds, bin_add, bin_mul, bin_sub, bin_div, bin_mod, bin_pow, bin_shr, bin_shl, bin_and, cmp_eq, cmp_ne, cmp_lt, cmp_le, cmp_gt, cmp_ge, cmp_is, cmp_isn, cmp_in, cmp_nin, aAdd_int, aAdd_str, aAdd_tup, aAdd_ref, aMul_int, aMul_tup, aMul_ref, aInt1_int, aBool_bl, aIx_tup, aSl_tup, aSl_fls, aSl_ref, aTru_bl, aTru_int, aTru_non, aTru_tup, aSeq_tup, aSeq_ref, len_tup, len_fls, list_tup, list_fls, tuple_tup, tuple_ref, int_int, int_bl, bool_int, bool_bl, max_tup, max_ref, min_tup, min_ref, sum_tup, sum_ref, sorted_ref, sortD_ref, sortS_ref, sortP_ref, srtR_ref, stp_ref, stp_fls, sorted_tup, rsl_tup, all_ref, a2_int, aIn_tup, aIs_non, aIs_bl, app_ref, ext_ref, pop_ref, popAt_ref, isL_ref, isLT_ref, isLT_tup, ins_ref, rvs_ref, fld_ref, setF_ref, isC_ref, Ob.ins.injEq, lset_ref, lset_tup, sset_ref, sset_tup, dct1_int, dct1_str, dctL_ref, ty_non, ty_bl, ty_int, ty_str, ty_tup, aEq_int, aEq_bl, aEq_bi, aEq_ib, aEq_nn, aEq_ni, aEq_in, startA, List.map_cons, List.map_nil, List.length_cons, List.length_nil, List.length_map, List.replicate, List.cons_append, List.nil_append, gv_zero, gv_succ, List.set_cons_zero, List.set_cons_succ, wipeA_nil, wipeA_cons, Nat.reduceAdd, Nat.reduceSub, if_true, if_false, Option.some.injEq, Ob.lst.injEq, Va.int.injEq, exists_eq_left', exists_eq_left, exists_and_left, reduceCtorEq, false_and, and_false, exists_false, exists_const, or_false, false_or, true_and, and_true, Bool.false_eq_true, Bool.not_true, Bool.not_false, put_same, atI_0, atI_1, atI_2, atI_3, sub_NoneType_int, sub_NoneType_bool, sub_NoneType_tuple, sub_NoneType_str, sub_NoneType_list, sub_NoneType_dict, sub_bool_int, sub_bool_bool, sub_bool_tuple, sub_bool_str, sub_bool_list, sub_bool_dict, sub_int_int, sub_int_bool, sub_int_tuple, sub_int_str, sub_int_list, sub_int_dict, sub_str_int, sub_str_bool, sub_str_tuple, sub_str_str, sub_str_list, sub_str_dict, sub_tuple_int, sub_tuple_bool, sub_tuple_tuple, sub_tuple_str, sub_tuple_list, sub_tuple_dict, sub_list_int, sub_list_bool, sub_list_tuple, sub_list_str, sub_list_list, sub_list_dict, sub_dict_int, sub_dict_bool, sub_dict_tuple, sub_dict_str, sub_dict_list, sub_dict_dict] $[$loc:location]?)
open PySem PySem.Spec PyProof.Rows
open L2
def entV : Option Nat → Va
  | none => .non
  | some f => .int f
def layV (es : List (Option Nat)) : Va := .tup (es.map entV)
def tiesIn (es : List (Option Nat)) (f : Nat) : List Nat := (es.zipIdx.filter fun p => p.1 == some f).map (·.2)
end F2
set_option Elab.async false
set_option linter.all false
set_option maxRecDepth 100000
set_option maxHeartbeats 4000000
namespace F2
local macro_rules | `(tactic| simp_arith only [$xs,*] $[$loc:location]?) => `(tactic| simp only [$xs,*, rdSs, rdS, rdX, rdHs, bndA, clrA, isE_non, rdE, rdT, rdEs, rdP, rdR, rdC, rdI, bnd, bnds, bin_add, bin_mul, bin_sub, bin_div, bin_mod, bin_pow, bin_shr, bin_shl, bin_and, cmp_eq, cmp_ne, cmp_lt, cmp_le, cmp_gt, cmp_ge, cmp_is, cmp_isn, cmp_in, cmp_nin, aAdd_int, aAdd_str, aAdd_tup, aAdd_ref, aMul_int, aMul_tup, aMul_ref, aInt1_int, aBool_bl, aIx_tup, aSl_tup, aSl_fls, aSl_ref, aTru_bl, aTru_int, aTru_non, aTru_tup, aSeq_tup, aSeq_ref, len_tup, len_fls, list_tup, list_fls, tuple_tup, tuple_ref, int_int, int_bl, bool_int, bool_bl, max_tup, max_ref, min_tup, min_ref, sum_tup, sum_ref, sorted_ref, sortD_ref, sortS_ref, sortP_ref, srtR_ref, stp_ref, stp_fls, sorted_tup, rsl_tup, all_ref, a2_int, aIn_tup, aIs_non, aIs_bl, app_ref, ext_ref, pop_ref, popAt_ref, isL_ref, isLT_ref, isLT_tup, ins_ref, rvs_ref, fld_ref, setF_ref, isC_ref, Ob.ins.injEq, lset_ref, lset_tup, sset_ref, sset_tup, dct1_int, dct1_str, dctL_ref, ty_non, ty_bl, ty_int, ty_str, ty_tup, aEq_int, aEq_bl, aEq_bi, aEq_ib, aEq_nn, aEq_ni, aEq_in, startA, List.map_cons, List.map_nil, List.length_cons, List.length_nil, List.length_map, List.replicate, List.cons_append, List.nil_append, gv_zero, gv_succ, List.set_cons_zero, List.set_cons_succ, wipeA_nil, wipeA_cons, Nat.reduceAdd, Nat.reduceSub, if_true, if_false, Option.some.injEq, Ob.lst.injEq, Va.int.injEq, exists_eq_left', exists_eq_left, exists_and_left, reduceCtorEq, false_and, and_false, exists_false, exists_const, or_false, false_or, true_and, and_true, Bool.false_eq_true, Bool.not_true, Bool.not_false, put_same, atI_0, atI_1, atI_2, atI_3, sub_NoneType_int, sub_NoneType_bool, sub_NoneType_tuple, sub_NoneType_str, sub_NoneType_list, sub_NoneType_dict, sub_bool_int, sub_bool_bool, sub_bool_tuple, sub_bool_str, sub_bool_list, sub_bool_dict, sub_int_int, sub_int_bool, sub_int_tuple, sub_int_str, sub_int_list, sub_int_dict, sub_str_int, sub_str_bool, sub_str_tuple, sub_str_str, sub_str_list, sub_str_dict, sub_tuple_int, sub_tuple_bool, sub_tuple_tuple, sub_tuple_str, sub_tuple_list, sub_tuple_dict, sub_list_int, sub_list_bool, sub_list_tuple, sub_list_str, sub_list_list, sub_list_dict, sub_dict_int, sub_dict_bool, sub_dict_tuple, sub_dict_str, sub_dict_list, sub_dict_dict] $[$loc:location]?)
open PySem PySem.Spec PyProof.Rows
open L2
abbrev Us := List (Addr × Addr × List Nat)
structure UsAt (h : Ah) (l : Us) : Prop where
  at_ : ∀ (i : Nat) (hi : i < l.length), UAt h l[i].1 l[i].2.1 l[i].2.2
  pp : ∀ (i j : Nat) (hi : i < l.length) (hj : j < l.length), i ≠ j → l[i].2.1 ≠ l[j].2.1
  up : ∀ (i j : Nat) (hi : i < l.length) (hj : j < l.length), l[i].1 ≠ l[j].2.1
def fit (t : Nat × Nat) : List (List Nat) → Option Nat × List (List Nat)
  | [] => (none, [])
  | H :: Hs => if hd H t.1 = hd H t.2 then ((fit t Hs).1.map (· + 1), H :: (fit t Hs).2) else (some 0, joinH H t.1 t.2 :: Hs)
theorem UsAt.one {h h' : Ah} {l : Us} {i : Nat} {H' : List Nat} (u : UsAt h l) (hi : i < l.length) (U : UAt h' l[i].1 l[i].2.1 H') (f : ∀ c, c ≠ l[i].2.1 → h' c = h c) : UsAt h' (l.set i (l[i].1, l[i].2.1, H')) := by
  have g1 : ∀ (j : Nat) (hj : j < l.length), (l.set i (l[i].1, l[i].2.1, H'))[j]'(by rw [List.length_set]; exact hj) = if j = i then (l[i].1, l[i].2.1, H') else l[j] := fun j hj => by
    rw [List.getElem_set]
    by_cases e : i = j
    · rw [if_pos e, if_pos e.symm]
    · rw [if_neg e, if_neg (Ne.symm e)]
  refine ⟨fun j hj => ?_, fun j k hj hk n => ?_, fun j k hj hk => ?_⟩
  · rw [List.length_set] at hj
    rw [g1 j hj]
    by_cases e : j = i
    · rw [if_pos e]; exact U
    · rw [if_neg e]
      obtain ⟨a, b, V, c, d⟩ := u.at_ j hj
      exact ⟨a, by rw [f _ (u.up j i hj hi)]; exact b, V, by rw [f _ (u.pp j i hj hi e)]; exact c, d⟩
  · have hj' : j < l.length := by rw [List.length_set] at hj; exact hj
    have hk' : k < l.length := by rw [List.length_set] at hk; exact hk
    rw [g1 j hj', g1 k hk']
    by_cases e : j = i <;> by_cases e2 : k = i
    · omega
    · subst e; rw [if_pos rfl, if_neg e2]; exact u.pp _ _ hj' hk' (fun z => e2 z.symm)
    · subst e2; rw [if_pos rfl, if_neg e]; exact u.pp _ _ hj' hk' e
    · rw [if_neg e, if_neg e2]; exact u.pp _ _ hj' hk' n
  · have hj' : j < l.length := by rw [List.length_set] at hj; exact hj
    have hk' : k < l.length := by rw [List.length_set] at hk; exact hk
    rw [g1 j hj', g1 k hk']
    by_cases e : j = i <;> by_cases e2 : k = i
    · subst e; subst e2; rw [if_pos rfl]; exact u.up _ _ hj' hk'
    · subst e; rw [if_pos rfl, if_neg e2]; exact u.up _ _ hj' hk'
    · subst e2; rw [if_pos rfl, if_neg e]; exact u.up _ _ hj' hk'
    · rw [if_neg e, if_neg e2]; exact u.up _ _ hj' hk'
def hds (l : Us) : List (List Nat) := l.map fun x => x.2.2
def fits : List (Nat × Nat) → List (List Nat) → List (Option Nat)
  | [], _ => []
  | t :: ts, Hs => (fit t Hs).1 :: fits ts (fit t Hs).2
def fresh (n k : Nat) : List (List Nat) := List.replicate k (List.range n)
def inLay (ts : List (Nat × Nat)) (es : List (Option Nat)) (f : Nat) : List (Nat × Nat) := ((ts.zip es).filter fun p => p.2 == some f).map (·.1)
theorem ringB_snoc {t : Nat × Nat} : ∀ {L : List (Nat × Nat)} {H : List Nat}, ringB H (L ++ [t]) = (ringB H L && (hd (L.foldl (fun H t => joinH H t.1 t.2) H) t.1 != hd (L.foldl (fun H t => joinH H t.1 t.2) H) t.2))
  | [], H => by simp [ringB]
  | u :: L, H => by
    rw [List.cons_append, ringB_cons, ringB_cons, ringB_snoc, Bool.and_assoc]; rfl
structure FitAt (n k : Nat) (ts : List (Nat × Nat)) (es : List (Option Nat)) (Hs : List (List Nat)) (i : Nat) : Prop where
  len : Hs.length = k
  hs : ∀ (f : Nat) (hf : f < Hs.length), Hs[f] = headsOf n (inLay (ts.take i) (es.take i) f)
  ok : ∀ f, ringB (List.range n) (inLay (ts.take i) (es.take i) f) = true
  new : ∀ (f : Nat) (hf : f < Hs.length), i ≤ f → Hs[f] = List.range n
end F2
set_option Elab.async false
set_option linter.all false
set_option maxRecDepth 100000
set_option maxHeartbeats 4000000
namespace F2
local macro_rules | `(tactic| simp_arith only [$xs,*] $[$loc:location]?) => `(tactic| simp only [$xs,*, rdSs, rdS, rdX, rdHs, bndA, clrA, isE_non, rdE, rdT, rdEs, rdP, rdR, rdC, rdI, bnd, bnds, bin_add, bin_mul, bin_sub, bin_div, bin_mod, bin_pow, bin_shr, bin_shl, bin_and, cmp_eq, cmp_ne, cmp_lt, cmp_le, cmp_gt, cmp_ge, cmp_is, cmp_isn, cmp_in, cmp_nin, aAdd_int, aAdd_str, aAdd_tup, aAdd_ref, aMul_int, aMul_tup, aMul_ref, aInt1_int, aBool_bl, aIx_tup, aSl_tup, aSl_fls, aSl_ref, aTru_bl, aTru_int, aTru_non, aTru_tup, aSeq_tup, aSeq_ref, len_tup, len_fls, list_tup, list_fls, tuple_tup, tuple_ref, int_int, int_bl, bool_int, bool_bl, max_tup, max_ref, min_tup, min_ref, sum_tup, sum_ref, sorted_ref, sortD_ref, sortS_ref, sortP_ref, srtR_ref, stp_ref, stp_fls, sorted_tup, rsl_tup, all_ref, a2_int, aIn_tup, aIs_non, aIs_bl, app_ref, ext_ref, pop_ref, popAt_ref, isL_ref, isLT_ref, isLT_tup, ins_ref, rvs_ref, fld_ref, setF_ref, isC_ref, Ob.ins.injEq, lset_ref, lset_tup, sset_ref, sset_tup, dct1_int, dct1_str, dctL_ref, ty_non, ty_bl, ty_int, ty_str, ty_tup, aEq_int, aEq_bl, aEq_bi, aEq_ib, aEq_nn, aEq_ni, aEq_in, startA, List.map_cons, List.map_nil, List.length_cons, List.length_nil, List.length_map, List.replicate, List.cons_append, List.nil_append, gv_zero, gv_succ, List.set_cons_zero, List.set_cons_succ, wipeA_nil, wipeA_cons, Nat.reduceAdd, Nat.reduceSub, if_true, if_false, Option.some.injEq, Ob.lst.injEq, Va.int.injEq, exists_eq_left', exists_eq_left, exists_and_left, reduceCtorEq, false_and, and_false, exists_false, exists_const, or_false, false_or, true_and, and_true, Bool.false_eq_true, Bool.not_true, Bool.not_false, put_same, atI_0, atI_1, atI_2, atI_3, sub_NoneType_int, sub_NoneType_bool, sub_NoneType_tuple, sub_NoneType_str, sub_NoneType_list, sub_NoneType_dict, sub_bool_int, sub_bool_bool, sub_bool_tuple, sub_bool_str, sub_bool_list, sub_bool_dict, sub_int_int, sub_int_bool, sub_int_tuple, sub_int_str, sub_int_list, sub_int_dict, sub_str_int, sub_str_bool, sub_str_tuple, sub_str_str, sub_str_list, sub_str_dict, sub_tuple_int, sub_tuple_bool, sub_tuple_tuple, sub_tuple_str, sub_tuple_list, sub_tuple_dict, sub_list_int, sub_list_bool, sub_list_tuple, sub_list_str, sub_list_list, sub_list_dict, sub_dict_int, sub_dict_bool, sub_dict_tuple, sub_dict_str, sub_dict_list, sub_dict_dict] $[$loc:location]?)
open PySem PySem.Spec PyProof.Rows
open L2
end F2
set_option Elab.async false
set_option linter.all false
set_option maxRecDepth 100000
set_option maxHeartbeats 4000000
namespace F2
local macro_rules | `(tactic| simp_arith only [$xs,*] $[$loc:location]?) => `(tactic| simp only [$xs,*, rdSs, rdS, rdX, rdHs, bndA, clrA, isE_non, rdE, rdT, rdEs, rdP, rdR, rdC, rdI, bnd, bnds, bin_add, bin_mul, bin_sub, bin_div, bin_mod, bin_pow, bin_shr, bin_shl, bin_and, cmp_eq, cmp_ne, cmp_lt, cmp_le, cmp_gt, cmp_ge, cmp_is, cmp_isn, cmp_in, cmp_nin, aAdd_int, aAdd_str, aAdd_tup, aAdd_ref, aMul_int, aMul_tup, aMul_ref, aInt1_int, aBool_bl, aIx_tup, aSl_tup, aSl_fls, aSl_ref, aTru_bl, aTru_int, aTru_non, aTru_tup, aSeq_tup, aSeq_ref, len_tup, len_fls, list_tup, list_fls, tuple_tup, tuple_ref, int_int, int_bl, bool_int, bool_bl, max_tup, max_ref, min_tup, min_ref, sum_tup, sum_ref, sorted_ref, sortD_ref, sortS_ref, sortP_ref, srtR_ref, stp_ref, stp_fls, sorted_tup, rsl_tup, all_ref, a2_int, aIn_tup, aIs_non, aIs_bl, app_ref, ext_ref, pop_ref, popAt_ref, isL_ref, isLT_ref, isLT_tup, ins_ref, rvs_ref, fld_ref, setF_ref, isC_ref, Ob.ins.injEq, lset_ref, lset_tup, sset_ref, sset_tup, dct1_int, dct1_str, dctL_ref, ty_non, ty_bl, ty_int, ty_str, ty_tup, aEq_int, aEq_bl, aEq_bi, aEq_ib, aEq_nn, aEq_ni, aEq_in, startA, List.map_cons, List.map_nil, List.length_cons, List.length_nil, List.length_map, List.replicate, List.cons_append, List.nil_append, gv_zero, gv_succ, List.set_cons_zero, List.set_cons_succ, wipeA_nil, wipeA_cons, Nat.reduceAdd, Nat.reduceSub, if_true, if_false, Option.some.injEq, Ob.lst.injEq, Va.int.injEq, exists_eq_left', exists_eq_left, exists_and_left, reduceCtorEq, false_and, and_false, exists_false, exists_const, or_false, false_or, true_and, and_true, Bool.false_eq_true, Bool.not_true, Bool.not_false, put_same, atI_0, atI_1, atI_2, atI_3, sub_NoneType_int, sub_NoneType_bool, sub_NoneType_tuple, sub_NoneType_str, sub_NoneType_list, sub_NoneType_dict, sub_bool_int, sub_bool_bool, sub_bool_tuple, sub_bool_str, sub_bool_list, sub_bool_dict, sub_int_int, sub_int_bool, sub_int_tuple, sub_int_str, sub_int_list, sub_int_dict, sub_str_int, sub_str_bool, sub_str_tuple, sub_str_str, sub_str_list, sub_str_dict, sub_tuple_int, sub_tuple_bool, sub_tuple_tuple, sub_tuple_str, sub_tuple_list, sub_tuple_dict, sub_list_int, sub_list_bool, sub_list_tuple, sub_list_str, sub_list_list, sub_list_dict, sub_dict_int, sub_dict_bool, sub_dict_tuple, sub_dict_str, sub_dict_list, sub_dict_dict] $[$loc:location]?)
open PySem PySem.Spec PyProof.Rows
open L2
structure LInv (h : Ah) (d A B : Addr) (n : Nat) (ts : List (Nat × Nat)) (i j : Nat) (h' : Ah) (qs : List Addr) (ls : List Nat) : Prop where
  dk : Dk h d h'
  nA : h A = none ∧ A ≠ d
  nB : h B = none ∧ B ≠ d
  AB : A ≠ B
  hA : h' A = some (.lst (qs.map Va.ref))
  hB : h' B = some (.lst (ls.map nV))
  nq : ∀ q ∈ qs, h q = none ∧ q ≠ d ∧ q ≠ A ∧ q ≠ B
  nd : qs.Nodup
  ll : ls.length = i
  ql : qs.length ≤ j
  lt : ∀ l ∈ ls, l < qs.length
  hq : ∀ (f : Nat) (hf : f < qs.length), h' qs[f] = some (.lst ((tiesIn (ls.map some) f).map nV))
  ok : ∀ f, ringB (List.range n) (tiesAt ts (tiesIn (ls.map some) f)) = true
end F2
set_option Elab.async false
set_option linter.all false
set_option maxRecDepth 100000
set_option maxHeartbeats 4000000
namespace F2
local macro_rules | `(tactic| simp_arith only [$xs,*] $[$loc:location]?) => `(tactic| simp only [$xs,*, rdSs, rdS, rdX, rdHs, bndA, clrA, isE_non, rdE, rdT, rdEs, rdP, rdR, rdC, rdI, bnd, bnds, bin_add, bin_mul, bin_sub, bin_div, bin_mod, bin_pow, bin_shr, bin_shl, bin_and, cmp_eq, cmp_ne, cmp_lt, cmp_le, cmp_gt, cmp_ge, cmp_is, cmp_isn, cmp_in, cmp_nin, aAdd_int, aAdd_str, aAdd_tup, aAdd_ref, aMul_int, aMul_tup, aMul_ref, aInt1_int, aBool_bl, aIx_tup, aSl_tup, aSl_fls, aSl_ref, aTru_bl, aTru_int, aTru_non, aTru_tup, aSeq_tup, aSeq_ref, len_tup, len_fls, list_tup, list_fls, tuple_tup, tuple_ref, int_int, int_bl, bool_int, bool_bl, max_tup, max_ref, min_tup, min_ref, sum_tup, sum_ref, sorted_ref, sortD_ref, sortS_ref, sortP_ref, srtR_ref, stp_ref, stp_fls, sorted_tup, rsl_tup, all_ref, a2_int, aIn_tup, aIs_non, aIs_bl, app_ref, ext_ref, pop_ref, popAt_ref, isL_ref, isLT_ref, isLT_tup, ins_ref, rvs_ref, fld_ref, setF_ref, isC_ref, Ob.ins.injEq, lset_ref, lset_tup, sset_ref, sset_tup, dct1_int, dct1_str, dctL_ref, ty_non, ty_bl, ty_int, ty_str, ty_tup, aEq_int, aEq_bl, aEq_bi, aEq_ib, aEq_nn, aEq_ni, aEq_in, startA, List.map_cons, List.map_nil, List.length_cons, List.length_nil, List.length_map, List.replicate, List.cons_append, List.nil_append, gv_zero, gv_succ, List.set_cons_zero, List.set_cons_succ, wipeA_nil, wipeA_cons, Nat.reduceAdd, Nat.reduceSub, if_true, if_false, Option.some.injEq, Ob.lst.injEq, Va.int.injEq, exists_eq_left', exists_eq_left, exists_and_left, reduceCtorEq, false_and, and_false, exists_false, exists_const, or_false, false_or, true_and, and_true, Bool.false_eq_true, Bool.not_true, Bool.not_false, put_same, atI_0, atI_1, atI_2, atI_3, sub_NoneType_int, sub_NoneType_bool, sub_NoneType_tuple, sub_NoneType_str, sub_NoneType_list, sub_NoneType_dict, sub_bool_int, sub_bool_bool, sub_bool_tuple, sub_bool_str, sub_bool_list, sub_bool_dict, sub_int_int, sub_int_bool, sub_int_tuple, sub_int_str, sub_int_list, sub_int_dict, sub_str_int, sub_str_bool, sub_str_tuple, sub_str_str, sub_str_list, sub_str_dict, sub_tuple_int, sub_tuple_bool, sub_tuple_tuple, sub_tuple_str, sub_tuple_list, sub_tuple_dict, sub_list_int, sub_list_bool, sub_list_tuple, sub_list_str, sub_list_list, sub_list_dict, sub_dict_int, sub_dict_bool, sub_dict_tuple, sub_dict_str, sub_dict_list, sub_dict_dict] $[$loc:location]?)
open PySem PySem.Spec PyProof.Rows
open L2
def Kd (h h' : Ah) : Prop := ∀ a, (∀ xs, h a = some (.lst xs) → ∃ ys, h' a = some (.lst ys)) ∧ ∀ kvs, h a = some (.dk kvs) → ∃ ys, h' a = some (.dk ys)
theorem Kd.trans {a b c : Ah} (x : Kd a b) (y : Kd b c) : Kd a c := fun p => ⟨fun xs e => by obtain ⟨ys, e⟩ := (x p).1 xs e; exact (y p).1 ys e, fun xs e => by obtain ⟨ys, e⟩ := (x p).2 xs e; exact (y p).2 ys e⟩
theorem Ty.kd {h h' : Ah} (k : Kd h h') {v : Va} (t : Ty h v) : Ty h' v := by
  cases v with
  | ref p =>
    rcases t with ⟨xs, e, -⟩ | ⟨xs, e, -⟩
    · obtain ⟨ys, e'⟩ := (k p).1 xs e
      exact .inl ⟨ys, e', trivial⟩
    · obtain ⟨ys, e'⟩ := (k p).2 xs e
      exact .inr ⟨ys, e', trivial⟩
  | _ => exact t
theorem Ty2.kd {h h' : Ah} (k : Kd h h') {v : Va} (t : Ty2 h v) : Ty2 h' v := ⟨t.1.kd k, fun xs e x hx => (t.2 xs e x hx).kd k⟩
end F2
set_option Elab.async false
set_option linter.all false
set_option maxRecDepth 100000
set_option maxHeartbeats 4000000
namespace F2
local macro_rules | `(tactic| simp_arith only [$xs,*] $[$loc:location]?) => `(tactic| simp only [$xs,*, rdSs, rdS, rdX, rdHs, bndA, clrA, isE_non, rdE, rdT, rdEs, rdP, rdR, rdC, rdI, bnd, bnds, bin_add, bin_mul, bin_sub, bin_div, bin_mod, bin_pow, bin_shr, bin_shl, bin_and, cmp_eq, cmp_ne, cmp_lt, cmp_le, cmp_gt, cmp_ge, cmp_is, cmp_isn, cmp_in, cmp_nin, aAdd_int, aAdd_str, aAdd_tup, aAdd_ref, aMul_int, aMul_tup, aMul_ref, aInt1_int, aBool_bl, aIx_tup, aSl_tup, aSl_fls, aSl_ref, aTru_bl, aTru_int, aTru_non, aTru_tup, aSeq_tup, aSeq_ref, len_tup, len_fls, list_tup, list_fls, tuple_tup, tuple_ref, int_int, int_bl, bool_int, bool_bl, max_tup, max_ref, min_tup, min_ref, sum_tup, sum_ref, sorted_ref, sortD_ref, sortS_ref, sortP_ref, srtR_ref, stp_ref, stp_fls, sorted_tup, rsl_tup, all_ref, a2_int, aIn_tup, aIs_non, aIs_bl, app_ref, ext_ref, pop_ref, popAt_ref, isL_ref, isLT_ref, isLT_tup, ins_ref, rvs_ref, fld_ref, setF_ref, isC_ref, Ob.ins.injEq, lset_ref, lset_tup, sset_ref, sset_tup, dct1_int, dct1_str, dctL_ref, ty_non, ty_bl, ty_int, ty_str, ty_tup, aEq_int, aEq_bl, aEq_bi, aEq_ib, aEq_nn, aEq_ni, aEq_in, startA, List.map_cons, List.map_nil, List.length_cons, List.length_nil, List.length_map, List.replicate, List.cons_append, List.nil_append, gv_zero, gv_succ, List.set_cons_zero, List.set_cons_succ, wipeA_nil, wipeA_cons, Nat.reduceAdd, Nat.reduceSub, if_true, if_false, Option.some.injEq, Ob.lst.injEq, Va.int.injEq, exists_eq_left', exists_eq_left, exists_and_left, reduceCtorEq, false_and, and_false, exists_false, exists_const, or_false, false_or, true_and, and_true, Bool.false_eq_true, Bool.not_true, Bool.not_false, put_same, atI_0, atI_1, atI_2, atI_3, sub_NoneType_int, sub_NoneType_bool, sub_NoneType_tuple, sub_NoneType_str, sub_NoneType_list, sub_NoneType_dict, sub_bool_int, sub_bool_bool, sub_bool_tuple, sub_bool_str, sub_bool_list, sub_bool_dict, sub_int_int, sub_int_bool, sub_int_tuple, sub_int_str, sub_int_list, sub_int_dict, sub_str_int, sub_str_bool, sub_str_tuple, sub_str_str, sub_str_list, sub_str_dict, sub_tuple_int, sub_tuple_bool, sub_tuple_tuple, sub_tuple_str, sub_tuple_list, sub_tuple_dict, sub_list_int, sub_list_bool, sub_list_tuple, sub_list_str, sub_list_list, sub_list_dict, sub_dict_int, sub_dict_bool, sub_dict_tuple, sub_dict_str, sub_dict_list, sub_dict_dict] $[$loc:location]?)
open PySem PySem.Spec PyProof.Rows
open L2
def TyT (h : Ah) : Nat → Va → Prop
  | 0, v => Ty h v
  | n + 1, v => Ty h v ∧ ∀ xs, v = .tup xs → ∀ x ∈ xs, TyT h n x
theorem TyT.ty {h : Ah} {n : Nat} {v : Va} (t : TyT h n v) : Ty h v := by
  cases n with
  | zero => exact t
  | succ n => exact t.1
theorem TyT.kd {h h' : Ah} (k : Kd h h') : ∀ {n : Nat} {v : Va}, TyT h n v → TyT h' n v
  | 0, _, t => Ty.kd k t
  | _ + 1, _, t => ⟨t.1.kd k, fun xs e x hx => TyT.kd k (t.2 xs e x hx)⟩
theorem TyT.tup {h : Ah} {n : Nat} {xs : List Va} (t : ∀ x ∈ xs, TyT h n x) : TyT h (n + 1) (.tup xs) := ⟨trivial, fun ys e => by cases e; exact t⟩
theorem TyT.le {h : Ah} : ∀ {n m : Nat} {v : Va}, m ≤ n → TyT h n v → TyT h m v
  | _, 0, _, _, t => t.ty
  | n + 1, m + 1, _, e, t => ⟨t.1, fun xs q x hx => TyT.le (by omega) (t.2 xs q x hx)⟩
def tyD : Nat → Va → Bool
  | _, .ref _ => false
  | _, .fls _ => false
  | 0, _ => true
  | n + 1, .tup xs => xs.all (tyD n)
  | _ + 1, _ => true
theorem TyT.of_b {h : Ah} : ∀ {n : Nat} {v : Va}, tyD n v = true → TyT h n v
  | 0, v, e => by cases v <;> first | trivial | cases e
  | n + 1, v, e => by
    cases v with
    | tup xs => exact TyT.tup fun x hx => TyT.of_b (List.all_eq_true.mp e x hx)
    | ref p => cases e
    | fls p => cases e
    | _ => exact ⟨trivial, fun xs e => by cases e⟩
theorem TyT.ref {h : Ah} {n : Nat} {p : Addr} (t : Ty h (.ref p)) : TyT h n (.ref p) := by
  cases n with
  | zero => exact t
  | succ n => exact ⟨t, fun xs e => by cases e⟩
def isTieB (v : Va) (p : Int) : Bool := match v with
  | .tup [a, b] => isIntB a 0 (p - 1) && (match a with | .int i => isIntB b (i + 1) (p - 1) | _ => false)
  | _ => false
def isWebB : Va → Bool
  | .tup [a, b] => isIntB a 1 40 && (match a, b with | .int n, .tup ts => decide (ts.length ≤ 120) && ts.all fun t => isTieB t n | _, _ => false)
  | _ => false
theorem isInt_ex {v : Va} {a b : Int} (e : isIntB v a b = true) : ∃ i, v = .int i ∧ a ≤ i ∧ i ≤ b := by
  cases v with
  | int i =>
    unfold isIntB at e
    rw [Bool.and_eq_true, decide_eq_true_eq, decide_eq_true_eq] at e
    exact ⟨i, rfl, e⟩
  | _ => cases e
def sp_is_tie : ASp := fun avs h Q => ∃ (v : Va) (p : Int), avs = [v, .int p] ∧ TyT h 1 v ∧ Q (.bl (isTieB v p)) h
def nm_is_tie : List Str := ["thing", "points"]
def ir_is_tie : Ss := .cons (.ret (.and (.call "is_tuple" sp_is_tuple (.cons (.var 0) (.cons (.int 2) .nil))) (.and (.call "is_int" sp_is_int (.cons (.ix (.var 0) (.int 0)) (.cons (.int 0) (.cons (.bin .Sub (.var 1) (.int 1)) .nil)))) (.call "is_int" sp_is_int (.cons (.ix (.var 0) (.int 1)) (.cons (.bin .Add (.ix (.var 0) (.int 0)) (.int 1)) (.cons (.bin .Sub (.var 1) (.int 1)) .nil))))))) .nil
theorem fa_is_tie : FnA 2 2 sp_is_tie ir_is_tie := by
  rintro avs h Q ⟨v, p, rfl, ty, q⟩
  refine ⟨rfl, ?_⟩
  simp_arith only [ir_is_tie]
  refine ⟨_, _, rfl, .inr ⟨_, rfl⟩, ty.ty, ?_⟩
  cases v with
  | tup xs =>
    match xs, ty, q with
    | [a, b], ty, q =>
      have ta : Ty h a := ty.2 _ rfl a (by simp)
      have tb : Ty h b := ty.2 _ rfl b (by simp)
      simp_arith only [isTupW, List.length_cons, List.length_nil]
      refine ⟨_, 0, p - 1, rfl, ta, ?_⟩
      cases e : isIntB a 0 (p - 1) with
      | false =>
        simp only [isTieB, e, Bool.false_and] at q
        simp_arith only [rdSs]
        exact ret_of q
      | true =>
        obtain ⟨i, rfl, h1, h2⟩ := isInt_ex e
        simp only [isTieB, e, Bool.true_and] at q
        simp_arith only [rdSs]
        exact ⟨_, _, _, rfl, tb, ret_of q⟩
    | [], ty, q => simp_arith only [isTupW]; exact ret_of q
    | [_], ty, q => simp_arith only [isTupW]; exact ret_of q
    | a :: b :: c :: r, ty, q =>
      have e : (((a :: b :: c :: r).length : Int) == 2) = false := beq_eq_false_iff_ne.mpr (by rw [List.length_cons, List.length_cons, List.length_cons]; omega)
      simp_arith only [isTupW, e]; exact ret_of q
  | _ => simp_arith only [isTupW]; exact ret_of q
def sp_is_web : ASp := fun avs h Q => ∃ v : Va, avs = [v] ∧ TyT h 3 v ∧ Q (.bl (isWebB v)) h
def nm_is_web : List Str := ["thing", "points", "ties", "tie"]
def ir_is_web_L6 : Ss := .cons (.ret (.b1 .all (.comp [("tie", 3)] (.call "is_tie" sp_is_tie (.cons (.var 3) (.cons (.var 1) .nil))) (.nm 3) (.seq (.var 2)) .no))) .nil
def ir_is_web_L5 : Ss := .cons (.ret (.bl false)) .nil
def ir_is_web_L4 : Ss := .cons (.ite (.or (.not (.call "is_tuple" sp_is_tuple (.cons (.var 2) (.cons .non .nil)))) (.cmp .Gt (.b1 .len (.var 2)) (.gint "MOST_TIES" (120)))) ir_is_web_L5 .nil) ir_is_web_L6
def ir_is_web_L3 : Ss := .cons (.asg (.tp (.cons (.nm 1) (.cons (.nm 2) .nil))) (.var 0)) ir_is_web_L4
def ir_is_web_L2 : Ss := .cons (.ret (.bl false)) .nil
def ir_is_web : Ss := .cons (.ite (.or (.not (.call "is_tuple" sp_is_tuple (.cons (.var 0) (.cons (.int 2) .nil)))) (.not (.call "is_int" sp_is_int (.cons (.ix (.var 0) (.int 0)) (.cons (.int 1) (.cons (.gint "MOST_POINTS" (40)) .nil)))))) ir_is_web_L2 .nil) ir_is_web_L3
theorem fa_is_web : FnA 1 4 sp_is_web ir_is_web := by
  rintro avs h Q ⟨v, rfl, ty, q⟩
  refine ⟨rfl, ?_⟩
  simp_arith only [ir_is_web]
  refine ⟨_, _, rfl, .inr ⟨_, rfl⟩, ty.ty, ?_⟩
  cases v with
  | tup xs =>
    match xs, ty, q with
    | [a, b], ty, q =>
      have ta := ty.2 _ rfl a (by simp)
      have tb := ty.2 _ rfl b (by simp)
      simp_arith only [isTupW, List.length_cons, List.length_nil]
      refine ⟨_, 1, 40, rfl, ta.ty, ?_⟩
      cases e : isIntB a 1 40 with
      | false =>
        simp only [isWebB, e, Bool.false_and] at q
        simp_arith only [ir_is_web_L2]
        exact ret_of q
      | true =>
        obtain ⟨i, rfl, h1, h2⟩ := isInt_ex e
        simp only [isWebB, e, Bool.true_and] at q
        simp_arith only [ir_is_web_L3, ir_is_web_L4]
        refine ⟨_, _, rfl, .inl rfl, tb.ty, ?_⟩
        cases b with
        | tup ts =>
          simp_arith only [isTupW]
          by_cases z : ts.length ≤ 120
          · have z1 : decide ((120 : Int) < (ts.length : Int)) = false := decide_eq_false (by omega)
            simp only [decide_eq_true z, Bool.true_and] at q
            simp_arith only [z1, ir_is_web_L6]
            refine ⟨sz (by omega), ?_⟩
            refine comps_pure (fun v => some (.bl (isTieB v i))) trivial ts [] (fun v hv K hK => ⟨v, i, rfl, tb.2 _ rfl v hv, hK⟩) ?_
            refine newL_in fun p1 h1 s1 np1 e1 => ?_
            have e2 : h1 p1 = some (.lst ((ts.map fun t => isTieB t i).map Va.bl)) := by
              rw [e1, List.nil_append, List.map_map]
              exact congrArg (fun l => some (Ob.lst l)) (congrFun (List.filterMap_eq_map (f := fun v => Va.bl (isTieB v i))) ts)
            refine ⟨_, e2, ?_⟩
            rw [List.all_map]
            exact ret_sub s1 q
          · have z1 : decide ((120 : Int) < (ts.length : Int)) = true := decide_eq_true (by omega)
            simp only [decide_eq_false z, Bool.false_and] at q
            simp_arith only [z1, ir_is_web_L5]
            exact ret_of q
        | _ => simp_arith only [isTupW, ir_is_web_L5]; exact ret_of q
    | [], ty, q => simp_arith only [isTupW, ir_is_web_L2]; exact ret_of q
    | [_], ty, q => simp_arith only [isTupW, ir_is_web_L2]; exact ret_of q
    | a :: b :: c :: r, ty, q =>
      have e : (((a :: b :: c :: r).length : Int) == 2) = false := beq_eq_false_iff_ne.mpr (by rw [List.length_cons, List.length_cons, List.length_cons]; omega)
      simp_arith only [isTupW, e, ir_is_web_L2]; exact ret_of q
  | _ => simp_arith only [isTupW, ir_is_web_L2]; exact ret_of q
def sp_check : ASp := fun avs h Q => ∃ v : Va, avs = [v] ∧ TyT h 3 v ∧ isWebB v = true ∧ Q (.bl true) h
def nm_check : List Str := ["thing"]
def ir_check_L3 : Ss := .cons (.ret (.bl true)) .nil
def ir_check_L2 : Ss := .cons .never .nil
def ir_check : Ss := .cons (.ite (.not (.call "is_web" sp_is_web (.cons (.var 0) .nil))) ir_check_L2 .nil) ir_check_L3
theorem fa_check : FnA 1 1 sp_check ir_check := by
  rintro avs h Q ⟨v, rfl, ty, e, q⟩
  refine ⟨rfl, ?_⟩
  simp_arith only [ir_check_L3, ir_check_L2, ir_check]
  refine ⟨v, rfl, ty, ?_⟩
  simp_arith only [e]
  exact ret_of q
end F2
set_option Elab.async false
set_option linter.all false
set_option maxRecDepth 100000
set_option maxHeartbeats 4000000
namespace F2
local macro_rules | `(tactic| simp_arith only [$xs,*] $[$loc:location]?) => `(tactic| simp only [$xs,*, rdSs, rdS, rdX, rdHs, bndA, clrA, isE_non, rdE, rdT, rdEs, rdP, rdR, rdC, rdI, bnd, bnds, bin_add, bin_mul, bin_sub, bin_div, bin_mod, bin_pow, bin_shr, bin_shl, bin_and, cmp_eq, cmp_ne, cmp_lt, cmp_le, cmp_gt, cmp_ge, cmp_is, cmp_isn, cmp_in, cmp_nin, aAdd_int, aAdd_str, aAdd_tup, aAdd_ref, aMul_int, aMul_tup, aMul_ref, aInt1_int, aBool_bl, aIx_tup, aSl_tup, aSl_fls, aSl_ref, aTru_bl, aTru_int, aTru_non, aTru_tup, aSeq_tup, aSeq_ref, len_tup, len_fls, list_tup, list_fls, tuple_tup, tuple_ref, int_int, int_bl, bool_int, bool_bl, max_tup, max_ref, min_tup, min_ref, sum_tup, sum_ref, sorted_ref, sortD_ref, sortS_ref, sortP_ref, srtR_ref, stp_ref, stp_fls, sorted_tup, rsl_tup, all_ref, a2_int, aIn_tup, aIs_non, aIs_bl, app_ref, ext_ref, pop_ref, popAt_ref, isL_ref, isLT_ref, isLT_tup, ins_ref, rvs_ref, fld_ref, setF_ref, isC_ref, Ob.ins.injEq, lset_ref, lset_tup, sset_ref, sset_tup, dct1_int, dct1_str, dctL_ref, ty_non, ty_bl, ty_int, ty_str, ty_tup, aEq_int, aEq_bl, aEq_bi, aEq_ib, aEq_nn, aEq_ni, aEq_in, startA, List.map_cons, List.map_nil, List.length_cons, List.length_nil, List.length_map, List.replicate, List.cons_append, List.nil_append, gv_zero, gv_succ, List.set_cons_zero, List.set_cons_succ, wipeA_nil, wipeA_cons, Nat.reduceAdd, Nat.reduceSub, if_true, if_false, Option.some.injEq, Ob.lst.injEq, Va.int.injEq, exists_eq_left', exists_eq_left, exists_and_left, reduceCtorEq, false_and, and_false, exists_false, exists_const, or_false, false_or, true_and, and_true, Bool.false_eq_true, Bool.not_true, Bool.not_false, put_same, atI_0, atI_1, atI_2, atI_3, sub_NoneType_int, sub_NoneType_bool, sub_NoneType_tuple, sub_NoneType_str, sub_NoneType_list, sub_NoneType_dict, sub_bool_int, sub_bool_bool, sub_bool_tuple, sub_bool_str, sub_bool_list, sub_bool_dict, sub_int_int, sub_int_bool, sub_int_tuple, sub_int_str, sub_int_list, sub_int_dict, sub_str_int, sub_str_bool, sub_str_tuple, sub_str_str, sub_str_list, sub_str_dict, sub_tuple_int, sub_tuple_bool, sub_tuple_tuple, sub_tuple_str, sub_tuple_list, sub_tuple_dict, sub_list_int, sub_list_bool, sub_list_tuple, sub_list_str, sub_list_list, sub_list_dict, sub_dict_int, sub_dict_bool, sub_dict_tuple, sub_dict_str, sub_dict_list, sub_dict_dict] $[$loc:location]?)
open PySem PySem.Spec PyProof.Rows
open L2
inductive Walk (ts : List (Nat × Nat)) (ks : List Nat) : Nat → List Nat → Nat → Prop
  | nil (x : Nat) : Walk ts ks x [] x
  | cons {x y z k : Nat} {r : List Nat} : k ∈ ks → (ts.getD k (0, 0) = (x, y) ∨ ts.getD k (0, 0) = (y, x)) → Walk ts ks y r z → Walk ts ks x (k :: r) z
theorem fold_same {L : List (Nat × Nat)} : ∀ {H : List Nat} {x y : Nat}, x < H.length → y < H.length → hd H x = hd H y → hd (L.foldl (fun H t => joinH H t.1 t.2) H) x = hd (L.foldl (fun H t => joinH H t.1 t.2) H) y := by
  induction L with
  | nil => exact fun _ _ e => e
  | cons t L ih =>
    intro H x y hx hy e
    refine ih (by rw [joinH_len]; exact hx) (by rw [joinH_len]; exact hy) ?_
    rw [hd_join hx, hd_join hy, e]
theorem fold_tie {L : List (Nat × Nat)} : ∀ {H : List Nat} {t : Nat × Nat}, t ∈ L → t.1 < H.length → t.2 < H.length → hd (L.foldl (fun H t => joinH H t.1 t.2) H) t.1 = hd (L.foldl (fun H t => joinH H t.1 t.2) H) t.2 := by
  induction L with
  | nil => intro H t ht; cases ht
  | cons u L ih =>
    intro H t ht h1 h2
    rcases List.mem_cons.mp ht with rfl | ht
    · rw [List.foldl_cons]
      refine fold_same (by rw [joinH_len]; exact h1) (by rw [joinH_len]; exact h2) ?_
      rw [hd_join h1, hd_join h2, if_pos (.inl rfl), if_pos (.inr rfl)]
    · exact ih ht (by rw [joinH_len]; exact h1) (by rw [joinH_len]; exact h2)
theorem fold_closed {L : List (Nat × Nat)} {V : Nat → Prop} : ∀ {H : List Nat}, (∀ t ∈ L, t.1 < H.length ∧ t.2 < H.length ∧ (V t.1 ↔ V t.2)) → (∀ x y, x < H.length → y < H.length → hd H x = hd H y → (V x ↔ V y)) →
    ∀ x y, x < H.length → y < H.length → hd (L.foldl (fun H t => joinH H t.1 t.2) H) x = hd (L.foldl (fun H t => joinH H t.1 t.2) H) y → (V x ↔ V y) := by
  induction L with
  | nil => exact fun _ h => h
  | cons t L ih =>
    intro H ht h
    have t0 := ht t List.mem_cons_self
    have := ih (H := joinH H t.1 t.2) (fun u hu => by rw [joinH_len]; exact ht u (List.mem_cons_of_mem _ hu)) (fun x y hx hy e => by
      rw [joinH_len] at hx hy
      rw [hd_join hx, hd_join hy] at e
      have key : ∀ z, z < H.length → (hd H z = hd H t.1 ∨ hd H z = hd H t.2) → (V z ↔ V t.1) := fun z hz c => by
        rcases c with c | c
        · exact h z t.1 hz t0.1 c
        · exact (h z t.2 hz t0.2.1 c).trans t0.2.2.symm
      by_cases cx : hd H x = hd H t.1 ∨ hd H x = hd H t.2 <;> by_cases cy : hd H y = hd H t.1 ∨ hd H y = hd H t.2
      · exact (key x hx cx).trans (key y hy cy).symm
      · rw [if_pos cx, if_neg cy] at e; omega
      · rw [if_neg cx, if_pos cy] at e; omega
      · rw [if_neg cx, if_neg cy] at e; exact h x y hx hy e)
    rw [joinH_len] at this
    exact this
theorem Walk.snoc {ts : List (Nat × Nat)} {ks : List Nat} {x y z k : Nat} {r : List Nat} (w : Walk ts ks x r y) (hk : k ∈ ks) (e : ts.getD k (0, 0) = (y, z) ∨ ts.getD k (0, 0) = (z, y)) : Walk ts ks x (r ++ [k]) z := by
  induction w with
  | nil x => exact .cons hk e (.nil _)
  | cons h1 h2 _ ih => exact .cons h1 h2 (ih e)
theorem Walk.heads {n : Nat} {ts : List (Nat × Nat)} {ks : List Nat} {x y : Nat} {r : List Nat} (ok : ∀ k ∈ ks, TieOk n (ts.getD k (0, 0))) (w : Walk ts ks x r y) : hd (headsOf n (tiesAt ts ks)) x = hd (headsOf n (tiesAt ts ks)) y := by
  induction w with
  | nil x => rfl
  | @cons x y z k r hk e _ ih =>
    rw [← ih]
    have tok := ok k hk
    unfold TieOk at tok
    have := fold_tie (L := tiesAt ts ks) (H := List.range n) (t := ts.getD k (0, 0)) (List.mem_map.mpr ⟨k, hk, rfl⟩) (by rw [List.length_range]; omega) (by rw [List.length_range]; omega)
    unfold headsOf
    rcases e with e | e
    · rw [e] at this; exact this
    · rw [e] at this; exact this.symm
abbrev Cs := List (Nat × Option (Nat × Nat))
structure Bfs (ts : List (Nat × Nat)) (ks : List Nat) (n s : Nat) (cs : Cs) : Prop where
  pos : 0 < cs.length
  first : cs[0] = (s, none)
  nd : (cs.map (·.1)).Nodup
  lt : ∀ c ∈ cs, c.1 < n
  prev : ∀ (j : Nat) (hj : j < cs.length), 0 < j → ∃ k p, cs[j].2 = some (k, p) ∧ k ∈ ks ∧ (ts.getD k (0, 0) = (p, cs[j].1) ∨ ts.getD k (0, 0) = (cs[j].1, p)) ∧ ∃ (i : Nat) (hi : i < cs.length), i < j ∧ cs[i].1 = p
theorem Bfs.len {ts : List (Nat × Nat)} {ks : List Nat} {n s : Nat} {cs : Cs} (b : Bfs ts ks n s cs) : cs.length ≤ n := by
  have := nodup_len (m := n) b.nd (fun i hi => by obtain ⟨c, hc, rfl⟩ := List.mem_map.mp hi; exact b.lt c hc)
  simpa using this
theorem Bfs.inj {ts : List (Nat × Nat)} {ks : List Nat} {n s : Nat} {cs : Cs} (b : Bfs ts ks n s cs) {i j : Nat} (hi : i < cs.length) (hj : j < cs.length) (e : cs[i].1 = cs[j].1) : i = j :=
  (List.getElem_inj (i := i) (j := j) (h₀ := by simpa using hi) (h₁ := by simpa using hj) b.nd).mp (by rw [List.getElem_map, List.getElem_map]; exact e)
theorem Bfs.uniq {ts : List (Nat × Nat)} {ks : List Nat} {n s : Nat} {cs : Cs} (b : Bfs ts ks n s cs) {i j k p q : Nat} (hi : i < cs.length) (hj : j < cs.length) (ei : cs[i].2 = some (k, p)) (ej : cs[j].2 = some (k, q)) : i = j := by
  have pos : ∀ (i : Nat) (hi : i < cs.length) (k p : Nat), cs[i].2 = some (k, p) → 0 < i := fun i hi k p e => by
    cases i with
    | zero => rw [b.first] at e; cases e
    | succ i => omega
  obtain ⟨k1, p1, e1, -, t1, i1, hi1, l1, q1⟩ := b.prev i hi (pos i hi k p ei)
  obtain ⟨k2, p2, e2, -, t2, i2, hi2, l2, q2⟩ := b.prev j hj (pos j hj k q ej)
  rw [ei] at e1; cases e1
  rw [ej] at e2; cases e2
  have same : cs[i].1 = cs[j].1 ∨ (cs[i].1 = q ∧ p = cs[j].1) := by
    rcases t1 with t1 | t1 <;> rcases t2 with t2 | t2 <;> rw [t1] at t2
    · have := congrArg (·.2) t2; exact .inl this
    · exact .inr ⟨congrArg (·.2) t2, congrArg (·.1) t2⟩
    · exact .inr ⟨congrArg (·.1) t2, congrArg (·.2) t2⟩
    · exact .inl (congrArg (·.1) t2)
  rcases same with c | ⟨c, d⟩
  · exact b.inj hi hj c
  · have a1 := b.inj hi hi2 (by rw [q2]; exact c)
    have a2 := b.inj hi1 hj (by rw [q1]; exact d)
    omega
theorem Bfs.push {ts : List (Nat × Nat)} {ks : List Nat} {n s : Nat} {cs : Cs} (b : Bfs ts ks n s cs) {i k y : Nat} (hi : i < cs.length) (hk : k ∈ ks) (e : ts.getD k (0, 0) = (cs[i].1, y) ∨ ts.getD k (0, 0) = (y, cs[i].1)) (hy : y < n) (new : y ∉ cs.map (·.1)) : Bfs ts ks n s (cs ++ [(y, some (k, cs[i].1))]) := by
  have gt : ∀ (j : Nat) (hj : j < (cs ++ [(y, some (k, cs[i].1))]).length) (hl : j < cs.length), (cs ++ [(y, some (k, cs[i].1))])[j] = cs[j] := fun j hj hl => List.getElem_append_left hl
  refine ⟨by simp, ?_, ?_, fun c hc => ?_, fun j hj h0 => ?_⟩
  · rw [gt 0 _ b.pos]; exact b.first
  · rw [List.map_append]
    exact List.nodup_append.mpr ⟨b.nd, by simp, fun a ha c hc => by
      simp only [List.map_cons, List.map_nil, List.mem_singleton] at hc
      rw [hc]; intro z; rw [z] at ha; exact new ha⟩
  · rcases List.mem_append.mp hc with hc | hc
    · exact b.lt c hc
    · rw [List.mem_singleton.mp hc]; exact hy
  · by_cases c : j < cs.length
    · obtain ⟨k1, p1, e1, m1, t1, i1, hi1, l1, q1⟩ := b.prev j c h0
      rw [gt j hj c]
      exact ⟨k1, p1, e1, m1, t1, i1, by simp; omega, l1, by rw [gt i1 _ hi1]; exact q1⟩
    · have : j = cs.length := by simp at hj; omega
      subst this
      have ge : (cs ++ [(y, some (k, cs[i].1))])[cs.length] = (y, some (k, cs[i].1)) := by simp
      rw [ge]
      exact ⟨k, cs[i].1, rfl, hk, e, i, by simp; omega, hi, by rw [gt i _ hi]⟩
end F2
set_option Elab.async false
set_option linter.all false
set_option maxRecDepth 100000
set_option maxHeartbeats 4000000
namespace F2
local macro_rules | `(tactic| simp_arith only [$xs,*] $[$loc:location]?) => `(tactic| simp only [$xs,*, rdSs, rdS, rdX, rdHs, bndA, clrA, isE_non, rdE, rdT, rdEs, rdP, rdR, rdC, rdI, bnd, bnds, bin_add, bin_mul, bin_sub, bin_div, bin_mod, bin_pow, bin_shr, bin_shl, bin_and, cmp_eq, cmp_ne, cmp_lt, cmp_le, cmp_gt, cmp_ge, cmp_is, cmp_isn, cmp_in, cmp_nin, aAdd_int, aAdd_str, aAdd_tup, aAdd_ref, aMul_int, aMul_tup, aMul_ref, aInt1_int, aBool_bl, aIx_tup, aSl_tup, aSl_fls, aSl_ref, aTru_bl, aTru_int, aTru_non, aTru_tup, aSeq_tup, aSeq_ref, len_tup, len_fls, list_tup, list_fls, tuple_tup, tuple_ref, int_int, int_bl, bool_int, bool_bl, max_tup, max_ref, min_tup, min_ref, sum_tup, sum_ref, sorted_ref, sortD_ref, sortS_ref, sortP_ref, srtR_ref, stp_ref, stp_fls, sorted_tup, rsl_tup, all_ref, a2_int, aIn_tup, aIs_non, aIs_bl, app_ref, ext_ref, pop_ref, popAt_ref, isL_ref, isLT_ref, isLT_tup, ins_ref, rvs_ref, fld_ref, setF_ref, isC_ref, Ob.ins.injEq, lset_ref, lset_tup, sset_ref, sset_tup, dct1_int, dct1_str, dctL_ref, ty_non, ty_bl, ty_int, ty_str, ty_tup, aEq_int, aEq_bl, aEq_bi, aEq_ib, aEq_nn, aEq_ni, aEq_in, startA, List.map_cons, List.map_nil, List.length_cons, List.length_nil, List.length_map, List.replicate, List.cons_append, List.nil_append, gv_zero, gv_succ, List.set_cons_zero, List.set_cons_succ, wipeA_nil, wipeA_cons, Nat.reduceAdd, Nat.reduceSub, if_true, if_false, Option.some.injEq, Ob.lst.injEq, Va.int.injEq, exists_eq_left', exists_eq_left, exists_and_left, reduceCtorEq, false_and, and_false, exists_false, exists_const, or_false, false_or, true_and, and_true, Bool.false_eq_true, Bool.not_true, Bool.not_false, put_same, atI_0, atI_1, atI_2, atI_3, sub_NoneType_int, sub_NoneType_bool, sub_NoneType_tuple, sub_NoneType_str, sub_NoneType_list, sub_NoneType_dict, sub_bool_int, sub_bool_bool, sub_bool_tuple, sub_bool_str, sub_bool_list, sub_bool_dict, sub_int_int, sub_int_bool, sub_int_tuple, sub_int_str, sub_int_list, sub_int_dict, sub_str_int, sub_str_bool, sub_str_tuple, sub_str_str, sub_str_list, sub_str_dict, sub_tuple_int, sub_tuple_bool, sub_tuple_tuple, sub_tuple_str, sub_tuple_list, sub_tuple_dict, sub_list_int, sub_list_bool, sub_list_tuple, sub_list_str, sub_list_list, sub_list_dict, sub_dict_int, sub_dict_bool, sub_dict_tuple, sub_dict_str, sub_dict_list, sub_dict_dict] $[$loc:location]?)
open PySem PySem.Spec PyProof.Rows
open L2
end F2
set_option Elab.async false
set_option linter.all false
set_option maxRecDepth 100000
set_option maxHeartbeats 4000000
namespace F2
local macro_rules | `(tactic| simp_arith only [$xs,*] $[$loc:location]?) => `(tactic| simp only [$xs,*, rdSs, rdS, rdX, rdHs, bndA, clrA, isE_non, rdE, rdT, rdEs, rdP, rdR, rdC, rdI, bnd, bnds, bin_add, bin_mul, bin_sub, bin_div, bin_mod, bin_pow, bin_shr, bin_shl, bin_and, cmp_eq, cmp_ne, cmp_lt, cmp_le, cmp_gt, cmp_ge, cmp_is, cmp_isn, cmp_in, cmp_nin, aAdd_int, aAdd_str, aAdd_tup, aAdd_ref, aMul_int, aMul_tup, aMul_ref, aInt1_int, aBool_bl, aIx_tup, aSl_tup, aSl_fls, aSl_ref, aTru_bl, aTru_int, aTru_non, aTru_tup, aSeq_tup, aSeq_ref, len_tup, len_fls, list_tup, list_fls, tuple_tup, tuple_ref, int_int, int_bl, bool_int, bool_bl, max_tup, max_ref, min_tup, min_ref, sum_tup, sum_ref, sorted_ref, sortD_ref, sortS_ref, sortP_ref, srtR_ref, stp_ref, stp_fls, sorted_tup, rsl_tup, all_ref, a2_int, aIn_tup, aIs_non, aIs_bl, app_ref, ext_ref, pop_ref, popAt_ref, isL_ref, isLT_ref, isLT_tup, ins_ref, rvs_ref, fld_ref, setF_ref, isC_ref, Ob.ins.injEq, lset_ref, lset_tup, sset_ref, sset_tup, dct1_int, dct1_str, dctL_ref, ty_non, ty_bl, ty_int, ty_str, ty_tup, aEq_int, aEq_bl, aEq_bi, aEq_ib, aEq_nn, aEq_ni, aEq_in, startA, List.map_cons, List.map_nil, List.length_cons, List.length_nil, List.length_map, List.replicate, List.cons_append, List.nil_append, gv_zero, gv_succ, List.set_cons_zero, List.set_cons_succ, wipeA_nil, wipeA_cons, Nat.reduceAdd, Nat.reduceSub, if_true, if_false, Option.some.injEq, Ob.lst.injEq, Va.int.injEq, exists_eq_left', exists_eq_left, exists_and_left, reduceCtorEq, false_and, and_false, exists_false, exists_const, or_false, false_or, true_and, and_true, Bool.false_eq_true, Bool.not_true, Bool.not_false, put_same, atI_0, atI_1, atI_2, atI_3, sub_NoneType_int, sub_NoneType_bool, sub_NoneType_tuple, sub_NoneType_str, sub_NoneType_list, sub_NoneType_dict, sub_bool_int, sub_bool_bool, sub_bool_tuple, sub_bool_str, sub_bool_list, sub_bool_dict, sub_int_int, sub_int_bool, sub_int_tuple, sub_int_str, sub_int_list, sub_int_dict, sub_str_int, sub_str_bool, sub_str_tuple, sub_str_str, sub_str_list, sub_str_dict, sub_tuple_int, sub_tuple_bool, sub_tuple_tuple, sub_tuple_str, sub_tuple_list, sub_tuple_dict, sub_list_int, sub_list_bool, sub_list_tuple, sub_list_str, sub_list_list, sub_list_dict, sub_dict_int, sub_dict_bool, sub_dict_tuple, sub_dict_str, sub_dict_list, sub_dict_dict] $[$loc:location]?)
open PySem PySem.Spec PyProof.Rows
open L2
theorem Walk.sub {ts : List (Nat × Nat)} {ks : List Nat} {x y : Nat} {r : List Nat} (w : Walk ts ks x r y) : ∀ k ∈ r, k ∈ ks := by
  induction w with
  | nil => exact fun k hk => (nomatch hk)
  | cons h1 _ _ ih =>
    intro k hk
    rcases List.mem_cons.mp hk with rfl | hk
    · exact h1
    · exact ih k hk
theorem Walk.split {ts : List (Nat × Nat)} {ks : List Nat} {x y k : Nat} {r : List Nat} (w : Walk ts ks x r y) (hk : k ∈ r) : ∃ r1 r2 u v, r = r1 ++ k :: r2 ∧ Walk ts ks x r1 u ∧ (ts.getD k (0, 0) = (u, v) ∨ ts.getD k (0, 0) = (v, u)) ∧ Walk ts ks v r2 y := by
  induction w with
  | nil => cases hk
  | @cons x y z k' r h1 e w ih =>
    by_cases c : k = k'
    · subst c
      exact ⟨[], r, x, y, rfl, .nil _, e, w⟩
    · obtain ⟨r1, r2, u, v, rfl, w1, e1, w2⟩ := ih ((List.mem_cons.mp hk).resolve_left c)
      exact ⟨k' :: r1, r2, u, v, rfl, .cons h1 e w1, e1, w2⟩
abbrev Ps := List (Nat × List Nat)
structure Dfs (ts : List (Nat × Nat)) (ks : List Nat) (n a : Nat) (cs : Ps) : Prop where
  st : a ∈ cs.map (·.1)
  nd : (cs.map (·.1)).Nodup
  lt : ∀ c ∈ cs, c.1 < n
  wk : ∀ c ∈ cs, Walk ts ks a c.2 c.1 ∧ c.2.Nodup
  en : ∀ c ∈ cs, ∀ k ∈ c.2, (ts.getD k (0, 0)).1 ∈ cs.map (·.1) ∧ (ts.getD k (0, 0)).2 ∈ cs.map (·.1)
theorem Dfs.len {ts : List (Nat × Nat)} {ks : List Nat} {n a : Nat} {cs : Ps} (b : Dfs ts ks n a cs) : cs.length ≤ n := by
  have := nodup_len (m := n) b.nd (fun i hi => by obtain ⟨c, hc, rfl⟩ := List.mem_map.mp hi; exact b.lt c hc)
  simpa using this
theorem Dfs.push {ts : List (Nat × Nat)} {ks : List Nat} {n a : Nat} {cs : Ps} (d : Dfs ts ks n a cs) {x y k : Nat} {r : List Nat} (hx : (x, r) ∈ cs) (hk : k ∈ ks) (e : ts.getD k (0, 0) = (x, y) ∨ ts.getD k (0, 0) = (y, x)) (hy : y < n) (new : y ∉ cs.map (·.1)) : Dfs ts ks n a (cs ++ [(y, r ++ [k])]) := by
  have inn : ∀ {z}, z ∈ cs.map (·.1) → z ∈ (cs ++ [(y, r ++ [k])]).map (·.1) := fun {z} h => by rw [List.map_append]; exact List.mem_append_left _ h
  have hxm : x ∈ cs.map (·.1) := List.mem_map.mpr ⟨_, hx, rfl⟩
  have yin : y ∈ (cs ++ [(y, r ++ [k])]).map (·.1) := by rw [List.map_append]; exact List.mem_append_right _ (by simp)
  refine ⟨inn d.st, ?_, fun c hc => ?_, fun c hc => ?_, fun c hc k' hk' => ?_⟩
  · rw [List.map_append]
    exact List.nodup_append.mpr ⟨d.nd, by simp, fun a ha c hc => by
      simp only [List.map_cons, List.map_nil, List.mem_singleton] at hc
      rw [hc]; intro z; rw [z] at ha; exact new ha⟩
  · rcases List.mem_append.mp hc with hc | hc
    · exact d.lt c hc
    · rw [List.mem_singleton.mp hc]; exact hy
  · rcases List.mem_append.mp hc with hc | hc
    · exact d.wk c hc
    · rw [List.mem_singleton.mp hc]
      have w := d.wk _ hx
      refine ⟨w.1.snoc hk e, List.nodup_append.mpr ⟨w.2, by simp, fun j hj b hb => ?_⟩⟩
      rw [List.mem_singleton.mp hb]
      intro z
      subst z
      have := d.en _ hx j hj
      rcases e with e | e <;> rw [e] at this
      · exact new this.2
      · exact new this.1
  · rcases List.mem_append.mp hc with hc | hc
    · exact ⟨inn (d.en c hc k' hk').1, inn (d.en c hc k' hk').2⟩
    · rw [List.mem_singleton.mp hc] at hk'
      rcases List.mem_append.mp hk' with hk' | hk'
      · exact ⟨inn (d.en _ hx k' hk').1, inn (d.en _ hx k' hk').2⟩
      · rw [List.mem_singleton.mp hk']
        rcases e with e | e <;> rw [e]
        · exact ⟨inn hxm, yin⟩
        · exact ⟨yin, inn hxm⟩
end F2
set_option Elab.async false
set_option linter.all false
set_option maxRecDepth 100000
set_option maxHeartbeats 4000000
namespace F2
local macro_rules | `(tactic| simp_arith only [$xs,*] $[$loc:location]?) => `(tactic| simp only [$xs,*, rdSs, rdS, rdX, rdHs, bndA, clrA, isE_non, rdE, rdT, rdEs, rdP, rdR, rdC, rdI, bnd, bnds, bin_add, bin_mul, bin_sub, bin_div, bin_mod, bin_pow, bin_shr, bin_shl, bin_and, cmp_eq, cmp_ne, cmp_lt, cmp_le, cmp_gt, cmp_ge, cmp_is, cmp_isn, cmp_in, cmp_nin, aAdd_int, aAdd_str, aAdd_tup, aAdd_ref, aMul_int, aMul_tup, aMul_ref, aInt1_int, aBool_bl, aIx_tup, aSl_tup, aSl_fls, aSl_ref, aTru_bl, aTru_int, aTru_non, aTru_tup, aSeq_tup, aSeq_ref, len_tup, len_fls, list_tup, list_fls, tuple_tup, tuple_ref, int_int, int_bl, bool_int, bool_bl, max_tup, max_ref, min_tup, min_ref, sum_tup, sum_ref, sorted_ref, sortD_ref, sortS_ref, sortP_ref, srtR_ref, stp_ref, stp_fls, sorted_tup, rsl_tup, all_ref, a2_int, aIn_tup, aIs_non, aIs_bl, app_ref, ext_ref, pop_ref, popAt_ref, isL_ref, isLT_ref, isLT_tup, ins_ref, rvs_ref, fld_ref, setF_ref, isC_ref, Ob.ins.injEq, lset_ref, lset_tup, sset_ref, sset_tup, dct1_int, dct1_str, dctL_ref, ty_non, ty_bl, ty_int, ty_str, ty_tup, aEq_int, aEq_bl, aEq_bi, aEq_ib, aEq_nn, aEq_ni, aEq_in, startA, List.map_cons, List.map_nil, List.length_cons, List.length_nil, List.length_map, List.replicate, List.cons_append, List.nil_append, gv_zero, gv_succ, List.set_cons_zero, List.set_cons_succ, wipeA_nil, wipeA_cons, Nat.reduceAdd, Nat.reduceSub, if_true, if_false, Option.some.injEq, Ob.lst.injEq, Va.int.injEq, exists_eq_left', exists_eq_left, exists_and_left, reduceCtorEq, false_and, and_false, exists_false, exists_const, or_false, false_or, true_and, and_true, Bool.false_eq_true, Bool.not_true, Bool.not_false, put_same, atI_0, atI_1, atI_2, atI_3, sub_NoneType_int, sub_NoneType_bool, sub_NoneType_tuple, sub_NoneType_str, sub_NoneType_list, sub_NoneType_dict, sub_bool_int, sub_bool_bool, sub_bool_tuple, sub_bool_str, sub_bool_list, sub_bool_dict, sub_int_int, sub_int_bool, sub_int_tuple, sub_int_str, sub_int_list, sub_int_dict, sub_str_int, sub_str_bool, sub_str_tuple, sub_str_str, sub_str_list, sub_str_dict, sub_tuple_int, sub_tuple_bool, sub_tuple_tuple, sub_tuple_str, sub_tuple_list, sub_tuple_dict, sub_list_int, sub_list_bool, sub_list_tuple, sub_list_str, sub_list_list, sub_list_dict, sub_dict_int, sub_dict_bool, sub_dict_tuple, sub_dict_str, sub_dict_list, sub_dict_dict] $[$loc:location]?)
open PySem PySem.Spec PyProof.Rows
open L2
structure LayOk (k n : Nat) (ts : List (Nat × Nat)) (es : List (Option Nat)) : Prop where
  len : es.length = ts.length
  lt : ∀ f, some f ∈ es → f < k
  ring : ∀ f, ringB (List.range n) (tiesAt ts (tiesIn es f)) = true
structure LInv2 (h : Ah) (d A B : Addr) (n k : Nat) (ts : List (Nat × Nat)) (qs : List Addr) (i : Nat) (h' : Ah) (es : List (Option Nat)) : Prop where
  dk : Dk h d h'
  nA : h A = none ∧ A ≠ d
  nB : h B = none ∧ B ≠ d
  AB : A ≠ B
  hA : h' A = some (.lst (qs.map Va.ref))
  hB : h' B = some (.lst (es.map entV))
  nq : ∀ q ∈ qs, h q = none ∧ q ≠ d ∧ q ≠ A ∧ q ≠ B
  nd : qs.Nodup
  ll : es.length = i
  ql : qs.length = k
  lt : ∀ f, some f ∈ es → f < k
  hq : ∀ (f : Nat) (hf : f < qs.length), h' qs[f] = some (.lst ((tiesIn es f).map nV))
  ok : ∀ f, ringB (List.range n) (tiesAt ts (tiesIn es f)) = true
end F2
set_option Elab.async false
set_option linter.all false
set_option maxRecDepth 100000
set_option maxHeartbeats 4000000
namespace F2
local macro_rules | `(tactic| simp_arith only [$xs,*] $[$loc:location]?) => `(tactic| simp only [$xs,*, rdSs, rdS, rdX, rdHs, bndA, clrA, isE_non, rdE, rdT, rdEs, rdP, rdR, rdC, rdI, bnd, bnds, bin_add, bin_mul, bin_sub, bin_div, bin_mod, bin_pow, bin_shr, bin_shl, bin_and, cmp_eq, cmp_ne, cmp_lt, cmp_le, cmp_gt, cmp_ge, cmp_is, cmp_isn, cmp_in, cmp_nin, aAdd_int, aAdd_str, aAdd_tup, aAdd_ref, aMul_int, aMul_tup, aMul_ref, aInt1_int, aBool_bl, aIx_tup, aSl_tup, aSl_fls, aSl_ref, aTru_bl, aTru_int, aTru_non, aTru_tup, aSeq_tup, aSeq_ref, len_tup, len_fls, list_tup, list_fls, tuple_tup, tuple_ref, int_int, int_bl, bool_int, bool_bl, max_tup, max_ref, min_tup, min_ref, sum_tup, sum_ref, sorted_ref, sortD_ref, sortS_ref, sortP_ref, srtR_ref, stp_ref, stp_fls, sorted_tup, rsl_tup, all_ref, a2_int, aIn_tup, aIs_non, aIs_bl, app_ref, ext_ref, pop_ref, popAt_ref, isL_ref, isLT_ref, isLT_tup, ins_ref, rvs_ref, fld_ref, setF_ref, isC_ref, Ob.ins.injEq, lset_ref, lset_tup, sset_ref, sset_tup, dct1_int, dct1_str, dctL_ref, ty_non, ty_bl, ty_int, ty_str, ty_tup, aEq_int, aEq_bl, aEq_bi, aEq_ib, aEq_nn, aEq_ni, aEq_in, startA, List.map_cons, List.map_nil, List.length_cons, List.length_nil, List.length_map, List.replicate, List.cons_append, List.nil_append, gv_zero, gv_succ, List.set_cons_zero, List.set_cons_succ, wipeA_nil, wipeA_cons, Nat.reduceAdd, Nat.reduceSub, if_true, if_false, Option.some.injEq, Ob.lst.injEq, Va.int.injEq, exists_eq_left', exists_eq_left, exists_and_left, reduceCtorEq, false_and, and_false, exists_false, exists_const, or_false, false_or, true_and, and_true, Bool.false_eq_true, Bool.not_true, Bool.not_false, put_same, atI_0, atI_1, atI_2, atI_3, sub_NoneType_int, sub_NoneType_bool, sub_NoneType_tuple, sub_NoneType_str, sub_NoneType_list, sub_NoneType_dict, sub_bool_int, sub_bool_bool, sub_bool_tuple, sub_bool_str, sub_bool_list, sub_bool_dict, sub_int_int, sub_int_bool, sub_int_tuple, sub_int_str, sub_int_list, sub_int_dict, sub_str_int, sub_str_bool, sub_str_tuple, sub_str_str, sub_str_list, sub_str_dict, sub_tuple_int, sub_tuple_bool, sub_tuple_tuple, sub_tuple_str, sub_tuple_list, sub_tuple_dict, sub_list_int, sub_list_bool, sub_list_tuple, sub_list_str, sub_list_list, sub_list_dict, sub_dict_int, sub_dict_bool, sub_dict_tuple, sub_dict_str, sub_dict_list, sub_dict_dict] $[$loc:location]?)
open PySem PySem.Spec PyProof.Rows
open L2
def inn (l : List Nat) (t : Nat × Nat) : Bool := l.contains t.1 && l.contains t.2
def pos : List Nat → Nat → Nat
  | [], _ => 0
  | a :: l, x => if a = x then 0 else pos l x + 1
end F2
set_option Elab.async false
set_option linter.all false
set_option maxRecDepth 100000
set_option maxHeartbeats 4000000
namespace F2
local macro_rules | `(tactic| simp_arith only [$xs,*] $[$loc:location]?) => `(tactic| simp only [$xs,*, rdSs, rdS, rdX, rdHs, bndA, clrA, isE_non, rdE, rdT, rdEs, rdP, rdR, rdC, rdI, bnd, bnds, bin_add, bin_mul, bin_sub, bin_div, bin_mod, bin_pow, bin_shr, bin_shl, bin_and, cmp_eq, cmp_ne, cmp_lt, cmp_le, cmp_gt, cmp_ge, cmp_is, cmp_isn, cmp_in, cmp_nin, aAdd_int, aAdd_str, aAdd_tup, aAdd_ref, aMul_int, aMul_tup, aMul_ref, aInt1_int, aBool_bl, aIx_tup, aSl_tup, aSl_fls, aSl_ref, aTru_bl, aTru_int, aTru_non, aTru_tup, aSeq_tup, aSeq_ref, len_tup, len_fls, list_tup, list_fls, tuple_tup, tuple_ref, int_int, int_bl, bool_int, bool_bl, max_tup, max_ref, min_tup, min_ref, sum_tup, sum_ref, sorted_ref, sortD_ref, sortS_ref, sortP_ref, srtR_ref, stp_ref, stp_fls, sorted_tup, rsl_tup, all_ref, a2_int, aIn_tup, aIs_non, aIs_bl, app_ref, ext_ref, pop_ref, popAt_ref, isL_ref, isLT_ref, isLT_tup, ins_ref, rvs_ref, fld_ref, setF_ref, isC_ref, Ob.ins.injEq, lset_ref, lset_tup, sset_ref, sset_tup, dct1_int, dct1_str, dctL_ref, ty_non, ty_bl, ty_int, ty_str, ty_tup, aEq_int, aEq_bl, aEq_bi, aEq_ib, aEq_nn, aEq_ni, aEq_in, startA, List.map_cons, List.map_nil, List.length_cons, List.length_nil, List.length_map, List.replicate, List.cons_append, List.nil_append, gv_zero, gv_succ, List.set_cons_zero, List.set_cons_succ, wipeA_nil, wipeA_cons, Nat.reduceAdd, Nat.reduceSub, if_true, if_false, Option.some.injEq, Ob.lst.injEq, Va.int.injEq, exists_eq_left', exists_eq_left, exists_and_left, reduceCtorEq, false_and, and_false, exists_false, exists_const, or_false, false_or, true_and, and_true, Bool.false_eq_true, Bool.not_true, Bool.not_false, put_same, atI_0, atI_1, atI_2, atI_3, sub_NoneType_int, sub_NoneType_bool, sub_NoneType_tuple, sub_NoneType_str, sub_NoneType_list, sub_NoneType_dict, sub_bool_int, sub_bool_bool, sub_bool_tuple, sub_bool_str, sub_bool_list, sub_bool_dict, sub_int_int, sub_int_bool, sub_int_tuple, sub_int_str, sub_int_list, sub_int_dict, sub_str_int, sub_str_bool, sub_str_tuple, sub_str_str, sub_str_list, sub_str_dict, sub_tuple_int, sub_tuple_bool, sub_tuple_tuple, sub_tuple_str, sub_tuple_list, sub_tuple_dict, sub_list_int, sub_list_bool, sub_list_tuple, sub_list_str, sub_list_list, sub_list_dict, sub_dict_int, sub_dict_bool, sub_dict_tuple, sub_dict_str, sub_dict_list, sub_dict_dict] $[$loc:location]?)
open PySem PySem.Spec PyProof.Rows
open L2
end F2
set_option Elab.async false
set_option linter.all false
set_option maxRecDepth 100000
set_option maxHeartbeats 4000000
namespace F2
local macro_rules | `(tactic| simp_arith only [$xs,*] $[$loc:location]?) => `(tactic| simp only [$xs,*, rdSs, rdS, rdX, rdHs, bndA, clrA, isE_non, rdE, rdT, rdEs, rdP, rdR, rdC, rdI, bnd, bnds, bin_add, bin_mul, bin_sub, bin_div, bin_mod, bin_pow, bin_shr, bin_shl, bin_and, cmp_eq, cmp_ne, cmp_lt, cmp_le, cmp_gt, cmp_ge, cmp_is, cmp_isn, cmp_in, cmp_nin, aAdd_int, aAdd_str, aAdd_tup, aAdd_ref, aMul_int, aMul_tup, aMul_ref, aInt1_int, aBool_bl, aIx_tup, aSl_tup, aSl_fls, aSl_ref, aTru_bl, aTru_int, aTru_non, aTru_tup, aSeq_tup, aSeq_ref, len_tup, len_fls, list_tup, list_fls, tuple_tup, tuple_ref, int_int, int_bl, bool_int, bool_bl, max_tup, max_ref, min_tup, min_ref, sum_tup, sum_ref, sorted_ref, sortD_ref, sortS_ref, sortP_ref, srtR_ref, stp_ref, stp_fls, sorted_tup, rsl_tup, all_ref, a2_int, aIn_tup, aIs_non, aIs_bl, app_ref, ext_ref, pop_ref, popAt_ref, isL_ref, isLT_ref, isLT_tup, ins_ref, rvs_ref, fld_ref, setF_ref, isC_ref, Ob.ins.injEq, lset_ref, lset_tup, sset_ref, sset_tup, dct1_int, dct1_str, dctL_ref, ty_non, ty_bl, ty_int, ty_str, ty_tup, aEq_int, aEq_bl, aEq_bi, aEq_ib, aEq_nn, aEq_ni, aEq_in, startA, List.map_cons, List.map_nil, List.length_cons, List.length_nil, List.length_map, List.replicate, List.cons_append, List.nil_append, gv_zero, gv_succ, List.set_cons_zero, List.set_cons_succ, wipeA_nil, wipeA_cons, Nat.reduceAdd, Nat.reduceSub, if_true, if_false, Option.some.injEq, Ob.lst.injEq, Va.int.injEq, exists_eq_left', exists_eq_left, exists_and_left, reduceCtorEq, false_and, and_false, exists_false, exists_const, or_false, false_or, true_and, and_true, Bool.false_eq_true, Bool.not_true, Bool.not_false, put_same, atI_0, atI_1, atI_2, atI_3, sub_NoneType_int, sub_NoneType_bool, sub_NoneType_tuple, sub_NoneType_str, sub_NoneType_list, sub_NoneType_dict, sub_bool_int, sub_bool_bool, sub_bool_tuple, sub_bool_str, sub_bool_list, sub_bool_dict, sub_int_int, sub_int_bool, sub_int_tuple, sub_int_str, sub_int_list, sub_int_dict, sub_str_int, sub_str_bool, sub_str_tuple, sub_str_str, sub_str_list, sub_str_dict, sub_tuple_int, sub_tuple_bool, sub_tuple_tuple, sub_tuple_str, sub_tuple_list, sub_tuple_dict, sub_list_int, sub_list_bool, sub_list_tuple, sub_list_str, sub_list_list, sub_list_dict, sub_dict_int, sub_dict_bool, sub_dict_tuple, sub_dict_str, sub_dict_list, sub_dict_dict] $[$loc:location]?)
open PySem PySem.Spec PyProof.Rows
open L2
end F2
set_option Elab.async false
set_option linter.all false
set_option maxRecDepth 100000
set_option maxHeartbeats 4000000
namespace F2
local macro_rules | `(tactic| simp_arith only [$xs,*] $[$loc:location]?) => `(tactic| simp only [$xs,*, rdSs, rdS, rdX, rdHs, bndA, clrA, isE_non, rdE, rdT, rdEs, rdP, rdR, rdC, rdI, bnd, bnds, bin_add, bin_mul, bin_sub, bin_div, bin_mod, bin_pow, bin_shr, bin_shl, bin_and, cmp_eq, cmp_ne, cmp_lt, cmp_le, cmp_gt, cmp_ge, cmp_is, cmp_isn, cmp_in, cmp_nin, aAdd_int, aAdd_str, aAdd_tup, aAdd_ref, aMul_int, aMul_tup, aMul_ref, aInt1_int, aBool_bl, aIx_tup, aSl_tup, aSl_fls, aSl_ref, aTru_bl, aTru_int, aTru_non, aTru_tup, aSeq_tup, aSeq_ref, len_tup, len_fls, list_tup, list_fls, tuple_tup, tuple_ref, int_int, int_bl, bool_int, bool_bl, max_tup, max_ref, min_tup, min_ref, sum_tup, sum_ref, sorted_ref, sortD_ref, sortS_ref, sortP_ref, srtR_ref, stp_ref, stp_fls, sorted_tup, rsl_tup, all_ref, a2_int, aIn_tup, aIs_non, aIs_bl, app_ref, ext_ref, pop_ref, popAt_ref, isL_ref, isLT_ref, isLT_tup, ins_ref, rvs_ref, fld_ref, setF_ref, isC_ref, Ob.ins.injEq, lset_ref, lset_tup, sset_ref, sset_tup, dct1_int, dct1_str, dctL_ref, ty_non, ty_bl, ty_int, ty_str, ty_tup, aEq_int, aEq_bl, aEq_bi, aEq_ib, aEq_nn, aEq_ni, aEq_in, startA, List.map_cons, List.map_nil, List.length_cons, List.length_nil, List.length_map, List.replicate, List.cons_append, List.nil_append, gv_zero, gv_succ, List.set_cons_zero, List.set_cons_succ, wipeA_nil, wipeA_cons, Nat.reduceAdd, Nat.reduceSub, if_true, if_false, Option.some.injEq, Ob.lst.injEq, Va.int.injEq, exists_eq_left', exists_eq_left, exists_and_left, reduceCtorEq, false_and, and_false, exists_false, exists_const, or_false, false_or, true_and, and_true, Bool.false_eq_true, Bool.not_true, Bool.not_false, put_same, atI_0, atI_1, atI_2, atI_3, sub_NoneType_int, sub_NoneType_bool, sub_NoneType_tuple, sub_NoneType_str, sub_NoneType_list, sub_NoneType_dict, sub_bool_int, sub_bool_bool, sub_bool_tuple, sub_bool_str, sub_bool_list, sub_bool_dict, sub_int_int, sub_int_bool, sub_int_tuple, sub_int_str, sub_int_list, sub_int_dict, sub_str_int, sub_str_bool, sub_str_tuple, sub_str_str, sub_str_list, sub_str_dict, sub_tuple_int, sub_tuple_bool, sub_tuple_tuple, sub_tuple_str, sub_tuple_list, sub_tuple_dict, sub_list_int, sub_list_bool, sub_list_tuple, sub_list_str, sub_list_list, sub_list_dict, sub_dict_int, sub_dict_bool, sub_dict_tuple, sub_dict_str, sub_dict_list, sub_dict_dict] $[$loc:location]?)
open PySem PySem.Spec PyProof.Rows
open L2
theorem fresh_ring {n : Nat} {ts : List (Nat × Nat)} {t : Nat × Nat} {b : Nat} (ok : ∀ u ∈ ts, TieOk n u) (hr : ringB (List.range n) ts = true) (hb : ∀ u ∈ ts, u.1 ≠ b ∧ u.2 ≠ b) (tk : TieOk n t) (ht : t.1 = b ∨ t.2 = b) : ringB (List.range n) (ts ++ [t]) = true := by
  unfold TieOk at tk
  rw [ringB_snoc, hr, Bool.true_and, bne_iff_ne]
  intro z
  have cl := (fold_closed (L := ts) (H := List.range n) (V := fun x => x = b) (fun u hu => by
    have tj := ok _ hu
    have hj := hb _ hu
    unfold TieOk at tj
    rw [List.length_range]
    exact ⟨by omega, by omega, fun e => absurd e hj.1, fun e => absurd e hj.2⟩) (fun x y hx hy e => by
    rw [List.length_range] at hx hy
    rw [hd_range hx, hd_range hy] at e
    rw [e]) t.1 t.2 (by rw [List.length_range]; omega) (by rw [List.length_range]; omega) z)
  rcases ht with ht | ht
  · have := cl.mp ht; omega
  · have := cl.mpr ht; omega
def sp__law_turned : ASp := fun avs h Q => ∃ d r xs dx, avs = [.ref d, .ref r] ∧ d ≠ r ∧ h d = some (.lst dx) ∧ Deck dx ∧ h r = some (.lst xs) ∧ xs.length ≤ 10000 ∧ okDs xs 60 = true ∧ ∀ ys p, ys.Perm xs → h p = none → rnd (put h p (.lst ys)) d (Q (.ref p))
def nm__law_turned : List Str := ["_law_deck_here", "_law_row", "_law_left", "_law_found"]
def ir__law_turned_L5 : Ss := .cons (.ret (.var 3)) .nil
def ir__law_turned_L4 : Ss := .cons (.ex (.app (.var 3) (.popAt (.var 2) (.bin .Mod (.call "_law_next" sp__law_next (.cons (.var 0) .nil)) (.b1 .len (.var 2)))))) .nil
def ir__law_turned_L3 : Ss := .cons (.whl (.cmp .NotEq (.var 2) (.lst .nil)) ir__law_turned_L4) ir__law_turned_L5
def ir__law_turned_L2 : Ss := .cons (.asg (.nm 3) (.lst .nil)) ir__law_turned_L3
def ir__law_turned : Ss := .cons (.asg (.nm 2) (.b1 .list (.var 1))) ir__law_turned_L2
theorem fa__law_turned : FnA 2 4 sp__law_turned ir__law_turned := by
  rintro avs h Q ⟨d, r, xs, dx, rfl, ndr, hd, dk, hr, hz, okx, q⟩
  refine ⟨rfl, ?_⟩
  simp_arith only [ir__law_turned, hr, ix_at (hr), tru_at (hr), len_at (hr), list_at (hr), in_at (hr), set_at (hr), ty_at (hr)]
  refine newL_in fun p1 h1 s1 n1 e1 => ?_
  simp_arith only [ir__law_turned_L2]
  refine ⟨by omega, newL_in fun p2 h2 s2 n2 e2 => ?_⟩
  have K2 : Dk h d h2 := ((Dk.start hd dk).sub s1).sub s2
  have m1 : h p1 = none ∧ p1 ≠ d := (Dk.start hd dk).nn n1
  have m2 : h p2 = none ∧ p2 ≠ d := ((Dk.start hd dk).sub s1).nn n2
  have n12 : p1 ≠ p2 := fun e => by subst e; rw [e1] at n2; cases n2
  simp_arith only [ir__law_turned_L3]
  refine whl_inv (m := xs.length) (fun m ρ h' => ρ = [some (.ref d), some (.ref r), some (.ref p1), some (.ref p2)] ∧ Dk h d h' ∧ ∃ ls fs, h' p1 = some (.lst ls) ∧ h' p2 = some (.lst fs) ∧ ls.length = m ∧ (fs ++ ls).Perm xs) ?_ fun m ρ h' inv K hK => ?_
  · exact ⟨rfl, K2, xs, [], s2 _ _ e1, e2, rfl, List.Perm.refl _⟩
  · obtain ⟨rfl, kd, ls, fs, g1, g2, hm, pm⟩ := inv
    have okl : okDs ls 60 = true := okDs_sub okx fun v hv => pm.subset (List.mem_append_right _ hv)
    simp_arith only [rdSs]
    refine ⟨by omega, newL_in fun p3 h3 s3 n3 e3 => ?_⟩
    have j1 := s3 _ _ g1
    have j2 := s3 _ _ g2
    have kd3 := kd.sub s3
    rw [aEq_lists (n := 60) (m := 0) j1 e3 okl rfl (by omega) (by omega)]
    obtain ⟨dx3, ed, dk3⟩ := kd3.d
    cases ls with
    | nil =>
      simp_arith only [toDs, PyData.eqvAll, ir__law_turned_L5, ir__law_turned_L4, ir__law_turned_L3, ir__law_turned_L2, ir__law_turned]
      refine ret_dkL kd3 m2.1 m2.2 j2 (q _ _ ?_ m2.1)
      simpa using pm
    | cons l0 lr =>
      have t0 : PyData.eqvAll (toDs (l0 :: lr)) (toDs []) = false := rfl
      simp_arith only [t0, ir__law_turned_L4, j1, ix_at (j1), tru_at (j1), len_at (j1), list_at (j1), in_at (j1), set_at (j1), ty_at (j1), j2, ix_at (j2), tru_at (j2), len_at (j2), list_at (j2), in_at (j2), set_at (j2), ty_at (j2)]
      refine ⟨⟨_, rfl⟩, ⟨_, rfl⟩, d, dx3, rfl, ed, dk3, fun n hn h4 dx4 e4 dk4 f4 => ?_⟩
      have i1 : h4 p1 = _ := (f4 _ m1.2).trans j1
      have i2 : h4 p2 = _ := (f4 _ m2.2).trans j2
      simp_arith only [i1, ix_at (i1), tru_at (i1), len_at (i1), list_at (i1), in_at (i1), set_at (i1), ty_at (i1)]
      have hpos : (0 : Int) < ((lr.length + 1 : Nat) : Int) := by omega
      have b1 : 0 ≤ (n : Int) % ((lr.length + 1 : Nat) : Int) := Int.emod_nonneg _ (by omega)
      have b2 : (n : Int) % ((lr.length + 1 : Nat) : Int) < ((lr.length + 1 : Nat) : Int) := Int.emod_lt_of_pos _ hpos
      generalize (n : Int) % ((lr.length + 1 : Nat) : Int) = t at b1 b2
      obtain ⟨t, rfl⟩ := Int.eq_ofNat_of_zero_le b1
      have ht : t < (l0 :: lr).length := by simp; omega
      have ll : (l0 :: lr).length ≤ 10000 := by
        have := pm.length_eq
        rw [List.length_append] at this
        omega
      have lf : fs.length ≤ 10000 := by
        have := pm.length_eq
        rw [List.length_append] at this
        omega
      refine ⟨hpos, by omega, by simp at ll; omega, t, by exact seqIx_nat ht, (l0 :: lr)[t], List.getElem?_eq_getElem ht, fun h5 e5 f5 => ?_⟩
      have q2 : h5 p2 = _ := (f5 _ n12.symm).trans i2
      simp_arith only [q2]
      refine ⟨by rw [sizeLine_eq]; omega, fun h6 e6 f6 => hK lr.length _ _ (by simp at hm; omega) ⟨rfl, ?_, (l0 :: lr).eraseIdx t, _, (f6 _ n12).trans e5, e6, ?_, ?_⟩⟩
      · exact ((kd3.step e4 dk4 f4).own m1.1 m1.2 f5).own m2.1 m2.2 f6
      · rw [List.length_eraseIdx_of_lt ht]; rfl
      · refine List.Perm.trans ?_ pm
        rw [List.append_assoc]
        refine List.Perm.append_left _ ?_
        exact erase_perm _ t ht
def sp__law_tree2 : ASp := fun avs h Q => ∃ d dx, ∃ n : Nat, avs = [.ref d, .int n] ∧ h d = some (.lst dx) ∧ Deck dx ∧ n ≤ 1000 ∧ ∀ (ts : List (Nat × Nat)) p, (∀ t ∈ ts, TieOk n t) → ts.length = n - 1 → ringB (List.range n) ts = true → h p = none → rnd (put h p (.lst (ts.map tieV))) d (Q (.ref p))
def nm__law_tree2 : List Str := ["_law_deck_here", "_law_points", "_law_order", "_law_way", "_law_found", "_law_k", "_law_other"]
def ir__law_tree2_L7 : Ss := .cons (.ret (.var 4)) .nil
def ir__law_tree2_L6 : Ss := .cons (.ex (.app (.var 4) (.tup (.cons (.b2 false (.ix (.var 2) (.var 5)) (.var 6)) (.cons (.b2 true (.ix (.var 2) (.var 5)) (.var 6)) .nil))))) .nil
def ir__law_tree2_L5 : Ss := .cons (.asg (.nm 6) (.ix (.lst (.cons (.ix (.var 2) (.bin .Sub (.var 5) (.int 1))) (.cons (.ix (.var 2) (.int 0)) (.cons (.ix (.var 2) (.bin .Mod (.call "_law_next" sp__law_next (.cons (.var 0) .nil)) (.var 5))) .nil)))) (.var 3))) ir__law_tree2_L6
def ir__law_tree2_L4 : Ss := .cons (.for_ (.nm 5) (.rg (.two (.int 1) (.var 1))) ir__law_tree2_L5) ir__law_tree2_L7
def ir__law_tree2_L3 : Ss := .cons (.asg (.nm 4) (.lst .nil)) ir__law_tree2_L4
def ir__law_tree2_L2 : Ss := .cons (.asg (.nm 3) (.bin .Mod (.call "_law_next" sp__law_next (.cons (.var 0) .nil)) (.int 3))) ir__law_tree2_L3
def ir__law_tree2 : Ss := .cons (.asg (.nm 2) (.call "_law_turned" sp__law_turned (.cons (.var 0) (.cons (.lrg (.one (.var 1))) .nil)))) ir__law_tree2_L2
theorem fa__law_tree2 : FnA 2 7 sp__law_tree2 ir__law_tree2 := by
  rintro avs h Q ⟨d, dx, n, rfl, hd, dk, hn, q⟩
  refine ⟨rfl, ?_⟩
  simp_arith only [ir__law_tree2]
  refine ⟨⟨by omega, by omega, by omega, by omega, by omega⟩, newL_in fun p1 h1 s1 n1 e1 => ?_⟩
  rw [rgA_nat] at e1
  have k1 : Dk h d h1 := (Dk.start hd dk).sub s1
  have m1 := (Dk.start hd dk).nn n1
  obtain ⟨dx1, ed1, dk1⟩ := k1.d
  refine ⟨d, p1, _, dx1, rfl, m1.2.symm, ed1, dk1, e1, by simp; omega, okDs_ints _ _, fun ys p2 pm n2 h2 dx2 e2 dk2 f2 => ?_⟩
  have k1' : Dk h d (put h1 p2 (.lst ys)) := k1.sub (Sub.rfl'.new n2)
  have k2 : Dk h d h2 := k1'.step e2 dk2 f2
  have m2 := k1.nn n2
  have g2 : h2 p2 = some (.lst ys) := (f2 _ m2.2).trans put_same
  obtain ⟨os, rfl, po⟩ : ∃ os : List Nat, ys = os.map (fun i : Nat => Va.int (i : Int)) ∧ os.Perm (List.range n) := by
    rw [List.map_map] at pm
    exact perm_map _ pm
  have on : os.Nodup := po.nodup_iff.mpr List.nodup_range
  have ol : os.length = n := by rw [po.length_eq, List.length_range]
  have om : ∀ (i : Nat) (hi : i < os.length), os[i] < n := fun i hi => List.mem_range.mp (po.subset (List.getElem_mem hi))
  simp_arith only [ir__law_tree2_L2]
  refine ⟨d, dx2, rfl, e2, dk2, fun w hw h3 dx3 e3 dk3 f3 => ?_⟩
  have k3 : Dk h d h3 := k2.step e3 dk3 f3
  simp_arith only [ir__law_tree2_L3]
  have g3 : h3 p2 = _ := (f3 _ m2.2).trans g2
  obtain ⟨w3, ew, hw3⟩ : ∃ w3 : Nat, (w : Int) % 3 = w3 ∧ w3 < 3 := ⟨w % 3, by omega, by omega⟩
  rw [ew]
  refine ⟨by omega, by omega, newL_in fun p4 h4 s4 n4 e4 => ?_⟩
  have k4 := k3.sub s4
  have m4 := k3.nn n4
  have g4 := s4 _ _ g3
  have n24 : p2 ≠ p4 := fun e => by subst e; rw [g3] at n4; cases n4
  simp_arith only [ir__law_tree2_L4]
  refine ⟨by omega, ?_⟩
  refine loop_rg (fun i ρ h' => (∃ o1 o2, ρ = [some (.ref d), some (.int n), some (.ref p2), some (.int w3), some (.ref p4), o1, o2]) ∧ Dk h d h' ∧ h' p2 = some (.lst (os.map fun i : Nat => Va.int (i : Int))) ∧
    ∃ ts : List (Nat × Nat), h' p4 = some (.lst (ts.map tieV)) ∧ (∀ t ∈ ts, TieOk n t) ∧ ts.length = i ∧ ringB (List.range n) ts = true ∧ ∀ (j : Nat) (hj : j < os.length), i < j → ∀ t ∈ ts, t.1 ≠ os[j] ∧ t.2 ≠ os[j]) ?_ (fun i hi ρ h' K inv hK => ?_) (fun ρ h' inv => ?_)
  · exact ⟨⟨none, none, rfl⟩, k4, g4, [], e4, fun _ ht => (nomatch ht), rfl, rfl, fun _ _ _ _ ht => (nomatch ht)⟩
  · obtain ⟨⟨o1, o2, rfl⟩, kd, g2, ts, g4, tok, tl, rg, fr⟩ := inv
    have hi1 : i + 1 < os.length := by omega
    have hi0 : i < os.length := by omega
    have at1 : ∀ j (hj : j < os.length), atI (os.map fun i : Nat => Va.int (i : Int)) (j : Int) = some (.int (os[j] : Nat)) := fun j hj => by
      rw [atI_nat, List.getElem?_map, List.getElem?_eq_getElem hj]; rfl
    obtain ⟨dx5, ed5, dk5⟩ := kd.d
    have c1 : ((i + 1 : Nat) : Int) - 1 = (i : Nat) := by omega
    have c2 : (1 : Int) + i = (i + 1 : Nat) := by omega
    have at0 : atI (os.map fun i : Nat => Va.int (i : Int)) 0 = some (.int (os[0] : Nat)) := at1 0 (by omega)
    simp_arith only [ir__law_tree2_L5, g2, ix_at (g2), tru_at (g2), len_at (g2), list_at (g2), in_at (g2), set_at (g2), ty_at (g2), g4, ix_at (g4), tru_at (g4), len_at (g4), list_at (g4), in_at (g4), set_at (g4), ty_at (g4), c1, c2, at1 i hi0, at0]
    refine ⟨d, dx5, rfl, ed5, dk5, fun u hu h6 dx6 e6 dk6 f6 => ?_⟩
    have k6 : Dk h d h6 := kd.step e6 dk6 f6
    have r2 : h6 p2 = _ := (f6 _ m2.2).trans g2
    have r4 : h6 p4 = _ := (f6 _ m4.2).trans g4
    obtain ⟨v, ev, hv⟩ : ∃ v : Nat, (u : Int) % ((i + 1 : Nat) : Int) = v ∧ v < i + 1 := ⟨u % (i + 1), by omega, Nat.mod_lt _ (by omega)⟩
    simp_arith only [r2, ix_at (r2), tru_at (r2), len_at (r2), list_at (r2), in_at (r2), set_at (r2), ty_at (r2), r4, ix_at (r4), tru_at (r4), len_at (r4), list_at (r4), in_at (r4), set_at (r4), ty_at (r4), ev, at1 v (by omega)]
    refine ⟨by omega, by rw [sizeLine_eq]; omega, newL_in fun p7 h7 s7 n7 e7 => ?_⟩
    have k7 := k6.sub s7
    have t2 := s7 _ _ r2
    have t4 := s7 _ _ r4
    obtain ⟨x, hx, hxv, hxf⟩ : ∃ x : Nat, atI [Va.int (os[i] : Nat), Va.int (os[0] : Nat), Va.int (os[v] : Nat)] (w3 : Int) = some (.int (x : Nat)) ∧ (x ≠ os[i + 1] ∧ x < n) ∧ ∀ (j : Nat) (hj : j < os.length), i < j → x ≠ os[j] := by
      have ne : ∀ j (hj : j < os.length), j ≠ i + 1 → os[j] ≠ os[i + 1] := fun j hj z => fun e => z ((List.getElem_inj on).mp e)
      have ne2 : ∀ w (hw : w < os.length), w ≤ i → ∀ (j : Nat) (hj : j < os.length), i < j → os[w] ≠ os[j] := fun w hw z j hj ij => fun e => by
        have := (List.getElem_inj on).mp e
        omega
      obtain rfl | rfl | rfl : w3 = 0 ∨ w3 = 1 ∨ w3 = 2 := by omega
      · exact ⟨os[i], atI_0, ⟨ne i hi0 (by omega), om _ _⟩, ne2 i hi0 (by omega)⟩
      · exact ⟨os[0], atI_1, ⟨ne 0 (by omega) (by omega), om _ _⟩, ne2 0 (by omega) (by omega)⟩
      · exact ⟨os[v], atI_2, ⟨ne v (by omega) (by omega), om _ _⟩, ne2 v (by omega) (by omega)⟩
    simp_arith only [e7, ix_at (e7), tru_at (e7), len_at (e7), list_at (e7), in_at (e7), set_at (e7), ty_at (e7), hx]
    simp_arith only [ir__law_tree2_L6, t2, ix_at (t2), tru_at (t2), len_at (t2), list_at (t2), in_at (t2), set_at (t2), ty_at (t2), t4, ix_at (t4), tru_at (t4), len_at (t4), list_at (t4), in_at (t4), set_at (t4), ty_at (t4), c2, at1 (i + 1) hi1]
    have lt := om (i + 1) hi1
    have tlen : (ts.map tieV).length < sizeLine := by rw [List.length_map, sizeLine_eq]; omega
    simp only [List.length_map] at tlen
    refine ⟨⟨_, rfl⟩, by rw [sizeLine_eq]; omega, tlen, fun h8 e8 f8 => hK _ _ ⟨⟨_, _, rfl⟩, k7.own m4.1 m4.2 f8, (f8 _ n24).trans t2, ts ++ [(min os[i + 1] x, max os[i + 1] x)], ?_, ?_, ?_, ?_, ?_⟩ trivial⟩
    · rw [e8, List.map_append]
      have c3 : (if (x : Int) < (os[i + 1] : Nat) then (x : Int) else (os[i + 1] : Nat)) = ((min os[i + 1] x : Nat) : Int) := by split <;> omega
      have c4 : (if (x : Int) > (os[i + 1] : Nat) then (x : Int) else (os[i + 1] : Nat)) = ((max os[i + 1] x : Nat) : Int) := by split <;> omega
      simp only [Bool.false_eq_true, if_false, if_true, c3, c4]
      rfl
    · intro t ht
      rcases List.mem_append.mp ht with ht | ht
      · exact tok t ht
      · rw [List.mem_singleton.mp ht]; unfold TieOk; simp only; omega
    · simp [tl]
    · refine fresh_ring (b := os[i + 1]) tok rg (fr (i + 1) hi1 (by omega)) (by unfold TieOk; simp only; omega) ?_
      simp only
      omega
    · intro j hj ij t ht
      have f1 := hxf j hj (by omega)
      have f2 : os[i + 1] ≠ os[j] := fun e => by
        have := (List.getElem_inj on).mp e
        omega
      rcases List.mem_append.mp ht with ht | ht
      · exact fr j hj (by omega) t ht
      · rw [List.mem_singleton.mp ht]; simp only; omega
  · obtain ⟨⟨o1, o2, rfl⟩, kd, g2, ts, g4, tok, tl, rg, -⟩ := inv
    simp_arith only [ir__law_tree2_L7]
    exact ret_dkL kd m4.1 m4.2 g4 (q ts p4 tok (by omega) rg m4.1)
def sp__law_ties : ASp := fun avs h Q => ∃ d dx, ∃ n m : Nat, avs = [.ref d, .int n, .int m] ∧ h d = some (.lst dx) ∧ Deck dx ∧ 1 ≤ n ∧ n ≤ 1000 ∧ m ≤ 1000 ∧ ∀ (ts : List (Nat × Nat)) p, (∀ t ∈ ts, TieOk n t) → ts.length ≤ m → h p = none → rnd (put h p (.lst (ts.map tieV))) d (Q (.ref p))
def nm__law_ties : List Str := ["_law_deck_here", "_law_points", "_law_many", "_law_among", "_law_found", "_law_k", "_law_a", "_law_b"]
def ir__law_ties_L7 : Ss := .cons (.ret (.var 4)) .nil
def ir__law_ties_L6 : Ss := .cons (.ex (.app (.var 4) (.tup (.cons (.b2 false (.var 6) (.var 7)) (.cons (.b2 true (.var 6) (.var 7)) .nil))))) .nil
def ir__law_ties_L5 : Ss := .cons (.asg (.nm 7) (.bin .Mod (.bin .Add (.bin .Add (.var 6) (.int 1)) (.bin .Mod (.call "_law_next" sp__law_next (.cons (.var 0) .nil)) (.bin .Sub (.var 3) (.int 1)))) (.var 3))) ir__law_ties_L6
def ir__law_ties_L4 : Ss := .cons (.asg (.nm 6) (.bin .Mod (.call "_law_next" sp__law_next (.cons (.var 0) .nil)) (.var 3))) ir__law_ties_L5
def ir__law_ties_L3 : Ss := .cons (.for_ (.nm 5) (.rg (.one (.bin .Mult (.var 2) (.b1 .int (.cmp .Gt (.var 1) (.int 1)))))) ir__law_ties_L4) ir__law_ties_L7
def ir__law_ties_L2 : Ss := .cons (.asg (.nm 4) (.lst .nil)) ir__law_ties_L3
def ir__law_ties : Ss := .cons (.asg (.nm 3) (.ix (.lst (.cons (.var 1) (.cons (.var 1) (.cons (.b2 false (.var 1) (.int 3)) .nil)))) (.bin .Mod (.call "_law_next" sp__law_next (.cons (.var 0) .nil)) (.int 3)))) ir__law_ties_L2
theorem fa__law_ties : FnA 3 8 sp__law_ties ir__law_ties := by
  rintro avs h Q ⟨d, dx, n, m, rfl, hd, dk, n1, hn, hm, q⟩
  refine ⟨rfl, ?_⟩
  simp_arith only [ir__law_ties]
  refine ⟨by rw [sizeLine_eq]; omega, newL_in fun p1 h1 s1 np1 e1 => ?_⟩
  have k1 : Dk h d h1 := (Dk.start hd dk).sub s1
  have m1 := (Dk.start hd dk).nn np1
  obtain ⟨dx1, ed1, dk1⟩ := k1.d
  refine ⟨d, dx1, rfl, ed1, dk1, fun w hw h2 dx2 e2 dk2 f2 => ?_⟩
  have k2 : Dk h d h2 := k1.step e2 dk2 f2
  have g1 : h2 p1 = _ := (f2 _ m1.2).trans e1
  obtain ⟨w3, ew, hw3⟩ : ∃ w3 : Nat, (w : Int) % 3 = w3 ∧ w3 < 3 := ⟨w % 3, by omega, by omega⟩
  simp_arith only [g1, ix_at (g1), tru_at (g1), len_at (g1), list_at (g1), in_at (g1), set_at (g1), ty_at (g1), ew]
  refine ⟨by omega, ?_⟩
  obtain ⟨A, hA, A1, A2, A3⟩ : ∃ A : Nat, atI [Va.int n, Va.int n, Va.int (if (3 : Int) < n then 3 else n)] (w3 : Int) = some (.int (A : Nat)) ∧ A ≤ n ∧ 1 ≤ A ∧ (1 < n → 2 ≤ A) := by
    obtain rfl | rfl | rfl : w3 = 0 ∨ w3 = 1 ∨ w3 = 2 := by omega
    · exact ⟨n, atI_0, by omega, by omega, by omega⟩
    · exact ⟨n, atI_1, by omega, by omega, by omega⟩
    · refine ⟨min n 3, ?_, by omega, by omega, by omega⟩
      have : (if (3 : Int) < n then 3 else (n : Int)) = ((min n 3 : Nat) : Int) := by split <;> omega
      rw [this]
      exact atI_2
  simp_arith only [hA]
  simp_arith only [ir__law_ties_L2]
  refine ⟨by omega, newL_in fun p4 h4 s4 n4 e4 => ?_⟩
  have k4 := k2.sub s4
  have m4 := k2.nn n4
  simp_arith only [ir__law_ties_L3]
  have hmul : (m : Int) * (if decide ((1 : Int) < n) = true then 1 else 0) = ((if 1 < n then m else 0 : Nat) : Int) := by
    by_cases e : 1 < n
    · rw [if_pos (by rw [decide_eq_true_eq]; omega), if_pos e]; omega
    · rw [if_neg (by rw [decide_eq_true_eq]; omega), if_neg e]; omega
  rw [hmul]
  refine ⟨.inl (by omega), by split <;> omega, ?_⟩
  refine loop_rg (fun i ρ h' => (∃ o1 o2 o3, ρ = [some (.ref d), some (.int n), some (.int m), some (.int A), some (.ref p4), o1, o2, o3]) ∧ Dk h d h' ∧
    ∃ ts : List (Nat × Nat), h' p4 = some (.lst (ts.map tieV)) ∧ (∀ t ∈ ts, TieOk n t) ∧ ts.length = i) ?_ (fun i hi ρ h' K inv hK => ?_) (fun ρ h' inv => ?_)
  · exact ⟨⟨none, none, none, rfl⟩, k4, [], e4, fun _ ht => (nomatch ht), rfl⟩
  · obtain ⟨⟨o1, o2, o3, rfl⟩, kd, ts, g4, tok, tl⟩ := inv
    have hn1 : 1 < n := by
      by_cases e : 1 < n
      · exact e
      · rw [if_neg e] at hi; omega
    have hi2 : i < m := by rw [if_pos hn1] at hi; omega
    have A4 := A3 hn1
    obtain ⟨dx5, ed5, dk5⟩ := kd.d
    simp_arith only [ir__law_ties_L4]
    refine ⟨d, dx5, rfl, ed5, dk5, fun u hu h6 dx6 e6 dk6 f6 => ?_⟩
    have k6 : Dk h d h6 := kd.step e6 dk6 f6
    have r4 : h6 p4 = _ := (f6 _ m4.2).trans g4
    obtain ⟨a, ea, ha⟩ : ∃ a : Nat, (u : Int) % (A : Int) = a ∧ a < A := ⟨u % A, by omega, Nat.mod_lt _ (by omega)⟩
    simp_arith only [ea]
    refine ⟨by omega, ?_⟩
    simp_arith only [ir__law_ties_L5]
    refine ⟨d, dx6, rfl, e6, dk6, fun u' hu' h7 dx7 e7 dk7 f7 => ?_⟩
    have k7 : Dk h d h7 := k6.step e7 dk7 f7
    have t4 : h7 p4 = _ := (f7 _ m4.2).trans r4
    obtain ⟨b, eb, hb, hab⟩ : ∃ b : Nat, ((a : Int) + 1 + (u' : Int) % ((A : Int) - 1)) % (A : Int) = b ∧ b < A ∧ a ≠ b := by
      have hc := Nat.mod_lt u' (show 0 < A - 1 by omega)
      refine ⟨(a + 1 + u' % (A - 1)) % A, ?_, Nat.mod_lt _ (by omega), ?_⟩
      · have : (A : Int) - 1 = ((A - 1 : Nat) : Int) := by omega
        rw [this]
        push_cast
        rfl
      · generalize u' % (A - 1) = c at hc
        by_cases z : a + 1 + c < A
        · rw [Nat.mod_eq_of_lt z]; omega
        · have : (a + 1 + c) % A = a + 1 + c - A := by
            rw [Nat.mod_eq_sub_mod (by omega), Nat.mod_eq_of_lt (by omega)]
          rw [this]; omega
    simp_arith only [eb]
    refine ⟨by omega, by omega, ?_⟩
    simp_arith only [ir__law_ties_L6, t4, ix_at (t4), tru_at (t4), len_at (t4), list_at (t4), in_at (t4), set_at (t4), ty_at (t4)]
    have tlen : (ts.map tieV).length < sizeLine := by rw [List.length_map, sizeLine_eq]; omega
    simp only [List.length_map] at tlen
    refine ⟨⟨_, rfl⟩, by rw [sizeLine_eq]; omega, tlen, fun h8 e8 f8 => hK _ _ ⟨⟨_, _, _, rfl⟩, k7.own m4.1 m4.2 f8, ts ++ [(min a b, max a b)], ?_, ?_, ?_⟩ trivial⟩
    · rw [e8, List.map_append]
      have c3 : (if (b : Int) < (a : Nat) then (b : Int) else (a : Nat)) = ((min a b : Nat) : Int) := by split <;> omega
      have c4 : (if (b : Int) > (a : Nat) then (b : Int) else (a : Nat)) = ((max a b : Nat) : Int) := by split <;> omega
      simp only [Bool.false_eq_true, if_false, if_true, c3, c4]
      rfl
    · intro t ht
      rcases List.mem_append.mp ht with ht | ht
      · exact tok t ht
      · rw [List.mem_singleton.mp ht]; unfold TieOk; simp only; omega
    · simp [tl]
  · obtain ⟨⟨o1, o2, o3, rfl⟩, kd, ts, g4, tok, tl⟩ := inv
    simp_arith only [ir__law_ties_L7]
    refine ret_dkL kd m4.1 m4.2 g4 (q ts p4 tok ?_ m4.1)
    rw [tl]; split <;> omega
def sp__law_web2 : ASp := fun avs h Q => ∃ d dx, ∃ n m : Nat, avs = [.ref d, .int n, .int m] ∧ h d = some (.lst dx) ∧ Deck dx ∧ 1 ≤ n ∧ n ≤ 1000 ∧ m ≤ 1000 ∧ ∀ n' ts, n' ≤ n → WebOk n' ts → ts.length ≤ m → rnd h d (Q (webV n' ts))
def nm__law_web2 : List Str := ["_law_deck_here", "_law_points", "_law_ties_here", "_law_many", "_law_found", "_law_k"]
def ir__law_web2_L7 : Ss := .cons (.ret (.tup (.cons (.var 3) (.cons (.b1 .tuple (.call "_law_turned" sp__law_turned (.cons (.var 0) (.cons (.var 4) .nil)))) .nil)))) .nil
def ir__law_web2_L6 : Ss := .cons (.asg (.nm 4) (.bin .Add (.var 4) (.call "_law_ties" sp__law_ties (.cons (.var 0) (.cons (.var 3) (.cons (.bin .Mod (.call "_law_next" sp__law_next (.cons (.var 0) .nil)) (.bin .Add (.bin .Sub (.var 2) (.b1 .len (.var 4))) (.int 1))) .nil)))))) ir__law_web2_L7
def ir__law_web2_L5 : Ss := .cons (.asg (.nm 4) (.bin .Add (.var 4) (.call "_law_tree" sp__law_tree2 (.cons (.var 0) (.cons (.var 3) .nil))))) .nil
def ir__law_web2_L4 : Ss := .cons (.ite (.cmp .LtE (.bin .Sub (.bin .Add (.b1 .len (.var 4)) (.var 3)) (.int 1)) (.var 2)) ir__law_web2_L5 .nil) .nil
def ir__law_web2_L3 : Ss := .cons (.for_ (.nm 5) (.rg (.one (.bin .Mod (.call "_law_next" sp__law_next (.cons (.var 0) .nil)) (.int 4)))) ir__law_web2_L4) ir__law_web2_L6
def ir__law_web2_L2 : Ss := .cons (.asg (.nm 4) (.lst .nil)) ir__law_web2_L3
def ir__law_web2 : Ss := .cons (.asg (.nm 3) (.bin .Add (.int 1) (.bin .Mod (.call "_law_next" sp__law_next (.cons (.var 0) .nil)) (.var 1)))) ir__law_web2_L2
theorem fa__law_web2 : FnA 3 6 sp__law_web2 ir__law_web2 := by
  rintro avs h Q ⟨d, dx, n, m, rfl, hd, dk, n1, hn, hm, q⟩
  refine ⟨rfl, ?_⟩
  simp_arith only [ir__law_web2]
  refine ⟨d, dx, rfl, hd, dk, fun u hu h2 dx2 e2 dk2 f2 => ?_⟩
  have k2 : Dk h d h2 := (Dk.start hd dk).step e2 dk2 f2
  obtain ⟨N, eN, hN1, hN2⟩ : ∃ N : Nat, 1 + (u : Int) % (n : Int) = N ∧ 1 ≤ N ∧ N ≤ n := ⟨1 + u % n, by omega, by omega, by have := Nat.mod_lt u (show 0 < n by omega); omega⟩
  simp_arith only [eN]
  refine ⟨by omega, ?_⟩
  simp_arith only [ir__law_web2_L2]
  refine ⟨by omega, newL_in fun p3 h3 s3 np3 e3 => ?_⟩
  have k3 := k2.sub s3
  have m3 := k2.nn np3
  obtain ⟨dx3, ed3, dk3⟩ := k3.d
  simp_arith only [ir__law_web2_L3]
  refine ⟨d, dx3, rfl, ed3, dk3, fun u hu h4 dx4 e4 dk4 f4 => ?_⟩
  have k4 : Dk h d h4 := k3.step e4 dk4 f4
  have g4 : h4 p3 = _ := (f4 _ m3.2).trans e3
  simp_arith only [rdSs]
  refine ⟨by omega, by omega, ?_⟩
  refine loop_rg (fun i ρ h' => ∃ p o1, ρ = [some (.ref d), some (.int n), some (.int m), some (.int N), some (.ref p), o1] ∧ Dk h d h' ∧ (h p = none ∧ p ≠ d) ∧
    ∃ ts : List (Nat × Nat), h' p = some (.lst (ts.map tieV)) ∧ (∀ t ∈ ts, TieOk N t) ∧ ts.length ≤ m) ?_ (fun i hi ρ h' K inv hK => ?_) (fun ρ h' inv => ?_)
  · exact ⟨p3, none, rfl, k4, m3, [], g4, fun _ ht => (nomatch ht), by simp⟩
  · obtain ⟨p, o1, rfl, kd, mp, ts, g, tok, tl⟩ := inv
    simp_arith only [ir__law_web2_L4, g, ix_at (g), tru_at (g), len_at (g), list_at (g), in_at (g), set_at (g), ty_at (g)]
    split
    · rename_i c
      have c : (ts.length : Int) + N - 1 ≤ m := by simpa using c
      obtain ⟨dx5, ed5, dk5⟩ := kd.d
      simp_arith only [ir__law_web2_L5]
      refine ⟨d, dx5, N, rfl, ed5, dk5, by omega, fun ts' p' tok' tl' rg' np' h6 dx6 e6 dk6 f6 => ?_⟩
      have k6 : Dk h d h6 := (kd.sub (Sub.rfl'.new np')).step e6 dk6 f6
      have mp' := kd.nn np'
      have npp : p ≠ p' := fun e => by subst e; rw [g] at np'; cases np'
      have g6 : h6 p = _ := (f6 _ mp.2).trans ((put_ne npp).trans g)
      have g6' : h6 p' = _ := (f6 _ mp'.2).trans put_same
      simp_arith only [g6, g6']
      refine ⟨by rw [sizeLine_eq]; omega, newL_in fun p7 h7 s7 np7 e7 => hK _ _ ⟨p7, _, rfl, k6.sub s7, k6.nn np7, ts ++ ts', by rw [e7, List.map_append], ?_, by rw [List.length_append]; omega⟩ trivial⟩
      intro t ht
      rcases List.mem_append.mp ht with ht | ht
      · exact tok t ht
      · exact tok' t ht
    · exact hK _ _ ⟨p, _, rfl, kd, mp, ts, g, tok, tl⟩ trivial
  · obtain ⟨p, o1, rfl, kd, mp, ts, g, tok, tl⟩ := inv
    obtain ⟨dx5, ed5, dk5⟩ := kd.d
    simp_arith only [ir__law_web2_L6]
    refine ⟨d, dx5, rfl, ed5, dk5, fun u hu h6 dx6 e6 dk6 f6 => ?_⟩
    have k6 : Dk h d h6 := kd.step e6 dk6 f6
    have g6 : h6 p = _ := (f6 _ mp.2).trans g
    obtain ⟨v, ev, hv⟩ : ∃ v : Nat, (u : Int) % ((m : Int) - (ts.length : Nat) + 1) = v ∧ v ≤ m - ts.length := by
      have c1 : 0 ≤ (u : Int) % ((m : Int) - (ts.length : Nat) + 1) := Int.emod_nonneg _ (by omega)
      have c2 : (u : Int) % ((m : Int) - (ts.length : Nat) + 1) < ((m : Int) - (ts.length : Nat) + 1) := Int.emod_lt_of_pos _ (by omega)
      exact ⟨((u : Int) % ((m : Int) - (ts.length : Nat) + 1)).toNat, by omega, by omega⟩
    simp_arith only [g6, ix_at (g6), tru_at (g6), len_at (g6), list_at (g6), in_at (g6), set_at (g6), ty_at (g6), ev]
    refine ⟨by omega, d, dx6, N, v, rfl, e6, dk6, hN1, by omega, by omega, fun ts' p' tok' tl' np' h7 dx7 e7 dk7 f7 => ?_⟩
    have k7 : Dk h d h7 := (k6.sub (Sub.rfl'.new np')).step e7 dk7 f7
    have mp' := k6.nn np'
    have npp : p ≠ p' := fun e => by subst e; rw [g6] at np'; cases np'
    have g7 : h7 p = _ := (f7 _ mp.2).trans ((put_ne npp).trans g6)
    have g7' : h7 p' = _ := (f7 _ mp'.2).trans put_same
    simp_arith only [g7, g7']
    refine ⟨by rw [sizeLine_eq]; omega, newL_in fun p8 h8 s8 np8 e8 => ?_⟩
    have k8 := k7.sub s8
    have m8 := k7.nn np8
    obtain ⟨dx8, ed8, dk8⟩ := k8.d
    simp_arith only [ir__law_web2_L7]
    rw [← List.map_append] at e8
    refine ⟨d, p8, _, dx8, rfl, m8.2.symm, ed8, dk8, e8, by rw [List.length_map, List.length_append]; omega, okDs_mem.mpr ?_, fun ys p9 pm np9 h9 dx9 e9 dk9 f9 => ?_⟩
    · intro v hv
      obtain ⟨t, -, rfl⟩ := List.mem_map.mp hv
      rfl
    · have k9 : Dk h d h9 := (k8.sub (Sub.rfl'.new np9)).step e9 dk9 f9
      have m9 := k8.nn np9
      have g9 : h9 p9 = _ := (f9 _ m9.2).trans put_same
      obtain ⟨us, rfl, pu⟩ := perm_map _ pm
      simp_arith only [g9]
      refine ⟨by rw [sizeLine_eq]; omega, ret_dk k9 (q N us hN2 ⟨hN1, fun t ht => ?_⟩ ?_)⟩
      · rcases List.mem_append.mp (pu.subset ht) with ht | ht
        · exact tok t ht
        · exact tok' t ht
      · rw [pu.length_eq, List.length_append]; omega
end F2
set_option Elab.async false
set_option linter.all false
set_option maxRecDepth 100000
set_option maxHeartbeats 4000000
namespace F2
local macro_rules | `(tactic| simp_arith only [$xs,*] $[$loc:location]?) => `(tactic| simp only [$xs,*, rdSs, rdS, rdX, rdHs, bndA, clrA, isE_non, rdE, rdT, rdEs, rdP, rdR, rdC, rdI, bnd, bnds, bin_add, bin_mul, bin_sub, bin_div, bin_mod, bin_pow, bin_shr, bin_shl, bin_and, cmp_eq, cmp_ne, cmp_lt, cmp_le, cmp_gt, cmp_ge, cmp_is, cmp_isn, cmp_in, cmp_nin, aAdd_int, aAdd_str, aAdd_tup, aAdd_ref, aMul_int, aMul_tup, aMul_ref, aInt1_int, aBool_bl, aIx_tup, aSl_tup, aSl_fls, aSl_ref, aTru_bl, aTru_int, aTru_non, aTru_tup, aSeq_tup, aSeq_ref, len_tup, len_fls, list_tup, list_fls, tuple_tup, tuple_ref, int_int, int_bl, bool_int, bool_bl, max_tup, max_ref, min_tup, min_ref, sum_tup, sum_ref, sorted_ref, sortD_ref, sortS_ref, sortP_ref, sortP_tup, ssetT_tup, sortR_ref, sumL_ref, inD_ref, gtT_tup, strD_tup, strD_ref, srtR_ref, stp_ref, stp_fls, sorted_tup, rsl_tup, all_ref, a2_int, aIn_tup, aIs_non, aIs_bl, app_ref, ext_ref, pop_ref, popAt_ref, isL_ref, isLT_ref, isLT_tup, isT_tup, rem_ref, ins_ref, rvs_ref, fld_ref, setF_ref, isC_ref, Ob.ins.injEq, lset_ref, lset_tup, sset_ref, sset_tup, dct1_int, dct1_str, dctL_ref, ty_non, ty_bl, ty_int, ty_str, ty_tup, aEq_int, aEq_bl, aEq_bi, aEq_ib, aEq_nn, aEq_ni, aEq_in, startA, List.map_cons, List.map_nil, List.length_cons, List.length_nil, List.length_map, List.replicate, List.cons_append, List.nil_append, gv_zero, gv_succ, List.set_cons_zero, List.set_cons_succ, wipeA_nil, wipeA_cons, Nat.reduceAdd, Nat.reduceSub, if_true, if_false, Option.some.injEq, Ob.lst.injEq, Va.int.injEq, exists_eq_left', exists_eq_left, exists_and_left, reduceCtorEq, false_and, and_false, exists_false, exists_const, or_false, false_or, true_and, and_true, Bool.false_eq_true, Bool.not_true, Bool.not_false, put_same, atI_0, atI_1, atI_2, atI_3, sub_NoneType_int, sub_NoneType_bool, sub_NoneType_tuple, sub_NoneType_str, sub_NoneType_list, sub_NoneType_dict, sub_bool_int, sub_bool_bool, sub_bool_tuple, sub_bool_str, sub_bool_list, sub_bool_dict, sub_int_int, sub_int_bool, sub_int_tuple, sub_int_str, sub_int_list, sub_int_dict, sub_str_int, sub_str_bool, sub_str_tuple, sub_str_str, sub_str_list, sub_str_dict, sub_tuple_int, sub_tuple_bool, sub_tuple_tuple, sub_tuple_str, sub_tuple_list, sub_tuple_dict, sub_list_int, sub_list_bool, sub_list_tuple, sub_list_str, sub_list_list, sub_list_dict, sub_dict_int, sub_dict_bool, sub_dict_tuple, sub_dict_str, sub_dict_list, sub_dict_dict] $[$loc:location]?)
open PySem PySem.Spec PyProof.Rows
open L2
def webT (n : Nat) (ts : List (Nat × Nat)) : Str := Txt.join "\n" (ptsT n :: ts.map tieT) ++ "\n"
theorem str_intX {i : Int} {h : Ah} {Q : KA} : a1 .str (.int i) h Q = (i.natAbs.log2 < 1920 ∧ Q (.str (toString i)) h) := rfl
theorem log_smallX {i : Nat} (h : i < 2 ^ 20) : (i : Int).natAbs.log2 < 1920 := by
  rcases Nat.eq_zero_or_pos i with z | z
  · rw [z]; decide
  · have : (i : Int).natAbs.log2 < 20 := (Nat.log2_lt (by omega)).mpr (by omega)
    omega
theorem app_lenX (a b : Str) : (a ++ b : Str).length = a.length + b.length := by
  have := congrArg List.length (TL.tl_append a b)
  rw [List.length_append, ← TL.len_tl, ← TL.len_tl, ← TL.len_tl] at this
  exact this
theorem numT_len {n : Nat} (h : n < 1000) : (numT n).length ≤ 3 := (numT_ok h).l3
def WebS (n : Nat) (ts : List (Nat × Nat)) : Prop := n < 1000 ∧ ts.length ≤ 1000 ∧ ∀ t ∈ ts, t.1 < 1000 ∧ t.2 < 1000
theorem ptsT_len {n : Nat} (h : n < 1000) : (ptsT n).length ≤ 20 := by
  unfold ptsT
  rw [app_lenX]
  have := numT_len h
  have : (Str.ofString "points ").length = 7 := by decide +kernel
  omega
theorem tieT_len {t : Nat × Nat} (h : t.1 < 1000 ∧ t.2 < 1000) : (tieT t).length ≤ 20 := by
  unfold tieT
  rw [app_lenX, app_lenX, app_lenX]
  have := numT_len h.1
  have := numT_len h.2
  have : (Str.ofString "tie ").length = 4 := by decide +kernel
  have : (Str.ofString " ").length = 1 := by decide +kernel
  omega
theorem sum_lenX {parts : List Str} {m : Nat} (h : ∀ p ∈ parts, p.length ≤ m) : (parts.map (·.length)).sum ≤ parts.length * m := by
  induction parts with
  | nil => simp
  | cons p r ih =>
    have h1 := h p List.mem_cons_self
    have h2 := ih fun q hq => h q (List.mem_cons_of_mem _ hq)
    rw [List.map_cons, List.sum_cons, List.length_cons, Nat.succ_mul]
    omega
theorem joinL_len {y : List Nat} : ∀ {ps : List (List Nat)}, (TL.joinL y ps).length ≤ (ps.map List.length).sum + ps.length * y.length
  | [] => by simp [TL.joinL]
  | [p] => by simp [TL.joinL]
  | p :: q :: r => by
    have := joinL_len (y := y) (ps := q :: r)
    show (p ++ (y ++ TL.joinL y (q :: r))).length ≤ _
    rw [List.length_append, List.length_append, List.map_cons, List.sum_cons, List.length_cons, Nat.succ_mul]
    omega
theorem join_lenX {y : Str} {parts : List Str} : (Txt.join y parts).length ≤ (parts.map (·.length)).sum + parts.length * y.length := by
  rw [TL.join_eq, TL.len_tl, TL.tl_join]
  have := joinL_len (y := TL.tl y) (ps := parts.map TL.tl)
  rw [List.map_map, List.length_map, ← TL.len_tl] at this
  have e : (List.length ∘ TL.tl) = fun x : Str => x.length := by funext x; exact (TL.len_tl x).symm
  rw [e] at this
  exact this
theorem web_parts {n : Nat} {ts : List (Nat × Nat)} (W : WebS n ts) : ∀ p ∈ ptsT n :: ts.map tieT, p.length ≤ 20 := fun p hp => by
  rcases List.mem_cons.mp hp with rfl | hp
  · exact ptsT_len W.1
  · obtain ⟨t, ht, rfl⟩ := List.mem_map.mp hp
    exact tieT_len (W.2.2 t ht)
def sp_web_text : ASp := fun avs h Q => ∃ (n : Nat) (ts : List (Nat × Nat)), avs = [webV n ts] ∧ WebS n ts ∧ ∀ h', Sub h h' → Q (.str (webT n ts)) h'
def nm_web_text : List Str := ["web", "points", "ties", "lines", "a", "b"]
def ir_web_text_L5 : Ss := .cons (.ret (.bin .Add (.sm .join (.str "\n") (.var 3)) (.str "\n"))) .nil
def ir_web_text_L4 : Ss := .cons (.ex (.app (.var 3) (.bin .Add (.bin .Add (.bin .Add (.str "tie ") (.b1 .str (.var 4))) (.str " ")) (.b1 .str (.var 5))))) .nil
def ir_web_text_L3 : Ss := .cons (.for_ (.tp (.cons (.nm 4) (.cons (.nm 5) .nil))) (.seq (.var 2)) ir_web_text_L4) ir_web_text_L5
def ir_web_text_L2 : Ss := .cons (.asg (.nm 3) (.lst (.cons (.bin .Add (.str "points ") (.b1 .str (.var 1))) .nil))) ir_web_text_L3
def ir_web_text : Ss := .cons (.asg (.tp (.cons (.nm 1) (.cons (.nm 2) .nil))) (.var 0)) ir_web_text_L2
theorem fa_web_text : FnA 1 6 sp_web_text ir_web_text := by
  rintro avs h Q ⟨n, ts, rfl, ⟨hn, hz, hts⟩, q⟩
  refine ⟨rfl, ?_⟩
  simp_arith only [ir_web_text, webV]
  simp_arith only [ir_web_text_L2, str_intX]
  refine ⟨log_smallX (by omega), ?_⟩
  have p0 := ptsT_len hn
  have n3 := numT_len hn
  have pl : (Str.ofString "points ").length = 7 := by decide +kernel
  refine ⟨sz (by show _ + (numT n).length ≤ _; omega), sz (by omega), newL_in fun pf h1 s1 n1 e1 => ?_⟩
  simp_arith only [ir_web_text_L3]
  refine loop_enc tieV (fun i ρ h' => (∃ o4 o5, ρ = [some (.tup [.int n, .tup (ts.map tieV)]), some (.int n), some (.tup (ts.map tieV)), some (.ref pf), o4, o5]) ∧ Sub h h' ∧ h' pf = some (.lst ((ptsT n :: (ts.take i).map tieT).map Va.str))) ts ⟨⟨_, _, rfl⟩, s1, e1⟩ (fun i hi ρ h2 K inv hK => ?_) (fun ρ h2 inv => ?_)
  · obtain ⟨⟨o4, o5, rfl⟩, S2, e2⟩ := inv
    have tk : ts.take (i + 1) = ts.take i ++ [ts[i]] := by rw [List.take_add_one, List.getElem?_eq_getElem hi]; rfl
    have ht := hts _ (List.getElem_mem hi)
    rw [tk] at hK
    generalize ts[i] = t at *
    have t1 := numT_len ht.1
    have t2 := numT_len ht.2
    have tl : (Str.ofString "tie ").length = 4 := by decide +kernel
    have ol : (Str.ofString " ").length = 1 := by decide +kernel
    simp_arith only [tieV]
    simp_arith only [ir_web_text_L4, str_intX, e2]
    refine ⟨⟨_, rfl⟩, log_smallX (by omega), sz (by show _ + (numT t.1).length ≤ _; omega), ?_⟩
    have l1 : (Str.ofString "tie " ++ numT t.1).length ≤ 7 := by rw [app_lenX]; omega
    have l2 : (Str.ofString "tie " ++ numT t.1 ++ Str.ofString " ").length ≤ 8 := by rw [app_lenX]; omega
    refine ⟨sz (by show (Str.ofString "tie " ++ numT t.1).length + _ ≤ _; omega), log_smallX (by omega), sz (by show (Str.ofString "tie " ++ numT t.1 ++ Str.ofString " ").length + (numT t.2).length ≤ _; omega), sz' (by rw [List.length_take]; omega), fun h3 e3 f3 => ?_⟩
    refine hK _ _ ⟨⟨_, _, rfl⟩, fun b o e => ?_, ?_⟩ trivial
    · rw [f3 b (fun z => by rw [z, n1] at e; cases e)]
      exact S2 _ _ e
    · rw [e3]
      simp only [List.map_append, List.map_cons, List.map_nil, List.cons_append]
      rfl
  · obtain ⟨⟨o4, o5, rfl⟩, S2, e2⟩ := inv
    rw [List.take_length] at e2
    simp_arith only [ir_web_text_L5, isS_str, sm_join]
    have W : WebS n ts := ⟨hn, hz, hts⟩
    have sm := sum_lenX (web_parts W)
    have nl : (Str.ofString "\n").length = 1 := by decide +kernel
    have jl := join_lenX (y := "\n") (parts := ptsT n :: ts.map tieT)
    rw [nl] at jl
    simp only [List.length_cons, List.length_map] at sm jl
    refine ⟨ptsT n :: ts.map tieT, e2, by rw [nl, List.length_cons, List.length_map]; omega, sz (by omega), ret_of (q _ S2)⟩
end F2
set_option Elab.async false
set_option linter.all false
set_option maxRecDepth 100000
set_option maxHeartbeats 4000000
namespace F2
local macro_rules | `(tactic| simp_arith only [$xs,*] $[$loc:location]?) => `(tactic| simp only [$xs,*, rdSs, rdS, rdX, rdHs, bndA, clrA, isE_non, rdE, rdT, rdEs, rdP, rdR, rdC, rdI, bnd, bnds, bin_add, bin_mul, bin_sub, bin_div, bin_mod, bin_pow, bin_shr, bin_shl, bin_and, cmp_eq, cmp_ne, cmp_lt, cmp_le, cmp_gt, cmp_ge, cmp_is, cmp_isn, cmp_in, cmp_nin, aAdd_int, aAdd_str, aAdd_tup, aAdd_ref, aMul_int, aMul_tup, aMul_ref, aInt1_int, aBool_bl, aIx_tup, aSl_tup, aSl_fls, aSl_ref, aTru_bl, aTru_int, aTru_non, aTru_tup, aSeq_tup, aSeq_ref, len_tup, len_fls, list_tup, list_fls, tuple_tup, tuple_ref, int_int, int_bl, bool_int, bool_bl, max_tup, max_ref, min_tup, min_ref, sum_tup, sum_ref, sorted_ref, sortD_ref, sortS_ref, sortP_ref, sortP_tup, ssetT_tup, sortR_ref, sumL_ref, inD_ref, gtT_tup, strD_tup, strD_ref, srtR_ref, stp_ref, stp_fls, sorted_tup, rsl_tup, all_ref, a2_int, aIn_tup, aIs_non, aIs_bl, app_ref, ext_ref, pop_ref, popAt_ref, isL_ref, isLT_ref, isLT_tup, isT_tup, rem_ref, ins_ref, rvs_ref, fld_ref, setF_ref, isC_ref, Ob.ins.injEq, lset_ref, lset_tup, sset_ref, sset_tup, dct1_int, dct1_str, dctL_ref, ty_non, ty_bl, ty_int, ty_str, ty_tup, aEq_int, aEq_bl, aEq_bi, aEq_ib, aEq_nn, aEq_ni, aEq_in, startA, List.map_cons, List.map_nil, List.length_cons, List.length_nil, List.length_map, List.replicate, List.cons_append, List.nil_append, gv_zero, gv_succ, List.set_cons_zero, List.set_cons_succ, wipeA_nil, wipeA_cons, Nat.reduceAdd, Nat.reduceSub, if_true, if_false, Option.some.injEq, Ob.lst.injEq, Va.int.injEq, exists_eq_left', exists_eq_left, exists_and_left, reduceCtorEq, false_and, and_false, exists_false, exists_const, or_false, false_or, true_and, and_true, Bool.false_eq_true, Bool.not_true, Bool.not_false, put_same, atI_0, atI_1, atI_2, atI_3, sub_NoneType_int, sub_NoneType_bool, sub_NoneType_tuple, sub_NoneType_str, sub_NoneType_list, sub_NoneType_dict, sub_bool_int, sub_bool_bool, sub_bool_tuple, sub_bool_str, sub_bool_list, sub_bool_dict, sub_int_int, sub_int_bool, sub_int_tuple, sub_int_str, sub_int_list, sub_int_dict, sub_str_int, sub_str_bool, sub_str_tuple, sub_str_str, sub_str_list, sub_str_dict, sub_tuple_int, sub_tuple_bool, sub_tuple_tuple, sub_tuple_str, sub_tuple_list, sub_tuple_dict, sub_list_int, sub_list_bool, sub_list_tuple, sub_list_str, sub_list_list, sub_list_dict, sub_dict_int, sub_dict_bool, sub_dict_tuple, sub_dict_str, sub_dict_list, sub_dict_dict] $[$loc:location]?)
open PySem PySem.Spec PyProof.Rows
open L2
theorem sl_strX {z : Str} {lo hi : Option Int} {h : Ah} {Q : KA} : aSl (.str z) lo hi h Q = (z.length ≤ sizeLine ∧ Q (.str (cutS z lo hi)) h) := rfl
def sp_lines_of : ASp := fun avs h Q => ∃ parts : List Str, avs = [.str (Txt.join "\n" parts ++ "\n")] ∧ parts ≠ [] ∧ (∀ p ∈ parts, 10 ∉ TL.tl p) ∧ (Txt.join "\n" parts).length ≤ 100000 ∧ ∀ p h', Sub h h' → h p = none → h' p = some (.lst (parts.map Va.str)) → Q (.ref p) h'
def nm_lines_of : List Str := ["thing"]
def ir_lines_of_L3 : Ss := .cons (.ret (.sm .split (.sl (.var 0) .no (.at (.neg (.int 1)))) (.str "\n"))) .nil
def ir_lines_of_L2 : Ss := .cons .never .nil
def ir_lines_of : Ss := .cons (.ite (.or (.not (.isi (.var 0) "str")) (.not (.sm .edw (.var 0) (.str "\n")))) ir_lines_of_L2 .nil) ir_lines_of_L3
theorem fa_lines_of : FnA 1 1 sp_lines_of ir_lines_of := by
  rintro avs h Q ⟨parts, rfl, ne, np, hz, q⟩
  refine ⟨rfl, ?_⟩
  have nl : (Str.ofString "\n").length = 1 := by decide +kernel
  simp_arith only [ir_lines_of, isS_str, sm_edw, ends_snoc]
  try simp_arith only [rdSs]
  simp_arith only [ir_lines_of_L3, sl_strX]
  refine ⟨sz (by rw [app_lenX, nl]; omega), ?_⟩
  rw [cut_snoc, isS_str, sm_split, split_lines ne np]
  refine ⟨trivial, by rw [nl]; rfl, sz (by omega), newL_in fun p h1 s1 n1 e1 => ret_of (q p h1 s1 n1 e1)⟩
theorem numT_no {n c : Nat} (h : n < 1000) (hc : c < 48) : c ∉ TL.tl (numT n) := fun z => by have := (numT_ok h).dg c z; omega
theorem numT_ok1 {n : Nat} (h : n < 1000) : PyData.strOk (numT n) = true := strOk_of fun c hc => by have := (numT_ok h).dg c hc; omega
def sp_words_of : ASp := fun avs h Q => ∃ (hd : Str) (ns : List Nat), avs = [.str (Txt.join " " (hd :: ns.map numT)), .str hd, .int ns.length] ∧ 32 ∉ TL.tl hd ∧ PyData.strOk hd = true ∧ hd.length ≤ 10 ∧ (∀ n ∈ ns, n < 1000) ∧ ns.length ≤ 2 ∧ ∀ h', Sub h h' → Q (lotV ns) h'
def nm_words_of : List Str := ["line", "head", "many", "words", "found", "word"]
def ir_words_of_L5 : Ss := .cons (.ret (.var 4)) .nil
def ir_words_of_L4 : Ss := .cons .never .nil
def ir_words_of_L3 : Ss := .cons (.ite (.or (.cmp .NotEq (.ix (.var 3) (.int 0)) (.var 1)) (.or (.cmp .NotEq (.b1 .len (.var 4)) (.var 2)) (.cmp .In .non (.var 4)))) ir_words_of_L4 .nil) ir_words_of_L5
def ir_words_of_L2 : Ss := .cons (.asg (.nm 4) (.b1 .tuple (.comp [("word", 5)] (.call "number_of" sp_number_of (.cons (.var 5) .nil)) (.nm 5) (.seq (.sl (.var 3) (.at (.int 1)) .no)) .no))) ir_words_of_L3
def ir_words_of : Ss := .cons (.asg (.nm 3) (.sm .split (.var 0) (.str " "))) ir_words_of_L2
theorem fa_words_of : FnA 3 6 sp_words_of ir_words_of := by
  rintro avs h Q ⟨hd, ns, rfl, h32, ho, hl, hns, hn2, q⟩
  refine ⟨rfl, ?_⟩
  simp_arith only [ir_words_of, isS_str, sm_split]
  have sp : (Str.ofString " ").length = 1 := by decide +kernel
  have np : ∀ p ∈ hd :: ns.map numT, 32 ∉ TL.tl p := fun p hp => by
    rcases List.mem_cons.mp hp with rfl | hp
    · exact h32
    · obtain ⟨n, hn, rfl⟩ := List.mem_map.mp hp
      exact numT_no (hns n hn) (by decide)
  have jl := join_lenX (y := " ") (parts := hd :: ns.map numT)
  have sm := sum_lenX (parts := hd :: ns.map numT) (m := 10) fun p hp => by
    rcases List.mem_cons.mp hp with rfl | hp
    · exact hl
    · obtain ⟨n, hn, rfl⟩ := List.mem_map.mp hp
      have := numT_len (hns n hn); omega
  rw [sp] at jl
  simp only [List.length_cons, List.length_map] at jl sm
  rw [split_words (by simp) np]
  refine ⟨by rw [sp]; rfl, sz (by omega), newL_in fun p1 h1 s1 n1 e1 => ?_⟩
  simp_arith only [ir_words_of_L2, e1]
  have cf : cutA (Va.str hd :: List.map Va.str (List.map numT ns)) (some 1) none = (ns.map fun n => Va.str (numT n)) := by
    rw [List.map_map]
    exact cutA_from (xs := Va.str hd :: List.map (Va.str ∘ numT) ns) (k := 1)
  rw [cf]
  refine newL_in fun p2 h2 s2 n2 e2 => ?_
  simp_arith only [e2]
  refine ⟨sz (by omega), ?_⟩
  refine comps_map (fun n => Va.str (numT n)) nV e2 ns (fun n hn K hK => ⟨n, rfl, hns n hn, hK⟩) ?_
  refine newL_in fun p3 h3 s3 n3 e3 => ?_
  have e1' := s3 _ _ (s2 _ _ e1)
  simp_arith only [e3]
  simp_arith only [ir_words_of_L3, e1', ix_at (e1'), tru_at (e1'), len_at (e1'), list_at (e1'), in_at (e1'), set_at (e1'), ty_at (e1'), List.map_cons, atI_0]
  have nn : inA .non (ns.map nV) = false := by
    unfold inA
    rw [List.any_map, List.any_eq_false]
    intro x _ z
    cases z
  rw [aEq_strX ho ho, beq_self_eq_true]
  try simp_arith only [rdSs]
  rw [beq_self_eq_true]
  try simp_arith only [rdSs]
  refine ⟨rfl, flats_lot _, ?_⟩
  rw [nn]
  try simp_arith only [rdSs]
  simp_arith only [ir_words_of_L5]
  exact ret_of (q h3 ((s1.trans s2).trans s3))
theorem tieT_words (t : Nat × Nat) : tieT t = Txt.join " " ("tie" :: [t.1, t.2].map numT) := tieT_join t
theorem ptsT_words (n : Nat) : ptsT n = Txt.join " " ("points" :: [n].map numT) := by
  rw [TL.join_eq]
  refine TL.ext_tl ?_
  unfold ptsT
  rw [TL.tl_append, TL.tl_join]
  simp only [TL.joinL, List.map_cons, List.map_nil]
  rw [show TL.tl (Str.ofString "points ") = TL.tl (Str.ofString "points") ++ TL.tl (Str.ofString " ") by decide +kernel]
  simp only [List.append_assoc]
theorem part_no {n : Nat} {ts : List (Nat × Nat)} (W : WebS n ts) : ∀ p ∈ ptsT n :: ts.map tieT, 10 ∉ TL.tl p := fun p hp => by
  rcases List.mem_cons.mp hp with rfl | hp
  · unfold ptsT
    rw [TL.tl_append, List.mem_append]
    rintro (z | z)
    · revert z; decide +kernel
    · exact numT_no W.1 (by decide) z
  · obtain ⟨t, ht, rfl⟩ := List.mem_map.mp hp
    have := W.2.2 t ht
    unfold tieT
    rw [TL.tl_append, TL.tl_append, TL.tl_append, List.mem_append, List.mem_append, List.mem_append]
    rintro (((z | z) | z) | z)
    · revert z; decide +kernel
    · exact numT_no this.1 (by decide) z
    · revert z; decide +kernel
    · exact numT_no this.2 (by decide) z
theorem webT_len {n : Nat} {ts : List (Nat × Nat)} (W : WebS n ts) : (Txt.join "\n" (ptsT n :: ts.map tieT)).length ≤ 30000 := by
  have sm := sum_lenX (web_parts W)
  have nl : (Str.ofString "\n").length = 1 := by decide +kernel
  have jl := join_lenX (y := "\n") (parts := ptsT n :: ts.map tieT)
  rw [nl] at jl
  have := W.2.1
  simp only [List.length_cons, List.length_map] at sm jl
  omega
theorem tl_lt {s : Str} (h : ∀ c ∈ TL.tl s, c < 0x110000) : PyData.strOk s = true := strOk_of h
theorem joinL_all {P : Nat → Prop} {S : List Nat} (hS : ∀ c ∈ S, P c) : ∀ {ps : List (List Nat)}, (∀ p ∈ ps, ∀ c ∈ p, P c) → ∀ c ∈ TL.joinL S ps, P c
  | [], _, c, hc => by cases hc
  | [p], h, c, hc => h p (by simp) c hc
  | p :: q :: r, h, c, hc => by
    have hc : c ∈ p ++ (S ++ TL.joinL S (q :: r)) := hc
    rw [List.mem_append, List.mem_append] at hc
    rcases hc with hc | hc | hc
    · exact h p (by simp) c hc
    · exact hS c hc
    · exact joinL_all hS (fun x hx => h x (List.mem_cons_of_mem _ hx)) c hc
theorem ascii_numT {n : Nat} (h : n < 1000) : ∀ c ∈ TL.tl (numT n), c < 128 := fun c hc => by have := (numT_ok h).dg c hc; omega
theorem webT_ok {n : Nat} {ts : List (Nat × Nat)} (W : WebS n ts) : PyData.strOk (webT n ts) = true := tl_lt fun c hc => by
  have : c < 128 := by
    unfold webT at hc
    rw [TL.tl_append, List.mem_append] at hc
    rcases hc with hc | hc
    · rw [TL.join_eq, TL.tl_join] at hc
      refine joinL_all (P := fun c => c < 128) (by decide +kernel) (fun p hp c hc => ?_) c hc
      obtain ⟨s, hs, rfl⟩ := List.mem_map.mp hp
      rcases List.mem_cons.mp hs with rfl | hs
      · unfold ptsT at hc
        rw [TL.tl_append, List.mem_append] at hc
        rcases hc with hc | hc
        · revert c; decide +kernel
        · exact ascii_numT W.1 c hc
      · obtain ⟨t, ht, rfl⟩ := List.mem_map.mp hs
        have := W.2.2 t ht
        unfold tieT at hc
        rw [TL.tl_append, TL.tl_append, TL.tl_append, List.mem_append, List.mem_append, List.mem_append] at hc
        rcases hc with ((hc | hc) | hc) | hc
        · revert c; decide +kernel
        · exact ascii_numT this.1 c hc
        · revert c; decide +kernel
        · exact ascii_numT this.2 c hc
    · revert c; decide +kernel
  omega
theorem isTie_okX {n : Nat} {t : Nat × Nat} (h : TieOk n t) : isTieB (tieV t) n = true := by
  unfold TieOk at h
  show (isIntB (.int t.1) 0 ((n : Int) - 1) && isIntB (.int t.2) ((t.1 : Int) + 1) ((n : Int) - 1)) = true
  unfold isIntB
  simp only [Bool.and_eq_true, decide_eq_true_eq]
  omega
theorem isWeb_okX {n : Nat} {ts : List (Nat × Nat)} (h1 : 1 ≤ n) (h2 : n ≤ 40) (h3 : ts.length ≤ 120) (ok : ∀ t ∈ ts, TieOk n t) : isWebB (webV n ts) = true := by
  show (isIntB (.int n) 1 40 && (decide ((ts.map tieV).length ≤ 120) && (ts.map tieV).all fun t => isTieB t n)) = true
  unfold isIntB
  rw [List.all_map, List.length_map]
  simp only [Bool.and_eq_true, decide_eq_true_eq, List.all_eq_true]
  exact ⟨by omega, h3, fun t ht => isTie_okX (ok t ht)⟩
theorem tyT_webX {h : Ah} {n : Nat} {ts : List (Nat × Nat)} : TyT h 3 (webV n ts) := TyT.of_b (by
  show ([Va.int (n : Nat), Va.tup (ts.map tieV)].all (tyD 2)) = true
  have : ((ts.map tieV).all (tyD 1)) = true := by
    rw [List.all_map]
    exact List.all_eq_true.mpr fun _ _ => rfl
  simp only [List.all_cons, List.all_nil, Bool.and_true, Bool.and_eq_true]
  exact ⟨rfl, this⟩)
def sp_read_web : ASp := fun avs h Q => ∃ (n : Nat) (ts : List (Nat × Nat)), avs = [.str (webT n ts)] ∧ 1 ≤ n ∧ n ≤ 40 ∧ ts.length ≤ 120 ∧ (∀ t ∈ ts, TieOk n t) ∧ ∀ h', Sub h h' → Q (webV n ts) h'
def nm_read_web : List Str := ["thing", "lines", "ties", "line", "web"]
def ir_read_web_L10 : Ss := .cons (.ret (.var 4)) .nil
def ir_read_web_L9 : Ss := .cons .never .nil
def ir_read_web_L8 : Ss := .cons (.ite (.cmp .NotEq (.call "web_text" sp_web_text (.cons (.var 4) .nil)) (.var 0)) ir_read_web_L9 .nil) ir_read_web_L10
def ir_read_web_L5 : Ss := .cons (.ex (.call "check" sp_check (.cons (.var 4) .nil))) .nil
def ir_read_web_L7 : Ss := .cons .never .nil
def ir_read_web_L4 : Ss := .cons (.try_ [] ir_read_web_L5 (.cons "NoWeb" none ir_read_web_L7 .nil)) ir_read_web_L8
def ir_read_web_L3 : Ss := .cons (.asg (.nm 4) (.tup (.cons (.ix (.call "words_of" sp_words_of (.cons (.ix (.var 1) (.int 0)) (.cons (.str "points") (.cons (.int 1) .nil)))) (.int 0)) (.cons (.var 2) .nil)))) ir_read_web_L4
def ir_read_web_L2 : Ss := .cons (.asg (.nm 2) (.b1 .tuple (.comp [("line", 3)] (.call "words_of" sp_words_of (.cons (.var 3) (.cons (.str "tie") (.cons (.int 2) .nil)))) (.nm 3) (.seq (.sl (.var 1) (.at (.int 1)) .no)) .no))) ir_read_web_L3
def ir_read_web : Ss := .cons (.asg (.nm 1) (.call "lines_of" sp_lines_of (.cons (.var 0) .nil))) ir_read_web_L2
theorem fa_read_web : FnA 1 5 sp_read_web ir_read_web := by
  rintro avs h Q ⟨n, ts, rfl, hn1, hn, hz, ok, q⟩
  refine ⟨rfl, ?_⟩
  have W : WebS n ts := ⟨by omega, by omega, fun t ht => by have := ok t ht; unfold TieOk at this; omega⟩
  have wl := webT_len W
  simp_arith only [ir_read_web]
  refine ⟨ptsT n :: ts.map tieT, rfl, by simp, part_no W, by omega, fun p1 h1 s1 n1 e1 => ?_⟩
  simp_arith only [ir_read_web_L2, e1]
  have cf : cutA (Va.str (ptsT n) :: List.map Va.str (List.map tieT ts)) (some 1) none = (ts.map fun t => Va.str (tieT t)) := by
    rw [List.map_map]
    exact cutA_from (xs := Va.str (ptsT n) :: List.map (Va.str ∘ tieT) ts) (k := 1)
  rw [cf]
  refine newL_in fun p2 h2 s2 n2 e2 => ?_
  simp_arith only [e2]
  refine ⟨sz (by omega), ?_⟩
  refine comps_sub (fun t => Va.str (tieT t)) (fun t => some (tieV t)) (fun h' s => s _ _ e2) ts [] h2 Sub.rfl' (fun t ht h3 K s3 hK => ?_) fun h3 s3 => ?_
  · have := W.2.2 t ht
    refine ⟨"tie", [t.1, t.2], by rw [← tieT_words]; rfl, by decide +kernel, by decide +kernel, by decide +kernel, fun x hx => by simp at hx; rcases hx with rfl | rfl <;> omega, by simp, fun h4 s4 => hK h4 (s3.trans s4)⟩
  rw [List.nil_append, show ts.filterMap (fun t => some (tieV t)) = ts.map tieV by rw [List.filterMap_eq_map']]
  refine newL_in fun p4 h4 s4 n4 e4 => ?_
  have e14 := s4 _ _ (s3 _ _ (s2 _ _ e1))
  simp_arith only [e4]
  simp_arith only [ir_read_web_L3, e14, ix_at (e14), tru_at (e14), len_at (e14), list_at (e14), in_at (e14), set_at (e14), ty_at (e14), List.map_cons, atI_0]
  refine ⟨"points", [n], by rw [← ptsT_words]; rfl, by decide +kernel, by decide +kernel, by decide +kernel, fun x hx => by simp at hx; omega, by simp, fun h5 s5 => ?_⟩
  simp_arith only [lotV, List.map_cons, List.map_nil]
  refine ⟨sz (by decide), ?_⟩
  have wv : Va.tup [nV n, .tup (ts.map tieV)] = webV n ts := rfl
  rw [wv]
  simp_arith only [ir_read_web_L4, ir_read_web_L5]
  refine ⟨webV n ts, rfl, tyT_webX, isWeb_okX hn1 hn hz ok, ?_⟩
  try simp_arith only [rdSs]
  simp_arith only [ir_read_web_L8]
  refine ⟨n, ts, rfl, W, fun h6 s6 => ?_⟩
  dsimp only
  rw [aEq_strX (webT_ok W) (webT_ok W), beq_self_eq_true]
  try simp_arith only [rdSs]
  simp_arith only [ir_read_web_L10]
  exact ret_of (q h6 ((s1.trans s2).trans (s3.trans (s4.trans (s5.trans s6)))))
end F2
set_option Elab.async false
set_option linter.all false
set_option maxRecDepth 100000
set_option maxHeartbeats 4000000
namespace F2
local macro_rules | `(tactic| simp_arith only [$xs,*] $[$loc:location]?) => `(tactic| simp only [$xs,*, rdSs, rdS, rdX, rdHs, bndA, clrA, isE_non, rdE, rdT, rdEs, rdP, rdR, rdC, rdI, bnd, bnds, bin_add, bin_mul, bin_sub, bin_div, bin_mod, bin_pow, bin_shr, bin_shl, bin_and, cmp_eq, cmp_ne, cmp_lt, cmp_le, cmp_gt, cmp_ge, cmp_is, cmp_isn, cmp_in, cmp_nin, aAdd_int, aAdd_str, aAdd_tup, aAdd_ref, aMul_int, aMul_tup, aMul_ref, aInt1_int, aBool_bl, aIx_tup, aSl_tup, aSl_fls, aSl_ref, aTru_bl, aTru_int, aTru_non, aTru_tup, aSeq_tup, aSeq_ref, len_tup, len_fls, list_tup, list_fls, tuple_tup, tuple_ref, int_int, int_bl, bool_int, bool_bl, max_tup, max_ref, min_tup, min_ref, sum_tup, sum_ref, sorted_ref, sortD_ref, sortS_ref, sortP_ref, sortP_tup, ssetT_tup, sortR_ref, sumL_ref, inD_ref, gtT_tup, strD_tup, strD_ref, srtR_ref, stp_ref, stp_fls, sorted_tup, rsl_tup, all_ref, a2_int, aIn_tup, aIs_non, aIs_bl, app_ref, ext_ref, pop_ref, popAt_ref, isL_ref, isLT_ref, isLT_tup, isT_tup, rem_ref, ins_ref, rvs_ref, fld_ref, setF_ref, isC_ref, Ob.ins.injEq, lset_ref, lset_tup, sset_ref, sset_tup, dct1_int, dct1_str, dctL_ref, ty_non, ty_bl, ty_int, ty_str, ty_tup, aEq_int, aEq_bl, aEq_bi, aEq_ib, aEq_nn, aEq_ni, aEq_in, startA, List.map_cons, List.map_nil, List.length_cons, List.length_nil, List.length_map, List.replicate, List.cons_append, List.nil_append, gv_zero, gv_succ, List.set_cons_zero, List.set_cons_succ, wipeA_nil, wipeA_cons, Nat.reduceAdd, Nat.reduceSub, if_true, if_false, Option.some.injEq, Ob.lst.injEq, Va.int.injEq, exists_eq_left', exists_eq_left, exists_and_left, reduceCtorEq, false_and, and_false, exists_false, exists_const, or_false, false_or, true_and, and_true, Bool.false_eq_true, Bool.not_true, Bool.not_false, put_same, atI_0, atI_1, atI_2, atI_3, sub_NoneType_int, sub_NoneType_bool, sub_NoneType_tuple, sub_NoneType_str, sub_NoneType_list, sub_NoneType_dict, sub_bool_int, sub_bool_bool, sub_bool_tuple, sub_bool_str, sub_bool_list, sub_bool_dict, sub_int_int, sub_int_bool, sub_int_tuple, sub_int_str, sub_int_list, sub_int_dict, sub_str_int, sub_str_bool, sub_str_tuple, sub_str_str, sub_str_list, sub_str_dict, sub_tuple_int, sub_tuple_bool, sub_tuple_tuple, sub_tuple_str, sub_tuple_list, sub_tuple_dict, sub_list_int, sub_list_bool, sub_list_tuple, sub_list_str, sub_list_list, sub_list_dict, sub_dict_int, sub_dict_bool, sub_dict_tuple, sub_dict_str, sub_dict_list, sub_dict_dict] $[$loc:location]?)
open PySem PySem.Spec PyProof.Rows
open L2
def entT : Option Nat → Str
  | none => "-"
  | some f => numT f
def layT (es : List (Option Nat)) : Str := Txt.join " " (es.map entT) ++ "\n"
def LayS (es : List (Option Nat)) : Prop := es.length ≤ 120 ∧ ∀ f, some f ∈ es → f < 120
theorem entT_len {e : Option Nat} (h : ∀ f, e = some f → f < 120) : 1 ≤ (entT e).length ∧ (entT e).length ≤ 3 := by
  cases e with
  | none => decide +kernel
  | some f => have := numT_ok (n := f) (by have := h f rfl; omega); exact ⟨this.l1, this.l3⟩
theorem entT_code {e : Option Nat} (h : ∀ f, e = some f → f < 120) : ∀ c ∈ TL.tl (entT e), 45 ≤ c ∧ c < 128 := by
  cases e with
  | none => decide +kernel
  | some f => exact fun c hc => by have := (numT_ok (n := f) (by have := h f rfl; omega)).dg c hc; omega
theorem LayS.at {es : List (Option Nat)} (L : LayS es) {e : Option Nat} (he : e ∈ es) : ∀ f, e = some f → f < 120 := fun f z => L.2 f (z ▸ he)
theorem layT_len {es : List (Option Nat)} (L : LayS es) : ((es.map entT).map (·.length)).sum ≤ 360 ∧ (Txt.join " " (es.map entT)).length ≤ 600 := by
  have sm := sum_lenX (parts := es.map entT) (m := 3) fun p hp => by
    obtain ⟨e, he, rfl⟩ := List.mem_map.mp hp
    exact (entT_len (L.at he)).2
  have sp : (Str.ofString " ").length = 1 := by decide +kernel
  have jl := join_lenX (y := " ") (parts := es.map entT)
  rw [sp] at jl
  have := L.1
  rw [List.length_map] at sm jl
  omega
theorem layT_code {es : List (Option Nat)} (L : LayS es) : ∀ c ∈ TL.tl (Txt.join " " (es.map entT)), 32 ≤ c ∧ c < 128 := fun c hc => by
  rw [TL.join_eq, TL.tl_join] at hc
  refine joinL_all (P := fun c => 32 ≤ c ∧ c < 128) (by decide +kernel) (fun p hp c hc => ?_) c hc
  obtain ⟨s, hs, rfl⟩ := List.mem_map.mp hp
  obtain ⟨e, he, rfl⟩ := List.mem_map.mp hs
  have := entT_code (L.at he) c hc
  omega
theorem layT_ok {es : List (Option Nat)} (L : LayS es) : PyData.strOk (layT es) = true := tl_lt fun c hc => by
  unfold layT at hc
  rw [TL.tl_append, List.mem_append] at hc
  rcases hc with hc | hc
  · have := layT_code L c hc; omega
  · revert c; decide +kernel
def sp_laying_text : ASp := fun avs h Q => ∃ es : List (Option Nat), avs = [layV es] ∧ LayS es ∧ ∀ h', Sub h h' → Q (.str (layT es)) h'
def nm_laying_text : List Str := ["laying", "words", "forest"]
def ir_laying_text_L7 : Ss := .cons (.ret (.bin .Add (.sm .join (.str " ") (.var 1)) (.str "\n"))) .nil
def ir_laying_text_L4 : Ss := .cons (.ex (.app (.var 1) (.str "-"))) .nil
def ir_laying_text_L6 : Ss := .cons (.ex (.app (.var 1) (.b1 .str (.var 2)))) .nil
def ir_laying_text_L3 : Ss := .cons (.ite (.cmp .Is (.var 2) .non) ir_laying_text_L4 ir_laying_text_L6) .nil
def ir_laying_text_L2 : Ss := .cons (.for_ (.nm 2) (.seq (.var 0)) ir_laying_text_L3) ir_laying_text_L7
def ir_laying_text : Ss := .cons (.asg (.nm 1) (.lst .nil)) ir_laying_text_L2
theorem fa_laying_text : FnA 1 3 sp_laying_text ir_laying_text := by
  rintro avs h Q ⟨es, rfl, L, q⟩
  refine ⟨rfl, ?_⟩
  simp_arith only [ir_laying_text, layV]
  refine ⟨sz (by omega), newL_in fun pf h1 s1 n1 e1 => ?_⟩
  simp_arith only [ir_laying_text_L2]
  refine loop_enc entV (fun i ρ h' => (∃ o2, ρ = [some (.tup (es.map entV)), some (.ref pf), o2]) ∧ Sub h h' ∧ h' pf = some (.lst (((es.take i).map entT).map Va.str))) es ⟨⟨_, rfl⟩, s1, e1⟩ (fun i hi ρ h2 K inv hK => ?_) (fun ρ h2 inv => ?_)
  · obtain ⟨⟨o2, rfl⟩, S2, e2⟩ := inv
    have tk : es.take (i + 1) = es.take i ++ [es[i]] := by rw [List.take_add_one, List.getElem?_eq_getElem hi]; rfl
    have he := L.at (List.getElem_mem hi)
    have ll := L.1
    rw [tk] at hK
    generalize es[i] = e at *
    have fin : ∀ o h3, h3 pf = some (.lst (((es.take i).map entT).map Va.str ++ [Va.str (entT e)])) → (∀ b, b ≠ pf → h3 b = h2 b) → K [some (.tup (es.map entV)), some (.ref pf), o] h3 := fun o h3 e3 f3 => by
      refine hK _ _ ⟨⟨_, rfl⟩, fun b o e => ?_, by rw [e3]; simp only [List.map_append, List.map_cons, List.map_nil]⟩ trivial
      rw [f3 b (fun z => by rw [z, n1] at e; cases e)]
      exact S2 _ _ e
    cases e with
    | none =>
      simp_arith only [ir_laying_text_L3, entV]
      try simp_arith only [isNon]
      simp_arith only [ir_laying_text_L4, e2]
      exact ⟨⟨_, rfl⟩, sz' (by simp; omega), fun h3 e3 f3 => fin _ h3 e3 f3⟩
    | some f =>
      have := he f rfl
      simp_arith only [ir_laying_text_L3, entV]
      try simp_arith only [isNon]
      simp_arith only [ir_laying_text_L6, e2, str_intX]
      exact ⟨⟨_, rfl⟩, log_smallX (by omega), sz' (by simp; omega), fun h3 e3 f3 => fin _ h3 e3 f3⟩
  · obtain ⟨⟨o2, rfl⟩, S2, e2⟩ := inv
    rw [List.take_length] at e2
    obtain ⟨l1, l2⟩ := layT_len L
    have sp : (Str.ofString " ").length = 1 := by decide +kernel
    have nl : (Str.ofString "\n").length = 1 := by decide +kernel
    have := L.1
    simp_arith only [ir_laying_text_L7, isS_str, sm_join]
    exact ⟨es.map entT, e2, by rw [sp, List.length_map]; omega, sz (by omega), ret_of (q _ S2)⟩
def sp_entry_of : ASp := fun avs h Q => ∃ e : Option Nat, avs = [.str (entT e)] ∧ (∀ f, e = some f → f < 120) ∧ Q (entV e) h
def nm_entry_of : List Str := ["word", "found"]
def ir_entry_of_L6 : Ss := .cons (.ret (.var 1)) .nil
def ir_entry_of_L5 : Ss := .cons .never .nil
def ir_entry_of_L4 : Ss := .cons (.ite (.or (.cmp .Is (.var 1) .non) (.cmp .Gt (.var 1) (.gint "MOST_FOREST" (119)))) ir_entry_of_L5 .nil) ir_entry_of_L6
def ir_entry_of_L3 : Ss := .cons (.asg (.nm 1) (.call "number_of" sp_number_of (.cons (.var 0) .nil))) ir_entry_of_L4
def ir_entry_of_L2 : Ss := .cons (.ret .non) .nil
def ir_entry_of : Ss := .cons (.ite (.cmp .Eq (.var 0) (.str "-")) ir_entry_of_L2 .nil) ir_entry_of_L3
theorem fa_entry_of : FnA 1 2 sp_entry_of ir_entry_of := by
  rintro avs h Q ⟨e, rfl, he, q⟩
  refine ⟨rfl, ?_⟩
  simp_arith only [ir_entry_of]
  cases e with
  | none =>
    show aEq (.str "-") (.str "-") h _
    rw [aEq_strX (by decide +kernel) (by decide +kernel), beq_self_eq_true]
    try simp_arith only [rdSs]
    simp_arith only [ir_entry_of_L2]
    exact ret_of q
  | some f =>
    have hf := he f rfl
    show aEq (.str (numT f)) (.str "-") h _
    have ne : (numT f == Str.ofString "-") = false := by
      rw [beq_eq_false_iff_ne]
      intro z
      have := (numT_ok (n := f) (by omega)).dg 45 (by rw [z]; decide +kernel)
      omega
    rw [aEq_strX (numT_ok1 (by omega)) (by decide +kernel), ne]
    try simp_arith only [rdSs]
    simp_arith only [ir_entry_of_L3]
    refine ⟨f, rfl, by omega, ?_⟩
    try simp_arith only [rdSs]
    simp_arith only [ir_entry_of_L4]
    try simp_arith only [isNon]
    rw [decide_eq_false (show ¬ (119 : Int) < (f : Nat) by omega)]
    try simp_arith only [rdSs]
    simp_arith only [ir_entry_of_L6]
    exact ret_of q
def sp_read_laying : ASp := fun avs h Q => ∃ es : List (Option Nat), avs = [.str (layT es)] ∧ LayS es ∧ ∀ h', Sub h h' → Q (layV es) h'
def nm_read_laying : List Str := ["thing", "lines", "found", "word"]
def ir_read_laying_L7 : Ss := .cons (.ret (.var 2)) .nil
def ir_read_laying_L6 : Ss := .cons .never .nil
def ir_read_laying_L5 : Ss := .cons (.ite (.or (.cmp .Gt (.b1 .len (.var 2)) (.gint "MOST_ENTRIES" (120))) (.cmp .NotEq (.call "laying_text" sp_laying_text (.cons (.var 2) .nil)) (.var 0))) ir_read_laying_L6 .nil) ir_read_laying_L7
def ir_read_laying_L4 : Ss := .cons (.asg (.nm 2) (.b1 .tuple (.comp [("word", 3)] (.call "entry_of" sp_entry_of (.cons (.var 3) .nil)) (.nm 3) (.seq (.sm .split (.ix (.var 1) (.int 0)) (.str " "))) .no))) .nil
def ir_read_laying_L3 : Ss := .cons (.ite (.cmp .NotEq (.var 0) (.str "\n")) ir_read_laying_L4 .nil) ir_read_laying_L5
def ir_read_laying_L2 : Ss := .cons (.asg (.nm 2) (.tup .nil)) ir_read_laying_L3
def ir_read_laying : Ss := .cons (.asg (.nm 1) (.call "lines_of" sp_lines_of (.cons (.var 0) .nil))) ir_read_laying_L2
theorem fa_read_laying : FnA 1 4 sp_read_laying ir_read_laying := by
  rintro avs h Q ⟨es, rfl, L, q⟩
  refine ⟨rfl, ?_⟩
  obtain ⟨l1, l2⟩ := layT_len L
  have l3 := L.1
  have jj : Txt.join "\n" [Txt.join " " (es.map entT)] = Txt.join " " (es.map entT) := by rw [TL.join_eq]; rfl
  simp_arith only [ir_read_laying]
  refine ⟨[Txt.join " " (es.map entT)], by unfold layT; rw [jj], by simp, fun p hp => by rw [List.mem_singleton.mp hp]; intro z; have := layT_code L 10 z; omega, by rw [jj]; omega, fun p1 h1 s1 n1 e1 => ?_⟩
  simp_arith only [ir_read_laying_L2]
  refine ⟨sz (by decide), ?_⟩
  simp_arith only [ir_read_laying_L3]
  rw [aEq_strX (layT_ok L) (by decide +kernel)]
  have fin : ∀ h2 o3, Sub h1 h2 → rdSs ir_read_laying_L5 { nx := fun x h' => Ret Q Va.non h', rt := Ret Q } [some (.str (layT es)), some (.ref p1), some (layV es), o3] h2 := fun h2 o3 s2 => by
    simp_arith only [ir_read_laying_L5, layV, List.length_map]
    rw [decide_eq_false (show ¬ (120 : Int) < ((es.length : Nat) : Int) by omega)]
    try simp_arith only [rdSs]
    refine ⟨es, rfl, L, fun h3 s3 => ?_⟩
    dsimp only
    rw [aEq_strX (layT_ok L) (layT_ok L), beq_self_eq_true]
    try simp_arith only [rdSs]
    simp_arith only [ir_read_laying_L7]
    exact ret_of (q h3 ((s1.trans s2).trans s3))
  by_cases c : es = []
  · subst c
    rw [show (layT [] == Str.ofString "\n") = true by decide +kernel]
    try simp_arith only [rdSs]
    exact fin h1 _ Sub.rfl'
  · have ne : (layT es == Str.ofString "\n") = false := by
      rw [beq_eq_false_iff_ne]
      intro z
      have z2 : (layT es).length = 1 := by rw [z]; decide +kernel
      unfold layT at z2
      rw [app_lenX, show (Str.ofString "\n").length = 1 by decide +kernel] at z2
      have z3 : (Txt.join " " (es.map entT)).length = 0 := by omega
      rw [TL.join_eq, TL.len_tl, TL.tl_join] at z3
      cases es with
      | nil => exact c rfl
      | cons e r =>
        have := (entT_len (L.at (List.mem_cons_self (a := e) (l := r)))).1
        rw [TL.len_tl] at this
        cases r with
        | nil =>
          simp only [List.map_cons, List.map_nil, TL.joinL] at z3
          omega
        | cons e2 r =>
          simp only [List.map_cons, TL.joinL, List.length_append] at z3
          omega
    rw [ne]
    try simp_arith only [rdSs]
    have sp : (Str.ofString " ").length = 1 := by decide +kernel
    have np : ∀ p ∈ es.map entT, 32 ∉ TL.tl p := fun p hp => by
      obtain ⟨e, he, rfl⟩ := List.mem_map.mp hp
      intro z
      have := entT_code (L.at he) 32 z
      omega
    simp_arith only [ir_read_laying_L4, e1, ix_at (e1), tru_at (e1), len_at (e1), list_at (e1), in_at (e1), set_at (e1), ty_at (e1), List.map_cons, atI_0, isS_str, sm_split]
    rw [split_words (by simpa using c) np]
    refine ⟨by rw [sp]; rfl, sz (by omega), newL_in fun p2 h2 s2 n2 e2 => ?_⟩
    simp_arith only [e2]
    refine ⟨sz (by first | omega | (simp; omega) | simp), ?_⟩
    rw [List.map_map]
    refine comps_map (fun e => Va.str (entT e)) entV (by rw [List.map_map] at e2; exact e2) es (fun e he K hK => ⟨e, rfl, L.at he, hK⟩) ?_
    refine newL_in fun p3 h3 s3 n3 e3 => ?_
    simp_arith only [e3]
    exact fin h3 _ (s2.trans s3)
end F2
set_option Elab.async false
set_option linter.all false
set_option maxRecDepth 100000
set_option maxHeartbeats 4000000
namespace F2
local macro_rules | `(tactic| simp_arith only [$xs,*] $[$loc:location]?) => `(tactic| simp only [$xs,*, rdSs, rdS, rdX, rdHs, bndA, clrA, isE_non, rdE, rdT, rdEs, rdP, rdR, rdC, rdI, bnd, bnds, bin_add, bin_mul, bin_sub, bin_div, bin_mod, bin_pow, bin_shr, bin_shl, bin_and, cmp_eq, cmp_ne, cmp_lt, cmp_le, cmp_gt, cmp_ge, cmp_is, cmp_isn, cmp_in, cmp_nin, aAdd_int, aAdd_str, aAdd_tup, aAdd_ref, aMul_int, aMul_tup, aMul_ref, aInt1_int, aBool_bl, aIx_tup, aSl_tup, aSl_fls, aSl_ref, aTru_bl, aTru_int, aTru_non, aTru_tup, aSeq_tup, aSeq_ref, len_tup, len_fls, list_tup, list_fls, tuple_tup, tuple_ref, int_int, int_bl, bool_int, bool_bl, max_tup, max_ref, min_tup, min_ref, sum_tup, sum_ref, sorted_ref, sortD_ref, sortS_ref, sortP_ref, sortP_tup, ssetT_tup, sortR_ref, sumL_ref, inD_ref, gtT_tup, strD_tup, strD_ref, srtR_ref, stp_ref, stp_fls, sorted_tup, rsl_tup, all_ref, a2_int, aIn_tup, aIs_non, aIs_bl, app_ref, ext_ref, pop_ref, popAt_ref, isL_ref, isLT_ref, isLT_tup, isT_tup, rem_ref, ins_ref, rvs_ref, fld_ref, setF_ref, isC_ref, Ob.ins.injEq, lset_ref, lset_tup, sset_ref, sset_tup, dct1_int, dct1_str, dctL_ref, ty_non, ty_bl, ty_int, ty_str, ty_tup, aEq_int, aEq_bl, aEq_bi, aEq_ib, aEq_nn, aEq_ni, aEq_in, startA, List.map_cons, List.map_nil, List.length_cons, List.length_nil, List.length_map, List.replicate, List.cons_append, List.nil_append, gv_zero, gv_succ, List.set_cons_zero, List.set_cons_succ, wipeA_nil, wipeA_cons, Nat.reduceAdd, Nat.reduceSub, if_true, if_false, Option.some.injEq, Ob.lst.injEq, Va.int.injEq, exists_eq_left', exists_eq_left, exists_and_left, reduceCtorEq, false_and, and_false, exists_false, exists_const, or_false, false_or, true_and, and_true, Bool.false_eq_true, Bool.not_true, Bool.not_false, put_same, atI_0, atI_1, atI_2, atI_3, sub_NoneType_int, sub_NoneType_bool, sub_NoneType_tuple, sub_NoneType_str, sub_NoneType_list, sub_NoneType_dict, sub_bool_int, sub_bool_bool, sub_bool_tuple, sub_bool_str, sub_bool_list, sub_bool_dict, sub_int_int, sub_int_bool, sub_int_tuple, sub_int_str, sub_int_list, sub_int_dict, sub_str_int, sub_str_bool, sub_str_tuple, sub_str_str, sub_str_list, sub_str_dict, sub_tuple_int, sub_tuple_bool, sub_tuple_tuple, sub_tuple_str, sub_tuple_list, sub_tuple_dict, sub_list_int, sub_list_bool, sub_list_tuple, sub_list_str, sub_list_list, sub_list_dict, sub_dict_int, sub_dict_bool, sub_dict_tuple, sub_dict_str, sub_dict_list, sub_dict_dict] $[$loc:location]?)
open PySem PySem.Spec PyProof.Rows
open L2
theorem joinL_lines : ∀ (ps : List (List Nat)), ps ≠ [] → TL.joinL [] (ps.map fun p => p ++ [10]) = TL.joinL [10] ps ++ [10]
  | [], h => absurd rfl h
  | [p], _ => rfl
  | p :: q :: r, _ => by
    have := joinL_lines (q :: r) (by simp)
    show (p ++ [10]) ++ ([] ++ TL.joinL [] ((q :: r).map fun p => p ++ [10])) = (p ++ ([10] ++ TL.joinL [10] (q :: r))) ++ [10]
    rw [this]
    simp
theorem glue_lines {ps : List Str} (h : ps ≠ []) : Txt.join "" (ps.map fun p => p ++ "\n") = Txt.join "\n" ps ++ "\n" := by
  refine TL.ext_tl ?_
  rw [TL.tl_append, TL.join_eq, TL.join_eq, TL.tl_join, TL.tl_join, List.map_map]
  have e : (TL.tl ∘ fun p : Str => p ++ "\n") = fun p => TL.tl p ++ [10] := by
    funext p
    show TL.tl (p ++ "\n") = _
    rw [TL.tl_append]
    rfl
  rw [e, show TL.tl (Str.ofString "") = [] by decide +kernel, show TL.tl (Str.ofString "\n") = [10] by decide +kernel]
  have := joinL_lines (ps.map TL.tl) (by simpa using h)
  rw [List.map_map] at this
  exact this
def sp__law_web_text : ASp := fun avs h Q => ∃ (n : Nat) (ts : List (Nat × Nat)), avs = [webV n ts] ∧ WebS n ts ∧ ∀ h', Sub h h' → Q (.str (webT n ts)) h'
def nm__law_web_text : List Str := ["_law_web_here", "_law_rows", "_law_tie", "_law_row"]
def ir__law_web_text_L2 : Ss := .cons (.ret (.sm .join (.str "") (.comp [("_law_row", 3)] (.bin .Add (.var 3) (.str "\n")) (.nm 3) (.seq (.var 1)) .no))) .nil
def ir__law_web_text : Ss := .cons (.asg (.nm 1) (.bin .Add (.lst (.cons (.bin .Add (.str "points ") (.b1 .str (.ix (.var 0) (.int 0)))) .nil)) (.comp [("_law_tie", 2)] (.bin .Add (.bin .Add (.bin .Add (.str "tie ") (.b1 .str (.ix (.var 2) (.int 0)))) (.str " ")) (.b1 .str (.ix (.var 2) (.int 1)))) (.nm 2) (.seq (.ix (.var 0) (.int 1))) .no))) ir__law_web_text_L2
theorem fa__law_web_text : FnA 1 4 sp__law_web_text ir__law_web_text := by
  rintro avs h Q ⟨n, ts, rfl, ⟨hn, hz, hts⟩, q⟩
  refine ⟨rfl, ?_⟩
  have p0 := ptsT_len hn
  have n3 := numT_len hn
  have pl : (Str.ofString "points ").length = 7 := by decide +kernel
  have tl : (Str.ofString "tie ").length = 4 := by decide +kernel
  have ol : (Str.ofString " ").length = 1 := by decide +kernel
  have nl : (Str.ofString "\n").length = 1 := by decide +kernel
  simp_arith only [ir__law_web_text, webV, str_intX]
  refine ⟨log_smallX (by omega), sz (by show _ + (numT n).length ≤ _; omega), sz (by decide), newL_in fun p1 h1 s1 n1 e1 => ?_⟩
  refine ⟨sz (by first | omega | (simp; omega) | simp), ?_⟩
  refine comps_map tieV (fun t => Va.str (tieT t)) trivial ts (fun t ht K hK => ?_) ?_
  · have t1 := numT_len (hts t ht).1
    have t2 := numT_len (hts t ht).2
    have l1 : (Str.ofString "tie " ++ numT t.1).length ≤ 7 := by rw [app_lenX]; omega
    have l2 : (Str.ofString "tie " ++ numT t.1 ++ Str.ofString " ").length ≤ 8 := by rw [app_lenX]; omega
    have := hts t ht
    simp_arith only [tieV, str_intX]
    refine ⟨log_smallX (by omega), sz (by show _ + (numT t.1).length ≤ _; omega), sz (by show (Str.ofString "tie " ++ numT t.1).length + _ ≤ _; omega), log_smallX (by omega), sz (by show (Str.ofString "tie " ++ numT t.1 ++ Str.ofString " ").length + (numT t.2).length ≤ _; omega), hK⟩
  refine newL_in fun p2 h2 s2 n2 e2 => ?_
  simp_arith only [e2, s2 _ _ e1]
  refine ⟨sz (by first | omega | (simp; omega) | simp), newL_in fun p3 h3 s3 n3' e3 => ?_⟩
  have e3 : h3 p3 = some (.lst ((ptsT n :: ts.map tieT).map Va.str)) := by
    rw [e3, List.map_cons, List.map_map]
    rfl
  simp_arith only [ir__law_web_text_L2, isS_str, sm_join, e3]
  have W : WebS n ts := ⟨hn, hz, hts⟩
  have wp := web_parts W
  rw [show Va.str (ptsT n) :: List.map Va.str (List.map tieT ts) = (ptsT n :: ts.map tieT).map Va.str from rfl]
  generalize hps : ptsT n :: ts.map tieT = ps at e3 wp ⊢
  have lp : ps.length ≤ 1001 := by rw [← hps]; simp; omega
  refine ⟨sz (by first | omega | (simp; omega) | simp), ?_⟩
  refine comps_map Va.str (fun p => Va.str (p ++ "\n")) (by exact e3) ps (fun p hp K hK => ?_) ?_
  · have := wp p hp
    simp_arith only [rdSs]
    exact ⟨sz (by omega), hK⟩
  refine newL_in fun p4 h4 s4 n4 e4 => ?_
  have el : (Str.ofString "").length = 0 := by decide +kernel
  rw [sm_join]
  refine ⟨ps.map fun p => p ++ "\n", by rw [e4, List.map_map]; rfl, ?_, ?_⟩
  · have : ∀ p ∈ ps.map (fun p : Str => p ++ "\n"), p.length ≤ 21 := fun p hp => by
      obtain ⟨r, hr, rfl⟩ := List.mem_map.mp hp
      have := wp r hr
      rw [app_lenX]
      omega
    have sm := sum_lenX this
    rw [List.length_map] at sm
    rw [el, List.length_map]
    omega
  · rw [glue_lines (by rw [← hps]; simp), ← hps]
    exact ret_of (q _ (((s1.trans s2).trans s3).trans s4))
theorem repl_num : ∀ f, f < 120 → Txt.replace (numT f) "None" "-" = numT f := by decide +kernel
theorem repl_none : Txt.replace "None" "None" "-" = "-" := by decide +kernel
def sp__law_laying_text : ASp := fun avs h Q => ∃ es : List (Option Nat), avs = [layV es] ∧ LayS es ∧ ∀ h', Sub h h' → Q (.str (layT es)) h'
def nm__law_laying_text : List Str := ["_law_laying", "_law_one"]
def ir__law_laying_text : Ss := .cons (.ret (.bin .Add (.sm .join (.str " ") (.comp [("_law_one", 1)] (.rpl (.var 1) "None" "-") (.nm 1) (.seq (.var 0)) .no)) (.str "\n"))) .nil
theorem fa__law_laying_text : FnA 1 2 sp__law_laying_text ir__law_laying_text := by
  rintro avs h Q ⟨es, rfl, L, q⟩
  refine ⟨rfl, ?_⟩
  have ln := L.1
  have nl : (Str.ofString "\n").length = 1 := by decide +kernel
  have ol : (Str.ofString " ").length = 1 := by decide +kernel
  simp_arith only [ir__law_laying_text, layV, isS_str, sm_join]
  refine ⟨sz (by first | omega | (simp; omega) | simp), ?_⟩
  refine comps_map entV (fun e => Va.str (entT e)) trivial es (fun e he K hK => ?_) ?_
  · cases e with
    | none =>
      refine ⟨"None", .inr ⟨rfl, rfl⟩, by decide +kernel, ?_⟩
      rw [repl_none]
      exact hK
    | some f =>
      have hf := L.2 f he
      have l3 := numT_len (show f < 1000 by omega)
      have ml : (Str.ofString "-").length = 1 := by decide +kernel
      refine ⟨numT f, .inl ⟨(f : Nat), rfl, log_smallX (by omega), rfl⟩, ?_, ?_⟩
      · show (numT f).length + ((numT f).length + 1) * (Str.ofString "-").length ≤ 16777216
        rw [ml]
        omega
      · rw [repl_num f hf]
        exact hK
  refine newL_in fun p1 h1 s1 n1 e1 => ?_
  have LL := layT_len L
  simp_arith only [isS_str, sm_join]
  refine ⟨es.map entT, by rw [e1, List.map_map]; rfl, by rw [ol, List.length_map]; omega, ?_⟩
  try simp_arith only [rdSs]
  refine ⟨sz (by omega), ret_of (q _ s1)⟩
def DpV : Nat → Va → Prop
  | 0, _ => False
  | d + 1, v => (∃ i : Int, v = .int i) ∨ v = .non ∨ ∃ xs, v = .tup xs ∧ xs.length ≤ 1000 ∧ ∀ x ∈ xs, DpV d x
def sp__law_alike (d : Nat) : ASp := fun avs h Q => ∃ v, avs = [v, v] ∧ DpV d v ∧ Q (.bl true) h
def nm__law_alike : List Str := ["_law_found", "_law_due", "_law_k"]
def ir__law_alike_L5 (r : ASp) : Ss := .cons (.ret (.and (.cmp .Eq (.var 0) (.var 1)) (.cmp .Eq (.isi (.var 0) "bool") (.isi (.var 1) "bool")))) .nil
def ir__law_alike_L4 (r : ASp) : Ss := .cons (.ret (.b1 .all (.comp [("_law_k", 2)] (.call "_law_alike" r (.cons (.ix (.var 0) (.var 2)) (.cons (.ix (.var 1) (.var 2)) .nil))) (.nm 2) (.rg (.one (.b1 .len (.var 1)))) .no))) .nil
def ir__law_alike_L3 (r : ASp) : Ss := .cons (.ret (.bl false)) .nil
def ir__law_alike_L2 (r : ASp) : Ss := .cons (.ite (.or (.not (.isi (.var 0) "tuple")) (.cmp .NotEq (.b1 .len (.var 0)) (.b1 .len (.var 1)))) (ir__law_alike_L3 r) .nil) (ir__law_alike_L4 r)
def ir__law_alike (r : ASp) : Ss := .cons (.ite (.isi (.var 1) "tuple") (ir__law_alike_L2 r) .nil) (ir__law_alike_L5 r)
def ir__law_alike_never : Ss := .cons .never (.cons .never .nil)
theorem fa__law_alike_never : FnA 2 3 (sp__law_alike 0) ir__law_alike_never := by
  rintro avs h Q ⟨v, rfl, D, q⟩
  exact D.elim
theorem fa__law_alike (d : Nat) : FnA 2 3 (sp__law_alike (d + 1)) (ir__law_alike (sp__law_alike d)) := by
  rintro avs h Q ⟨v, rfl, D, q⟩
  refine ⟨rfl, ?_⟩
  rcases D with ⟨i, rfl⟩ | rfl | ⟨xs, rfl, lx, D⟩
  · simp_arith only [ir__law_alike]
    simp_arith only [ir__law_alike_L5]
    rw [if_pos (beq_self_eq_true i)]
    exact ret_of q
  · simp_arith only [ir__law_alike]
    simp_arith only [ir__law_alike_L5]
    exact ret_of q
  · simp_arith only [ir__law_alike]
    simp_arith only [ir__law_alike_L2]
    trace_state
    rw [beq_self_eq_true, if_neg (by decide)]
    simp_arith only [ir__law_alike_L4]
    refine ⟨by omega, by rw [rgA_len]; exact sz (by omega), ?_⟩
    rw [rgA_nat, List.map_map]
    refine comps_map (fun i : Nat => Va.int (i : Nat)) (fun _ => Va.bl true) trivial (List.range xs.length) (fun i hi K hK => ?_) ?_
    · have hi := List.mem_range.mp hi
      simp_arith only [atI_nat]
      refine ⟨xs[i], List.getElem?_eq_getElem hi, xs[i], List.getElem?_eq_getElem hi, xs[i], rfl, D _ (List.getElem_mem hi), hK⟩
    refine newL_in fun p1 h1 s1 n1 e1 => ?_
    simp_arith only [rdSs]
    refine ⟨List.replicate xs.length true, by rw [e1, List.map_const', List.length_range, List.map_replicate], ?_⟩
    rw [show (List.replicate xs.length true).all id = true from List.all_eq_true.mpr fun b hb => (List.mem_replicate.mp hb).2]
    exact ret_sub s1 q
theorem dpV_ent (e : Option Nat) (d : Nat) : DpV (d + 1) (entV e) := by
  cases e with
  | none => exact .inr (.inl rfl)
  | some f => exact .inl ⟨_, rfl⟩
theorem dpV_lay {es : List (Option Nat)} (h : es.length ≤ 1000) (d : Nat) : DpV (d + 2) (layV es) := by
  refine .inr (.inr ⟨_, rfl, by rw [List.length_map]; exact h, fun x hx => ?_⟩)
  obtain ⟨e, _, rfl⟩ := List.mem_map.mp hx
  exact dpV_ent e d
theorem dpV_web {n : Nat} {ts : List (Nat × Nat)} (h : ts.length ≤ 1000) : DpV 4 (webV n ts) := by
  refine .inr (.inr ⟨_, rfl, by simp, fun x hx => ?_⟩)
  simp only [List.mem_cons, List.not_mem_nil, or_false] at hx
  rcases hx with rfl | rfl
  · exact .inl ⟨_, rfl⟩
  · refine .inr (.inr ⟨_, rfl, by rw [List.length_map]; exact h, fun y hy => ?_⟩)
    obtain ⟨t, _, rfl⟩ := List.mem_map.mp hy
    refine .inr (.inr ⟨_, rfl, by simp, fun z hz => ?_⟩)
    simp only [List.mem_cons, List.not_mem_nil, or_false] at hz
    rcases hz with rfl | rfl <;> exact .inl ⟨_, rfl⟩
def nm_law : List Str := ["_law_script", "_law_deck_here", "_law_turn", "_law_web_here", "_law_most", "_law_row", "_law_laying", "_law_k", "_law_one"]
def ir_law_L13 : Ss := .cons (.ret (.and (.cmp .Eq (.call "read_laying" sp_read_laying (.cons (.str "\n") .nil)) (.tup .nil)) (.cmp .Eq (.call "laying_text" sp_laying_text (.cons (.tup .nil) .nil)) (.str "\n")))) .nil
def ir_law_L12 : Ss := .cons (.ret (.bl false)) .nil
def ir_law_L11 : Ss := .cons (.ite (.not (.call "_law_alike" (sp__law_alike 4) (.cons (.call "read_laying" sp_read_laying (.cons (.call "_law_laying_text" sp__law_laying_text (.cons (.var 6) .nil)) .nil)) (.cons (.var 6) .nil)))) ir_law_L12 .nil) .nil
def ir_law_L10 : Ss := .cons (.ret (.bl false)) .nil
def ir_law_L9 : Ss := .cons (.ite (.cmp .NotEq (.call "laying_text" sp_laying_text (.cons (.var 6) .nil)) (.call "_law_laying_text" sp__law_laying_text (.cons (.var 6) .nil))) ir_law_L10 .nil) ir_law_L11
def ir_law_L8 : Ss := .cons (.asg (.nm 6) (.b1 .tuple (.comp [("_law_one", 8)] (.ix (.lst (.cons (.var 8) (.cons .non .nil))) (.b1 .int (.cmp .Eq (.var 8) (.var 4)))) (.nm 8) (.seq (.var 5)) .no))) ir_law_L9
def ir_law_L7 : Ss := .cons (.asg (.nm 5) (.comp [("_law_k", 7)] (.bin .Mod (.call "_law_next" sp__law_next (.cons (.var 1) .nil)) (.bin .Add (.var 4) (.int 1))) (.nm 7) (.rg (.one (.ix (.lst (.cons (.int 0) (.cons (.int 1) (.cons (.int 5) (.cons (.int 120) .nil))))) (.bin .Mod (.call "_law_next" sp__law_next (.cons (.var 1) .nil)) (.int 4))))) .no)) ir_law_L8
def ir_law_L6 : Ss := .cons (.asg (.nm 4) (.ix (.lst (.cons (.int 1) (.cons (.int 3) (.cons (.int 120) .nil)))) (.bin .Mod (.call "_law_next" sp__law_next (.cons (.var 1) .nil)) (.int 3)))) ir_law_L7
def ir_law_L5 : Ss := .cons (.ret (.bl false)) .nil
def ir_law_L4 : Ss := .cons (.ite (.or (.cmp .NotEq (.call "web_text" sp_web_text (.cons (.var 3) .nil)) (.call "_law_web_text" sp__law_web_text (.cons (.var 3) .nil))) (.not (.call "_law_alike" (sp__law_alike 4) (.cons (.call "read_web" sp_read_web (.cons (.call "_law_web_text" sp__law_web_text (.cons (.var 3) .nil)) .nil)) (.cons (.var 3) .nil))))) ir_law_L5 .nil) ir_law_L6
def ir_law_L3 : Ss := .cons (.asg (.nm 3) (.call "_law_web" sp__law_web2 (.cons (.var 1) (.cons (.ix (.lst (.cons (.int 4) (.cons (.int 12) (.cons (.int 40) .nil)))) (.var 2)) (.cons (.ix (.lst (.cons (.int 6) (.cons (.int 40) (.cons (.int 120) .nil)))) (.var 2)) .nil))))) ir_law_L4
def ir_law_L2 : Ss := .cons (.for_ (.nm 2) (.rg (.one (.int 3))) ir_law_L3) ir_law_L13
def ir_law : Ss := .cons (.asg (.nm 1) (.call "_law_deck" sp__law_deck (.cons (.var 0) (.cons (.int 900) .nil)))) ir_law_L2
theorem fa_law : FnA 1 9 spLaw ir_law := by
  rintro avs h Q ⟨ss, rfl, hss, q⟩
  refine ⟨rfl, ?_⟩
  simp_arith only [ir_law]
  refine ⟨ss, 900, rfl, hss, by omega, fun d dx nd0 dk0 => ?_⟩
  have hd0 : (put h d (.lst dx)) d = some (.lst dx) := put_same
  generalize put h d (.lst dx) = h0 at hd0
  simp_arith only [ir_law_L2]
  refine ⟨by omega, ?_⟩
  refine loop_rg (fun i ρ h' => (∃ o2 o3 o4 o5 o6, ρ = [some (.fls (ss.map Va.int)), some (.ref d), o2, o3, o4, o5, o6, none, none]) ∧ ∃ dx, h' d = some (.lst dx) ∧ Deck dx) ⟨⟨_, _, _, _, _, rfl⟩, dx, hd0, dk0⟩ (fun i hi ρ h1 K inv hK => ?_) (fun ρ h' inv => ?_)
  · obtain ⟨⟨o2, o3, o4, o5, o6, rfl⟩, dx1, e1, dk1⟩ := inv
    have hi : i < 3 := by simpa using hi
    obtain ⟨a, b, ea, eb, la, la2, lb⟩ : ∃ a b : Nat, [Va.int 4, Va.int 12, Va.int 40][i]? = some (.int a) ∧ [Va.int 6, Va.int 40, Va.int 120][i]? = some (.int b) ∧ 1 ≤ a ∧ a ≤ 40 ∧ b ≤ 120 := by
      match i, hi with
      | 0, _ => exact ⟨4, 6, rfl, rfl, by omega, by omega, by omega⟩
      | 1, _ => exact ⟨12, 40, rfl, rfl, by omega, by omega, by omega⟩
      | 2, _ => exact ⟨40, 120, rfl, rfl, by omega, by omega, by omega⟩
    simp_arith only [ir_law_L3]
    refine ⟨sz (by decide), newL_in fun p1 h2 s2 n2 e2 => ?_⟩
    rw [ix_at e2]
    refine ⟨.int a, by rw [Int.zero_add, atI_nat]; exact ea, sz (by decide), newL_in fun p2 h3 s3 n3 e3 => ?_⟩
    rw [ix_at e3]
    refine ⟨.int b, by rw [Int.zero_add, atI_nat]; exact eb, ?_⟩
    have e1' := s3 _ _ (s2 _ _ e1)
    refine ⟨d, dx1, a, b, rfl, e1', dk1, by omega, by omega, by omega, fun n ts hn wk tl h4 dx4 e4 dk4 f4 => ?_⟩
    have n1 := wk.1
    have W : WebS n ts := ⟨by omega, by omega, fun t ht => by have := wk.2 t ht; unfold TieOk at this; omega⟩
    simp_arith only [ir_law_L4]
    refine ⟨n, ts, rfl, W, fun h5 s5 => ⟨n, ts, rfl, W, fun h6 s6 => ?_⟩⟩
    dsimp only
    rw [aEq_strX (webT_ok W) (webT_ok W), beq_self_eq_true]
    try simp_arith only [rdSs]
    refine ⟨n, ts, rfl, W, fun h7 s7 => ⟨n, ts, rfl, n1, by omega, by omega, wk.2, fun h8 s8 => ⟨_, rfl, dpV_web (by omega), ?_⟩⟩⟩
    try simp_arith only [rdSs]
    simp_arith only [ir_law_L6]
    have e8 := s8 _ _ (s7 _ _ (s6 _ _ (s5 _ _ e4)))
    refine ⟨sz (by decide), newL_in fun p9 h9 s9 n9 e9 => ?_⟩
    have p9d : p9 ≠ d := fun z => by rw [← z, n9] at e8; cases e8
    refine ⟨d, _, rfl, s9 _ _ e8, dk4, fun u hu hA dxA eA dkA fA => ?_⟩
    have e9 : hA p9 = _ := (fA _ p9d).trans e9
    obtain ⟨m, em, hm⟩ : ∃ m : Nat, [Va.int 1, Va.int 3, Va.int 120][u % 3]? = some (.int m) ∧ m ≤ 120 := by
      have : u % 3 < 3 := Nat.mod_lt _ (by omega)
      generalize u % 3 = w at this
      match w, this with
      | 0, _ => exact ⟨1, rfl, by omega⟩
      | 1, _ => exact ⟨3, rfl, by omega⟩
      | 2, _ => exact ⟨120, rfl, by omega⟩
    simp_arith only [rdSs]
    rw [ix_at e9]
    refine ⟨by omega, .int m, by rw [show (u : Int) % 3 = ((u % 3 : Nat) : Int) by omega, atI_nat]; exact em, ?_⟩
    simp_arith only [ir_law_L7]
    refine ⟨sz (by decide), newL_in fun pB hB sB nB eB => ?_⟩
    have edB := sB _ _ eA
    have pBd : pB ≠ d := fun z => by rw [← z, nB] at eA; cases eA
    refine ⟨d, _, rfl, edB, dkA, fun v hv hC dxC eC dkC fC => ?_⟩
    have eB : hC pB = _ := (fC _ pBd).trans eB
    obtain ⟨r, er, hr⟩ : ∃ r : Nat, [Va.int 0, Va.int 1, Va.int 5, Va.int 120][v % 4]? = some (.int r) ∧ r ≤ 120 := by
      have : v % 4 < 4 := Nat.mod_lt _ (by omega)
      generalize v % 4 = w at this
      match w, this with
      | 0, _ => exact ⟨0, rfl, by omega⟩
      | 1, _ => exact ⟨1, rfl, by omega⟩
      | 2, _ => exact ⟨5, rfl, by omega⟩
      | 3, _ => exact ⟨120, rfl, by omega⟩
    simp_arith only [rdSs]
    rw [ix_at eB]
    refine ⟨by omega, .int r, by rw [show (v : Int) % 4 = ((v % 4 : Nat) : Int) by omega, atI_nat]; exact er, ?_⟩
    simp_arith only [rdSs]
    refine ⟨by omega, by rw [rgA_len]; exact sz (by omega), ?_⟩
    refine comps_dk (α := Nat) _ (fun _ x => x ≤ m) (fun x : Nat => Va.int (x : Nat)) (Dk.start eC dkC) (fun _ _ => trivial) (fun j hj h7 K2 k7 hK2 => ?_) fun xs h7 hxs hR k7 => ?_
    · obtain ⟨dx7, ed7, dk7⟩ := k7.d
      refine ⟨d, dx7, rfl, ed7, dk7, fun w hw h8 dx8 e8 dk8 f8 => ?_⟩
      simp_arith only [rdSs]
      refine ⟨by omega, ?_⟩
      rw [show (w : Int) % ((m : Int) + 1) = ((w % (m + 1) : Nat) : Int) from (Int.natCast_emod w (m + 1)).symm]
      exact hK2 _ h8 (by have := Nat.mod_lt w (show 0 < m + 1 by omega); omega) (k7.step e8 dk8 f8)
    have lx : xs.length = r := by rw [hxs, rgA_len]; omega
    have hR : ∀ x ∈ xs, x ≤ m := fun x hx => by
      obtain ⟨j, hj, e⟩ := List.mem_iff_getElem.mp hx
      rw [← e]
      exact hR j hj
    refine newL_in fun pD hD sD nD eD => ?_
    have kD := k7.sub sD
    simp_arith only [ir_law_L8, eD]
    refine ⟨sz (by first | omega | (simp; omega) | simp), ?_⟩
    refine comps_sub (fun x : Nat => Va.int (x : Nat)) (fun x => some (entV (if x = m then none else some x))) (fun h' s' => s' _ _ eD) xs [] hD Sub.rfl' (fun x hx h2 K2 s2 hK2 => ?_) (fun hF sF => ?_)
    · refine ⟨sz (by decide), newL_in fun pE hE sE nE eE => ?_⟩
      have hK2 := hK2 hE (s2.trans sE)
      simp_arith only [eE, ix_at (eE), tru_at (eE), len_at (eE), list_at (eE), in_at (eE), set_at (eE), ty_at (eE)]
      by_cases c : x = m
      · subst c
        rw [if_pos rfl] at hK2
        rw [beq_self_eq_true, if_pos rfl]
        exact ⟨_, rfl, hK2⟩
      · rw [if_neg c] at hK2
        rw [show ((x : Int) == (m : Int)) = false by rw [beq_eq_false_iff_ne]; omega, if_neg (by decide)]
        exact ⟨_, rfl, hK2⟩
    refine newL_in fun pG hG sG nG eG => ?_
    have kG := (kD.sub sF).sub sG
    obtain ⟨es, ees, el, eb⟩ : ∃ es : List (Option Nat), es = xs.map (fun x => if x = m then none else some x) ∧ es.length ≤ 120 ∧ ∀ f, some f ∈ es → f < 120 := by
      refine ⟨_, rfl, by rw [List.length_map]; omega, fun f hf => ?_⟩
      obtain ⟨x, hx, e⟩ := List.mem_map.mp hf
      have := hR x hx
      split at e
      · cases e
      · cases e; omega
    have eG : hG pG = some (.lst (es.map entV)) := by
      rw [eG, List.nil_append, ees, List.map_map]
      congr 2
      exact List.filterMap_eq_map' (f := fun x => entV (if x = m then none else some x)) ▸ rfl
    have L : LayS es := ⟨el, eb⟩
    simp_arith only [eG]
    simp_arith only [ir_law_L9]
    refine ⟨es, rfl, L, fun hH sH => ⟨es, rfl, L, fun hI sI => ?_⟩⟩
    dsimp only
    rw [aEq_strX (layT_ok L) (layT_ok L), beq_self_eq_true]
    try simp_arith only [rdSs]
    simp_arith only [ir_law_L11]
    refine ⟨es, rfl, L, fun hJ sJ => ⟨es, rfl, L, fun hL sL => ⟨_, rfl, dpV_lay (by omega) 2, ?_⟩⟩⟩
    try simp_arith only [rdSs]
    obtain ⟨dxZ, eZ, dkZ⟩ := ((((kG.sub sH).sub sI).sub sJ).sub sL).d
    exact hK _ _ ⟨⟨_, _, _, _, _, rfl⟩, dxZ, eZ, dkZ⟩ trivial
  · obtain ⟨⟨o2, o3, o4, o5, o6, rfl⟩, dxZ, eZ, dkZ⟩ := inv
    simp_arith only [ir_law_L13]
    have L0 : LayS [] := ⟨by decide, fun f z => nomatch z⟩
    have t0 : layT [] = "\n" := by decide +kernel
    refine ⟨[], by rw [t0], L0, fun hJ sJ => ?_⟩
    refine ⟨sz (by decide), ?_⟩
    rw [show layV [] = Va.tup [] from rfl, aEq_free (n := 1) (m := 1) (by decide) (by decide) (by decide) (by decide)]
    rw [show PyData.eqv (toD (Va.tup [])) (toD (Va.tup [])) = true by decide, if_pos rfl]
    refine ⟨sz (by decide), [], rfl, L0, fun hL sL => ?_⟩
    dsimp only
    rw [t0, aEq_strX (by decide +kernel) (by decide +kernel), beq_self_eq_true]
    exact ret_of (q _)
end F2
set_option Elab.async false
set_option linter.all false
set_option maxRecDepth 100000
set_option maxHeartbeats 4000000
namespace F2
open PySem PySem.Spec PyProof.Rows
open L2
def topS (i : Nat) : Stmt := PySem.Challenge.pw_fewforests_k84_texts.main.body.getD i (.Pass ⟨0, 0, 0, 0⟩)
abbrev s_laying_text : Stmt := topS 19
theorem sc_laying_text : FnScope nm_laying_text ["laying"] (defScope s_laying_text) := ⟨rfl, rfl, rfl, by decide +kernel, rfl, by decide +kernel, by decide +kernel⟩
theorem ck_laying_text : chkSs nm_laying_text (defScope s_laying_text) ir_laying_text (defBody s_laying_text) = true := by decide +kernel
abbrev s_number_of : Stmt := topS 20
theorem sc_number_of : FnScope nm_number_of ["word"] (defScope s_number_of) := ⟨rfl, rfl, rfl, by decide +kernel, rfl, by decide +kernel, by decide +kernel⟩
theorem ck_number_of : chkSs nm_number_of (defScope s_number_of) ir_number_of (defBody s_number_of) = true := by decide +kernel
abbrev s_entry_of : Stmt := topS 24
theorem sc_entry_of : FnScope nm_entry_of ["word"] (defScope s_entry_of) := ⟨rfl, rfl, rfl, by decide +kernel, rfl, by decide +kernel, by decide +kernel⟩
theorem ck_entry_of : chkSs nm_entry_of (defScope s_entry_of) ir_entry_of (defBody s_entry_of) = true := by decide +kernel
abbrev s_lines_of : Stmt := topS 22
theorem sc_lines_of : FnScope nm_lines_of ["thing"] (defScope s_lines_of) := ⟨rfl, rfl, rfl, by decide +kernel, rfl, by decide +kernel, by decide +kernel⟩
theorem ck_lines_of : chkSs nm_lines_of (defScope s_lines_of) ir_lines_of (defBody s_lines_of) = true := by decide +kernel
abbrev s_read_laying : Stmt := topS 25
theorem sc_read_laying : FnScope nm_read_laying ["thing"] (defScope s_read_laying) := ⟨rfl, rfl, rfl, by decide +kernel, rfl, by decide +kernel, by decide +kernel⟩
theorem ck_read_laying : chkSs nm_read_laying (defScope s_read_laying) ir_read_laying (defBody s_read_laying) = true := by decide +kernel
abbrev s__law_alike_0 : Stmt := topS 36
theorem sc__law_alike_0 : FnScope nm__law_alike ["_law_found", "_law_due"] (defScope s__law_alike_0) := ⟨rfl, rfl, rfl, by decide +kernel, rfl, by decide +kernel, by decide +kernel⟩
theorem ck__law_alike_0 : chkSs nm__law_alike (defScope s__law_alike_0) ir__law_alike_never (defBody s__law_alike_0) = true := by decide +kernel
abbrev s__law_alike_1 : Stmt := topS 36
theorem sc__law_alike_1 : FnScope nm__law_alike ["_law_found", "_law_due"] (defScope s__law_alike_1) := ⟨rfl, rfl, rfl, by decide +kernel, rfl, by decide +kernel, by decide +kernel⟩
theorem ck__law_alike_1 : chkSs nm__law_alike (defScope s__law_alike_1) (ir__law_alike (sp__law_alike 0)) (defBody s__law_alike_1) = true := by decide +kernel
abbrev s__law_alike_2 : Stmt := topS 36
theorem sc__law_alike_2 : FnScope nm__law_alike ["_law_found", "_law_due"] (defScope s__law_alike_2) := ⟨rfl, rfl, rfl, by decide +kernel, rfl, by decide +kernel, by decide +kernel⟩
theorem ck__law_alike_2 : chkSs nm__law_alike (defScope s__law_alike_2) (ir__law_alike (sp__law_alike 1)) (defBody s__law_alike_2) = true := by decide +kernel
abbrev s__law_alike_3 : Stmt := topS 36
theorem sc__law_alike_3 : FnScope nm__law_alike ["_law_found", "_law_due"] (defScope s__law_alike_3) := ⟨rfl, rfl, rfl, by decide +kernel, rfl, by decide +kernel, by decide +kernel⟩
theorem ck__law_alike_3 : chkSs nm__law_alike (defScope s__law_alike_3) (ir__law_alike (sp__law_alike 2)) (defBody s__law_alike_3) = true := by decide +kernel
abbrev s__law_alike_4 : Stmt := topS 36
theorem sc__law_alike_4 : FnScope nm__law_alike ["_law_found", "_law_due"] (defScope s__law_alike_4) := ⟨rfl, rfl, rfl, by decide +kernel, rfl, by decide +kernel, by decide +kernel⟩
theorem ck__law_alike_4 : chkSs nm__law_alike (defScope s__law_alike_4) (ir__law_alike (sp__law_alike 3)) (defBody s__law_alike_4) = true := by decide +kernel
abbrev s__law_laying_text : Stmt := topS 35
theorem sc__law_laying_text : FnScope nm__law_laying_text ["_law_laying"] (defScope s__law_laying_text) := ⟨rfl, rfl, rfl, by decide +kernel, rfl, by decide +kernel, by decide +kernel⟩
theorem ck__law_laying_text : chkSs nm__law_laying_text (defScope s__law_laying_text) ir__law_laying_text (defBody s__law_laying_text) = true := by decide +kernel
abbrev s__law_next : Stmt := topS 29
theorem sc__law_next : FnScope nm__law_next ["_law_deck_here"] (defScope s__law_next) := ⟨rfl, rfl, rfl, by decide +kernel, rfl, by decide +kernel, by decide +kernel⟩
theorem ck__law_next : chkSs nm__law_next (defScope s__law_next) ir__law_next (defBody s__law_next) = true := by decide +kernel
abbrev s_web_text : Stmt := topS 18
theorem sc_web_text : FnScope nm_web_text ["web"] (defScope s_web_text) := ⟨rfl, rfl, rfl, by decide +kernel, rfl, by decide +kernel, by decide +kernel⟩
theorem ck_web_text : chkSs nm_web_text (defScope s_web_text) ir_web_text (defBody s_web_text) = true := by decide +kernel
abbrev s_is_int : Stmt := topS 5
theorem sc_is_int : FnScope nm_is_int ["thing", "least", "most"] (defScope s_is_int) := ⟨rfl, rfl, rfl, by decide +kernel, rfl, by decide +kernel, by decide +kernel⟩
theorem ck_is_int : chkSs nm_is_int (defScope s_is_int) ir_is_int (defBody s_is_int) = true := by decide +kernel
abbrev s_is_tuple : Stmt := topS 6
theorem sc_is_tuple : FnScope nm_is_tuple ["thing", "length"] (defScope s_is_tuple) := ⟨rfl, rfl, rfl, by decide +kernel, rfl, by decide +kernel, by decide +kernel⟩
theorem ck_is_tuple : chkSs nm_is_tuple (defScope s_is_tuple) ir_is_tuple (defBody s_is_tuple) = true := by decide +kernel
abbrev s_is_tie : Stmt := topS 10
theorem sc_is_tie : FnScope nm_is_tie ["thing", "points"] (defScope s_is_tie) := ⟨rfl, rfl, rfl, by decide +kernel, rfl, by decide +kernel, by decide +kernel⟩
theorem ck_is_tie : chkSs nm_is_tie (defScope s_is_tie) ir_is_tie (defBody s_is_tie) = true := by decide +kernel
abbrev s_is_web : Stmt := topS 11
theorem sc_is_web : FnScope nm_is_web ["thing"] (defScope s_is_web) := ⟨rfl, rfl, rfl, by decide +kernel, rfl, by decide +kernel, by decide +kernel⟩
theorem ck_is_web : chkSs nm_is_web (defScope s_is_web) ir_is_web (defBody s_is_web) = true := by decide +kernel
abbrev s_check : Stmt := topS 12
theorem sc_check : FnScope nm_check ["thing"] (defScope s_check) := ⟨rfl, rfl, rfl, by decide +kernel, rfl, by decide +kernel, by decide +kernel⟩
theorem ck_check : chkSs nm_check (defScope s_check) ir_check (defBody s_check) = true := by decide +kernel
abbrev s_words_of : Stmt := topS 21
theorem sc_words_of : FnScope nm_words_of ["line", "head", "many"] (defScope s_words_of) := ⟨rfl, rfl, rfl, by decide +kernel, rfl, by decide +kernel, by decide +kernel⟩
theorem ck_words_of : chkSs nm_words_of (defScope s_words_of) ir_words_of (defBody s_words_of) = true := by decide +kernel
abbrev s_read_web : Stmt := topS 23
theorem sc_read_web : FnScope nm_read_web ["thing"] (defScope s_read_web) := ⟨rfl, rfl, rfl, by decide +kernel, rfl, by decide +kernel, by decide +kernel⟩
theorem ck_read_web : chkSs nm_read_web (defScope s_read_web) ir_read_web (defBody s_read_web) = true := by decide +kernel
abbrev s__law_web_text : Stmt := topS 34
theorem sc__law_web_text : FnScope nm__law_web_text ["_law_web_here"] (defScope s__law_web_text) := ⟨rfl, rfl, rfl, by decide +kernel, rfl, by decide +kernel, by decide +kernel⟩
theorem ck__law_web_text : chkSs nm__law_web_text (defScope s__law_web_text) ir__law_web_text (defBody s__law_web_text) = true := by decide +kernel
abbrev s__law_turned : Stmt := topS 30
theorem sc__law_turned : FnScope nm__law_turned ["_law_deck_here", "_law_row"] (defScope s__law_turned) := ⟨rfl, rfl, rfl, by decide +kernel, rfl, by decide +kernel, by decide +kernel⟩
theorem ck__law_turned : chkSs nm__law_turned (defScope s__law_turned) ir__law_turned (defBody s__law_turned) = true := by decide +kernel
abbrev s__law_ties : Stmt := topS 32
theorem sc__law_ties : FnScope nm__law_ties ["_law_deck_here", "_law_points", "_law_many"] (defScope s__law_ties) := ⟨rfl, rfl, rfl, by decide +kernel, rfl, by decide +kernel, by decide +kernel⟩
theorem ck__law_ties : chkSs nm__law_ties (defScope s__law_ties) ir__law_ties (defBody s__law_ties) = true := by decide +kernel
abbrev s__law_tree2 : Stmt := topS 31
theorem sc__law_tree2 : FnScope nm__law_tree2 ["_law_deck_here", "_law_points"] (defScope s__law_tree2) := ⟨rfl, rfl, rfl, by decide +kernel, rfl, by decide +kernel, by decide +kernel⟩
theorem ck__law_tree2 : chkSs nm__law_tree2 (defScope s__law_tree2) ir__law_tree2 (defBody s__law_tree2) = true := by decide +kernel
abbrev s__law_web2 : Stmt := topS 33
theorem sc__law_web2 : FnScope nm__law_web2 ["_law_deck_here", "_law_points", "_law_ties_here"] (defScope s__law_web2) := ⟨rfl, rfl, rfl, by decide +kernel, rfl, by decide +kernel, by decide +kernel⟩
theorem ck__law_web2 : chkSs nm__law_web2 (defScope s__law_web2) ir__law_web2 (defBody s__law_web2) = true := by decide +kernel
abbrev s__law_mixed : Stmt := topS 27
theorem sc__law_mixed : FnScope nm__law_mixed ["_law_cell", "_law_k"] (defScope s__law_mixed) := ⟨rfl, rfl, rfl, by decide +kernel, rfl, by decide +kernel, by decide +kernel⟩
theorem ck__law_mixed : chkSs nm__law_mixed (defScope s__law_mixed) ir__law_mixed (defBody s__law_mixed) = true := by decide +kernel
abbrev s__law_deck : Stmt := topS 28
theorem sc__law_deck : FnScope nm__law_deck ["_law_script", "_law_many"] (defScope s__law_deck) := ⟨rfl, rfl, rfl, by decide +kernel, rfl, by decide +kernel, by decide +kernel⟩
theorem ck__law_deck : chkSs nm__law_deck (defScope s__law_deck) ir__law_deck (defBody s__law_deck) = true := by decide +kernel
abbrev s_law : Stmt := topS 37
theorem sc_law : FnScope nm_law ["_law_script"] (defScope s_law) := ⟨rfl, rfl, rfl, by decide +kernel, rfl, by decide +kernel, by decide +kernel⟩
theorem ck_law : chkSs nm_law (defScope s_law) ir_law (defBody s_law) = true := by decide +kernel
abbrev s__law_alike : Stmt := topS 36
section
variable {P : Program} {w : World} {K : PySem.W.Frag} {mg : Str → Option Value} {base : Heap} {CA : Str → Addr}
theorem ok_laying_text {f : Addr} {fd : FuncData} (F : Fun K "laying_text" "laying_text" s_laying_text f fd) (bl : ∀ n ∈ bNames, mg n = none) : FnOk P w K mg base CX0 1 f fd ["laying"] (cSp (gx K CA) sp_laying_text) := by
  refine fn_ok rfl rfl F sc_laying_text bl ?_ ck_laying_text rfl fa_laying_text
  intro q hq
  simp only [ir_laying_text_L7, ir_laying_text_L4, ir_laying_text_L6, ir_laying_text_L3, ir_laying_text_L2, ir_laying_text, needSs, needS, needE, needEs, needP, needR, needI, needX, needHs, List.flatMap_cons, List.flatMap_nil, List.map_cons, List.map_nil, List.mem_cons, List.mem_append, List.not_mem_nil, or_false, false_or, List.append_nil, List.nil_append] at hq
theorem ok_number_of {f : Addr} {fd : FuncData} (F : Fun K "number_of" "number_of" s_number_of f fd) (bl : ∀ n ∈ bNames, mg n = none) (n1 : NdP (gx K CA) 0 P w K mg base (.cos "FIGURES" "0123456789")) (n2 : NdP (gx K CA) 0 P w K mg base (.con "MOST_FIGURES" (3))) : FnOk P w K mg base CX0 1 f fd ["word"] (cSp (gx K CA) sp_number_of) := by
  refine fn_ok rfl rfl F sc_number_of bl ?_ ck_number_of rfl fa_number_of
  intro q hq
  simp only [ir_number_of_L8, ir_number_of_L7, ir_number_of_L6, ir_number_of_L5, ir_number_of_L4, ir_number_of_L3, ir_number_of_L2, ir_number_of, needSs, needS, needE, needEs, needP, needR, needI, needX, needHs, List.flatMap_cons, List.flatMap_nil, List.map_cons, List.map_nil, List.mem_cons, List.mem_append, List.not_mem_nil, or_false, false_or, List.append_nil, List.nil_append] at hq
  (repeat' (rcases hq with hq | hq)) <;> first | assumption | (subst hq; assumption)
theorem ok_entry_of {f : Addr} {fd : FuncData} (F : Fun K "entry_of" "entry_of" s_entry_of f fd) (bl : ∀ n ∈ bNames, mg n = none) (n1 : NdP (gx K CA) 1 P w K mg base (.con "MOST_FOREST" (119))) (n2 : NdP (gx K CA) 1 P w K mg base (.fn "number_of" sp_number_of)) : FnOk P w K mg base CX0 2 f fd ["word"] (cSp (gx K CA) sp_entry_of) := by
  refine fn_ok rfl rfl F sc_entry_of bl ?_ ck_entry_of rfl fa_entry_of
  intro q hq
  simp only [ir_entry_of_L6, ir_entry_of_L5, ir_entry_of_L4, ir_entry_of_L3, ir_entry_of_L2, ir_entry_of, needSs, needS, needE, needEs, needP, needR, needI, needX, needHs, List.flatMap_cons, List.flatMap_nil, List.map_cons, List.map_nil, List.mem_cons, List.mem_append, List.not_mem_nil, or_false, false_or, List.append_nil, List.nil_append] at hq
  (repeat' (rcases hq with hq | hq)) <;> first | assumption | (subst hq; assumption)
theorem ok_lines_of {f : Addr} {fd : FuncData} (F : Fun K "lines_of" "lines_of" s_lines_of f fd) (bl : ∀ n ∈ bNames, mg n = none) : FnOk P w K mg base CX0 1 f fd ["thing"] (cSp (gx K CA) sp_lines_of) := by
  refine fn_ok rfl rfl F sc_lines_of bl ?_ ck_lines_of rfl fa_lines_of
  intro q hq
  simp only [ir_lines_of_L3, ir_lines_of_L2, ir_lines_of, needSs, needS, needE, needEs, needP, needR, needI, needX, needHs, List.flatMap_cons, List.flatMap_nil, List.map_cons, List.map_nil, List.mem_cons, List.mem_append, List.not_mem_nil, or_false, false_or, List.append_nil, List.nil_append] at hq
theorem ok_read_laying {f : Addr} {fd : FuncData} (F : Fun K "read_laying" "read_laying" s_read_laying f fd) (bl : ∀ n ∈ bNames, mg n = none) (n1 : NdP (gx K CA) 2 P w K mg base (.fn "laying_text" sp_laying_text)) (n2 : NdP (gx K CA) 2 P w K mg base (.con "MOST_ENTRIES" (120))) (n3 : NdP (gx K CA) 2 P w K mg base (.fn "entry_of" sp_entry_of)) (n4 : NdP (gx K CA) 2 P w K mg base (.fn "lines_of" sp_lines_of)) : FnOk P w K mg base CX0 3 f fd ["thing"] (cSp (gx K CA) sp_read_laying) := by
  refine fn_ok rfl rfl F sc_read_laying bl ?_ ck_read_laying rfl fa_read_laying
  intro q hq
  simp only [ir_read_laying_L7, ir_read_laying_L6, ir_read_laying_L5, ir_read_laying_L4, ir_read_laying_L3, ir_read_laying_L2, ir_read_laying, needSs, needS, needE, needEs, needP, needR, needI, needX, needHs, List.flatMap_cons, List.flatMap_nil, List.map_cons, List.map_nil, List.mem_cons, List.mem_append, List.not_mem_nil, or_false, false_or, List.append_nil, List.nil_append] at hq
  (repeat' (rcases hq with hq | hq)) <;> first | assumption | (subst hq; assumption)
theorem ok__law_alike_0 {f : Addr} {fd : FuncData} (F : Fun K "_law_alike" "_law_alike" s__law_alike_0 f fd) (bl : ∀ n ∈ bNames, mg n = none) : FnOk P w K mg base CX0 1 f fd ["_law_found", "_law_due"] (cSp (gx K CA) (sp__law_alike 0)) := by
  refine fn_ok rfl rfl F sc__law_alike_0 bl ?_ ck__law_alike_0 rfl fa__law_alike_never
  intro q hq
  simp only [ir__law_alike_never, needSs, needS, needE, needEs, needP, needR, needI, needX, needHs, List.flatMap_cons, List.flatMap_nil, List.map_cons, List.map_nil, List.mem_cons, List.mem_append, List.not_mem_nil, or_false, false_or, List.append_nil, List.nil_append] at hq
theorem ok__law_alike_1 {f : Addr} {fd : FuncData} (F : Fun K "_law_alike" "_law_alike" s__law_alike_1 f fd) (bl : ∀ n ∈ bNames, mg n = none) (n1 : NdP (gx K CA) 1 P w K mg base (.fn "_law_alike" (sp__law_alike 0))) : FnOk P w K mg base CX0 2 f fd ["_law_found", "_law_due"] (cSp (gx K CA) (sp__law_alike 1)) := by
  refine fn_ok rfl rfl F sc__law_alike_1 bl ?_ ck__law_alike_1 rfl (fa__law_alike 0)
  intro q hq
  simp only [ir__law_alike_L5, ir__law_alike_L4, ir__law_alike_L3, ir__law_alike_L2, ir__law_alike, needSs, needS, needE, needEs, needP, needR, needI, needX, needHs, List.flatMap_cons, List.flatMap_nil, List.map_cons, List.map_nil, List.mem_cons, List.mem_append, List.not_mem_nil, or_false, false_or, List.append_nil, List.nil_append] at hq
  (repeat' (rcases hq with hq | hq)) <;> first | assumption | (subst hq; assumption)
theorem ok__law_alike_2 {f : Addr} {fd : FuncData} (F : Fun K "_law_alike" "_law_alike" s__law_alike_2 f fd) (bl : ∀ n ∈ bNames, mg n = none) (n1 : NdP (gx K CA) 2 P w K mg base (.fn "_law_alike" (sp__law_alike 1))) : FnOk P w K mg base CX0 3 f fd ["_law_found", "_law_due"] (cSp (gx K CA) (sp__law_alike 2)) := by
  refine fn_ok rfl rfl F sc__law_alike_2 bl ?_ ck__law_alike_2 rfl (fa__law_alike 1)
  intro q hq
  simp only [ir__law_alike_L5, ir__law_alike_L4, ir__law_alike_L3, ir__law_alike_L2, ir__law_alike, needSs, needS, needE, needEs, needP, needR, needI, needX, needHs, List.flatMap_cons, List.flatMap_nil, List.map_cons, List.map_nil, List.mem_cons, List.mem_append, List.not_mem_nil, or_false, false_or, List.append_nil, List.nil_append] at hq
  (repeat' (rcases hq with hq | hq)) <;> first | assumption | (subst hq; assumption)
theorem ok__law_alike_3 {f : Addr} {fd : FuncData} (F : Fun K "_law_alike" "_law_alike" s__law_alike_3 f fd) (bl : ∀ n ∈ bNames, mg n = none) (n1 : NdP (gx K CA) 3 P w K mg base (.fn "_law_alike" (sp__law_alike 2))) : FnOk P w K mg base CX0 4 f fd ["_law_found", "_law_due"] (cSp (gx K CA) (sp__law_alike 3)) := by
  refine fn_ok rfl rfl F sc__law_alike_3 bl ?_ ck__law_alike_3 rfl (fa__law_alike 2)
  intro q hq
  simp only [ir__law_alike_L5, ir__law_alike_L4, ir__law_alike_L3, ir__law_alike_L2, ir__law_alike, needSs, needS, needE, needEs, needP, needR, needI, needX, needHs, List.flatMap_cons, List.flatMap_nil, List.map_cons, List.map_nil, List.mem_cons, List.mem_append, List.not_mem_nil, or_false, false_or, List.append_nil, List.nil_append] at hq
  (repeat' (rcases hq with hq | hq)) <;> first | assumption | (subst hq; assumption)
theorem ok__law_alike_4 {f : Addr} {fd : FuncData} (F : Fun K "_law_alike" "_law_alike" s__law_alike_4 f fd) (bl : ∀ n ∈ bNames, mg n = none) (n1 : NdP (gx K CA) 4 P w K mg base (.fn "_law_alike" (sp__law_alike 3))) : FnOk P w K mg base CX0 5 f fd ["_law_found", "_law_due"] (cSp (gx K CA) (sp__law_alike 4)) := by
  refine fn_ok rfl rfl F sc__law_alike_4 bl ?_ ck__law_alike_4 rfl (fa__law_alike 3)
  intro q hq
  simp only [ir__law_alike_L5, ir__law_alike_L4, ir__law_alike_L3, ir__law_alike_L2, ir__law_alike, needSs, needS, needE, needEs, needP, needR, needI, needX, needHs, List.flatMap_cons, List.flatMap_nil, List.map_cons, List.map_nil, List.mem_cons, List.mem_append, List.not_mem_nil, or_false, false_or, List.append_nil, List.nil_append] at hq
  (repeat' (rcases hq with hq | hq)) <;> first | assumption | (subst hq; assumption)
theorem ok__law_laying_text {f : Addr} {fd : FuncData} (F : Fun K "_law_laying_text" "_law_laying_text" s__law_laying_text f fd) (bl : ∀ n ∈ bNames, mg n = none) : FnOk P w K mg base CX0 1 f fd ["_law_laying"] (cSp (gx K CA) sp__law_laying_text) := by
  refine fn_ok rfl rfl F sc__law_laying_text bl ?_ ck__law_laying_text rfl fa__law_laying_text
  intro q hq
  simp only [ir__law_laying_text, needSs, needS, needE, needEs, needP, needR, needI, needX, needHs, List.flatMap_cons, List.flatMap_nil, List.map_cons, List.map_nil, List.mem_cons, List.mem_append, List.not_mem_nil, or_false, false_or, List.append_nil, List.nil_append] at hq
theorem ok__law_next {f : Addr} {fd : FuncData} (F : Fun K "_law_next" "_law_next" s__law_next f fd) (bl : ∀ n ∈ bNames, mg n = none) : FnOk P w K mg base CX0 1 f fd ["_law_deck_here"] (cSp (gx K CA) sp__law_next) := by
  refine fn_ok rfl rfl F sc__law_next bl ?_ ck__law_next rfl fa__law_next
  intro q hq
  simp only [ir__law_next_L3, ir__law_next_L2, ir__law_next, needSs, needS, needE, needEs, needP, needR, needI, needX, needHs, List.flatMap_cons, List.flatMap_nil, List.map_cons, List.map_nil, List.mem_cons, List.mem_append, List.not_mem_nil, or_false, false_or, List.append_nil, List.nil_append] at hq
theorem ok_web_text {f : Addr} {fd : FuncData} (F : Fun K "web_text" "web_text" s_web_text f fd) (bl : ∀ n ∈ bNames, mg n = none) : FnOk P w K mg base CX0 1 f fd ["web"] (cSp (gx K CA) sp_web_text) := by
  refine fn_ok rfl rfl F sc_web_text bl ?_ ck_web_text rfl fa_web_text
  intro q hq
  simp only [ir_web_text_L5, ir_web_text_L4, ir_web_text_L3, ir_web_text_L2, ir_web_text, needSs, needS, needE, needEs, needP, needR, needI, needX, needHs, List.flatMap_cons, List.flatMap_nil, List.map_cons, List.map_nil, List.mem_cons, List.mem_append, List.not_mem_nil, or_false, false_or, List.append_nil, List.nil_append] at hq
theorem ok_is_int {f : Addr} {fd : FuncData} (F : Fun K "is_int" "is_int" s_is_int f fd) (bl : ∀ n ∈ bNames, mg n = none) : FnOk P w K mg base CX0 1 f fd ["thing", "least", "most"] (cSp (gx K CA) sp_is_int) := by
  refine fn_ok rfl rfl F sc_is_int bl ?_ ck_is_int rfl fa_is_int
  intro q hq
  simp only [ir_is_int, needSs, needS, needE, needEs, needP, needR, needI, needX, needHs, List.flatMap_cons, List.flatMap_nil, List.map_cons, List.map_nil, List.mem_cons, List.mem_append, List.not_mem_nil, or_false, false_or, List.append_nil, List.nil_append] at hq
theorem ok_is_tuple {f : Addr} {fd : FuncData} (F : Fun K "is_tuple" "is_tuple" s_is_tuple f fd) (bl : ∀ n ∈ bNames, mg n = none) : FnOk P w K mg base CX0 1 f fd ["thing", "length"] (cSp (gx K CA) sp_is_tuple) := by
  refine fn_ok rfl rfl F sc_is_tuple bl ?_ ck_is_tuple rfl fa_is_tuple
  intro q hq
  simp only [ir_is_tuple, needSs, needS, needE, needEs, needP, needR, needI, needX, needHs, List.flatMap_cons, List.flatMap_nil, List.map_cons, List.map_nil, List.mem_cons, List.mem_append, List.not_mem_nil, or_false, false_or, List.append_nil, List.nil_append] at hq
theorem ok_is_tie {f : Addr} {fd : FuncData} (F : Fun K "is_tie" "is_tie" s_is_tie f fd) (bl : ∀ n ∈ bNames, mg n = none) (n1 : NdP (gx K CA) 1 P w K mg base (.fn "is_int" sp_is_int)) (n2 : NdP (gx K CA) 1 P w K mg base (.fn "is_tuple" sp_is_tuple)) : FnOk P w K mg base CX0 2 f fd ["thing", "points"] (cSp (gx K CA) sp_is_tie) := by
  refine fn_ok rfl rfl F sc_is_tie bl ?_ ck_is_tie rfl fa_is_tie
  intro q hq
  simp only [ir_is_tie, needSs, needS, needE, needEs, needP, needR, needI, needX, needHs, List.flatMap_cons, List.flatMap_nil, List.map_cons, List.map_nil, List.mem_cons, List.mem_append, List.not_mem_nil, or_false, false_or, List.append_nil, List.nil_append] at hq
  (repeat' (rcases hq with hq | hq)) <;> first | assumption | (subst hq; assumption)
theorem ok_is_web {f : Addr} {fd : FuncData} (F : Fun K "is_web" "is_web" s_is_web f fd) (bl : ∀ n ∈ bNames, mg n = none) (n1 : NdP (gx K CA) 2 P w K mg base (.fn "is_tie" sp_is_tie)) (n2 : NdP (gx K CA) 2 P w K mg base (.con "MOST_TIES" (120))) (n3 : NdP (gx K CA) 2 P w K mg base (.fn "is_tuple" sp_is_tuple)) (n4 : NdP (gx K CA) 2 P w K mg base (.fn "is_int" sp_is_int)) (n5 : NdP (gx K CA) 2 P w K mg base (.con "MOST_POINTS" (40))) : FnOk P w K mg base CX0 3 f fd ["thing"] (cSp (gx K CA) sp_is_web) := by
  refine fn_ok rfl rfl F sc_is_web bl ?_ ck_is_web rfl fa_is_web
  intro q hq
  simp only [ir_is_web_L6, ir_is_web_L5, ir_is_web_L4, ir_is_web_L3, ir_is_web_L2, ir_is_web, needSs, needS, needE, needEs, needP, needR, needI, needX, needHs, List.flatMap_cons, List.flatMap_nil, List.map_cons, List.map_nil, List.mem_cons, List.mem_append, List.not_mem_nil, or_false, false_or, List.append_nil, List.nil_append] at hq
  (repeat' (rcases hq with hq | hq)) <;> first | assumption | (subst hq; assumption)
theorem ok_check {f : Addr} {fd : FuncData} (F : Fun K "check" "check" s_check f fd) (bl : ∀ n ∈ bNames, mg n = none) (n1 : NdP (gx K CA) 3 P w K mg base (.fn "is_web" sp_is_web)) : FnOk P w K mg base CX0 4 f fd ["thing"] (cSp (gx K CA) sp_check) := by
  refine fn_ok rfl rfl F sc_check bl ?_ ck_check rfl fa_check
  intro q hq
  simp only [ir_check_L3, ir_check_L2, ir_check, needSs, needS, needE, needEs, needP, needR, needI, needX, needHs, List.flatMap_cons, List.flatMap_nil, List.map_cons, List.map_nil, List.mem_cons, List.mem_append, List.not_mem_nil, or_false, false_or, List.append_nil, List.nil_append] at hq
  (repeat' (rcases hq with hq | hq)) <;> first | assumption | (subst hq; assumption)
theorem ok_words_of {f : Addr} {fd : FuncData} (F : Fun K "words_of" "words_of" s_words_of f fd) (bl : ∀ n ∈ bNames, mg n = none) (n1 : NdP (gx K CA) 1 P w K mg base (.fn "number_of" sp_number_of)) : FnOk P w K mg base CX0 2 f fd ["line", "head", "many"] (cSp (gx K CA) sp_words_of) := by
  refine fn_ok rfl rfl F sc_words_of bl ?_ ck_words_of rfl fa_words_of
  intro q hq
  simp only [ir_words_of_L5, ir_words_of_L4, ir_words_of_L3, ir_words_of_L2, ir_words_of, needSs, needS, needE, needEs, needP, needR, needI, needX, needHs, List.flatMap_cons, List.flatMap_nil, List.map_cons, List.map_nil, List.mem_cons, List.mem_append, List.not_mem_nil, or_false, false_or, List.append_nil, List.nil_append] at hq
  (repeat' (rcases hq with hq | hq)) <;> first | assumption | (subst hq; assumption)
theorem ok_read_web {f : Addr} {fd : FuncData} (F : Fun K "read_web" "read_web" s_read_web f fd) (bl : ∀ n ∈ bNames, mg n = none) (n1 : NdP (gx K CA) 4 P w K mg base (.fn "web_text" sp_web_text)) (n2 : NdP (gx K CA) 4 P w K mg base (.fn "check" sp_check)) (n3 : NdP (gx K CA) 4 P w K mg base (.hnd "NoWeb")) (n4 : NdP (gx K CA) 4 P w K mg base (.fn "words_of" sp_words_of)) (n5 : NdP (gx K CA) 4 P w K mg base (.fn "lines_of" sp_lines_of)) : FnOk P w K mg base CX0 5 f fd ["thing"] (cSp (gx K CA) sp_read_web) := by
  refine fn_ok rfl rfl F sc_read_web bl ?_ ck_read_web rfl fa_read_web
  intro q hq
  simp only [ir_read_web_L10, ir_read_web_L9, ir_read_web_L8, ir_read_web_L5, ir_read_web_L7, ir_read_web_L4, ir_read_web_L3, ir_read_web_L2, ir_read_web, needSs, needS, needE, needEs, needP, needR, needI, needX, needHs, List.flatMap_cons, List.flatMap_nil, List.map_cons, List.map_nil, List.mem_cons, List.mem_append, List.not_mem_nil, or_false, false_or, List.append_nil, List.nil_append] at hq
  (repeat' (rcases hq with hq | hq)) <;> first | assumption | (subst hq; assumption)
theorem ok__law_web_text {f : Addr} {fd : FuncData} (F : Fun K "_law_web_text" "_law_web_text" s__law_web_text f fd) (bl : ∀ n ∈ bNames, mg n = none) : FnOk P w K mg base CX0 1 f fd ["_law_web_here"] (cSp (gx K CA) sp__law_web_text) := by
  refine fn_ok rfl rfl F sc__law_web_text bl ?_ ck__law_web_text rfl fa__law_web_text
  intro q hq
  simp only [ir__law_web_text_L2, ir__law_web_text, needSs, needS, needE, needEs, needP, needR, needI, needX, needHs, List.flatMap_cons, List.flatMap_nil, List.map_cons, List.map_nil, List.mem_cons, List.mem_append, List.not_mem_nil, or_false, false_or, List.append_nil, List.nil_append] at hq
theorem ok__law_turned {f : Addr} {fd : FuncData} (F : Fun K "_law_turned" "_law_turned" s__law_turned f fd) (bl : ∀ n ∈ bNames, mg n = none) (n1 : NdP (gx K CA) 1 P w K mg base (.fn "_law_next" sp__law_next)) : FnOk P w K mg base CX0 2 f fd ["_law_deck_here", "_law_row"] (cSp (gx K CA) sp__law_turned) := by
  refine fn_ok rfl rfl F sc__law_turned bl ?_ ck__law_turned rfl fa__law_turned
  intro q hq
  simp only [ir__law_turned_L5, ir__law_turned_L4, ir__law_turned_L3, ir__law_turned_L2, ir__law_turned, needSs, needS, needE, needEs, needP, needR, needI, needX, needHs, List.flatMap_cons, List.flatMap_nil, List.map_cons, List.map_nil, List.mem_cons, List.mem_append, List.not_mem_nil, or_false, false_or, List.append_nil, List.nil_append] at hq
  (repeat' (rcases hq with hq | hq)) <;> first | assumption | (subst hq; assumption)
theorem ok__law_ties {f : Addr} {fd : FuncData} (F : Fun K "_law_ties" "_law_ties" s__law_ties f fd) (bl : ∀ n ∈ bNames, mg n = none) (n1 : NdP (gx K CA) 1 P w K mg base (.fn "_law_next" sp__law_next)) : FnOk P w K mg base CX0 2 f fd ["_law_deck_here", "_law_points", "_law_many"] (cSp (gx K CA) sp__law_ties) := by
  refine fn_ok rfl rfl F sc__law_ties bl ?_ ck__law_ties rfl fa__law_ties
  intro q hq
  simp only [ir__law_ties_L7, ir__law_ties_L6, ir__law_ties_L5, ir__law_ties_L4, ir__law_ties_L3, ir__law_ties_L2, ir__law_ties, needSs, needS, needE, needEs, needP, needR, needI, needX, needHs, List.flatMap_cons, List.flatMap_nil, List.map_cons, List.map_nil, List.mem_cons, List.mem_append, List.not_mem_nil, or_false, false_or, List.append_nil, List.nil_append] at hq
  (repeat' (rcases hq with hq | hq)) <;> first | assumption | (subst hq; assumption)
theorem ok__law_tree2 {f : Addr} {fd : FuncData} (F : Fun K "_law_tree" "_law_tree" s__law_tree2 f fd) (bl : ∀ n ∈ bNames, mg n = none) (n1 : NdP (gx K CA) 2 P w K mg base (.fn "_law_next" sp__law_next)) (n2 : NdP (gx K CA) 2 P w K mg base (.fn "_law_turned" sp__law_turned)) : FnOk P w K mg base CX0 3 f fd ["_law_deck_here", "_law_points"] (cSp (gx K CA) sp__law_tree2) := by
  refine fn_ok rfl rfl F sc__law_tree2 bl ?_ ck__law_tree2 rfl fa__law_tree2
  intro q hq
  simp only [ir__law_tree2_L7, ir__law_tree2_L6, ir__law_tree2_L5, ir__law_tree2_L4, ir__law_tree2_L3, ir__law_tree2_L2, ir__law_tree2, needSs, needS, needE, needEs, needP, needR, needI, needX, needHs, List.flatMap_cons, List.flatMap_nil, List.map_cons, List.map_nil, List.mem_cons, List.mem_append, List.not_mem_nil, or_false, false_or, List.append_nil, List.nil_append] at hq
  (repeat' (rcases hq with hq | hq)) <;> first | assumption | (subst hq; assumption)
theorem ok__law_web2 {f : Addr} {fd : FuncData} (F : Fun K "_law_web" "_law_web" s__law_web2 f fd) (bl : ∀ n ∈ bNames, mg n = none) (n1 : NdP (gx K CA) 3 P w K mg base (.fn "_law_turned" sp__law_turned)) (n2 : NdP (gx K CA) 3 P w K mg base (.fn "_law_ties" sp__law_ties)) (n3 : NdP (gx K CA) 3 P w K mg base (.fn "_law_next" sp__law_next)) (n4 : NdP (gx K CA) 3 P w K mg base (.fn "_law_tree" sp__law_tree2)) : FnOk P w K mg base CX0 4 f fd ["_law_deck_here", "_law_points", "_law_ties_here"] (cSp (gx K CA) sp__law_web2) := by
  refine fn_ok rfl rfl F sc__law_web2 bl ?_ ck__law_web2 rfl fa__law_web2
  intro q hq
  simp only [ir__law_web2_L7, ir__law_web2_L6, ir__law_web2_L5, ir__law_web2_L4, ir__law_web2_L3, ir__law_web2_L2, ir__law_web2, needSs, needS, needE, needEs, needP, needR, needI, needX, needHs, List.flatMap_cons, List.flatMap_nil, List.map_cons, List.map_nil, List.mem_cons, List.mem_append, List.not_mem_nil, or_false, false_or, List.append_nil, List.nil_append] at hq
  (repeat' (rcases hq with hq | hq)) <;> first | assumption | (subst hq; assumption)
theorem ok__law_mixed {f : Addr} {fd : FuncData} (F : Fun K "_law_mixed" "_law_mixed" s__law_mixed f fd) (bl : ∀ n ∈ bNames, mg n = none) : FnOk P w K mg base CX0 1 f fd ["_law_cell", "_law_k"] (cSp (gx K CA) sp__law_mixed) := by
  refine fn_ok rfl rfl F sc__law_mixed bl ?_ ck__law_mixed rfl fa__law_mixed
  intro q hq
  simp only [ir__law_mixed_L4, ir__law_mixed_L3, ir__law_mixed_L2, ir__law_mixed, needSs, needS, needE, needEs, needP, needR, needI, needX, needHs, List.flatMap_cons, List.flatMap_nil, List.map_cons, List.map_nil, List.mem_cons, List.mem_append, List.not_mem_nil, or_false, false_or, List.append_nil, List.nil_append] at hq
theorem ok__law_deck {f : Addr} {fd : FuncData} (F : Fun K "_law_deck" "_law_deck" s__law_deck f fd) (bl : ∀ n ∈ bNames, mg n = none) (n1 : NdP (gx K CA) 1 P w K mg base (.fn "_law_mixed" sp__law_mixed)) : FnOk P w K mg base CX0 2 f fd ["_law_script", "_law_many"] (cSp (gx K CA) sp__law_deck) := by
  refine fn_ok rfl rfl F sc__law_deck bl ?_ ck__law_deck rfl fa__law_deck
  intro q hq
  simp only [ir__law_deck_L11, ir__law_deck_L8, ir__law_deck_L7, ir__law_deck_L10, ir__law_deck_L6, ir__law_deck_L5, ir__law_deck_L4, ir__law_deck_L3, ir__law_deck_L2, ir__law_deck, needSs, needS, needE, needEs, needP, needR, needI, needX, needHs, List.flatMap_cons, List.flatMap_nil, List.map_cons, List.map_nil, List.mem_cons, List.mem_append, List.not_mem_nil, or_false, false_or, List.append_nil, List.nil_append] at hq
  (repeat' (rcases hq with hq | hq)) <;> first | assumption | (subst hq; assumption)
theorem ok_law {f : Addr} {fd : FuncData} (F : Fun K "law" "law" s_law f fd) (bl : ∀ n ∈ bNames, mg n = none) (n1 : NdP (gx K CA) 5 P w K mg base (.fn "laying_text" sp_laying_text)) (n2 : NdP (gx K CA) 5 P w K mg base (.fn "read_laying" sp_read_laying)) (n3 : NdP (gx K CA) 5 P w K mg base (.fn "_law_alike" (sp__law_alike 4))) (n4 : NdP (gx K CA) 5 P w K mg base (.fn "_law_laying_text" sp__law_laying_text)) (n5 : NdP (gx K CA) 5 P w K mg base (.fn "_law_next" sp__law_next)) (n6 : NdP (gx K CA) 5 P w K mg base (.fn "read_web" sp_read_web)) (n7 : NdP (gx K CA) 5 P w K mg base (.fn "_law_web_text" sp__law_web_text)) (n8 : NdP (gx K CA) 5 P w K mg base (.fn "web_text" sp_web_text)) (n9 : NdP (gx K CA) 5 P w K mg base (.fn "_law_web" sp__law_web2)) (n10 : NdP (gx K CA) 5 P w K mg base (.fn "_law_deck" sp__law_deck)) : FnOk P w K mg base CX0 6 f fd ["_law_script"] (cSp (gx K CA) spLaw) := by
  refine fn_ok rfl rfl F sc_law bl ?_ ck_law rfl fa_law
  intro q hq
  simp only [ir_law_L13, ir_law_L12, ir_law_L11, ir_law_L10, ir_law_L9, ir_law_L8, ir_law_L7, ir_law_L6, ir_law_L5, ir_law_L4, ir_law_L3, ir_law_L2, ir_law, needSs, needS, needE, needEs, needP, needR, needI, needX, needHs, List.flatMap_cons, List.flatMap_nil, List.map_cons, List.map_nil, List.mem_cons, List.mem_append, List.not_mem_nil, or_false, false_or, List.append_nil, List.nil_append] at hq
  (repeat' (rcases hq with hq | hq)) <;> first | assumption | (subst hq; assumption)
end
theorem all_mk {l : PySem.W.OpenLaw} {w : World} {K : PySem.W.Frag} {h : Heap} {mg : Str → Option Value} {fa f1 f2 f3 f4 f5 f6 f7 f8 f9 f10 f11 f12 f13 f14 f15 f16 f17 f18 f19 f20 f21 f22 f23 f24 E1 : Addr} (X : K.In h) (G : h.Ns mainGlobals mg) (hfa : mg "law" = some (.ref fa))
    {od1 an1 od2 an2 od3 an3 od4 an4 od5 an5 od6 an6 od7 an7 od8 an8 od9 an9 od10 an10 od11 an11 od12 an12 od13 an13 od14 an14 od15 an15 od16 an16 od17 an17 od18 an18 od19 an19 od20 an20 od21 an21 od22 an22 od23 an23 od24 an24 : Option Addr} {sl1 sl2 sl3 sl4 sl5 sl6 sl7 sl8 sl9 sl10 sl11 sl12 sl13 sl14 sl15 sl16 sl17 sl18 sl19 sl20 sl21 sl22 sl23 sl24 : Array (Option Value)} {oc1 kV1 dc1 pm1 ct1 cd1 oc2 kV2 dc2 pm2 ct2 cd2 oc3 kV3 dc3 pm3 ct3 cd3 oc4 kV4 dc4 pm4 ct4 cd4 oc5 kV5 dc5 pm5 ct5 cd5 oc6 kV6 dc6 pm6 ct6 cd6 oc7 kV7 dc7 pm7 ct7 cd7 oc8 kV8 dc8 pm8 ct8 cd8 oc9 kV9 dc9 pm9 ct9 cd9 oc10 kV10 dc10 pm10 ct10 cd10 oc11 kV11 dc11 pm11 ct11 cd11 oc12 kV12 dc12 pm12 ct12 cd12 oc13 kV13 dc13 pm13 ct13 cd13 oc14 kV14 dc14 pm14 ct14 cd14 oc15 kV15 dc15 pm15 ct15 cd15 oc16 kV16 dc16 pm16 ct16 cd16 oc17 kV17 dc17 pm17 ct17 cd17 oc18 kV18 dc18 pm18 ct18 cd18 oc19 kV19 dc19 pm19 ct19 cd19 oc20 kV20 dc20 pm20 ct20 cd20 oc21 kV21 dc21 pm21 ct21 cd21 oc22 kV22 dc22 pm22 ct22 cd22 oc23 kV23 dc23 pm23 ct23 cd23 oc24 kV24 dc24 pm24 ct24 cd24 : Value} {tk1 tk2 tk3 tk4 tk5 tk6 : Tok}
    (cn1 : PySem.W.nsIn K mainGlobals "FIGURES" = some (some (.str "0123456789" tk1)))
    (cn2 : PySem.W.nsIn K mainGlobals "MOST_FIGURES" = some (some (.int (3) tk2)))
    (cn3 : PySem.W.nsIn K mainGlobals "MOST_FOREST" = some (some (.int (119) tk3)))
    (cn4 : PySem.W.nsIn K mainGlobals "MOST_ENTRIES" = some (some (.int (120) tk4)))
    (cn5 : PySem.W.nsIn K mainGlobals "MOST_TIES" = some (some (.int (120) tk5)))
    (cn6 : PySem.W.nsIn K mainGlobals "MOST_POINTS" = some (some (.int (40) tk6)))
    (eu1 : PySem.W.nsIn K mainGlobals "NoWeb" = some (some (.ref E1))) (ek1 : PySem.W.keepIn K (.ref E1) = true) (ed1 : PySem.W.hasDictIn K E1 = true) (et1 : PySem.W.typeIn K (.ref E1) = some (.type "type")) (eb1 : PySem.W.subIn K (.ref E1) (.type "BaseException") = some true)
    (a1 : PySem.W.nsIn K mainGlobals "laying_text" = some (some (.ref f1))) (l1 : K.lookup f1 = some ⟨oc1, od1, .func (PySem.W.fnOf "laying_text" "laying_text" (defArgs s_laying_text) (defBody s_laying_text) (defScope s_laying_text) .none kV1 dc1 pm1 an1 cd1 ct1), sl1⟩) (c1 : PySem.W.codeIn K cd1 "laying_text" = true) (k1 : PySem.W.keepIn K (.ref f1) = true)
    (a2 : PySem.W.nsIn K mainGlobals "number_of" = some (some (.ref f2))) (l2 : K.lookup f2 = some ⟨oc2, od2, .func (PySem.W.fnOf "number_of" "number_of" (defArgs s_number_of) (defBody s_number_of) (defScope s_number_of) .none kV2 dc2 pm2 an2 cd2 ct2), sl2⟩) (c2 : PySem.W.codeIn K cd2 "number_of" = true) (k2 : PySem.W.keepIn K (.ref f2) = true)
    (a3 : PySem.W.nsIn K mainGlobals "entry_of" = some (some (.ref f3))) (l3 : K.lookup f3 = some ⟨oc3, od3, .func (PySem.W.fnOf "entry_of" "entry_of" (defArgs s_entry_of) (defBody s_entry_of) (defScope s_entry_of) .none kV3 dc3 pm3 an3 cd3 ct3), sl3⟩) (c3 : PySem.W.codeIn K cd3 "entry_of" = true) (k3 : PySem.W.keepIn K (.ref f3) = true)
    (a4 : PySem.W.nsIn K mainGlobals "lines_of" = some (some (.ref f4))) (l4 : K.lookup f4 = some ⟨oc4, od4, .func (PySem.W.fnOf "lines_of" "lines_of" (defArgs s_lines_of) (defBody s_lines_of) (defScope s_lines_of) .none kV4 dc4 pm4 an4 cd4 ct4), sl4⟩) (c4 : PySem.W.codeIn K cd4 "lines_of" = true) (k4 : PySem.W.keepIn K (.ref f4) = true)
    (a5 : PySem.W.nsIn K mainGlobals "read_laying" = some (some (.ref f5))) (l5 : K.lookup f5 = some ⟨oc5, od5, .func (PySem.W.fnOf "read_laying" "read_laying" (defArgs s_read_laying) (defBody s_read_laying) (defScope s_read_laying) .none kV5 dc5 pm5 an5 cd5 ct5), sl5⟩) (c5 : PySem.W.codeIn K cd5 "read_laying" = true) (k5 : PySem.W.keepIn K (.ref f5) = true)
    (a6 : PySem.W.nsIn K mainGlobals "_law_alike" = some (some (.ref f6))) (l6 : K.lookup f6 = some ⟨oc6, od6, .func (PySem.W.fnOf "_law_alike" "_law_alike" (defArgs s__law_alike) (defBody s__law_alike) (defScope s__law_alike) .none kV6 dc6 pm6 an6 cd6 ct6), sl6⟩) (c6 : PySem.W.codeIn K cd6 "_law_alike" = true) (k6 : PySem.W.keepIn K (.ref f6) = true)
    (a7 : PySem.W.nsIn K mainGlobals "_law_laying_text" = some (some (.ref f7))) (l7 : K.lookup f7 = some ⟨oc7, od7, .func (PySem.W.fnOf "_law_laying_text" "_law_laying_text" (defArgs s__law_laying_text) (defBody s__law_laying_text) (defScope s__law_laying_text) .none kV7 dc7 pm7 an7 cd7 ct7), sl7⟩) (c7 : PySem.W.codeIn K cd7 "_law_laying_text" = true) (k7 : PySem.W.keepIn K (.ref f7) = true)
    (a8 : PySem.W.nsIn K mainGlobals "_law_next" = some (some (.ref f8))) (l8 : K.lookup f8 = some ⟨oc8, od8, .func (PySem.W.fnOf "_law_next" "_law_next" (defArgs s__law_next) (defBody s__law_next) (defScope s__law_next) .none kV8 dc8 pm8 an8 cd8 ct8), sl8⟩) (c8 : PySem.W.codeIn K cd8 "_law_next" = true) (k8 : PySem.W.keepIn K (.ref f8) = true)
    (a9 : PySem.W.nsIn K mainGlobals "web_text" = some (some (.ref f9))) (l9 : K.lookup f9 = some ⟨oc9, od9, .func (PySem.W.fnOf "web_text" "web_text" (defArgs s_web_text) (defBody s_web_text) (defScope s_web_text) .none kV9 dc9 pm9 an9 cd9 ct9), sl9⟩) (c9 : PySem.W.codeIn K cd9 "web_text" = true) (k9 : PySem.W.keepIn K (.ref f9) = true)
    (a10 : PySem.W.nsIn K mainGlobals "is_int" = some (some (.ref f10))) (l10 : K.lookup f10 = some ⟨oc10, od10, .func (PySem.W.fnOf "is_int" "is_int" (defArgs s_is_int) (defBody s_is_int) (defScope s_is_int) .none kV10 dc10 pm10 an10 cd10 ct10), sl10⟩) (c10 : PySem.W.codeIn K cd10 "is_int" = true) (k10 : PySem.W.keepIn K (.ref f10) = true)
    (a11 : PySem.W.nsIn K mainGlobals "is_tuple" = some (some (.ref f11))) (l11 : K.lookup f11 = some ⟨oc11, od11, .func (PySem.W.fnOf "is_tuple" "is_tuple" (defArgs s_is_tuple) (defBody s_is_tuple) (defScope s_is_tuple) .none kV11 dc11 pm11 an11 cd11 ct11), sl11⟩) (c11 : PySem.W.codeIn K cd11 "is_tuple" = true) (k11 : PySem.W.keepIn K (.ref f11) = true)
    (a12 : PySem.W.nsIn K mainGlobals "is_tie" = some (some (.ref f12))) (l12 : K.lookup f12 = some ⟨oc12, od12, .func (PySem.W.fnOf "is_tie" "is_tie" (defArgs s_is_tie) (defBody s_is_tie) (defScope s_is_tie) .none kV12 dc12 pm12 an12 cd12 ct12), sl12⟩) (c12 : PySem.W.codeIn K cd12 "is_tie" = true) (k12 : PySem.W.keepIn K (.ref f12) = true)
    (a13 : PySem.W.nsIn K mainGlobals "is_web" = some (some (.ref f13))) (l13 : K.lookup f13 = some ⟨oc13, od13, .func (PySem.W.fnOf "is_web" "is_web" (defArgs s_is_web) (defBody s_is_web) (defScope s_is_web) .none kV13 dc13 pm13 an13 cd13 ct13), sl13⟩) (c13 : PySem.W.codeIn K cd13 "is_web" = true) (k13 : PySem.W.keepIn K (.ref f13) = true)
    (a14 : PySem.W.nsIn K mainGlobals "check" = some (some (.ref f14))) (l14 : K.lookup f14 = some ⟨oc14, od14, .func (PySem.W.fnOf "check" "check" (defArgs s_check) (defBody s_check) (defScope s_check) .none kV14 dc14 pm14 an14 cd14 ct14), sl14⟩) (c14 : PySem.W.codeIn K cd14 "check" = true) (k14 : PySem.W.keepIn K (.ref f14) = true)
    (a15 : PySem.W.nsIn K mainGlobals "words_of" = some (some (.ref f15))) (l15 : K.lookup f15 = some ⟨oc15, od15, .func (PySem.W.fnOf "words_of" "words_of" (defArgs s_words_of) (defBody s_words_of) (defScope s_words_of) .none kV15 dc15 pm15 an15 cd15 ct15), sl15⟩) (c15 : PySem.W.codeIn K cd15 "words_of" = true) (k15 : PySem.W.keepIn K (.ref f15) = true)
    (a16 : PySem.W.nsIn K mainGlobals "read_web" = some (some (.ref f16))) (l16 : K.lookup f16 = some ⟨oc16, od16, .func (PySem.W.fnOf "read_web" "read_web" (defArgs s_read_web) (defBody s_read_web) (defScope s_read_web) .none kV16 dc16 pm16 an16 cd16 ct16), sl16⟩) (c16 : PySem.W.codeIn K cd16 "read_web" = true) (k16 : PySem.W.keepIn K (.ref f16) = true)
    (a17 : PySem.W.nsIn K mainGlobals "_law_web_text" = some (some (.ref f17))) (l17 : K.lookup f17 = some ⟨oc17, od17, .func (PySem.W.fnOf "_law_web_text" "_law_web_text" (defArgs s__law_web_text) (defBody s__law_web_text) (defScope s__law_web_text) .none kV17 dc17 pm17 an17 cd17 ct17), sl17⟩) (c17 : PySem.W.codeIn K cd17 "_law_web_text" = true) (k17 : PySem.W.keepIn K (.ref f17) = true)
    (a18 : PySem.W.nsIn K mainGlobals "_law_turned" = some (some (.ref f18))) (l18 : K.lookup f18 = some ⟨oc18, od18, .func (PySem.W.fnOf "_law_turned" "_law_turned" (defArgs s__law_turned) (defBody s__law_turned) (defScope s__law_turned) .none kV18 dc18 pm18 an18 cd18 ct18), sl18⟩) (c18 : PySem.W.codeIn K cd18 "_law_turned" = true) (k18 : PySem.W.keepIn K (.ref f18) = true)
    (a19 : PySem.W.nsIn K mainGlobals "_law_ties" = some (some (.ref f19))) (l19 : K.lookup f19 = some ⟨oc19, od19, .func (PySem.W.fnOf "_law_ties" "_law_ties" (defArgs s__law_ties) (defBody s__law_ties) (defScope s__law_ties) .none kV19 dc19 pm19 an19 cd19 ct19), sl19⟩) (c19 : PySem.W.codeIn K cd19 "_law_ties" = true) (k19 : PySem.W.keepIn K (.ref f19) = true)
    (a20 : PySem.W.nsIn K mainGlobals "_law_tree" = some (some (.ref f20))) (l20 : K.lookup f20 = some ⟨oc20, od20, .func (PySem.W.fnOf "_law_tree" "_law_tree" (defArgs s__law_tree2) (defBody s__law_tree2) (defScope s__law_tree2) .none kV20 dc20 pm20 an20 cd20 ct20), sl20⟩) (c20 : PySem.W.codeIn K cd20 "_law_tree" = true) (k20 : PySem.W.keepIn K (.ref f20) = true)
    (a21 : PySem.W.nsIn K mainGlobals "_law_web" = some (some (.ref f21))) (l21 : K.lookup f21 = some ⟨oc21, od21, .func (PySem.W.fnOf "_law_web" "_law_web" (defArgs s__law_web2) (defBody s__law_web2) (defScope s__law_web2) .none kV21 dc21 pm21 an21 cd21 ct21), sl21⟩) (c21 : PySem.W.codeIn K cd21 "_law_web" = true) (k21 : PySem.W.keepIn K (.ref f21) = true)
    (a22 : PySem.W.nsIn K mainGlobals "_law_mixed" = some (some (.ref f22))) (l22 : K.lookup f22 = some ⟨oc22, od22, .func (PySem.W.fnOf "_law_mixed" "_law_mixed" (defArgs s__law_mixed) (defBody s__law_mixed) (defScope s__law_mixed) .none kV22 dc22 pm22 an22 cd22 ct22), sl22⟩) (c22 : PySem.W.codeIn K cd22 "_law_mixed" = true) (k22 : PySem.W.keepIn K (.ref f22) = true)
    (a23 : PySem.W.nsIn K mainGlobals "_law_deck" = some (some (.ref f23))) (l23 : K.lookup f23 = some ⟨oc23, od23, .func (PySem.W.fnOf "_law_deck" "_law_deck" (defArgs s__law_deck) (defBody s__law_deck) (defScope s__law_deck) .none kV23 dc23 pm23 an23 cd23 ct23), sl23⟩) (c23 : PySem.W.codeIn K cd23 "_law_deck" = true) (k23 : PySem.W.keepIn K (.ref f23) = true)
    (a24 : PySem.W.nsIn K mainGlobals "law" = some (some (.ref f24))) (l24 : K.lookup f24 = some ⟨oc24, od24, .func (PySem.W.fnOf "law" "law" (defArgs s_law) (defBody s_law) (defScope s_law) .none kV24 dc24 pm24 an24 cd24 ct24), sl24⟩) (c24 : PySem.W.codeIn K cd24 "law" = true) (k24 : PySem.W.keepIn K (.ref f24) = true)
    (z1 : PySem.W.nsIn K mainGlobals "len" = some none) (z2 : PySem.W.nsIn K mainGlobals "list" = some none) (z3 : PySem.W.nsIn K mainGlobals "tuple" = some none) (z4 : PySem.W.nsIn K mainGlobals "int" = some none) (z5 : PySem.W.nsIn K mainGlobals "bool" = some none) (z6 : PySem.W.nsIn K mainGlobals "max" = some none) (z7 : PySem.W.nsIn K mainGlobals "min" = some none) (z8 : PySem.W.nsIn K mainGlobals "sum" = some none) (z9 : PySem.W.nsIn K mainGlobals "sorted" = some none) (z10 : PySem.W.nsIn K mainGlobals "all" = some none) (z11 : PySem.W.nsIn K mainGlobals "str" = some none) (z12 : PySem.W.nsIn K mainGlobals "isinstance" = some none) (z13 : PySem.W.nsIn K mainGlobals "reversed" = some none) (z14 : PySem.W.nsIn K mainGlobals "range" = some none) (z15 : PySem.W.nsIn K mainGlobals "enumerate" = some none) (z16 : PySem.W.nsIn K mainGlobals "zip" = some none) (z17 : PySem.W.nsIn K mainGlobals "dict" = some none) (z18 : PySem.W.nsIn K mainGlobals "set" = some none) :
    ∃ fd : FuncData, (∀ (s : Shared) (v : Value), BindsTo s fd ⟨[v], []⟩ [("_law_script", v)]) ∧ ∀ base : Heap, K.In base → base.Ns mainGlobals mg → FnOk l.prog w K mg base CX0 6 fa fd ["_law_script"] (fun vs H Q E => ∀ CA, cSp (gx K CA) spLaw vs H Q E) := by
  have e := hfa.symm.trans (PySem.W.mg_of X G a24)
  cases e
  have bl : ∀ n ∈ bNames, mg n = none := by
    intro n hn
    simp only [bNames, List.mem_cons, List.not_mem_nil, or_false] at hn
    rcases hn with rfl | rfl | rfl | rfl | rfl | rfl | rfl | rfl | rfl | rfl | rfl | rfl | rfl | rfl | rfl | rfl | rfl | rfl
    · exact PySem.W.mg_none_of X G z1
    · exact PySem.W.mg_none_of X G z2
    · exact PySem.W.mg_none_of X G z3
    · exact PySem.W.mg_none_of X G z4
    · exact PySem.W.mg_none_of X G z5
    · exact PySem.W.mg_none_of X G z6
    · exact PySem.W.mg_none_of X G z7
    · exact PySem.W.mg_none_of X G z8
    · exact PySem.W.mg_none_of X G z9
    · exact PySem.W.mg_none_of X G z10
    · exact PySem.W.mg_none_of X G z11
    · exact PySem.W.mg_none_of X G z12
    · exact PySem.W.mg_none_of X G z13
    · exact PySem.W.mg_none_of X G z14
    · exact PySem.W.mg_none_of X G z15
    · exact PySem.W.mg_none_of X G z16
    · exact PySem.W.mg_none_of X G z17
    · exact PySem.W.mg_none_of X G z18
  have F1 := fun_mk (st := s_laying_text) l1 c1 k1
  have b1 := F1.binds (ps := ["laying"]) fun _ _ _ _ _ _ us hl => match us, hl with | [_], _ => rfl
  have F2 := fun_mk (st := s_number_of) l2 c2 k2
  have b2 := F2.binds (ps := ["word"]) fun _ _ _ _ _ _ us hl => match us, hl with | [_], _ => rfl
  have F3 := fun_mk (st := s_entry_of) l3 c3 k3
  have b3 := F3.binds (ps := ["word"]) fun _ _ _ _ _ _ us hl => match us, hl with | [_], _ => rfl
  have F4 := fun_mk (st := s_lines_of) l4 c4 k4
  have b4 := F4.binds (ps := ["thing"]) fun _ _ _ _ _ _ us hl => match us, hl with | [_], _ => rfl
  have F5 := fun_mk (st := s_read_laying) l5 c5 k5
  have b5 := F5.binds (ps := ["thing"]) fun _ _ _ _ _ _ us hl => match us, hl with | [_], _ => rfl
  have F6 := fun_mk (st := s__law_alike) l6 c6 k6
  have b6 := F6.binds (ps := ["_law_found", "_law_due"]) fun _ _ _ _ _ _ us hl => match us, hl with | [_, _], _ => rfl
  have F7 := fun_mk (st := s__law_laying_text) l7 c7 k7
  have b7 := F7.binds (ps := ["_law_laying"]) fun _ _ _ _ _ _ us hl => match us, hl with | [_], _ => rfl
  have F8 := fun_mk (st := s__law_next) l8 c8 k8
  have b8 := F8.binds (ps := ["_law_deck_here"]) fun _ _ _ _ _ _ us hl => match us, hl with | [_], _ => rfl
  have F9 := fun_mk (st := s_web_text) l9 c9 k9
  have b9 := F9.binds (ps := ["web"]) fun _ _ _ _ _ _ us hl => match us, hl with | [_], _ => rfl
  have F10 := fun_mk (st := s_is_int) l10 c10 k10
  have b10 := F10.binds (ps := ["thing", "least", "most"]) fun _ _ _ _ _ _ us hl => match us, hl with | [_, _, _], _ => rfl
  have F11 := fun_mk (st := s_is_tuple) l11 c11 k11
  have b11 := F11.binds (ps := ["thing", "length"]) fun _ _ _ _ _ _ us hl => match us, hl with | [_, _], _ => rfl
  have F12 := fun_mk (st := s_is_tie) l12 c12 k12
  have b12 := F12.binds (ps := ["thing", "points"]) fun _ _ _ _ _ _ us hl => match us, hl with | [_, _], _ => rfl
  have F13 := fun_mk (st := s_is_web) l13 c13 k13
  have b13 := F13.binds (ps := ["thing"]) fun _ _ _ _ _ _ us hl => match us, hl with | [_], _ => rfl
  have F14 := fun_mk (st := s_check) l14 c14 k14
  have b14 := F14.binds (ps := ["thing"]) fun _ _ _ _ _ _ us hl => match us, hl with | [_], _ => rfl
  have F15 := fun_mk (st := s_words_of) l15 c15 k15
  have b15 := F15.binds (ps := ["line", "head", "many"]) fun _ _ _ _ _ _ us hl => match us, hl with | [_, _, _], _ => rfl
  have F16 := fun_mk (st := s_read_web) l16 c16 k16
  have b16 := F16.binds (ps := ["thing"]) fun _ _ _ _ _ _ us hl => match us, hl with | [_], _ => rfl
  have F17 := fun_mk (st := s__law_web_text) l17 c17 k17
  have b17 := F17.binds (ps := ["_law_web_here"]) fun _ _ _ _ _ _ us hl => match us, hl with | [_], _ => rfl
  have F18 := fun_mk (st := s__law_turned) l18 c18 k18
  have b18 := F18.binds (ps := ["_law_deck_here", "_law_row"]) fun _ _ _ _ _ _ us hl => match us, hl with | [_, _], _ => rfl
  have F19 := fun_mk (st := s__law_ties) l19 c19 k19
  have b19 := F19.binds (ps := ["_law_deck_here", "_law_points", "_law_many"]) fun _ _ _ _ _ _ us hl => match us, hl with | [_, _, _], _ => rfl
  have F20 := fun_mk (st := s__law_tree2) l20 c20 k20
  have b20 := F20.binds (ps := ["_law_deck_here", "_law_points"]) fun _ _ _ _ _ _ us hl => match us, hl with | [_, _], _ => rfl
  have F21 := fun_mk (st := s__law_web2) l21 c21 k21
  have b21 := F21.binds (ps := ["_law_deck_here", "_law_points", "_law_ties_here"]) fun _ _ _ _ _ _ us hl => match us, hl with | [_, _, _], _ => rfl
  have F22 := fun_mk (st := s__law_mixed) l22 c22 k22
  have b22 := F22.binds (ps := ["_law_cell", "_law_k"]) fun _ _ _ _ _ _ us hl => match us, hl with | [_, _], _ => rfl
  have F23 := fun_mk (st := s__law_deck) l23 c23 k23
  have b23 := F23.binds (ps := ["_law_script", "_law_many"]) fun _ _ _ _ _ _ us hl => match us, hl with | [_, _], _ => rfl
  have F24 := fun_mk (st := s_law) l24 c24 k24
  obtain ⟨CA, hE1⟩ : ∃ CA : Str → Addr, CA "NoWeb" = E1 := ⟨fun s => if s = ("NoWeb" : Str) then E1 else 0, if_pos rfl⟩
  subst hE1
  refine ⟨PySem.W.fnOf "law" "law" (defArgs s_law) (defBody s_law) (defScope s_law) .none kV24 dc24 pm24 an24 cd24 ct24, fun s v => .of_eq rfl, fun base _ _ => ?_⟩
  have R1 := ok_laying_text (P := l.prog) (w := w) (base := base) (CA := CA) F1 bl
  have R2 := ok_number_of (P := l.prog) (w := w) (base := base) (CA := CA) F2 bl ⟨tk1, PySem.W.mg_of X G cn1⟩ ⟨tk2, PySem.W.mg_of X G cn2⟩
  have R3 := ok_entry_of (P := l.prog) (w := w) (base := base) (CA := CA) F3 bl ⟨tk3, PySem.W.mg_of X G cn3⟩ (nd_fn R2 (by decide) (PySem.W.mg_of X G a2) k2 b2)
  have R4 := ok_lines_of (P := l.prog) (w := w) (base := base) (CA := CA) F4 bl
  have R5 := ok_read_laying (P := l.prog) (w := w) (base := base) (CA := CA) F5 bl (nd_fn R1 (by decide) (PySem.W.mg_of X G a1) k1 b1) ⟨tk4, PySem.W.mg_of X G cn4⟩ (nd_fn R3 (by decide) (PySem.W.mg_of X G a3) k3 b3) (nd_fn R4 (by decide) (PySem.W.mg_of X G a4) k4 b4)
  have R6 := ok__law_alike_0 (P := l.prog) (w := w) (base := base) (CA := CA) F6 bl
  have R7 := ok__law_alike_1 (P := l.prog) (w := w) (base := base) (CA := CA) F6 bl (nd_fn R6 (by decide) (PySem.W.mg_of X G a6) k6 b6)
  have R8 := ok__law_alike_2 (P := l.prog) (w := w) (base := base) (CA := CA) F6 bl (nd_fn R7 (by decide) (PySem.W.mg_of X G a6) k6 b6)
  have R9 := ok__law_alike_3 (P := l.prog) (w := w) (base := base) (CA := CA) F6 bl (nd_fn R8 (by decide) (PySem.W.mg_of X G a6) k6 b6)
  have R10 := ok__law_alike_4 (P := l.prog) (w := w) (base := base) (CA := CA) F6 bl (nd_fn R9 (by decide) (PySem.W.mg_of X G a6) k6 b6)
  have R11 := ok__law_laying_text (P := l.prog) (w := w) (base := base) (CA := CA) F7 bl
  have R12 := ok__law_next (P := l.prog) (w := w) (base := base) (CA := CA) F8 bl
  have R13 := ok_web_text (P := l.prog) (w := w) (base := base) (CA := CA) F9 bl
  have R14 := ok_is_int (P := l.prog) (w := w) (base := base) (CA := CA) F10 bl
  have R15 := ok_is_tuple (P := l.prog) (w := w) (base := base) (CA := CA) F11 bl
  have R16 := ok_is_tie (P := l.prog) (w := w) (base := base) (CA := CA) F12 bl (nd_fn R14 (by decide) (PySem.W.mg_of X G a10) k10 b10) (nd_fn R15 (by decide) (PySem.W.mg_of X G a11) k11 b11)
  have R17 := ok_is_web (P := l.prog) (w := w) (base := base) (CA := CA) F13 bl (nd_fn R16 (by decide) (PySem.W.mg_of X G a12) k12 b12) ⟨tk5, PySem.W.mg_of X G cn5⟩ (nd_fn R15 (by decide) (PySem.W.mg_of X G a11) k11 b11) (nd_fn R14 (by decide) (PySem.W.mg_of X G a10) k10 b10) ⟨tk6, PySem.W.mg_of X G cn6⟩
  have R18 := ok_check (P := l.prog) (w := w) (base := base) (CA := CA) F14 bl (nd_fn R17 (by decide) (PySem.W.mg_of X G a13) k13 b13)
  have R19 := ok_words_of (P := l.prog) (w := w) (base := base) (CA := CA) F15 bl (nd_fn R2 (by decide) (PySem.W.mg_of X G a2) k2 b2)
  have R20 := ok_read_web (P := l.prog) (w := w) (base := base) (CA := CA) F16 bl (nd_fn R13 (by decide) (PySem.W.mg_of X G a9) k9 b9) (nd_fn R18 (by decide) (PySem.W.mg_of X G a14) k14 b14) (PySem.W.mg_of X G eu1) (nd_fn R19 (by decide) (PySem.W.mg_of X G a15) k15 b15) (nd_fn R4 (by decide) (PySem.W.mg_of X G a4) k4 b4)
  have R21 := ok__law_web_text (P := l.prog) (w := w) (base := base) (CA := CA) F17 bl
  have R22 := ok__law_turned (P := l.prog) (w := w) (base := base) (CA := CA) F18 bl (nd_fn R12 (by decide) (PySem.W.mg_of X G a8) k8 b8)
  have R23 := ok__law_ties (P := l.prog) (w := w) (base := base) (CA := CA) F19 bl (nd_fn R12 (by decide) (PySem.W.mg_of X G a8) k8 b8)
  have R24 := ok__law_tree2 (P := l.prog) (w := w) (base := base) (CA := CA) F20 bl (nd_fn R12 (by decide) (PySem.W.mg_of X G a8) k8 b8) (nd_fn R22 (by decide) (PySem.W.mg_of X G a18) k18 b18)
  have R25 := ok__law_web2 (P := l.prog) (w := w) (base := base) (CA := CA) F21 bl (nd_fn R22 (by decide) (PySem.W.mg_of X G a18) k18 b18) (nd_fn R23 (by decide) (PySem.W.mg_of X G a19) k19 b19) (nd_fn R12 (by decide) (PySem.W.mg_of X G a8) k8 b8) (nd_fn R24 (by decide) (PySem.W.mg_of X G a20) k20 b20)
  have R26 := ok__law_mixed (P := l.prog) (w := w) (base := base) (CA := CA) F22 bl
  have R27 := ok__law_deck (P := l.prog) (w := w) (base := base) (CA := CA) F23 bl (nd_fn R26 (by decide) (PySem.W.mg_of X G a22) k22 b22)
  exact (ok_law (CA := CA) F24 bl (nd_fn R1 (by decide) (PySem.W.mg_of X G a1) k1 b1) (nd_fn R5 (by decide) (PySem.W.mg_of X G a5) k5 b5) (nd_fn R10 (by decide) (PySem.W.mg_of X G a6) k6 b6) (nd_fn R11 (by decide) (PySem.W.mg_of X G a7) k7 b7) (nd_fn R12 (by decide) (PySem.W.mg_of X G a8) k8 b8) (nd_fn R20 (by decide) (PySem.W.mg_of X G a16) k16 b16) (nd_fn R21 (by decide) (PySem.W.mg_of X G a17) k17 b17) (nd_fn R13 (by decide) (PySem.W.mg_of X G a9) k9 b9) (nd_fn R25 (by decide) (PySem.W.mg_of X G a21) k21 b21) (nd_fn R27 (by decide) (PySem.W.mg_of X G a23) k23 b23)).imp fun vs H Q E z => z CA
end F2
open PySem PySem.W PyProof.Rows
set_option maxHeartbeats 0 in
theorem PySem.Challenge.cw_fewforests_k84_texts_holds : PySem.Challenge.rw_fewforests_k84_texts.Holds := by
  w_on; o_law; k_head; (case hw => w_witness2)
  k_fill
  refine L2.walk_of (l := PySem.Challenge.rw_fewforests_k84_texts) (n := 63) (k := 6) (x := "_law_script") (CX := fun _ => L2.CX0) (sp := fun w vs H Q E => ∀ CA, F2.cSp (F2.gx _ CA) F2.spLaw vs H Q E) rfl (by decide) rfl ⟨rfl, by decide, by decide⟩ (fun w h Y => PySem.W.kIn_of Y) ?F (fun _ _ a ns hl hO hS CA => F2.law_sp hl hO hS) (fun _ _ _ _ _ h => h)
  case F =>
    intro w mg fa h KX G hmg
    refine' F2.all_mk KX G hmg ?cn1 ?cn2 ?cn3 ?cn4 ?cn5 ?cn6 ?eu1 ?ek1 ?ed1 ?et1 ?eb1 ?a1 ?l1 ?c1 ?k1 ?a2 ?l2 ?c2 ?k2 ?a3 ?l3 ?c3 ?k3 ?a4 ?l4 ?c4 ?k4 ?a5 ?l5 ?c5 ?k5 ?a6 ?l6 ?c6 ?k6 ?a7 ?l7 ?c7 ?k7 ?a8 ?l8 ?c8 ?k8 ?a9 ?l9 ?c9 ?k9 ?a10 ?l10 ?c10 ?k10 ?a11 ?l11 ?c11 ?k11 ?a12 ?l12 ?c12 ?k12 ?a13 ?l13 ?c13 ?k13 ?a14 ?l14 ?c14 ?k14 ?a15 ?l15 ?c15 ?k15 ?a16 ?l16 ?c16 ?k16 ?a17 ?l17 ?c17 ?k17 ?a18 ?l18 ?c18 ?k18 ?a19 ?l19 ?c19 ?k19 ?a20 ?l20 ?c20 ?k20 ?a21 ?l21 ?c21 ?k21 ?a22 ?l22 ?c22 ?k22 ?a23 ?l23 ?c23 ?k23 ?a24 ?l24 ?c24 ?k24 ?z1 ?z2 ?z3 ?z4 ?z5 ?z6 ?z7 ?z8 ?z9 ?z10 ?z11 ?z12 ?z13 ?z14 ?z15 ?z16 ?z17 ?z18
    (case cn1 => k_is); (case cn2 => k_is); (case cn3 => k_is); (case cn4 => k_is); (case cn5 => k_is); (case cn6 => k_is); (case eu1 => k_is); (case ek1 => k_is); (case ed1 => k_is); (case et1 => k_is); (case eb1 => k_is); (case a1 => k_is); (case l1 => k_is); (case c1 => k_is); (case k1 => k_is); (case a2 => k_is); (case l2 => k_is); (case c2 => k_is); (case k2 => k_is); (case a3 => k_is); (case l3 => k_is); (case c3 => k_is); (case k3 => k_is); (case a4 => k_is); (case l4 => k_is); (case c4 => k_is); (case k4 => k_is); (case a5 => k_is); (case l5 => k_is); (case c5 => k_is); (case k5 => k_is); (case a6 => k_is); (case l6 => k_is); (case c6 => k_is); (case k6 => k_is); (case a7 => k_is); (case l7 => k_is); (case c7 => k_is); (case k7 => k_is); (case a8 => k_is); (case l8 => k_is); (case c8 => k_is); (case k8 => k_is); (case a9 => k_is); (case l9 => k_is); (case c9 => k_is); (case k9 => k_is); (case a10 => k_is); (case l10 => k_is); (case c10 => k_is); (case k10 => k_is); (case a11 => k_is); (case l11 => k_is); (case c11 => k_is); (case k11 => k_is); (case a12 => k_is); (case l12 => k_is); (case c12 => k_is); (case k12 => k_is); (case a13 => k_is); (case l13 => k_is); (case c13 => k_is); (case k13 => k_is); (case a14 => k_is); (case l14 => k_is); (case c14 => k_is); (case k14 => k_is); (case a15 => k_is); (case l15 => k_is); (case c15 => k_is); (case k15 => k_is); (case a16 => k_is); (case l16 => k_is); (case c16 => k_is); (case k16 => k_is); (case a17 => k_is); (case l17 => k_is); (case c17 => k_is); (case k17 => k_is); (case a18 => k_is); (case l18 => k_is); (case c18 => k_is); (case k18 => k_is); (case a19 => k_is); (case l19 => k_is); (case c19 => k_is); (case k19 => k_is); (case a20 => k_is); (case l20 => k_is); (case c20 => k_is); (case k20 => k_is); (case a21 => k_is); (case l21 => k_is); (case c21 => k_is); (case k21 => k_is); (case a22 => k_is); (case l22 => k_is); (case c22 => k_is); (case k22 => k_is); (case a23 => k_is); (case l23 => k_is); (case c23 => k_is); (case k23 => k_is); (case a24 => k_is); (case l24 => k_is); (case c24 => k_is); (case k24 => k_is); (case z1 => k_is); (case z2 => k_is); (case z3 => k_is); (case z4 => k_is); (case z5 => k_is); (case z6 => k_is); (case z7 => k_is); (case z8 => k_is); (case z9 => k_is); (case z10 => k_is); (case z11 => k_is); (case z12 => k_is); (case z13 => k_is); (case z14 => k_is); (case z15 => k_is); (case z16 => k_is); (case z17 => k_is); (case z18 => k_is)
