import PyProof.Rows.All
import Wide.All
import OpenK.AllK
import Wide.FinOn
import HandS.ForMost
import HandS.Zip
import HandS.TupMul
import HandS.TupAny
import HandS.IsInst
import HandS.SortInts
import HandS.Style
import HandS.DictTup
import KE.KDictWalk
import KE.KDictDisplayH
import KE.KTupSum
import HandS.Conv
import PySem.Challenge.RW_latticepoints_k93_whole_square_tables
set_option Elab.async false
set_option linter.all false
set_option maxRecDepth 100000
set_option maxHeartbeats 4000000
/-! rules of my own: items of a dict with tuple keys, its display, t[::-1], sum and sorted of a tuple, t * 1 -/
namespace LP
open PySem PySem.Spec PyProof.Rows L2

/-! ### d.items() of a locked dict with tuple keys -/
section
variable {X : Cx} {pins : List (Addr × Obj)} {σ : L2.St} {H : Hp} {s : Shared} {d : Addr} {o : Obj}
theorem frzT2 {kvs : List (List L2.Key × V)} (I : Inv X pins σ H s) (h : H d = some (.frz o (.dT kvs))) :
    (d == sysModules) = false ∧ s.heap.get? d = some o ∧ o.ExactDict ∧ ∃ (es : Array DictEntry) (ep : Nat), o.data = .dict es ep ∧ es.size = kvs.length ∧
      ∀ (i : Nat) (k : List L2.Key) (v : V), kvs[i]? = some (k, v) → ∃ (en : DictEntry) (q : Addr), es[i]? = some en ∧ en.key = .ref q ∧ RelV v en.val ∧ H q = some (.tup (k.map kV)) := by
  obtain ⟨hd, z, hs, xs, pr, o', es, ep, ho, hx, hdt, he, _⟩ := I.hok d _ h
  rw [hd] at ho
  cases ho
  refine ⟨hs, hd, hx, es, ep, hdt, ?_, fun i k v e => ?_⟩
  · have l1 : es.size = xs.length := size_of_entries he
    have l2 : kvs.length = xs.length := Paired.length pr
    omega
  · obtain ⟨b, hb, e1, e2, e3⟩ := paired_get pr e
    have q := entry_at he i
    rw [hb] at q
    exact ⟨_, b.2.1, q, rfl, e3, e2⟩
end

def ItiT (d : Addr) (o : Obj) (kvs : List (List L2.Key × V)) : It :=
  ⟨fun i H => H d = some (.frz o (.dT kvs)) ∧ i < kvs.length,
   fun i H x H' => ∃ T k v q, kvs[i]? = some (k, v) ∧ x = .ref T ∧ H T = none ∧ H q = some (.tup (k.map kV)) ∧ H' = upd H T (.tup [.ref q, v]),
   fun i H => H d = some (.frz o (.dT kvs)) ∧ kvs.length ≤ i⟩
theorem turn_itemsT {P : Program} {w : World} {K : PySem.W.Frag} {d : Addr} {o : Obj} {es : Array DictEntry} {ep : Nat} {kvs : List (List L2.Key × V)} {elts : List Expr} {kk : Nat} {tpos : Pos} (it : Addr) (hod : o.data = .dict es ep) :
    Turn P w K (.Tuple elts kk tpos) (ItiT d o kvs) [it] it (fun i h => ∃ ok ov, IsItemIter h it d i kvs.length ep ok ov) where
  mem := by simp
  obj := fun i h st b hb => by
    have e : b = it := by simpa using hb
    subst e
    obtain ⟨ok, ov, e⟩ := st
    exact ⟨_, e, fun v z => nomatch z⟩
  keep := fun i h h' st k => let ⟨ok, ov, e⟩ := st; ⟨ok, ov, k it (by simp) _ e⟩
  item := by
    intro X hP hw hK hc i pins s σ H E I hf st hg
    subst hP hw hK
    obtain ⟨hd, hi⟩ := hg
    obtain ⟨hs, hgd, hx, es', ep', hdt, hsz, ent⟩ := frzT2 I hd
    obtain ⟨rfl, rfl⟩ := dict_ep hod hdt
    obtain ⟨⟨k, v⟩, hkv⟩ : ∃ p, kvs[i]? = some p := ⟨kvs[i], List.getElem?_eq_getElem hi⟩
    obtain ⟨en, q, hen, hkey, hval, hq⟩ := ent i k v hkv
    obtain ⟨hlt', hen'⟩ := Array.getElem?_eq_some_iff.mp hen
    obtain ⟨ok, ov, he⟩ := st
    rw [← hsz] at he
    have hlt : it < s.heap.objs.size := Heap.lt_size he
    refine PySem.wpAny_pyNext_items_item_raw he ⟨o, hgd, hx, hdt⟩ hlt' fun h' ho hT hz hk => ?_
    refine ⟨_, rfl, wpAny_letOwnedTupleGo_items (s := { s with heap := h' }) ho fun h'' he' sb => ?_⟩
    rw [hen'] at hT
    have hT2 : h''.get? s.heap.objs.size = some { cls := .type "tuple", data := .seq #[en.key, en.val] } := (sb.2 _ (Nat.ne_of_gt hlt)).trans hT
    have new : ObjOk X.prog X.w (upd H s.heap.objs.size (.tup [.ref q, v])) h'' s.heap.objs.size (.tup [.ref q, v]) :=
      ⟨by show 2 ≤ sizeLine; decide, [en.key, en.val], .cons (by rw [hkey]; rfl) (.cons hval .nil), ⟨_, hT2, rfl, _, rfl⟩⟩
    have I1 : Inv X pins σ (upd H s.heap.objs.size (.tup [.ref q, v])) { s with heap := h'' } :=
      I.turnedNew (t' := s.toks) (ch := [it]) (fun b ob hb e => (sb.2 b (by simpa using hb)).trans (hk b ob (by simpa using hb) e)) hf (Nat.le_refl _) new
    refine ⟨.ref s.heap.objs.size, _, I1, rfl, ⟨_, k, v, q, hkv, rfl, I.hok.fresh (Nat.le_refl _), hq, rfl⟩, ⟨es'[i].key, es'[i].val, ?_⟩, fun b hb => ?_⟩
    · rw [← hsz]; exact he'
    · have e : b = it := by simpa using hb
      rw [e, upd_ne (Nat.ne_of_lt hlt)]
      exact (hf it (by simp)).1
  done := by
    intro X hP hw hK hc i pins s σ H E I hf st hg
    subst hP hw hK
    obtain ⟨hd, hi⟩ := hg
    obtain ⟨f0, f1, f2, f3, f4, f5⟩ := hf it (by simp)
    obtain ⟨hs, hgd, hx, es', ep', hdt, hsz, ent⟩ := frzT2 I hd
    obtain ⟨rfl, rfl⟩ := dict_ep hod hdt
    obtain ⟨ok, ov, he⟩ := st
    rw [← hsz] at he
    exact PySem.wpAny_pyNext_items_end_raw (I.ok.hd hc) he ⟨o, hgd, hx, hdt⟩ (by omega) fun h' eb => ⟨rfl, I.turned (t' := s.toks) (fun b ob hb e => eb b ob hb e) f0 f1 f3 f4 f5⟩
  self := fun A i s Q E st h => let ⟨_, _, e⟩ := st; PySem.W.kcp_self e h

def iItemsT (td : TE) : TI := fun σ H R => td σ H fun x H1 => ∃ d o kvs, x = .ref d ∧ H1 d = some (.frz o (.dT kvs)) ∧ R (ItiT d o kvs) H1
theorem pi_itemsT {X : Cx} {e : Expr} {td : TE} {apos cpos : Pos} {elts : List Expr} {kk : Nat} {tpos : Pos} (he : PE X e td) (hbase : attributeBase e "items" X.env (eval e X.env) = eval e X.env := by rfl) (hline : (apos.endLine == cpos.line) = true := by rfl) :
    PI X (.Tuple elts kk tpos) (.Call (.Attribute e "items" apos) [] [] cpos) (iItemsT td) := by
  refine ⟨fun pins s σ H R I h => ?_⟩
  refine wpAny_Call_method (T := "dict") (id := "dict.items") hbase rfl hline F.plainAttrs_dict F.slot_dict_items F.type_dict_items (thn (he.run pins s σ H _ I h) fun u s1 ⟨x, H1, I1, rx, d, o, kvs, ex, hd, q⟩ => ?_)
  subst ex
  obtain rfl : u = Value.ref d := rx
  obtain ⟨hs, hgd, hx, es, ep, hdt, hsz, ent⟩ := frzT2 I1 hd
  have raw : s1.heap.DictRaw d es ep := ⟨o, hgd, hx, hdt⟩
  refine ⟨raw.typeIs, fun b q => (by cases q; exact ⟨o, hgd, hx.2.1⟩), ?_⟩
  have I2 : Inv X pins σ H1 { s1 with heap := s1.heap.push { cls := .type "dict_items", data := .fields #[.ref d] } } := I1.kept (t' := s1.toks) fun b ob q => Heap.get?_push_of_some _ q
  have fin : wpAny (model X.prog X.w) X.A (pyIter (.ref s1.heap.objs.size)) (PIE X pins σ (.Tuple elts kk tpos) R) X.xe { s1 with heap := s1.heap.push { cls := .type "dict_items", data := .fields #[.ref d] } } := by
    refine PySem.wpAny_pyIter_items_raw (d := d) (es := es) (ep := ep) ⟨_, Heap.get?_push_size _ rfl, rfl, rfl⟩ (raw.at fun o e => Heap.get?_push_of_some _ e) (pi_one (tk := s1.toks) I2 _ (turn_itemsT _ hdt) ⟨.none, .none, ?_⟩ q)
    rw [← hsz]
    exact Heap.get?_push_size _ rfl
  show wpAny _ _ (callWith cpos (.builtin "dict.items") [.ref d] [] []) _ X.xe s1
  exact method_meetsIn F.slot_dict_items F.entry_dict_items rfl (PySem.evalArgs_none ⟨rfl, raw.typeIs, F.args_dict_items_1 _, _, PySem.meets_dict_items_raw d hs, ⟨⟨es, ep, raw⟩, fin⟩⟩)

/-! ### {t: v}, t a tracked tuple -/
def tDispT (tk tv : TE) : TE := fun σ H Q => ∀ p, H p = none → tk σ (upd H p (.dT [])) fun x H1 => tv σ H1 fun y H2 => H2 p = some (.dT []) ∧ ∃ (b : Addr) (k : List L2.Key), x = .ref b ∧ H2 b = some (.tup (k.map kV)) ∧ Q (.ref p) (upd H2 p (.dT [(k, y)]))
def dispQ (p : Addr) (Q : VK) : List (V × V) → Hp → Prop
  | [(x, y)], H2 => H2 p = some (.dT []) ∧ ∃ (b : Addr) (k : List L2.Key), x = .ref b ∧ H2 b = some (.tup (k.map kV)) ∧ Q (.ref p) (upd H2 p (.dT [(k, y)]))
  | _, _ => False
theorem pe_dispT {X : Cx} {pos : Pos} {k v : Expr} {tk tv : TE} (hu : X.A.units + 1 < cLine) (hk : PE X k tk) (hv : PE X v tv) : PE X (.Dict [some k] [v] pos) (tDispT tk tv) := by
  refine ⟨fun pins s σ H Q I q => ?_⟩
  have hn := I.hok.fresh (Nat.le_refl s.heap.objs.size)
  have I1 := I.laid (a := s.heap.objs.size) (o := .dT []) (h' := s.heap.push { cls := .type "dict", data := .dict #[] }) (t' := s.toks) (fun _ _ q => Heap.get?_push_of_some _ q) (Nat.le_refl _) (dt_empty s.heap I.big)
  have hPP : PPs X pos [some k] [v] [(tk, tv)] := pps_cons hk hv pps_nil
  have run := hPP.run pins _ σ _ (dispQ s.heap.objs.size Q) I1 (q _ hn)
  have hlen : (pairTrees [some k] [v] X.env pos).length = 1 := pairTrees_length [some k] [v] X.env pos rfl rfl
  rw [arm_eval_Dict, zip_pairTrees [some k] [v] X.env pos rfl rfl, dictDisplay_pairs (pairTrees [some k] [v] X.env pos) (fun e => by rw [e] at hlen; exact nomatch hlen) (by omega)]
  refine wpAny_bind (wpAny_standAt (wpAny_bind (wpAny_subDictH (knd := tupleKind (mixKind X.prog X.w)) (Q := fun d s' => wpAny (model X.prog X.w) X.A (pure (Value.ref d)) (EP X pins σ Q) X.xe s') (show X.A.units < cLine from Nat.lt_of_succ_lt hu) (by omega) ?_)))
  refine thn run fun ws s2 ⟨ps, H2, I2, rel, hq2⟩ => ?_
  obtain ⟨x, y, rfl⟩ : ∃ x y, ps = [(x, y)] := by
    match ps, hq2 with
    | [(x, y)], _ => exact ⟨x, y, rfl⟩
  obtain ⟨e, b, kk, rfl, hb, q2⟩ := hq2
  cases rel with
  | @cons _ bw _ _ r rr =>
    cases rr
    obtain ⟨bk, bv⟩ := bw
    obtain ⟨r1, r2⟩ := r
    obtain rfl : bk = Value.ref b := r1
    obtain ⟨z, hd, xs0, r0, dd⟩ := dt_of I2.hok e
    cases r0
    refine ⟨[(kk, b, bv)], ⟨rfl, rfl, key_of I2.hok hb, trivial⟩, dd, fun h' tk2 dd' hs => wpAny_pure ?_⟩
    have he : ∃ q, h'.get? s.heap.objs.size = some q := let ⟨q, _, _, hq, _⟩ := dd'; ⟨q, hq⟩
    have hne : b ≠ s.heap.objs.size := ne_of hb e (fun z => nomatch z)
    obtain ⟨o, es, ep, hq, h2, h3, h4, _, h5⟩ := dd'
    have new : ObjOk X.prog X.w (upd H2 s.heap.objs.size (.dT [(kk, y)])) h' s.heap.objs.size (.dT [(kk, y)]) :=
      ⟨by show 1 ≤ sizeLine; decide, hd, [(kk, b, bv)], .cons ⟨rfl, by rw [upd_ne hne]; exact hb, r2⟩ .nil, o, es, ep, hq, h2, h3, h4, h5⟩
    have I3 : Inv X pins σ (upd H2 s.heap.objs.size (.dT [(kk, y)])) { s2 with heap := h', toks := tk2 } := d_write I2 (by rw [e]; exact True.intro) hs he new
    exact ⟨.ref s.heap.objs.size, _, I3, rfl, q2⟩

/-! ### sum(t), sorted(t) of a tuple of ints -/
section
variable {X : Cx}
def rSumT (K : PySem.W.Frag) : List V → Hp → VK → Prop := fun vs H Q => ∃ (a : Addr) (ns : List Int), vs = [V.ref a] ∧ SqT K H a (ns.map V.int) ∧ Q (.int ns.sum) H
theorem cr_sumT (hc : X.calm = true) : CallR X (.builtin "sum") (rSumT X.K) := by
  intro pins s σ H vs us Q I r h
  obtain ⟨a, ns, rfl, hs, q⟩ := h
  obtain ⟨its, rv, ht, hz⟩ := I.tuple hs
  rw [Vals.ref1 r]
  have hi := rv.ints
  have hl : s.heap.IsTuple a its.toArray := ht
  obtain ⟨xs, hx⟩ := hi.allInts.items
  have hn : numsOf its.toArray.toList = ns := by rw [show its.toArray.toList = its from rfl, hi.numsOf]
  rw [hx] at hl hn
  rw [nums_intItems] at hn
  refine PySem.W.ktm_sumG (I.ok.hd hc) hl fun h' tk t' hk => ?_
  rw [preSum_eq, List.take_of_length_le (by simp), hn]
  exact ⟨.int ns.sum, H, I.kept (t' := tk) hk, ⟨t', rfl⟩, q⟩
def rSortedT (K : PySem.W.Frag) : List V → Hp → VK → Prop := fun vs H Q => ∃ (a : Addr) (ns : List Int), vs = [V.ref a] ∧ SqT K H a (ns.map V.int) ∧
  ∀ (ns' : List Int) (p : Addr), ns'.Perm ns → ns'.Pairwise (· ≤ ·) → H p = none → Q (.ref p) (upd H p (.lst (ns'.map V.int)))
theorem cr_sortedT : CallR X (.builtin "sorted") (rSortedT X.K) := by
  intro pins s σ H vs us Q I r h
  obtain ⟨a, ns, rfl, hs, q⟩ := h
  obtain ⟨its, rv, ht, hz⟩ := I.tuple hs
  rw [Vals.ref1 r]
  have hi := rv.ints
  have hz' : its.length ≤ sizeLine := by rw [← rv.length]; exact hz
  obtain ⟨o, ho, hc, n, hd⟩ := ht
  refine Calls.call_function_entry kind_sorted plain_sorted entry_sorted (args_sorted1 _) ?_
  unfold Builtin.«sorted»
  refine wpAny_bind (m := checkCount "sorted" 1 1 _) (wpAny_pure ?_)
  refine wpAny_bind (PySem.wpAny_collect_seq a (.inr rfl) ho hc hd (fun h1 hk1 => ?_) (by rw [List.size_toArray]; exact hz'))
  refine wpAny_bind (wpAny_newList ?_ hz')
  have hoL : (h1.push (seqObj "list" its.toArray 0)).get? h1.objs.size = some (seqObj "list" its.toArray 0) := Heap.get?_push_size _ rfl
  have keep : ∀ b o, h1.get? b = some o → b ≠ h1.objs.size ∧ (h1.push (seqObj "list" its.toArray 0)).get? b = some o := fun b o q =>
    ⟨Nat.ne_of_lt (Heap.lt_size q), Heap.get?_push_of_some _ q⟩
  show wpAny _ _ _ _ _ { s with heap := h1.push (seqObj "list" its.toArray 0) }
  refine wpAny_bind (wpAny_holding (wpAny_call_entry slot_list_sort ⟨_, hoL, rfl⟩ entry_list_sort (SrtO.list_sort_ord SrtO.swo_int hoL hz' (fun h2 => SrtO.ints_sortable hi h2) fun out hs hb => ⟨_, rfl, ?_⟩) (args_list_sort _)))
  refine wpAny_pure ⟨_, rfl, ?_⟩
  obtain ⟨k1, k2, k3⟩ := SrtO.ints_out hi hs hb
  obtain ⟨ep, he'⟩ := PyProof.Rows.sortedHeap_at (vs := its) (out := out.toArray) hoL
  have hlen : ((out.map SrtO.iv).map V.int).length ≤ sizeLine := by
    rw [List.length_map, k2.length_eq]
    rw [List.length_map] at hz
    exact hz
  have I1 : Inv X pins σ H { s with heap := h1 } := I.kept (t' := s.toks) hk1
  exact ⟨.ref _, upd H h1.objs.size (.lst ((out.map SrtO.iv).map V.int)), I1.laid (t' := s.toks) (fun b ob q => (PyProof.Rows.sortedHeap_old (keep b ob q).1 (Heap.lt_size (keep b ob q).2)).trans (keep b ob q).2) (Nat.le_refl _) ⟨hlen, out, ep, vals_of_ints k1, he'⟩, rfl, q _ _ k2 k3 (I1.hok.fresh (Nat.le_refl _))⟩
end

/-! ### t[::-1] of a tuple -/
theorem places_rev (n : Nat) : Builtin.Slice.slicePlaces ((n : Int) - 1) (-1) (-1) = n := by
  unfold Builtin.Slice.slicePlaces
  have h1 : ¬ ((-1 : Int) > 0) := by decide
  simp only [h1, if_false]
  by_cases h : (n : Int) - 1 > -1
  · rw [if_pos h]
    have e : ((n : Int) - 1 - -1 - 1) / (- -1) + 1 = (n : Int) := by
      rw [show (- -1 : Int) = 1 by decide, Int.ediv_one]
      omega
    rw [e]
    exact Int.toNat_natCast n
  · rw [if_neg h]
    have e : n = 0 := by omega
    subst e
    rfl
theorem fm_congr {α β : Type} {f g : α → Option β} : ∀ {l : List α}, (∀ a ∈ l, f a = g a) → l.filterMap f = l.filterMap g
  | [], _ => rfl
  | a :: l, h => by
    rw [List.filterMap_cons, List.filterMap_cons, h a List.mem_cons_self, fm_congr fun b hb => h b (List.mem_cons_of_mem _ hb)]
theorem pick_rev (xs : Array Value) : ((List.range xs.size).filterMap fun (k : Nat) => xs[(((xs.size : Int) - 1) + (k : Int) * (-1)).toNat]?).toArray = xs.toList.reverse.toArray := by
  have e : ((List.range xs.size).filterMap fun (k : Nat) => xs[(((xs.size : Int) - 1) + (k : Int) * (-1)).toNat]?) = ((List.range xs.size).map fun k => xs.size - 1 - k).filterMap (xs[·]?) := by
    rw [List.filterMap_map]
    refine fm_congr fun k hk => ?_
    have hk' := List.mem_range.mp hk
    show xs[(((xs.size : Int) - 1) + (k : Int) * (-1)).toNat]? = xs[xs.size - 1 - k]?
    rw [show (((xs.size : Int) - 1) + (k : Int) * (-1)).toNat = xs.size - 1 - k by omega]
  rw [e, PySem.W.krv_range, List.filterMap_reverse, PySem.W.krv_all]
section
variable {prog : Program} {w : World} {A : Around} {E : Value → Shared → Prop} {s : Shared}
theorem sliceApplied_rev {sl : Addr} {vl vu vs : Value} {n : Nat} {Q : Int × Int × Nat → Shared → Prop} (hs : s.heap.IsSliceOf sl vl vu vs) (pl : IsPart vl none) (pu : IsPart vu none) (ps : IsPart vs (some (-1)))
    (h : Q ((n : Int) - 1, -1, n) s) : wpAny (model prog w) A (Builtin.Slice.sliceApplied (.ref sl) (pure (n : Int))) Q E s := by
  obtain ⟨os, hos, hcs, hds⟩ := id hs
  unfold Builtin.Slice.sliceApplied Builtin.Slice.sliceFields
  refine wpAny_bind (wpAny_bind (wpAny_field hos hds (x := vl) rfl (wpAny_bind (wpAny_field hos hds (x := vu) rfl (wpAny_bind (wpAny_field hos hds (x := vs) rfl (wpAny_pure ?_)))))))
  refine wpAny_bind (HT.slicePart_ ps ?_)
  show wpAny _ _ (if ((-1 : Int) == 0) = true then _ else _) _ _ s
  rw [if_neg (by decide)]
  refine wpAny_bind (HT.slicePart_ pl (wpAny_bind (HT.slicePart_ pu (wpAny_bind (wpAny_pure ?_)))))
  show wpAny _ _ (pure ((n : Int) - 1, (-1 : Int), Builtin.Slice.slicePlaces ((n : Int) - 1) (-1) (-1))) _ _ s
  rw [places_rev]
  exact wpAny_pure h
theorem getItem_tuple_rev {t sl : Addr} {items : Array Value} {vl vu vs : Value} {Q : Value → Shared → Prop} (ht : IsTup s.heap t items) (hs : s.heap.IsSliceOf sl vl vu vs) (pl : IsPart vl none) (pu : IsPart vu none) (ps : IsPart vs (some (-1)))
    (h : Q (.ref s.heap.objs.size) { s with heap := s.heap.push { cls := .type "tuple", data := .seq items.toList.reverse.toArray } })
    (hsz : items.size ≤ sizeLine) : wpAny (model prog w) A (getItem (.ref t) (.ref sl)) Q E s := by
  have htake : sizeOk (.seq items.toList.reverse.toArray) := by
    show items.toList.reverse.toArray.size ≤ sizeLine
    rw [List.size_toArray, List.length_reverse, Array.length_toList]
    exact hsz
  obtain ⟨os, hos, hcs, hds⟩ := id hs
  have hTs : s.TypeIs (.ref sl) "slice" := ⟨os, hos, hcs⟩
  unfold getItem
  try with_reducible refine wpAny_holding ?_
  first | refine wpAny_bind (wpAny_pure ?_) | skip
  refine wpAny_bind (wpAny_sequenceKey ht.typeIs (by decide) ?_)
  refine wpAny_bind (wpAny_callSpecial?_slot (name := Str.ofString "__getitem__") ht.typeIs PyProof.Rows.slot_tuple_getitem
    (wpAny_call_entry PyProof.Rows.slot_tuple_getitem ht.typeIs entry_tuple_getitem ?_ (args_tuple_getitem _ _)))
  show wpAny _ _ (Builtin.Tuple.tupleItemsOf (.ref t) >>= _) _ _ s
  refine wpAny_bind (tupleItemsOf_ ht ?_)
  refine wpAny_bind (wpAny_typeOf hTs ?_)
  rw [if_pos (by decide)]
  refine wpAny_bind (sliceApplied_rev hs pl pu ps ?_)
  show wpAny _ _ (if (((items.size : Int) - 1) == 0 && (-1 : Int) == 1 && items.size == items.size) = true then _ else _) _ _ s
  rw [if_neg (by rw [show ((-1 : Int) == 1) = false from rfl, Bool.and_false, Bool.false_and]; exact Bool.false_ne_true), pick_rev]
  first
    | exact wpAny_bind (m := Builtin.Tuple.tupleExact _) (wpAny_newObj_type (wpAny_pure ⟨_, rfl, wpAny_pure h⟩) htake)
    | exact wpAny_bind (m := Builtin.Tuple.tupleExact _) (wpAny_newObj_type (wpAny_bind (wpAny_pure (wpAny_pure ⟨_, rfl, wpAny_pure h⟩))) htake)
    | exact wpAny_bind (wpAny_bind (m := Builtin.Tuple.tupleExact _) (wpAny_newObj_type (wpAny_pure (wpAny_pure ⟨_, rfl, wpAny_pure h⟩)) htake))
    | exact wpAny_bind (wpAny_bind (m := Builtin.Tuple.tupleExact _) (wpAny_newObj_type (wpAny_pure ⟨_, rfl, wpAny_pure h⟩) htake))
end
section
variable {X : Cx}
def tRevT (K : PySem.W.Frag) (te : TE) : TE := fun σ H Q => te σ H fun x H1 => ∃ a xs, x = .ref a ∧ SqT K H1 a xs ∧ ∀ p, H1 p = none → Q (.ref p) (upd H1 p (.tup xs.reverse))
theorem pe_revT {e : Expr} {te : TE} {k : Nat} {p1 p2 p3 pos : Pos} (he : PE X e te) : PE X (.Subscript e (.Slice none none (some (.UnaryOp .USub (.Constant (.int 1) k p1) p2)) p3) pos) (tRevT X.K te) := by
  refine ⟨fun pins s σ H Q I h => ?_⟩
  refine Subscript_ (thn (he.run pins s σ H _ I h) fun v s1 ⟨x, H1, I1, r1, q1⟩ => ?_)
  obtain ⟨a, xs, ex, hx, q⟩ := q1
  subst ex
  cases r1
  have hst : PO X (some (.UnaryOp .USub (.Constant (.int 1) k p1) p2)) (tPart (tUn (rU fun i => .int (-i)) (tC (.int 1)))) := po_some (pe_un un_neg pe_int)
  refine wpAny_Slice (thn (po_none.run pins s1 σ H1 (fun o H2 => o = none ∧ H2 = H1) I1 ⟨rfl, rfl⟩) fun vl s2 ⟨l, H2, I2, pl, el, e2⟩ => ?_)
  subst el e2
  refine thn (po_none.run pins s2 σ H2 (fun o H3 => o = none ∧ H3 = H2) I2 ⟨rfl, rfl⟩) fun vu s3 ⟨u, H3, I3, pu, eu, e3⟩ => ?_
  subst eu e3
  refine thn (hst.run pins s3 σ H3 (fun o H4 => o = some (-1) ∧ H4 = H3) I3 ⟨1, rfl, -1, rfl, rfl, rfl⟩) fun vs s4 ⟨o, H4, I4, ps, eo, e4⟩ => ?_
  subst eo e4
  have I5 : Inv X pins σ H4 { s4 with heap := s4.heap.push { cls := .type "slice", data := .fields #[vl, vu, vs] } } := I4.kept (t' := s4.toks) fun b ob q => Heap.get?_push_of_some _ q
  obtain ⟨its, r, ht, hz⟩ := I5.tuple hx
  have hlen := r.length
  show wpAny (model X.prog X.w) X.A (subscriptTail e (.Slice none none (some (.UnaryOp .USub (.Constant (.int 1) k p1) p2)) p3) (.ref a) (.ref s4.heap.objs.size)) (EP X pins σ Q) X.xe { s4 with heap := s4.heap.push { cls := .type "slice", data := .fields #[vl, vu, vs] } }
  refine tail_any (ops := [.ref a, .ref s4.heap.objs.size]) ht.typeIs (PyProof.Rows.slot_tuple_getitem.lookup) ?_ (by with_unfolding_all rfl)
  refine getItem_tuple_rev ht (Heap.IsSliceOf.new _ vl vu vs) pl pu ps ?_ (by rw [List.size_toArray]; omega)
  refine ⟨.ref _, _, I5.laid (t' := s4.toks) (o := .tup xs.reverse) (fun b ob q => Heap.get?_push_of_some _ q) (Nat.le_refl _) ?_, rfl, q _ (I5.hok.fresh (Nat.le_refl _))⟩
  exact ⟨by rw [List.length_reverse]; exact hz, _, r.reverse, IsTup.new _ _⟩
end
end LP

/-! t * k, k from 1 on -/
namespace LP
open PySem PySem.Spec PyProof.Rows L2
open AutoSeq1 (wpAny_loadPart')
theorem tuple_mul1 (l : Addr) (items : Array Value) (n : Nat) (dd : Option Addr) (sl : Array (Option Value)) (u : Tok) :
    Meets (Builtin.«tuple.__mul__» ⟨[.ref l, .int 1 u], []⟩) (fun _ R s => s.heap.get? l = some { cls := .type "tuple", dict := dd, data := .seq items n, slots := sl } ∧
      R (.ok (.ret (Value.ref l))) s) :=
  .of_wp fun prog w A R s h => by
    obtain ⟨hp, g, d, tk, os⟩ := s
    obtain ⟨hl, h⟩ := h
    have f1 := AutoSeq1.idx_int
    have c1 : (items.isEmpty || (1 : Int) == 1) = true := by simp
    have c0 : (decide ((1 : Int) < -(2 ^ 63)) || decide ((1 : Int) ≥ 2 ^ 63)) = false := by decide
    wp_walk using wpAny_loadPart' hl
    repeat (first
      | (refine wpAny_ite_false (decide_eq_false (by rw [c0]; exact Bool.false_ne_true)) ?_; wp_walk using wpAny_loadPart' hl)
      | (refine wpAny_ite_true (decide_eq_true c1) ?_; wp_walk using wpAny_loadPart' hl))
    exact ⟨_, rfl, h⟩
def rRepA (K : PySem.W.Frag) : R2 := fun x y H Q => ∃ l k xs, x = .ref l ∧ y = .int k ∧ SqT K H l xs ∧ xs ≠ [] ∧ 1 ≤ k ∧ k ≤ 1000 ∧ xs.length ≤ 1000 ∧
  (k = 1 → Q (.ref l) H) ∧ (k ≠ 1 → ∀ p, H p = none → Q (.ref p) (upd H p (.tup (List.replicate k.toNat xs).flatten)))
theorem op_repA {X : Cx} : OpR X (binaryOp .Mult) (rRepA X.K) := by
  intro pins s σ H x y v u Q I rx ry h
  obtain ⟨l, k, xs, rfl, rfl, hT, hne, h1, h2, hz, q1, q2⟩ := h
  by_cases e : k = 1
  · subst e
    cases rx
    obtain ⟨t, rfl⟩ := ry
    obtain ⟨its, r, ⟨⟨cls, dd, data, sl⟩, ho, hc, n, hd⟩, hs⟩ := I.tuple hT
    simp only at hc hd
    subst hc hd
    refine wpAny_binaryOp_repeat_ref (T := "tuple") (U := "int") (by decide) ⟨_, ho, rfl⟩ (fun s' => typeIs_int s' 1 t) noFill_tuple_mul F.fills_int_mul F.slot_int_rmul repeat_tuple F.slot_int_index.lookup
      (call_meets F.slot_int_rmul (typeIs_int s 1 t) F.entry_int_rmul (F.args_int_rmul_2 _ _) (int_rmul_tuple 1 t l its.toArray n dd sl)
        ⟨ho, rfl, ⟨_, ho, rfl⟩, call_meets F.slot_tuple_mul ⟨_, ho, rfl⟩ F.entry_tuple_mul (F.args_tuple_mul_2 _ _) (tuple_mul1 l its.toArray n dd sl t) ⟨ho, ?_⟩⟩)
    exact ⟨.ref l, H, I, rfl, q1 rfl⟩
  · exact op_repT pins s σ H _ _ v u Q I rx ry ⟨l, k, xs, rfl, rfl, hT, hne, by omega, h2, hz, q2 e⟩
end LP

/-! the mirror: what each def computes, in plain Lean; none where a bound that the walk wants is not kept -/
namespace LP
abbrev Rt := Int × Int
abbrev Pl := List Rt
def foldO {α β : Type} (f : α → β → Option α) : List β → α → Option α
  | [], a => some a
  | b :: l, a => (f a b).bind (foldO f l)
def loopO {α : Type} (f : Nat → α → Option α) : Nat → Nat → α → Option α
  | 0, _, a => some a
  | n + 1, i, a => (f i a).bind (loopO f n (i + 1))
def grd {α : Type} (c : Bool) (x : Option α) : Option α := match c with
  | true => x
  | false => none
def mulM (a b : Int) : Option Int := grd (decide (-(2 ^ 64) < a) && decide (a < 2 ^ 64)) (some (a * b))
def absZ (n : Int) : Int := if n < 0 then -n else n
def min2 (a b : Int) : Int := if b < a then b else a
def gcdF : Nat → Int → Int → Option Int
  | 0, _, _ => none
  | k + 1, a, b => if b = 0 then some a else gcdF k b (a.fmod b)
def gcdM (a b : Int) : Option Int := gcdF 100 (absZ a) (absZ b)
def signed (d c : Int) : Int := if d < 0 then -c else c
def reducedM (n d : Int) : Option Rt := (gcdM n d).bind fun c =>
  grd (decide (signed d c ≠ 0) && decide ((signed d c).natAbs < 1073741824)) (some (n.fdiv (signed d c), d.fdiv (signed d c)))
def plusM (p q : Rt) : Option Rt := (mulM p.1 q.2).bind fun x => (mulM q.1 p.2).bind fun y => (mulM p.2 q.2).bind fun z => reducedM (x + y) z
def minusM (p q : Rt) : Option Rt := (mulM p.1 q.2).bind fun x => (mulM q.1 p.2).bind fun y => (mulM p.2 q.2).bind fun z => reducedM (x - y) z
def timesM (p q : Rt) : Option Rt := (mulM p.1 q.1).bind fun x => (mulM p.2 q.2).bind fun z => reducedM x z
def overM (p q : Rt) : Option Rt := (mulM p.1 q.2).bind fun x => (mulM p.2 q.1).bind fun z => reducedM x z
def trimF : Nat → Pl → Pl
  | 0, q => q
  | k + 1, q => if q.getLast? = some (0, 1) then trimF k q.dropLast else q
def trimM (q : Pl) : Pl := trimF q.length q
def valM (q : Pl) (n : Rt) : Option Rt := foldO (fun t one => (timesM t n).bind fun u => plusM u one) q.reverse (0, 1)
def max2 (a b : Nat) : Nat := if a < b then b else a
def padM (a : Pl) (n : Nat) : Pl := a ++ List.replicate (n - a.length) (0, 1)
def sumM (a b : Pl) : Option Pl := grd (decide (a.length ≤ 1000) && decide (b.length ≤ 1000))
  ((foldO (fun acc (p : Rt × Rt) => (plusM p.1 p.2).map fun r => acc ++ [r]) ((padM a (max a.length b.length)).zip (padM b (max a.length b.length))) []).map trimM)
def prodIn (a b : Pl) (i j : Nat) (f : Pl) : Option Pl := (f[i + j]?).bind fun x => (a[i]?).bind fun y => (b[j]?).bind fun z => (timesM y z).bind fun t => (plusM x t).map fun r => f.set (i + j) r
def prodM (a b : Pl) : Option Pl := grd (decide (a.length ≤ 1000) && decide (b.length ≤ 1000))
  ((loopO (fun i f => loopO (prodIn a b i) b.length 0 f) a.length 0 (List.replicate (a.length + b.length) (0, 1))).map trimM)
def thrIn (ps : List Int) (vs : Pl) (i : Nat) (st : Pl × Pl) : Option (Pl × Pl) := (ps[i]?).bind fun p => (vs[i]?).bind fun v => (valM st.1 (p, 1)).bind fun a => (minusM v a).bind fun r =>
  (valM st.2 (p, 1)).bind fun b => (overM r b).bind fun c => (prodM st.2 (trimM [c])).bind fun m => (sumM st.1 m).bind fun t => (prodM st.2 [(-p, 1), (1, 1)]).bind fun bs => some (t, bs)
def thrM (ps : List Int) (vs : Pl) : Option Pl := grd (decide (ps.length ≤ 1000)) ((loopO (thrIn ps vs) ps.length 0 ([], [(1, 1)])).map (·.1))
/-! tables -/
abbrev Pt := List Int × Int
def ptsIn (p : Pt) (i : Nat) (acc : List Pt) : Option (List Pt) := grd (decide (acc.length < 100000)) (some (acc ++ [(p.1 ++ [(i : Int)], p.2 - (i : Int))]))
def ptsStep (limit : Int) (found : List Pt) : Option (List Pt) := foldO (fun acc (p : Pt) => grd (decide (p.1.length ≤ 1000) && decide (-1000 ≤ min2 limit p.2 + 1) && decide (min2 limit p.2 + 1 ≤ 1000))
  (loopO (ptsIn p) (min2 limit p.2 + 1).toNat 0 acc)) found []
def ptsEnd (found : List Pt) : Option (List (List Int)) := foldO (fun acc (p : Pt) => if p.2 = 0 then grd (decide (acc.length < 100000)) (some (acc ++ [p.1])) else some acc) found []
def ptsM (total : Int) (limits : List Int) : Option (List (List Int)) := (foldO (fun found limit => ptsStep limit found) limits [([], total)]).bind ptsEnd
def insI (x : Int) : List Int → List Int
  | [] => [x]
  | y :: r => if x ≤ y then x :: y :: r else y :: insI x r
def sortI : List Int → List Int
  | [] => []
  | x :: r => insI x (sortI r)
abbrev Dc := List (List Int × Int)
def lookD (d : Dc) (k : List Int) : Option Int := (d.find? fun kv => decide (kv.1 = k)).map (·.2)
def putD (d : Dc) (k : List Int) (v : Int) : Dc := if (d.any fun kv => decide (kv.1 = k)) = true then d.map fun kv => if kv.1 = k then (kv.1, v) else kv else d ++ [(k, v)]
def subM (a b : List Int) : List Int := (a.zip b).map fun p => p.1 - p.2
def cntIn (left : List Int) (many : Int) (less : Dc) (sm : List Int) : Option Dc := grd (decide (less.length < 100000) && decide (left.length ≤ 1000))
  (some (putD less (sortI (subM left sm)) ((lookD less (sortI (subM left sm))).getD 0 + many)))
def cntRow (total : Int) (row : Dc) : Option Dc := foldO (fun less (kv : List Int × Int) => (ptsM total kv.1).bind fun sms => foldO (cntIn kv.1 kv.2) sms less) row []
def cntM (rows cols : List Int) : Option Int := grd (decide (1 ≤ cols.length) && decide (cols.length ≤ 1000)) ((foldO (fun row total => cntRow total row) rows [(cols, 1)]).map fun row => (lookD row (List.replicate cols.length 0)).getD 0)
def needM (ns : List Int) : Bool := decide (1 ≤ ns.length) && decide (ns.length ≤ 4) && ns.all fun x => decide (0 ≤ x) && decide (x ≤ 30)
def tcM (rows cols : List Int) : Option Int := grd (needM rows && needM cols) (cntM rows (sortI cols))
def sqIn (size : Nat) (n : Nat) (acc : Pl) : Option Pl := (cntM (List.replicate size (n : Int)) (List.replicate size (n : Int))).map fun c => acc ++ [(c, 1)]
def sqM (size : Nat) : Option Pl := grd (decide (1 ≤ size) && decide (size ≤ 3))
  ((loopO (sqIn size) ((size - 1) * (size - 1) + 1) 0 []).bind fun vs => thrM ((List.range ((size - 1) * (size - 1) + 1)).map fun (i : Nat) => (i : Int)) vs)
/-! the law's own -/
def lgIn (r : Int) (limit : Int) (longer : List (List Int)) (one : List Int) : Option (List (List Int)) :=
  grd (decide (longer.length < 100000) && decide (one.length ≤ 1000) && decide (-1000 ≤ min2 limit (r - one.sum) + 1) && decide (min2 limit (r - one.sum) + 1 ≤ 1000))
    (some (longer ++ (List.range (min2 limit (r - one.sum) + 1).toNat).map fun (x : Nat) => one ++ [(x : Int)]))
def lgM (r : Int) (cols : List Int) : Option (List (List Int)) := foldO (fun sm limit => foldO (lgIn r limit) sm []) cols [[]]
def lsubM (cols one : List Int) : Option (List Int) := loopO (fun k acc => (cols[k]?).bind fun x => (one[k]?).bind fun y => some (acc ++ [x - y])) cols.length 0 []
def ltcM : List Int → List Int → Option Int
  | [], _ => none
  | [r], cols => some (if r = cols.sum then 1 else 0)
  | r :: r2 :: rest, cols => grd (decide (cols.length ≤ 1000)) ((lgM r cols).bind fun sm => foldO (fun t one => if one.sum = r then (lsubM cols one).bind fun c => (ltcM (r2 :: rest) c).map fun z => t + z else some t) sm 0)
def isRatM (p : Rt) : Option Bool := if p.2 < 1 then some false else (gcdM p.1 p.2).map fun g => decide (g = 1)
def allRatM (q : Pl) : Option Bool := foldO (fun b p => (isRatM p).map fun c => b && c) q true
def isPolM (q : Pl) : Option Bool := (allRatM q).map fun b => b && decide (q.getLast? ≠ some (0, 1))
def lvalIn (n : Int) (st : Rt × Int) (one : Rt) : Option (Rt × Int) := (timesM one (st.2, 1)).bind fun t => (plusM st.1 t).bind fun u => (mulM st.2 n).map fun m => (u, m)
def lvalM (q : Pl) (n : Int) : Option Rt := (foldO (lvalIn n) q ((0, 1), 1)).map (·.1)
/-! the facts, reckoned -/
def polyOf : Nat → Pl
  | 1 => [(1, 1)]
  | 2 => [(1, 1), (1, 1)]
  | _ => [(1, 1), (9, 4), (15, 8), (3, 4), (1, 8)]
theorem sq_fact : ∀ size : Nat, size < 4 → 1 ≤ size → sqM size = some (polyOf size) := by decide +kernel
theorem pol_fact : ∀ size : Nat, size < 4 → 1 ≤ size → isPolM (polyOf size) = some true ∧ (polyOf size).length = (size - 1) * (size - 1) + 1 := by decide +kernel
def dueOf (size n : Nat) : Int := ((lvalM (polyOf size) n).getD (0, 0)).1
theorem due_fact : ∀ size : Nat, size < 4 → 1 ≤ size → ∀ n : Nat, n < 7 → ltcM (List.replicate size (n : Int)) (List.replicate size (n : Int)) = some (dueOf size n) ∧ lvalM (polyOf size) (n : Int) = some (dueOf size n, 1) := by decide +kernel
def zeroChk (size k : Nat) : Bool := lvalM (polyOf size) (0 - (k : Int)) == some (0, 1)
theorem zero_chk : ∀ size : Nat, size < 4 → 1 ≤ size → ∀ k : Nat, k < size → 1 ≤ k → zeroChk size k = true := by decide +kernel
theorem zero_fact (size : Nat) (h1 : size < 4) (h2 : 1 ≤ size) (k : Nat) (h3 : k < size) (h4 : 1 ≤ k) : lvalM (polyOf size) (0 - (k : Int)) = some (0, 1) := eq_of_beq (zero_chk size h1 h2 k h3 h4)
def othOf (size n : Nat) : Rt := (lvalM (polyOf size) n).getD (0, 0)
def oneOf (size n : Nat) : Rt := if (size : Int).fmod 2 = 1 then othOf size n else (0 - (othOf size n).1, (othOf size n).2)
def othChk (size n : Nat) : Bool := lvalM (polyOf size) (n : Int) == some (othOf size n) && lvalM (polyOf size) (0 - (n : Int) - (size : Int)) == some (oneOf size n)
theorem oth_chk : ∀ size : Nat, size < 4 → 1 ≤ size → ∀ n : Nat, n < 20 → othChk size n = true := by decide +kernel
theorem oth_fact (size : Nat) (h1 : size < 4) (h2 : 1 ≤ size) (n : Nat) (h3 : n < 20) : lvalM (polyOf size) (n : Int) = some (othOf size n) ∧ lvalM (polyOf size) (0 - (n : Int) - (size : Int)) = some (oneOf size n) := by
  have h := oth_chk size h1 h2 n h3
  unfold othChk at h
  rw [Bool.and_eq_true] at h
  exact ⟨eq_of_beq h.1, eq_of_beq h.2⟩
theorem tc_fact : ∀ size : Nat, size < 4 → 1 ≤ size → ∀ n : Nat, n < 9 → tcM (List.replicate size (n : Int)) (List.replicate size (n : Int)) = some (othOf size n).1 := by decide +kernel
end LP

/-! what stands in the heap; the calls; gcd and the ratios -/
namespace LP
open PySem PySem.Spec PyProof.Rows L2

def topS (i : Nat) : Stmt := PySem.Challenge.pw_latticepoints_k93_whole_square_tables.main.body.getD i (.Pass ⟨0, 0, 0, 0⟩)

/-! ### tuples that stand -/
def TT (K : PySem.W.Frag) (H : Hp) (p : Addr) (xs : List V) : Prop := H p = some (.tup xs) ∨
  ∃ (o : Obj) (its : Array Value) (n : Nat), K.lookup p = some o ∧ o.cls = .type "tuple" ∧ o.data = .seq its n ∧ its.size ≤ sizeLine ∧ Vals xs its.toList
theorem TT.seq {K : PySem.W.Frag} {H : Hp} {p : Addr} {xs : List V} (h : TT K H p xs) : SqT K H p xs := by
  rcases h with h | h
  · exact .inl (.inl h)
  · exact .inr h
def TK (H H' : Hp) : Prop := ∀ b xs, H b = some (.tup xs) → H' b = some (.tup xs)
theorem TK.refl (H : Hp) : TK H H := fun _ _ h => h
theorem TK.trans {H H1 H2 : Hp} (a : TK H H1) (b : TK H1 H2) : TK H H2 := fun c o h => b c o (a c o h)
theorem TK.of {H H' : Hp} (h : Same H H') : TK H H' := fun _ _ e => h _ _ e
theorem TK.new {H : Hp} {p : Addr} {o : HO} (h : H p = none) : TK H (upd H p o) := fun b xs e => by
  rw [upd_ne (ne_of_none e h)]
  exact e
def isTup : HO → Bool
  | .tup _ => true
  | _ => false
theorem TK.put {H : Hp} {p : Addr} {u o : HO} (h : H p = some u) (hu : isTup u = false) : TK H (upd H p o) := fun b xs e => by
  have n : b ≠ p := fun z => by
    subst z
    rw [h] at e
    cases e
    cases hu
  rw [upd_ne n]
  exact e
theorem TT.tk {K : PySem.W.Frag} {H H' : Hp} {p : Addr} {xs : List V} (h : TT K H p xs) (k : TK H H') : TT K H' p xs := by
  rcases h with h | h
  · exact .inl (k _ _ h)
  · exact .inr h
theorem same_new {H : Hp} {p : Addr} (h : H p = none) (o : HO) : Same H (upd H p o) := fun b x e => by
  rw [upd_ne (ne_of_none e h)]
  exact e
/-- what stood ahead stands still, where an object made since is changed -/
theorem same_put {H H' : Hp} {p : Addr} {o : HO} (h : Same H H') (n : H p = none) : Same H (upd H' p o) := fun b x e => by
  rw [upd_ne (ne_of_none e n)]
  exact h _ _ e
theorem TT.new {K : PySem.W.Frag} {H : Hp} {p : Addr} {xs : List V} : TT K (upd H p (.tup xs)) p xs := .inl upd_same

/-! ### pairs of lists -/
theorem pr_get {α β : Type} {F : α → β → Prop} {l : List α} {r : List β} (h : Paired F l r) : ∀ {i : Nat} {b : β}, r[i]? = some b → ∃ a, l[i]? = some a ∧ F a b := by
  induction h with
  | nil => intro i b e; simp at e
  | cons r t ih =>
    intro i b' e
    cases i with
    | zero =>
      simp only [List.getElem?_cons_zero, Option.some.injEq] at e
      subst e
      exact ⟨_, rfl, r⟩
    | succ j =>
      simp only [List.getElem?_cons_succ] at e ⊢
      exact ih e
theorem pr_get2 {α β : Type} {F : α → β → Prop} {l : List α} {r : List β} (h : Paired F l r) {i : Nat} {a : α} (e : l[i]? = some a) : ∃ b, r[i]? = some b ∧ F a b := paired_get h e
theorem pr_app {α β : Type} {F : α → β → Prop} {l l2 : List α} {r r2 : List β} (h : Paired F l r) (h2 : Paired F l2 r2) : Paired F (l ++ l2) (r ++ r2) := by
  induction h with
  | nil => exact h2
  | cons f t ih => exact .cons f ih
theorem pr_snoc {α β : Type} {F : α → β → Prop} {l : List α} {r : List β} (h : Paired F l r) {a : α} {b : β} (f : F a b) : Paired F (l ++ [a]) (r ++ [b]) := pr_app h (.cons f .nil)
theorem pr_set {α β : Type} {F : α → β → Prop} {l : List α} {r : List β} (h : Paired F l r) {a : α} {b : β} (f : F a b) : ∀ i : Nat, Paired F (l.set i a) (r.set i b) := by
  induction h with
  | nil => intro i; exact .nil
  | cons g t ih =>
    intro i
    cases i with
    | zero => exact .cons f t
    | succ j => exact .cons g (ih j)
theorem pr_rev {α β : Type} {F : α → β → Prop} {l : List α} {r : List β} (h : Paired F l r) : Paired F l.reverse r.reverse := by
  induction h with
  | nil => exact .nil
  | cons f t ih =>
    rw [List.reverse_cons, List.reverse_cons]
    exact pr_snoc ih f
theorem pr_rep {α β : Type} {F : α → β → Prop} {a : α} {b : β} (f : F a b) : ∀ n : Nat, Paired F (List.replicate n a) (List.replicate n b)
  | 0 => .nil
  | n + 1 => .cons f (pr_rep f n)
theorem pr_tail {α β : Type} {F : α → β → Prop} {l : List α} {r : List β} (h : Paired F l r) : Paired F l.tail r.tail := by
  cases h with
  | nil => exact .nil
  | cons f t => exact t
theorem pr_init {α β : Type} {F : α → β → Prop} {l : List α} {r : List β} (h : Paired F l r) : Paired F l.dropLast r.dropLast := by
  have e3 := pr_rev (pr_tail (pr_rev h))
  rw [List.tail_reverse, List.tail_reverse, List.reverse_reverse, List.reverse_reverse] at e3
  exact e3
theorem pr_mono {α β : Type} {F G : α → β → Prop} {l : List α} {r : List β} (h : Paired F l r) (k : ∀ a b, F a b → G a b) : Paired G l r := Paired.mapP h k

/-! ### ratios, polynomials, tuples of ints -/
def RatV (K : PySem.W.Frag) (H : Hp) (v : V) (q : Rt) : Prop := ∃ p, v = .ref p ∧ TT K H p [.int q.1, .int q.2]
def PolV (K : PySem.W.Frag) (H : Hp) (v : V) (q : Pl) : Prop := ∃ p vs, v = .ref p ∧ TT K H p vs ∧ Paired (RatV K H) vs q
def IntT (H : Hp) (v : V) (ns : List Int) : Prop := ∃ p, v = .ref p ∧ H p = some (.tup (ns.map V.int))
section
variable {K : PySem.W.Frag} {H H' : Hp}
theorem RatV.tk {v : V} {q : Rt} (h : RatV K H v q) (k : TK H H') : RatV K H' v q := let ⟨p, e, t⟩ := h; ⟨p, e, t.tk k⟩
theorem rats_tk {vs : List V} {q : Pl} (h : Paired (RatV K H) vs q) (k : TK H H') : Paired (RatV K H') vs q := pr_mono h fun _ _ f => f.tk k
theorem PolV.tk {v : V} {q : Pl} (h : PolV K H v q) (k : TK H H') : PolV K H' v q := let ⟨p, vs, e, t, r⟩ := h; ⟨p, vs, e, t.tk k, rats_tk r k⟩
theorem IntT.tk {v : V} {ns : List Int} (h : IntT H v ns) (k : TK H H') : IntT H' v ns := let ⟨p, e, t⟩ := h; ⟨p, e, k _ _ t⟩
theorem RatV.new {p : Addr} {a b : Int} : RatV K (upd H p (.tup [.int a, .int b])) (.ref p) (a, b) := ⟨p, rfl, .inl upd_same⟩
end

/-! ### built-ins' names, defs -/
structure Bl (mg : Str → Option Value) : Prop where
  abs : mg "abs" = none
  len : mg "len" = none
  max : mg "max" = none
  min : mg "min" = none
  range : mg "range" = none
  zip : mg "zip" = none
  isi : mg "isinstance" = none
  int : mg "int" = none
  bool : mg "bool" = none
  tup : mg "tuple" = none
  lst : mg "list" = none
  sorted : mg "sorted" = none
  sum : mg "sum" = none
/-- a def of the top, with its promise -/
def Df (P : Program) (w : World) (K : PySem.W.Frag) (mg : Str → Option Value) (base : Heap) (k : Nat) (x : Str) (ps : List Str) (sp : Sp) : Prop :=
  ∃ (f : Addr) (fd : FuncData), FnOk P w K mg base CX0 k f fd ps sp ∧ mg x = some (.ref f) ∧ PySem.W.keepIn K (.ref f) = true ∧ Binds K fd ps []
def tCallD (sp : Sp) (t : TA) : TE := fun σ H Q => t σ H fun vs H1 => sp (vs ++ []) H1 Q E0
theorem pe_callD {X : Cx} {x : Str} {p pos : Pos} {e : Expr} {es : List Expr} {t : TA} {k : Nat} {ps : List Str} {sp : Sp} (D : Df X.prog X.w X.K X.mg X.base k x ps sp) (hr : Room k X.A) (hg : Gl X x)
    (ha : PA X (e :: es) t) (hdb : (x == ("__debug__" : Str)) = false := by decide) (he : starEach (e :: es) X.env = (false, eval e X.env) :: starEach es X.env := by rfl) (hpl : (backTo pos (starEach es X.env)).any (·.1) = false := by rfl) :
    PE X (.Call (.Name x p) (e :: es) [] pos) (tCallD sp t) := by
  obtain ⟨f, fd, F, m, kp, b⟩ := D
  exact pe_call F hr hg m kp b .nil pass0 ha (hdb := hdb) (he := he) (hpl := hpl)

section
variable {P : Program} {w : World} {K : PySem.W.Frag} {mg : Str → Option Value} {base : Heap} {f : Addr} {fd : FuncData}
/-! ### gcd -/
def spGcd : Sp := fun vs H Q _ => ∃ a b g, vs = [.int a, .int b] ∧ gcdM a b = some g ∧ Q (.int g) H
theorem scGcd : FnScope ["one", "other"] ["one", "other"] (defScope (topS 6)) := ⟨rfl, rfl, rfl, by decide +kernel, rfl, by decide +kernel, by decide +kernel⟩
theorem ok_gcd (F : Fun K "gcd" "gcd" (topS 6) f fd) (m : mg "gcd" = some (.ref f)) (B : Bl mg) : Df P w K mg base 1 "gcd" ["one", "other"] spGcd := by
  refine ⟨f, fd, F.ok scGcd (fun vs H Q E h => ?_) (fun cdv A outer s H vs Q E hr h => ?_), m, F.kp, F.binds fun _ _ _ _ _ _ us hl => match us, hl with | [_, _], _ => rfl⟩
  · obtain ⟨a, b, g, rfl, _⟩ := h
    rfl
  obtain ⟨a, b, g, rfl, hg, q⟩ := h
  refine ⟨_, pss_cons (ps_par rfl scGcd.nd (i := 0) (j := 1) rfl rfl (by decide) rfl rfl (pa_cons (pe_callB call_abs (by rfl) B.abs (by decide +kernel) (pa_cons (pv 0) pa_nil)) (pa_cons (pe_callB call_abs (by rfl) B.abs (by decide +kernel) (pa_cons (pv 1) pa_nil)) pa_nil)) (by rfl))
    (pss_cons (ps_while PassesOwn.never (pt_cmpR op_ne (pv 1) pe_int (nomark _)) (pss_one (ps_par rfl scGcd.nd (i := 0) (j := 1) rfl rfl (by decide) rfl rfl (pa_cons (pv 1) (pa_cons (pe_op op_modN (pv 0) (pv 1)) pa_nil)) (by rfl))))
    (pss_one (ps_ret (pv 0)))), ?_⟩
  refine ⟨_, rfl, a, rfl, _, rfl, b, rfl, _, _, rfl, ?_⟩
  refine ⟨fun n σ H' => ∃ x y, σ = [some (.int x), some (.int y)] ∧ H' = H ∧ gcdF n x y = some g, ⟨100, _, _, rfl, rfl, hg⟩, ?_⟩
  rintro n σ H' ⟨x, y, rfl, rfl, hn⟩
  refine ⟨_, rfl, rfl, _, rfl, ?_⟩
  cases n with
  | zero => cases hn
  | succ n =>
    unfold gcdF at hn
    by_cases e : y = 0
    · rw [if_pos e] at hn
      cases hn
      subst e
      refine iteNS rfl ?_
      exact ⟨_, rfl, q⟩
    · rw [if_neg e] at hn
      rw [if_pos (by rw [dec_int]; simpa using e)]
      refine ⟨fun σ' H'' => ∃ x y, σ' = [some (.int x), some (.int y)] ∧ H'' = H' ∧ gcdF n x y = some g, fun σ' H'' ⟨x', y', h1, h2, h3⟩ => ⟨n, Nat.lt_succ_self n, x', y', h1, h2, h3⟩, ?_⟩
      exact ⟨_, rfl, _, rfl, _, rfl, _, _, rfl, rfl, e, _, _, rfl, _, _, rfl, rfl, hn⟩
end
end LP

/-! the ratios -/
namespace LP
open PySem PySem.Spec PyProof.Rows L2
theorem bnd {α β : Type} {x : Option α} {f : α → Option β} {r : β} (h : x.bind f = some r) : ∃ a, x = some a ∧ f a = some r := by
  cases x with
  | none => cases h
  | some a => exact ⟨a, rfl, h⟩
theorem mpd {α β : Type} {x : Option α} {f : α → β} {r : β} (h : x.map f = some r) : ∃ a, x = some a ∧ f a = r := by
  cases x with
  | none => cases h
  | some a => exact ⟨a, rfl, Option.some.inj h⟩
theorem grd_ok {α : Type} {c : Bool} {x : Option α} {r : α} (h : grd c x = some r) : c = true ∧ x = some r := by
  cases c with
  | true => exact ⟨rfl, h⟩
  | false => cases h
theorem and_ok {a b : Prop} [Decidable a] [Decidable b] (h : (decide a && decide b) = true) : a ∧ b := by
  rw [Bool.and_eq_true] at h
  exact ⟨of_decide_eq_true h.1, of_decide_eq_true h.2⟩
theorem mul_ok {a b z : Int} (h : mulM a b = some z) : (-(2 ^ 64) < a ∧ a < 2 ^ 64) ∧ z = a * b := by
  obtain ⟨c, e⟩ := grd_ok h
  exact ⟨and_ok c, (Option.some.inj e).symm⟩
theorem red_ok {n d : Int} {r : Rt} (h : reducedM n d = some r) : ∃ c, gcdM n d = some c ∧ signed d c ≠ 0 ∧ (signed d c).natAbs < 1073741824 ∧ r = (n.fdiv (signed d c), d.fdiv (signed d c)) := by
  obtain ⟨c, h1, h2⟩ := bnd h
  obtain ⟨g, e⟩ := grd_ok h2
  obtain ⟨g1, g2⟩ := and_ok g
  exact ⟨c, h1, g1, g2, (Option.some.inj e).symm⟩
theorem ratV_ix0 {K : PySem.W.Frag} {H : Hp} {p : Addr} {q : Rt} (h : TT K H p [.int q.1, .int q.2]) : SqT K H p [.int q.1, .int q.2] := h.seq
theorem at0 {a b : V} : atI [a, b] 0 = some a := rfl
theorem at1 {a b : V} : atI [a, b] 1 = some b := rfl
section
variable {P : Program} {w : World} {K : PySem.W.Frag} {mg : Str → Option Value} {base : Heap} {f : Addr} {fd : FuncData}
/-! ### reduced, the law's ratio -/
def spRed (K : PySem.W.Frag) : Sp := fun vs H Q _ => ∃ n d r, vs = [.int n, .int d] ∧ reducedM n d = some r ∧ ∀ v H', Same H H' → RatV K H' v r → Q v H'
theorem scRed : FnScope ["numerator", "denominator", "common"] ["numerator", "denominator"] (defScope (topS 7)) := ⟨rfl, rfl, rfl, by decide +kernel, rfl, by decide +kernel, by decide +kernel⟩
theorem ok_red (F : Fun K "reduced" "reduced" (topS 7) f fd) (m : mg "reduced" = some (.ref f)) (B : Bl mg) (G : Df P w K mg base 1 "gcd" ["one", "other"] spGcd) : Df P w K mg base 2 "reduced" ["numerator", "denominator"] (spRed K) := by
  refine ⟨f, fd, F.ok scRed (fun vs H Q E h => ?_) (fun cdv A outer s H vs Q E hr h => ?_), m, F.kp, F.binds fun _ _ _ _ _ _ us hl => match us, hl with | [_, _], _ => rfl⟩
  · obtain ⟨a, b, g, rfl, _⟩ := h
    rfl
  obtain ⟨n, d, r, rfl, hm, q⟩ := h
  obtain ⟨c, hg, h0, h1, rfl⟩ := red_ok hm
  refine ⟨_, pss_cons (ps_set (i := 2) scRed.nd rfl (.inl rfl) (pe_callD G hr (by rfl) (pa_cons (pv 0) (pa_cons (pv 1) pa_nil))))
    (pss_cons (ps_if (pt_cmpR op_lt (pv 1) pe_int (nomark _)) (pss_one (ps_set (i := 2) scRed.nd rfl (.inl rfl) (pe_un un_neg (pv 2)))) pss_nil)
    (pss_one (ps_ret (pe_tup (pa_cons (pe_op op_fdivN (pv 0) (pv 2)) (pa_cons (pe_op op_fdivN (pv 1) (pv 2)) pa_nil)))))), ?_⟩
  refine ⟨_, rfl, _, rfl, n, d, c, rfl, hg, ?_⟩
  refine ⟨_, rfl, _, _, rfl, rfl, _, rfl, ?_⟩
  refine ite2 (fun e => ?_) (fun e => ?_)
  · have e' : signed d c = -c := if_pos (of_decide_eq_true e)
    rw [e'] at h0 h1 q
    refine ⟨_, rfl, _, rfl, ?_⟩
    exact ⟨_, rfl, _, rfl, _, _, rfl, rfl, ⟨h0, h1⟩, _, rfl, _, rfl, _, _, rfl, rfl, ⟨h0, h1⟩, (by show 2 ≤ sizeLine; decide), fun p hp => q _ _ (same_new hp _) .new⟩
  · have e' : signed d c = c := if_neg (of_decide_eq_false (Bool.eq_false_iff.mpr e))
    rw [e'] at h0 h1 q
    exact ⟨_, rfl, _, rfl, _, _, rfl, rfl, ⟨h0, h1⟩, _, rfl, _, rfl, _, _, rfl, rfl, ⟨h0, h1⟩, (by show 2 ≤ sizeLine; decide), fun p hp => q _ _ (same_new hp _) .new⟩
/-! ### two ratios in, one out -/
def sp2R (K : PySem.W.Frag) (M : Rt → Rt → Option Rt) : Sp := fun vs H Q _ => ∃ v1 v2 p q r, vs = [v1, v2] ∧ RatV K H v1 p ∧ RatV K H v2 q ∧ M p q = some r ∧ ∀ v H', Same H H' → RatV K H' v r → Q v H'
theorem sc8 : FnScope ["one", "other"] ["one", "other"] (defScope (topS 8)) := ⟨rfl, rfl, rfl, by decide +kernel, rfl, by decide +kernel, by decide +kernel⟩
theorem sc9 : FnScope ["one", "other"] ["one", "other"] (defScope (topS 9)) := ⟨rfl, rfl, rfl, by decide +kernel, rfl, by decide +kernel, by decide +kernel⟩
theorem sc10 : FnScope ["one", "other"] ["one", "other"] (defScope (topS 10)) := ⟨rfl, rfl, rfl, by decide +kernel, rfl, by decide +kernel, by decide +kernel⟩
theorem sc11 : FnScope ["one", "other"] ["one", "other"] (defScope (topS 11)) := ⟨rfl, rfl, rfl, by decide +kernel, rfl, by decide +kernel, by decide +kernel⟩
theorem ok_plus (F : Fun K "plus" "plus" (topS 8) f fd) (m : mg "plus" = some (.ref f)) (G : Df P w K mg base 2 "reduced" ["numerator", "denominator"] (spRed K)) : Df P w K mg base 3 "plus" ["one", "other"] (sp2R K plusM) := by
  refine ⟨f, fd, F.ok sc8 (fun vs H Q E h => ?_) (fun cdv A outer s H vs Q E hr h => ?_), m, F.kp, F.binds fun _ _ _ _ _ _ us hl => match us, hl with | [_, _], _ => rfl⟩
  · obtain ⟨_, _, _, _, _, rfl, _⟩ := h
    rfl
  obtain ⟨_, _, p, q, r, rfl, ⟨a, rfl, ha⟩, ⟨b, rfl, hb⟩, hm, k⟩ := h
  obtain ⟨x, hx, hm⟩ := bnd hm
  obtain ⟨y, hy, hm⟩ := bnd hm
  obtain ⟨z, hz, hm⟩ := bnd hm
  obtain ⟨bx, rfl⟩ := mul_ok hx
  obtain ⟨bY, rfl⟩ := mul_ok hy
  obtain ⟨bz, rfl⟩ := mul_ok hz
  have sa := ha.seq
  have sb := hb.seq
  refine ⟨_, pss_one (ps_ret (pe_callD G hr (by rfl) (pa_cons (pe_op op_add (pe_op op_mul (pe_ix ix_tup (pv 0) pe_int (fun _ _ => rfl)) (pe_ix ix_tup (pv 1) pe_int (fun _ _ => rfl))) (pe_op op_mul (pe_ix ix_tup (pv 1) pe_int (fun _ _ => rfl)) (pe_ix ix_tup (pv 0) pe_int (fun _ _ => rfl))))
    (pa_cons (pe_op op_mul (pe_ix ix_tup (pv 0) pe_int (fun _ _ => rfl)) (pe_ix ix_tup (pv 1) pe_int (fun _ _ => rfl))) pa_nil)))), ?_⟩
  refine ⟨_, rfl, a, _, _, _, rfl, rfl, sa, at0, _, rfl, b, _, _, _, rfl, rfl, sb, at1, _, _, rfl, rfl, .inl bx, ?_⟩
  refine ⟨_, rfl, b, _, _, _, rfl, rfl, sb, at0, _, rfl, a, _, _, _, rfl, rfl, sa, at1, _, _, rfl, rfl, .inl bY, ?_⟩
  refine ⟨_, _, rfl, rfl, ?_⟩
  refine ⟨_, rfl, a, _, _, _, rfl, rfl, sa, at1, _, rfl, b, _, _, _, rfl, rfl, sb, at1, _, _, rfl, rfl, .inl bz, ?_⟩
  exact ⟨_, _, _, rfl, hm, k⟩
theorem ok_minus (F : Fun K "minus" "minus" (topS 9) f fd) (m : mg "minus" = some (.ref f)) (G : Df P w K mg base 2 "reduced" ["numerator", "denominator"] (spRed K)) : Df P w K mg base 3 "minus" ["one", "other"] (sp2R K minusM) := by
  refine ⟨f, fd, F.ok sc9 (fun vs H Q E h => ?_) (fun cdv A outer s H vs Q E hr h => ?_), m, F.kp, F.binds fun _ _ _ _ _ _ us hl => match us, hl with | [_, _], _ => rfl⟩
  · obtain ⟨_, _, _, _, _, rfl, _⟩ := h
    rfl
  obtain ⟨_, _, p, q, r, rfl, ⟨a, rfl, ha⟩, ⟨b, rfl, hb⟩, hm, k⟩ := h
  obtain ⟨x, hx, hm⟩ := bnd hm
  obtain ⟨y, hy, hm⟩ := bnd hm
  obtain ⟨z, hz, hm⟩ := bnd hm
  obtain ⟨bx, rfl⟩ := mul_ok hx
  obtain ⟨bY, rfl⟩ := mul_ok hy
  obtain ⟨bz, rfl⟩ := mul_ok hz
  have sa := ha.seq
  have sb := hb.seq
  refine ⟨_, pss_one (ps_ret (pe_callD G hr (by rfl) (pa_cons (pe_op op_sub (pe_op op_mul (pe_ix ix_tup (pv 0) pe_int (fun _ _ => rfl)) (pe_ix ix_tup (pv 1) pe_int (fun _ _ => rfl))) (pe_op op_mul (pe_ix ix_tup (pv 1) pe_int (fun _ _ => rfl)) (pe_ix ix_tup (pv 0) pe_int (fun _ _ => rfl))))
    (pa_cons (pe_op op_mul (pe_ix ix_tup (pv 0) pe_int (fun _ _ => rfl)) (pe_ix ix_tup (pv 1) pe_int (fun _ _ => rfl))) pa_nil)))), ?_⟩
  refine ⟨_, rfl, a, _, _, _, rfl, rfl, sa, at0, _, rfl, b, _, _, _, rfl, rfl, sb, at1, _, _, rfl, rfl, .inl bx, ?_⟩
  refine ⟨_, rfl, b, _, _, _, rfl, rfl, sb, at0, _, rfl, a, _, _, _, rfl, rfl, sa, at1, _, _, rfl, rfl, .inl bY, ?_⟩
  refine ⟨_, _, rfl, rfl, ?_⟩
  refine ⟨_, rfl, a, _, _, _, rfl, rfl, sa, at1, _, rfl, b, _, _, _, rfl, rfl, sb, at1, _, _, rfl, rfl, .inl bz, ?_⟩
  exact ⟨_, _, _, rfl, hm, k⟩
theorem ok_times (F : Fun K "times" "times" (topS 10) f fd) (m : mg "times" = some (.ref f)) (G : Df P w K mg base 2 "reduced" ["numerator", "denominator"] (spRed K)) : Df P w K mg base 3 "times" ["one", "other"] (sp2R K timesM) := by
  refine ⟨f, fd, F.ok sc10 (fun vs H Q E h => ?_) (fun cdv A outer s H vs Q E hr h => ?_), m, F.kp, F.binds fun _ _ _ _ _ _ us hl => match us, hl with | [_, _], _ => rfl⟩
  · obtain ⟨_, _, _, _, _, rfl, _⟩ := h
    rfl
  obtain ⟨_, _, p, q, r, rfl, ⟨a, rfl, ha⟩, ⟨b, rfl, hb⟩, hm, k⟩ := h
  obtain ⟨x, hx, hm⟩ := bnd hm
  obtain ⟨y, hy, hm⟩ := bnd hm
  obtain ⟨bx, rfl⟩ := mul_ok hx
  obtain ⟨bY, rfl⟩ := mul_ok hy
  have sa := ha.seq
  have sb := hb.seq
  refine ⟨_, pss_one (ps_ret (pe_callD G hr (by rfl) (pa_cons (pe_op op_mul (pe_ix ix_tup (pv 0) pe_int (fun _ _ => rfl)) (pe_ix ix_tup (pv 1) pe_int (fun _ _ => rfl)))
    (pa_cons (pe_op op_mul (pe_ix ix_tup (pv 0) pe_int (fun _ _ => rfl)) (pe_ix ix_tup (pv 1) pe_int (fun _ _ => rfl))) pa_nil)))), ?_⟩
  refine ⟨_, rfl, a, _, _, _, rfl, rfl, sa, at0, _, rfl, b, _, _, _, rfl, rfl, sb, at0, _, _, rfl, rfl, .inl bx, ?_⟩
  refine ⟨_, rfl, a, _, _, _, rfl, rfl, sa, at1, _, rfl, b, _, _, _, rfl, rfl, sb, at1, _, _, rfl, rfl, .inl bY, ?_⟩
  exact ⟨_, _, _, rfl, hm, k⟩
theorem ok_over (F : Fun K "over" "over" (topS 11) f fd) (m : mg "over" = some (.ref f)) (G : Df P w K mg base 2 "reduced" ["numerator", "denominator"] (spRed K)) : Df P w K mg base 3 "over" ["one", "other"] (sp2R K overM) := by
  refine ⟨f, fd, F.ok sc11 (fun vs H Q E h => ?_) (fun cdv A outer s H vs Q E hr h => ?_), m, F.kp, F.binds fun _ _ _ _ _ _ us hl => match us, hl with | [_, _], _ => rfl⟩
  · obtain ⟨_, _, _, _, _, rfl, _⟩ := h
    rfl
  obtain ⟨_, _, p, q, r, rfl, ⟨a, rfl, ha⟩, ⟨b, rfl, hb⟩, hm, k⟩ := h
  obtain ⟨x, hx, hm⟩ := bnd hm
  obtain ⟨y, hy, hm⟩ := bnd hm
  obtain ⟨bx, rfl⟩ := mul_ok hx
  obtain ⟨bY, rfl⟩ := mul_ok hy
  have sa := ha.seq
  have sb := hb.seq
  refine ⟨_, pss_one (ps_ret (pe_callD G hr (by rfl) (pa_cons (pe_op op_mul (pe_ix ix_tup (pv 0) pe_int (fun _ _ => rfl)) (pe_ix ix_tup (pv 1) pe_int (fun _ _ => rfl)))
    (pa_cons (pe_op op_mul (pe_ix ix_tup (pv 0) pe_int (fun _ _ => rfl)) (pe_ix ix_tup (pv 1) pe_int (fun _ _ => rfl))) pa_nil)))), ?_⟩
  refine ⟨_, rfl, a, _, _, _, rfl, rfl, sa, at0, _, rfl, b, _, _, _, rfl, rfl, sb, at1, _, _, rfl, rfl, .inl bx, ?_⟩
  refine ⟨_, rfl, a, _, _, _, rfl, rfl, sa, at1, _, rfl, b, _, _, _, rfl, rfl, sb, at0, _, _, rfl, rfl, .inl bY, ?_⟩
  exact ⟨_, _, _, rfl, hm, k⟩
end
end LP

/-! the law's own gcd, ratio, plus, times; is_in -/
namespace LP
open PySem PySem.Spec PyProof.Rows L2
section
variable {P : Program} {w : World} {K : PySem.W.Frag} {mg : Str → Option Value} {base : Heap} {f : Addr} {fd : FuncData}
theorem scLgcd : FnScope ["_law_one", "_law_other"] ["_law_one", "_law_other"] (defScope (topS 31)) := ⟨rfl, rfl, rfl, by decide +kernel, rfl, by decide +kernel, by decide +kernel⟩
theorem ok_lgcd (F : Fun K "_law_gcd" "_law_gcd" (topS 31) f fd) (m : mg "_law_gcd" = some (.ref f)) (B : Bl mg) : Df P w K mg base 1 "_law_gcd" ["_law_one", "_law_other"] spGcd := by
  refine ⟨f, fd, F.ok scLgcd (fun vs H Q E h => ?_) (fun cdv A outer s H vs Q E hr h => ?_), m, F.kp, F.binds fun _ _ _ _ _ _ us hl => match us, hl with | [_, _], _ => rfl⟩
  · obtain ⟨a, b, g, rfl, _⟩ := h
    rfl
  obtain ⟨a, b, g, rfl, hg, q⟩ := h
  refine ⟨_, pss_cons (ps_par rfl scLgcd.nd (i := 0) (j := 1) rfl rfl (by decide) rfl rfl (pa_cons (pe_callB call_abs (by rfl) B.abs (by decide +kernel) (pa_cons (pv 0) pa_nil)) (pa_cons (pe_callB call_abs (by rfl) B.abs (by decide +kernel) (pa_cons (pv 1) pa_nil)) pa_nil)) (by rfl))
    (pss_cons (ps_while PassesOwn.never (pt_cmpR op_ne (pv 1) pe_int (nomark _)) (pss_one (ps_par rfl scLgcd.nd (i := 0) (j := 1) rfl rfl (by decide) rfl rfl (pa_cons (pv 1) (pa_cons (pe_op op_modN (pe_callTy call_int1 (by rfl) B.int (by decide +kernel) (pa_cons (pv 0) pa_nil)) (pv 1)) pa_nil)) (by rfl))))
    (pss_one (ps_ret (pv 0)))), ?_⟩
  refine ⟨_, rfl, a, rfl, _, rfl, b, rfl, _, _, rfl, ?_⟩
  refine ⟨fun n σ H' => ∃ x y, σ = [some (.int x), some (.int y)] ∧ H' = H ∧ gcdF n x y = some g, ⟨100, _, _, rfl, rfl, hg⟩, ?_⟩
  rintro n σ H' ⟨x, y, rfl, rfl, hn⟩
  refine ⟨_, rfl, rfl, _, rfl, ?_⟩
  cases n with
  | zero => cases hn
  | succ n =>
    unfold gcdF at hn
    by_cases e : y = 0
    · rw [if_pos e] at hn
      cases hn
      subst e
      refine iteNS rfl ?_
      exact ⟨_, rfl, q⟩
    · rw [if_neg e] at hn
      rw [if_pos (by rw [dec_int]; simpa using e)]
      refine ⟨fun σ' H'' => ∃ x y, σ' = [some (.int x), some (.int y)] ∧ H'' = H' ∧ gcdF n x y = some g, fun σ' H'' ⟨x', y', h1, h2, h3⟩ => ⟨n, Nat.lt_succ_self n, x', y', h1, h2, h3⟩, ?_⟩
      exact ⟨_, rfl, _, rfl, .inl ⟨_, rfl, _, rfl, _, _, rfl, rfl, e, _, _, rfl, _, _, rfl, rfl, hn⟩⟩
theorem scLrat : FnScope ["_law_numerator", "_law_denominator", "_law_common"] ["_law_numerator", "_law_denominator"] (defScope (topS 34)) := ⟨rfl, rfl, rfl, by decide +kernel, rfl, by decide +kernel, by decide +kernel⟩
theorem ok_lrat (F : Fun K "_law_ratio" "_law_ratio" (topS 34) f fd) (m : mg "_law_ratio" = some (.ref f)) (B : Bl mg) (G : Df P w K mg base 1 "_law_gcd" ["_law_one", "_law_other"] spGcd) : Df P w K mg base 2 "_law_ratio" ["_law_numerator", "_law_denominator"] (spRed K) := by
  refine ⟨f, fd, F.ok scLrat (fun vs H Q E h => ?_) (fun cdv A outer s H vs Q E hr h => ?_), m, F.kp, F.binds fun _ _ _ _ _ _ us hl => match us, hl with | [_, _], _ => rfl⟩
  · obtain ⟨a, b, g, rfl, _⟩ := h
    rfl
  obtain ⟨n, d, r, rfl, hm, q⟩ := h
  obtain ⟨c, hg, h0, h1, rfl⟩ := red_ok hm
  refine ⟨_, pss_cons (ps_set (i := 2) scLrat.nd rfl (.inl rfl) (pe_callD G hr (by rfl) (pa_cons (pv 0) (pa_cons (pv 1) pa_nil))))
    (pss_cons (ps_set (i := 2) scLrat.nd rfl (.inl rfl) (pe_ifExp (pt_cmpR op_lt (pv 1) pe_int (nomark _)) (pe_op op_sub pe_int (pv 2)) (pv 2)))
    (pss_one (ps_ret (pe_tup (pa_cons (pe_op op_fdivN (pv 0) (pv 2)) (pa_cons (pe_op op_fdivN (pv 1) (pv 2)) pa_nil)))))), ?_⟩
  refine ⟨_, rfl, _, rfl, n, d, c, rfl, hg, ?_⟩
  refine ⟨_, rfl, _, _, rfl, rfl, _, rfl, ?_⟩
  refine ite2 (fun e => ?_) (fun e => ?_)
  · have e' : signed d c = 0 - c := (if_pos (of_decide_eq_true e)).trans (Int.zero_sub c).symm
    rw [e'] at h0 h1 q
    refine ⟨_, rfl, _, _, rfl, rfl, ?_⟩
    exact ⟨_, rfl, _, rfl, _, _, rfl, rfl, ⟨h0, h1⟩, _, rfl, _, rfl, _, _, rfl, rfl, ⟨h0, h1⟩, (by show 2 ≤ sizeLine; decide), fun p hp => q _ _ (same_new hp _) .new⟩
  · have e' : signed d c = c := if_neg (of_decide_eq_false (Bool.eq_false_iff.mpr e))
    rw [e'] at h0 h1 q
    refine ⟨_, rfl, ?_⟩
    exact ⟨_, rfl, _, rfl, _, _, rfl, rfl, ⟨h0, h1⟩, _, rfl, _, rfl, _, _, rfl, rfl, ⟨h0, h1⟩, (by show 2 ≤ sizeLine; decide), fun p hp => q _ _ (same_new hp _) .new⟩
theorem sc35 : FnScope ["_law_one", "_law_other"] ["_law_one", "_law_other"] (defScope (topS 35)) := ⟨rfl, rfl, rfl, by decide +kernel, rfl, by decide +kernel, by decide +kernel⟩
theorem sc36 : FnScope ["_law_one", "_law_other"] ["_law_one", "_law_other"] (defScope (topS 36)) := ⟨rfl, rfl, rfl, by decide +kernel, rfl, by decide +kernel, by decide +kernel⟩
theorem ok_lplus (F : Fun K "_law_plus" "_law_plus" (topS 35) f fd) (m : mg "_law_plus" = some (.ref f)) (G : Df P w K mg base 2 "_law_ratio" ["_law_numerator", "_law_denominator"] (spRed K)) : Df P w K mg base 3 "_law_plus" ["_law_one", "_law_other"] (sp2R K plusM) := by
  refine ⟨f, fd, F.ok sc35 (fun vs H Q E h => ?_) (fun cdv A outer s H vs Q E hr h => ?_), m, F.kp, F.binds fun _ _ _ _ _ _ us hl => match us, hl with | [_, _], _ => rfl⟩
  · obtain ⟨_, _, _, _, _, rfl, _⟩ := h
    rfl
  obtain ⟨_, _, p, q, r, rfl, ⟨a, rfl, ha⟩, ⟨b, rfl, hb⟩, hm, k⟩ := h
  obtain ⟨x, hx, hm⟩ := bnd hm
  obtain ⟨y, hy, hm⟩ := bnd hm
  obtain ⟨z, hz, hm⟩ := bnd hm
  obtain ⟨bx, rfl⟩ := mul_ok hx
  obtain ⟨bY, rfl⟩ := mul_ok hy
  obtain ⟨bz, rfl⟩ := mul_ok hz
  have sa := ha.seq
  have sb := hb.seq
  refine ⟨_, pss_one (ps_ret (pe_callD G hr (by rfl) (pa_cons (pe_op op_add (pe_op op_mul (pe_ix ix_tup (pv 0) pe_int (fun _ _ => rfl)) (pe_ix ix_tup (pv 1) pe_int (fun _ _ => rfl))) (pe_op op_mul (pe_ix ix_tup (pv 1) pe_int (fun _ _ => rfl)) (pe_ix ix_tup (pv 0) pe_int (fun _ _ => rfl))))
    (pa_cons (pe_op op_mul (pe_ix ix_tup (pv 0) pe_int (fun _ _ => rfl)) (pe_ix ix_tup (pv 1) pe_int (fun _ _ => rfl))) pa_nil)))), ?_⟩
  refine ⟨_, rfl, a, _, _, _, rfl, rfl, sa, at0, _, rfl, b, _, _, _, rfl, rfl, sb, at1, _, _, rfl, rfl, .inl bx, ?_⟩
  refine ⟨_, rfl, b, _, _, _, rfl, rfl, sb, at0, _, rfl, a, _, _, _, rfl, rfl, sa, at1, _, _, rfl, rfl, .inl bY, ?_⟩
  refine ⟨_, _, rfl, rfl, ?_⟩
  refine ⟨_, rfl, a, _, _, _, rfl, rfl, sa, at1, _, rfl, b, _, _, _, rfl, rfl, sb, at1, _, _, rfl, rfl, .inl bz, ?_⟩
  exact ⟨_, _, _, rfl, hm, k⟩
theorem ok_ltimes (F : Fun K "_law_times" "_law_times" (topS 36) f fd) (m : mg "_law_times" = some (.ref f)) (G : Df P w K mg base 2 "_law_ratio" ["_law_numerator", "_law_denominator"] (spRed K)) : Df P w K mg base 3 "_law_times" ["_law_one", "_law_other"] (sp2R K timesM) := by
  refine ⟨f, fd, F.ok sc36 (fun vs H Q E h => ?_) (fun cdv A outer s H vs Q E hr h => ?_), m, F.kp, F.binds fun _ _ _ _ _ _ us hl => match us, hl with | [_, _], _ => rfl⟩
  · obtain ⟨_, _, _, _, _, rfl, _⟩ := h
    rfl
  obtain ⟨_, _, p, q, r, rfl, ⟨a, rfl, ha⟩, ⟨b, rfl, hb⟩, hm, k⟩ := h
  obtain ⟨x, hx, hm⟩ := bnd hm
  obtain ⟨y, hy, hm⟩ := bnd hm
  obtain ⟨bx, rfl⟩ := mul_ok hx
  obtain ⟨bY, rfl⟩ := mul_ok hy
  have sa := ha.seq
  have sb := hb.seq
  refine ⟨_, pss_one (ps_ret (pe_callD G hr (by rfl) (pa_cons (pe_op op_mul (pe_ix ix_tup (pv 0) pe_int (fun _ _ => rfl)) (pe_ix ix_tup (pv 1) pe_int (fun _ _ => rfl)))
    (pa_cons (pe_op op_mul (pe_ix ix_tup (pv 0) pe_int (fun _ _ => rfl)) (pe_ix ix_tup (pv 1) pe_int (fun _ _ => rfl))) pa_nil)))), ?_⟩
  refine ⟨_, rfl, a, _, _, _, rfl, rfl, sa, at0, _, rfl, b, _, _, _, rfl, rfl, sb, at0, _, _, rfl, rfl, .inl bx, ?_⟩
  refine ⟨_, rfl, a, _, _, _, rfl, rfl, sa, at1, _, rfl, b, _, _, _, rfl, rfl, sb, at1, _, _, rfl, rfl, .inl bY, ?_⟩
  exact ⟨_, _, _, rfl, hm, k⟩
/-! ### is_in -/
def spIsIn : Sp := fun vs H Q _ => ∃ x a b, vs = [.int x, .int a, .int b] ∧ Q (.bl (decide (a ≤ x) && decide (x ≤ b))) H
theorem scIsIn : FnScope ["value", "least", "most"] ["value", "least", "most"] (defScope (topS 5)) := ⟨rfl, rfl, rfl, by decide +kernel, rfl, by decide +kernel, by decide +kernel⟩
theorem ok_isin (F : Fun K "is_in" "is_in" (topS 5) f fd) (m : mg "is_in" = some (.ref f)) (B : Bl mg) : Df P w K mg base 1 "is_in" ["value", "least", "most"] spIsIn := by
  refine ⟨f, fd, F.ok scIsIn (fun vs H Q E h => ?_) (fun cdv A outer s H vs Q E hr h => ?_), m, F.kp, F.binds fun _ _ _ _ _ _ us hl => match us, hl with | [_, _, _], _ => rfl⟩
  · obtain ⟨x, a, b, rfl, _⟩ := h
    rfl
  obtain ⟨x, a, b, rfl, q⟩ := h
  refine ⟨_, pss_one (ps_ret (pe_and (pe_callB call_isi (by rfl) B.isi (by decide +kernel) (pa_cons (pv 0) (pa_cons (pe_bltn (v := .ty "int") (u := .type "int") (by rfl) B.int (by decide +kernel) rfl) pa_nil)))
    (pe_and (pe_not (pe_callB call_isi (by rfl) B.isi (by decide +kernel) (pa_cons (pv 0) (pa_cons (pe_bltn (v := .ty "bool") (u := .type "bool") (by rfl) B.bool (by decide +kernel) rfl) pa_nil))))
      (pe_one (pe_chain op_le op_le (pv 1) (pv 0) (pv 2)))))), ?_⟩
  refine ⟨_, rfl, _, _, .type "int", .type "int", true, rfl, .ty _, .base (.int _), kit_ty (by decide +kernel), _, rfl, iteT ?_⟩
  refine ⟨_, rfl, _, _, .type "int", .type "bool", false, rfl, .ty _, .base (.int _), kit_ty (by decide +kernel), _, rfl, _, rfl, iteT ?_⟩
  refine ⟨_, rfl, _, rfl, _, _, rfl, rfl, _, rfl, ?_⟩
  by_cases e : a ≤ x
  · rw [decide_eq_true e] at q ⊢
    refine iteT ?_
    exact ⟨_, rfl, _, _, rfl, rfl, q⟩
  · rw [decide_eq_false e] at q ⊢
    exact iteF q
end
end LP

/-! data that == sees; trimmed, value_of -/
namespace LP
open PySem PySem.Spec PyProof.Rows L2
/-! ### ratios as data -/
def ratD (q : Rt) : PyData := .tuple [.int q.1, .int q.2]
section
variable {K : PySem.W.Frag} {H H' : Hp}
theorem rat_dp {v : V} {q : Rt} (h : RatV K H v q) : Dp K H v (ratD q) := by
  obtain ⟨p, rfl, t⟩ := h
  exact .tup t.seq (.cons (.int _) (.cons (.int _) .nil))
theorem rats_dp {vs : List V} {q : Pl} (h : Paired (RatV K H) vs q) : DpAll K H vs (q.map ratD) := by
  induction h with
  | nil => exact .nil
  | cons f t ih => exact .cons (rat_dp f) ih
end
theorem lay_rats : ∀ q : Pl, PyData.canLayAll0 (q.map ratD) = true
  | [] => rfl
  | p :: q => by
    show (PyData.canLay0 (ratD p) && PyData.canLayAll0 (q.map ratD)) = true
    rw [lay_rats q]
    rfl
theorem dep_rats : ∀ q : Pl, PyData.depthAll (q.map ratD) ≤ 1
  | [] => Nat.zero_le _
  | p :: q => by
    show max (PyData.depth (ratD p)) (PyData.depthAll (q.map ratD)) ≤ 1
    exact Nat.max_le.mpr ⟨Nat.le_refl _, dep_rats q⟩
theorem shp_rat (q : Rt) : SeqAt.shaped (ratD q) = true := rfl
theorem shp_lst (q : Pl) : SeqAt.shaped (.list (q.map ratD)) = true := by
  unfold SeqAt.shaped
  have h := dep_rats q
  rw [Bool.and_eq_true]
  exact ⟨lay_rats q, decide_eq_true (by show PyData.depthAll (q.map ratD) + 1 ≤ 64; omega)⟩
theorem shp_tup (q : Pl) : SeqAt.shaped (.tuple (q.map ratD)) = true := by
  unfold SeqAt.shaped
  have h := dep_rats q
  rw [Bool.and_eq_true]
  exact ⟨lay_rats q, decide_eq_true (by show PyData.depthAll (q.map ratD) + 1 ≤ 64; omega)⟩
theorem eqv_rat (p q : Rt) : PyData.eqv (ratD p) (ratD q) = decide (p = q) := by
  have e : PyData.eqv (ratD p) (ratD q) = ((p.1 == q.1) && ((p.2 == q.2) && true)) := by
    simp only [ratD, PyData.eqv, PyData.eqvAll]
  rw [e, Bool.and_true, Bool.eq_iff_iff]
  rw [Bool.and_eq_true, beq_iff_eq, beq_iff_eq, decide_eq_true_eq]
  exact ⟨fun ⟨a, b⟩ => Prod.ext a b, fun h => by rw [h]; exact ⟨rfl, rfl⟩⟩
theorem eqv_lnil (q : Pl) : PyData.eqv (.list (q.map ratD)) (.list []) = q.isEmpty := by
  cases q with
  | nil => rfl
  | cons p q => simp only [List.map_cons, PyData.eqv, PyData.eqvAll, List.isEmpty_cons]
theorem eqv_tnil (q : Pl) : PyData.eqv (.tuple (q.map ratD)) (.tuple []) = q.isEmpty := by
  cases q with
  | nil => rfl
  | cons p q => simp only [List.map_cons, PyData.eqv, PyData.eqvAll, List.isEmpty_cons]
/-! ### lists -/
theorem pr_last {α β : Type} {F : α → β → Prop} {l : List α} {r : List β} {b : β} (h : Paired F l (r ++ [b])) : ∃ l' a, l = l' ++ [a] ∧ Paired F l' r ∧ F a b := by
  have h2 := pr_rev h
  rw [List.reverse_append, List.reverse_singleton, List.singleton_append] at h2
  generalize e : l.reverse = m at h2
  cases h2 with
  | @cons a _ l1 _ f t =>
    refine ⟨l1.reverse, a, ?_, ?_, f⟩
    · rw [← List.reverse_reverse l, e, List.reverse_cons]
    · have t2 := pr_rev t
      rw [List.reverse_reverse] at t2
      exact t2
theorem drop_at {α : Type} {l : List α} {i : Nat} {b : α} (h : l[i]? = some b) : l.drop i = b :: l.drop (i + 1) := by
  obtain ⟨h1, h2⟩ := List.getElem?_eq_some_iff.mp h
  rw [List.drop_eq_getElem_cons h1, h2]
theorem drop_end {α : Type} {l : List α} {i : Nat} (h : l.length ≤ i) : l.drop i = [] := List.drop_eq_nil_of_le h
/-! ### the module's constants -/
structure Cs (K : PySem.W.Frag) (mg : Str → Option Value) : Prop where
  zero : ∃ z, mg "ZERO" = some (.ref z) ∧ ∀ H, RatV K H (.ref z) (0, 1)
  one : ∃ z, mg "ONE" = some (.ref z) ∧ ∀ H, RatV K H (.ref z) (1, 1)
section
variable {P : Program} {w : World} {K : PySem.W.Frag} {mg : Str → Option Value} {base : Heap} {f : Addr} {fd : FuncData}
/-! ### trimmed -/
def spTrim (K : PySem.W.Frag) : Sp := fun vs H Q _ => ∃ p xs q, vs = [.ref p] ∧ SqL K H p xs ∧ Paired (RatV K H) xs q ∧ ∀ v H', Same H H' → PolV K H' v (trimM q) → Q v H'
theorem scTrim : FnScope ["row"] ["row"] (defScope (topS 15)) := ⟨rfl, rfl, rfl, by decide +kernel, rfl, by decide +kernel, by decide +kernel⟩
theorem ok_trim (F : Fun K "trimmed" "trimmed" (topS 15) f fd) (m : mg "trimmed" = some (.ref f)) (B : Bl mg) (C : Cs K mg) : Df P w K mg base 1 "trimmed" ["row"] (spTrim K) := by
  refine ⟨f, fd, F.ok scTrim (fun vs H Q E h => ?_) (fun cdv A outer s H vs Q E hr h => ?_), m, F.kp, F.binds fun _ _ _ _ _ _ us hl => match us, hl with | [_], _ => rfl⟩
  · obtain ⟨_, _, _, rfl, _⟩ := h
    rfl
  obtain ⟨p, xs, q, rfl, hp, hx, k⟩ := h
  obtain ⟨z, mz, hz⟩ := C.zero
  refine ⟨_, pss_cons (ps_set (i := 0) scTrim.nd rfl (.inl rfl) (pe_callTy call_list_of (by rfl) B.lst (by decide +kernel) (pa_cons (pv 0) pa_nil)))
    (pss_cons (ps_while PassesOwn.never (PW.pt (pw_and (pt_cmpR (op_neD hr.units) (pv 0) (pe_lst pa_nil) (nomark _)) (pw_and1 (pt_cmpR (op_eqD hr.units) (pe_ix ix_list (pv 0) (pe_un un_neg pe_int) (fun _ _ => rfl)) (pe_glob (v := .ref z) (by rfl) mz rfl) (nomark _)))))
      (pss_one (ps_expr (pe_bm0 PySem.F.plainAttrs_list PySem.F.slot_list_pop PySem.F.type_list_pop mt_pop (pv 0)))))
    (pss_one (ps_ret (pe_callTy call_tuple_of (by rfl) B.tup (by decide +kernel) (pa_cons (pv 0) pa_nil))))), ?_⟩
  refine ⟨_, rfl, p, xs, rfl, .inl hp, fun l hl => ?_⟩
  -- the end
  have fin : ∀ (H2 : Hp) (ys : List V) (r : Pl), Same H H2 → H2 l = some (.lst ys) → Paired (RatV K H2) ys r → r = trimM q →
      tRet (tCB (fun xs H Q => ∃ p ys, xs = [.ref p] ∧ ((SqL K H p ys ∧ ∀ l, H l = none → Q (.ref l) (upd H l (.tup ys))) ∨ (SqT K H p ys ∧ Q (.ref p) H))) (tCons (tVar 0) tNil)) { nx := fun _ H' => Q .non H', rt := Q } [some (.ref l)] H2 := by
    intro H2 ys r sm hl2 hr2 e
    refine ⟨_, rfl, l, ys, rfl, .inl ⟨SqL.of hl2, fun t ht => ?_⟩⟩
    refine k _ _ (sm.trans (same_new ht _)) ⟨t, ys, rfl, .inl upd_same, ?_⟩
    rw [← e]
    exact rats_tk hr2 (TK.new ht)
  refine ⟨fun n σ H2 => ∃ ys r, σ = [some (.ref l)] ∧ Same H H2 ∧ H2 l = some (.lst ys) ∧ Paired (RatV K H2) ys r ∧ trimF n r = trimM q ∧ r.length ≤ n, ⟨q.length, xs, q, rfl, same_new hl _, upd_same, rats_tk hx (TK.new hl), rfl, Nat.le_refl _⟩, ?_⟩
  rintro n σ H2 ⟨ys, r, rfl, sm, hl2, hr2, ht, hn⟩
  refine ⟨_, rfl, Nat.zero_le _, fun e he => ?_⟩
  have nle : l ≠ e := ne_of_none hl2 he
  have hl3 : upd H2 e (.lst []) l = some (.lst ys) := by rw [upd_ne nle]; exact hl2
  have hr3 : Paired (RatV K (upd H2 e (.lst []))) ys r := rats_tk hr2 (TK.new he)
  have sm3 : Same H (upd H2 e (.lst [])) := sm.trans (same_new he _)
  refine ⟨.list (r.map ratD), .list [], .lst (SqL.of hl3) (rats_dp hr3), .lst (SqL.of upd_same) .nil, shp_lst r, rfl, _, rfl, ?_⟩
  rw [eqv_lnil]
  rcases List.eq_nil_or_concat r with rfl | ⟨r', b, rfl⟩
  · refine iteF (iteF ?_)
    refine fin _ _ _ sm3 hl3 hr3 ?_
    cases n <;> exact ht
  · rw [List.concat_eq_append] at *
    obtain ⟨ys', v, rfl, hy', hv⟩ := pr_last hr3
    rw [show (!(r' ++ [b]).isEmpty) = true by simp]
    refine iteT ?_
    refine ⟨_, rfl, 1, rfl, l, _, _, v, rfl, rfl, SqL.of hl3, atI_last ys' v, ratD b, ratD (0, 1), rat_dp hv, rat_dp (hz _), rfl, rfl, _, rfl, ?_⟩
    rw [eqv_rat]
    cases n with
    | zero => simp at hn
    | succ n =>
      unfold trimF at ht
      rw [List.getLast?_concat] at ht
      by_cases eb : b = (0, 1)
      · subst eb
        rw [if_pos rfl, List.dropLast_concat] at ht
        rw [decide_eq_true rfl]
        refine iteT ?_
        refine ⟨fun σ' H' => ∃ ys r, σ' = [some (.ref l)] ∧ Same H H' ∧ H' l = some (.lst ys) ∧ Paired (RatV K H') ys r ∧ trimF n r = trimM q ∧ r.length ≤ n, fun σ' H' h => ⟨n, Nat.lt_succ_self n, h⟩, ?_⟩
        refine ⟨_, rfl, .inl ⟨rfl, _, SqL.of hl3⟩, l, _, v, rfl, rfl, hl3, (by simp), ?_⟩
        rw [List.dropLast_concat]
        refine ⟨ys', r', rfl, same_put sm3 hl, upd_same, rats_tk hy' (TK.put hl3 rfl), ht, ?_⟩
        simp at hn
        exact hn
      · have eb' : ¬ (some b = some ((0, 1) : Rt)) := fun z => eb (Option.some.inj z)
        rw [if_neg eb'] at ht
        rw [decide_eq_false eb]
        refine iteF ?_
        exact fin _ _ _ sm3 hl3 hr3 ht
/-! ### value_of -/
def spVal (K : PySem.W.Frag) : Sp := fun vs H Q _ => ∃ v1 v2 q n r, vs = [v1, v2] ∧ PolV K H v1 q ∧ RatV K H v2 n ∧ valM q n = some r ∧ ∀ v H', Same H H' → RatV K H' v r → Q v H'
theorem scVal : FnScope ["poly", "n", "total", "one"] ["poly", "n"] (defScope (topS 16)) := ⟨rfl, rfl, rfl, by decide +kernel, rfl, by decide +kernel, by decide +kernel⟩
theorem ok_val (F : Fun K "value_of" "value_of" (topS 16) f fd) (m : mg "value_of" = some (.ref f)) (B : Bl mg) (C : Cs K mg) (GT : Df P w K mg base 3 "times" ["one", "other"] (sp2R K timesM)) (GP : Df P w K mg base 3 "plus" ["one", "other"] (sp2R K plusM)) : Df P w K mg base 4 "value_of" ["poly", "n"] (spVal K) := by
  refine ⟨f, fd, F.ok scVal (fun vs H Q E h => ?_) (fun cdv A outer s H vs Q E hr h => ?_), m, F.kp, F.binds fun _ _ _ _ _ _ us hl => match us, hl with | [_, _], _ => rfl⟩
  · obtain ⟨_, _, _, _, _, rfl, _⟩ := h
    rfl
  obtain ⟨_, vn, q, n, r, rfl, ⟨a, vs, rfl, ha, hq⟩, hn, hm, k⟩ := h
  obtain ⟨z, mz, hz⟩ := C.zero
  refine ⟨_, pss_cons (ps_set (i := 2) scVal.nd rfl (.inl rfl) (pe_glob (v := .ref z) (by rfl) mz rfl))
    (pss_cons (ps_for PassesOwn.never rfl (pi_tup (pe_revT (pv 0))) (pg_name (i := 3) scVal.nd rfl (.inl rfl))
      (pss_one (ps_set (i := 2) scVal.nd rfl (.inl rfl) (pe_callD GP hr (by rfl) (pa_cons (pe_callD GT hr (by rfl) (pa_cons (pv 2) (pa_cons (pv 1) pa_nil))) (pa_cons (pv 3) pa_nil))))))
    (pss_one (ps_ret (pv 2)))), ?_⟩
  refine ⟨_, rfl, a, vs, rfl, ha.seq, fun p hp => ⟨p, rfl, ⟨_, SqT.of upd_same⟩, ?_⟩⟩
  have hqr := pr_rev (rats_tk hq (TK.new (o := .tup vs.reverse) hp))
  have s0 : Same H (upd H p (.tup vs.reverse)) := same_new hp _
  have hn0 : RatV K (upd H p (.tup vs.reverse)) vn n := hn.tk (TK.of s0)
  refine for_tup (xs := vs.reverse) (fun i σ H' => ∃ t tq x, σ = [some (.ref a), some vn, some t, x] ∧ Same (upd H p (.tup vs.reverse)) H' ∧ RatV K H' t tq ∧ foldO (fun t one => (timesM t n).bind fun u => plusM u one) (q.reverse.drop i) tq = some r) ?_ ?_ ?_ ?_
  · exact ⟨_, (0, 1), none, rfl, Same.refl _, hz _, hm⟩
  · rintro i σ H' _ ⟨t, tq, x, rfl, sm, _⟩
    exact SqT.of (sm _ _ upd_same)
  · rintro i x σ H' hi ⟨t, tq, y, rfl, sm, ht, hf⟩
    obtain ⟨b, hb, hxb⟩ := pr_get2 hqr hi
    rw [drop_at hb] at hf
    obtain ⟨c, hc, hf⟩ := bnd hf
    obtain ⟨u, hu, hc⟩ := bnd hc
    refine ⟨_, rfl, _, rfl, _, _, _, _, _, rfl, ht, hn0.tk (TK.of sm), hu, fun v1 H1 s1 r1 => ?_⟩
    refine ⟨_, rfl, _, _, _, _, _, rfl, r1, hxb.tk (TK.of (sm.trans s1)), hc, fun v2 H2 s2 r2 => ?_⟩
    exact ⟨_, _, _, rfl, sm.trans (s1.trans s2), r2, hf⟩
  · rintro σ H' ⟨t, tq, y, rfl, sm, ht, hf⟩
    rw [drop_end (by rw [List.length_reverse, List.length_reverse, Paired.length hq]; exact Nat.le_refl _)] at hf
    cases hf
    exact ⟨_, rfl, k _ _ (s0.trans sm) ht⟩
end
end LP

/-! a comprehension over zip; sum_of, product_of -/
namespace LP
open PySem PySem.Spec PyProof.Rows L2
theorem lc_zipL {K : PySem.W.Frag} {a b : Addr} {xs ys : List V} {g : TG} {tt : L2.TT} {te : TE} {vs : List Nat} {σ : L2.St} {H1 : Hp} {D : Addr} {Qd : Hp → Prop} (Pv : Nat → Hp → Prop) (h0 : Pv 0 (upd H1 D (.lst []))) (hq : ∀ i H, Pv i H → SqL K H a xs ∧ SqL K H b ys)
    (hs : ∀ i x y T H, xs[i]? = some x → ys[i]? = some y → Pv i H → H T = none → g (.ref T) (wipe σ vs) (upd H T (.tup [x, y])) fun σ2 H2 => wipe σ2 vs = wipe σ vs ∧ tt σ2 H2 fun b H3 =>
      if b = true then te σ2 H3 fun y H4 => ∃ acc, H4 D = some (.lst acc) ∧ acc.length < sizeLine ∧ Pv (i + 1) (upd H4 D (.lst (acc ++ [y]))) else Pv (i + 1) H3) (hd : ∀ H, Pv (min xs.length ys.length) H → Qd H) :
    ∃ W : Nat → Nat → Hp → Prop, (∃ m, W 0 m (upd H1 D (.lst []))) ∧ ∀ i m H, W i m H →
      ((Itz K a b).stop i H ∧ Qd H) ∨ ((Itz K a b).go i H ∧ ∃ Nx : Hp → Prop, (∀ H', Nx H' → ∃ m', m' < m ∧ W (i + 1) m' H') ∧ ∀ x H', (Itz K a b).yld i H x H' → g x (wipe σ vs) H' fun σ2 H2 => wipe σ2 vs = wipe σ vs ∧ tt σ2 H2 fun b H3 =>
        if b = true then te σ2 H3 fun y H4 => ∃ acc, H4 D = some (.lst acc) ∧ acc.length < sizeLine ∧ Nx (upd H4 D (.lst (acc ++ [y]))) else Nx H3) := by
  refine ⟨fun i m H => m = min xs.length ys.length - i ∧ i ≤ min xs.length ys.length ∧ Pv i H, ⟨min xs.length ys.length, by simp, Nat.zero_le _, h0⟩, ?_⟩
  rintro i m H ⟨rfl, hi, p⟩
  obtain ⟨qx, qy⟩ := hq i H p
  by_cases hlt : i < min xs.length ys.length
  · have hx : xs[i]? = some xs[i] := List.getElem?_eq_getElem (by omega)
    have hy : ys[i]? = some ys[i] := List.getElem?_eq_getElem (by omega)
    refine .inr ⟨⟨xs, ys, _, _, qx, qy, hx, hy⟩, Pv (i + 1), fun H' p' => ⟨min xs.length ys.length - (i + 1), by omega, rfl, hlt, p'⟩, fun v H' y => ?_⟩
    obtain ⟨T, x', y', rfl, hT, rfl, f1, f2⟩ := y
    exact hs i x' y' T H (f1 xs qx) (f2 ys qy) p hT
  · have e : i = min xs.length ys.length := by omega
    subst e
    exact .inl ⟨⟨xs, ys, qx, qy, by omega⟩, hd H p⟩
theorem lc_zipT {K : PySem.W.Frag} {a b : Addr} {xs ys : List V} {g : TG} {tt : L2.TT} {te : TE} {vs : List Nat} {σ : L2.St} {H1 : Hp} {D : Addr} {Qd : Hp → Prop} (Pv : Nat → Hp → Prop) (h0 : Pv 0 (upd H1 D (.lst []))) (hq : ∀ i H, Pv i H → SqT K H a xs ∧ SqT K H b ys)
    (hs : ∀ i x y T H, xs[i]? = some x → ys[i]? = some y → Pv i H → H T = none → g (.ref T) (wipe σ vs) (upd H T (.tup [x, y])) fun σ2 H2 => wipe σ2 vs = wipe σ vs ∧ tt σ2 H2 fun b H3 =>
      if b = true then te σ2 H3 fun y H4 => ∃ acc, H4 D = some (.lst acc) ∧ acc.length < sizeLine ∧ Pv (i + 1) (upd H4 D (.lst (acc ++ [y]))) else Pv (i + 1) H3) (hd : ∀ H, Pv (min xs.length ys.length) H → Qd H) :
    ∃ W : Nat → Nat → Hp → Prop, (∃ m, W 0 m (upd H1 D (.lst []))) ∧ ∀ i m H, W i m H →
      ((RZ.ItzT K a b).stop i H ∧ Qd H) ∨ ((RZ.ItzT K a b).go i H ∧ ∃ Nx : Hp → Prop, (∀ H', Nx H' → ∃ m', m' < m ∧ W (i + 1) m' H') ∧ ∀ x H', (RZ.ItzT K a b).yld i H x H' → g x (wipe σ vs) H' fun σ2 H2 => wipe σ2 vs = wipe σ vs ∧ tt σ2 H2 fun b H3 =>
        if b = true then te σ2 H3 fun y H4 => ∃ acc, H4 D = some (.lst acc) ∧ acc.length < sizeLine ∧ Nx (upd H4 D (.lst (acc ++ [y]))) else Nx H3) := by
  refine ⟨fun i m H => m = min xs.length ys.length - i ∧ i ≤ min xs.length ys.length ∧ Pv i H, ⟨min xs.length ys.length, by simp, Nat.zero_le _, h0⟩, ?_⟩
  rintro i m H ⟨rfl, hi, p⟩
  obtain ⟨qx, qy⟩ := hq i H p
  by_cases hlt : i < min xs.length ys.length
  · have hx : xs[i]? = some xs[i] := List.getElem?_eq_getElem (by omega)
    have hy : ys[i]? = some ys[i] := List.getElem?_eq_getElem (by omega)
    refine .inr ⟨⟨xs, ys, _, _, qx, qy, hx, hy⟩, Pv (i + 1), fun H' p' => ⟨min xs.length ys.length - (i + 1), by omega, rfl, hlt, p'⟩, fun v H' y => ?_⟩
    obtain ⟨T, x', y', rfl, hT, rfl, f1, f2⟩ := y
    exact hs i x' y' T H (f1 xs qx) (f2 ys qy) p hT
  · have e : i = min xs.length ys.length := by omega
    subst e
    exact .inl ⟨⟨xs, ys, qx, qy, by omega⟩, hd H p⟩
theorem rep_one {α : Type} (a : α) (n : Nat) : (List.replicate n [a]).flatten = List.replicate n a := by
  induction n with
  | zero => rfl
  | succ n ih => rw [List.replicate_succ, List.flatten_cons, ih]; rfl
theorem small5 {n : Nat} (h : n ≤ 100000) : n < sizeLine := Nat.lt_of_le_of_lt h (by decide)
theorem zip_get {α β : Type} {l : List α} {r : List β} {i : Nat} {a : α} {b : β} (h1 : l[i]? = some a) (h2 : r[i]? = some b) : (l.zip r)[i]? = some (a, b) := List.getElem?_zip_eq_some.mpr ⟨h1, h2⟩
section
variable {P : Program} {w : World} {K : PySem.W.Frag} {mg : Str → Option Value} {base : Heap} {f : Addr} {fd : FuncData}
/-! ### sum_of -/
def sp2P (K : PySem.W.Frag) (M : Pl → Pl → Option Pl) : Sp := fun vs H Q _ => ∃ v1 v2 p q r, vs = [v1, v2] ∧ PolV K H v1 p ∧ PolV K H v2 q ∧ M p q = some r ∧ ∀ v H', Same H H' → PolV K H' v r → Q v H'
theorem scSum : FnScope ["one", "other", "size", "first", "second", "a", "b"] ["one", "other"] (defScope (topS 17)) := ⟨rfl, rfl, rfl, by decide +kernel, rfl, by decide +kernel, by decide +kernel⟩
theorem max_nat (a b : Nat) : (if ((b : Nat) : Int) > ((a : Nat) : Int) then ((b : Nat) : Int) else ((a : Nat) : Int)) = ((max a b : Nat) : Int) := by
  by_cases h : ((b : Nat) : Int) > ((a : Nat) : Int)
  · rw [if_pos h]; omega
  · rw [if_neg h]; omega
theorem ok_sum (F : Fun K "sum_of" "sum_of" (topS 17) f fd) (m : mg "sum_of" = some (.ref f)) (B : Bl mg) (C : Cs K mg) (GT : Df P w K mg base 1 "trimmed" ["row"] (spTrim K)) (GP : Df P w K mg base 3 "plus" ["one", "other"] (sp2R K plusM)) : Df P w K mg base 4 "sum_of" ["one", "other"] (sp2P K sumM) := by
  refine ⟨f, fd, F.ok scSum (fun vs H Q E h => ?_) (fun cdv A outer s H vs Q E hr h => ?_), m, F.kp, F.binds fun _ _ _ _ _ _ us hl => match us, hl with | [_, _], _ => rfl⟩
  · obtain ⟨_, _, _, _, _, rfl, _⟩ := h
    rfl
  obtain ⟨_, _, p, q, r, rfl, ⟨a, vs, rfl, ha, hp⟩, ⟨b, us, rfl, hb, hq⟩, hm, k⟩ := h
  obtain ⟨z, mz, hz⟩ := C.zero
  obtain ⟨hg, hm⟩ := grd_ok hm
  obtain ⟨g1, g2⟩ := and_ok hg
  obtain ⟨fin, hf, hm⟩ := mpd hm
  have hr1 := hr.mono (show 1 ≤ 3 by decide)
  refine ⟨_, pss_cons (ps_set (i := 2) scSum.nd rfl (.inl rfl) (pe_callB (call_max2 rfl) (by rfl) B.max (by decide +kernel) (pa_cons (pe_callB call_len_seq (by rfl) B.len PySem.boot_len (pa_cons (pv 0) pa_nil)) (pa_cons (pe_callB call_len_seq (by rfl) B.len PySem.boot_len (pa_cons (pv 1) pa_nil)) pa_nil))))
    (pss_cons (ps_par rfl scSum.nd (i := 3) (j := 4) rfl rfl (by decide) rfl rfl (pa_cons (pe_op op_cat (pe_callTy call_list_of (by rfl) B.lst (by decide +kernel) (pa_cons (pv 0) pa_nil)) (pe_op op_rep (pe_lst (pa_cons (pe_glob (v := .ref z) (by rfl) mz rfl) pa_nil)) (pe_op op_sub (pv 2) (pe_callB call_len_seq (by rfl) B.len PySem.boot_len (pa_cons (pv 0) pa_nil)))))
      (pa_cons (pe_op op_cat (pe_callTy call_list_of (by rfl) B.lst (by decide +kernel) (pa_cons (pv 1) pa_nil)) (pe_op op_rep (pe_lst (pa_cons (pe_glob (v := .ref z) (by rfl) mz rfl) pa_nil)) (pe_op op_sub (pv 2) (pe_callB call_len_seq (by rfl) B.len PySem.boot_len (pa_cons (pv 1) pa_nil))))) pa_nil)) (by rfl))
    (pss_one (ps_ret (pe_callD GT hr1 (by rfl) (pa_cons (pe_lc (own := [("a", 5), ("b", 6)]) (g := gTup K 2 (gCons (gName 5) (gCons (gName 6) gNil))) (tt := tYes) rfl scSum.nd (RZ.pi_zipA (by rfl) B.zip (pa_cons (pv 3) (pa_cons (pv 4) pa_nil))) (blkOk_by (N := ["one", "other", "size", "first", "second", "a", "b"]) (sc := defScope (topS 17)) (by decide +kernel))
      (fun _ _ _ _ _ => pg_tup rfl (pgs_cons (pg_name (i := 5) scSum.nd rfl (.inl rfl)) (pgs_cons (pg_name (i := 6) scSum.nd rfl (.inl rfl)) pgs_nil))) (fun _ _ _ _ _ => pts_nil) (fun _ _ _ _ _ => pe_callD GP hr (by rfl) (pa_cons (pv 5) (pa_cons (pv 6) pa_nil)))) pa_nil))))), ?_⟩
  have la := Paired.length hp
  have lb := Paired.length hq
  refine ⟨_, rfl, a, vs, rfl, .inr ha.seq, _, rfl, b, us, rfl, .inr hb.seq, _, _, rfl, ?_⟩
  have emax := max_nat vs.length us.length
  rw [emax]
  -- one ++ [ZERO] * ..
  refine ⟨_, rfl, a, vs, rfl, .inr ha.seq, fun l1 n1 => ?_⟩
  have s1 : Same H (upd H l1 (.lst vs)) := same_new n1 _
  refine ⟨by show 1 ≤ sizeLine; decide, fun z1 m1 => ?_⟩
  have s2 := s1.trans (same_new m1 (.lst [.ref z]))
  refine ⟨_, rfl, _, rfl, a, vs, rfl, .inr (ha.tk (TK.of s2)).seq, _, _, rfl, rfl, ?_⟩
  have b1 : ([V.ref z] : List V).length * ((max vs.length us.length : Nat) - (vs.length : Int)).toNat ≤ 1000 := by
    show 1 * _ ≤ 1000
    omega
  refine ⟨z1, _, _, rfl, rfl, upd_same, by omega, by omega, Nat.le_of_lt (small1000 b1), fun r1 t1 => ?_⟩
  rw [rep_one]
  have s3 := s2.trans (same_new t1 (.lst (List.replicate ((max vs.length us.length : Nat) - (vs.length : Int)).toNat (V.ref z))))
  have l1a : (upd (upd (upd H l1 (.lst vs)) z1 (.lst [.ref z])) r1 (.lst (List.replicate ((max vs.length us.length : Nat) - (vs.length : Int)).toNat (V.ref z)))) l1 = some (.lst vs) := by
    have e1 : (upd (upd H l1 (.lst vs)) z1 (.lst [V.ref z])) l1 = some (.lst vs) := by
      rw [upd_ne (ne_of_none upd_same m1), upd_same]
    rw [upd_ne (ne_of_none e1 t1), e1]
  refine ⟨l1, r1, _, _, rfl, rfl, l1a, upd_same, by rw [List.length_replicate]; exact Nat.le_of_lt (small1000 (by omega)), fun c1 u1 => ?_⟩
  have s4 := s3.trans (same_new u1 (.lst (vs ++ List.replicate ((max vs.length us.length : Nat) - (vs.length : Int)).toNat (V.ref z))))
  -- the other one
  generalize hH4 : upd (upd (upd (upd H l1 (.lst vs)) z1 (.lst [V.ref z])) r1 (.lst (List.replicate ((max vs.length us.length : Nat) - (vs.length : Int)).toNat (V.ref z)))) c1 (.lst (vs ++ List.replicate ((max vs.length us.length : Nat) - (vs.length : Int)).toNat (V.ref z))) = H4 at s4
  have hc1 : H4 c1 = some (.lst (vs ++ List.replicate ((max vs.length us.length : Nat) - (vs.length : Int)).toNat (V.ref z))) := by rw [← hH4, upd_same]
  refine ⟨_, rfl, b, us, rfl, .inr (hb.tk (TK.of s4)).seq, fun l2 n2 => ?_⟩
  have s5 := same_new n2 (.lst us)
  refine ⟨by show 1 ≤ sizeLine; decide, fun z2 m2 => ?_⟩
  have s6 := s5.trans (same_new m2 (.lst [.ref z]))
  refine ⟨_, rfl, _, rfl, b, us, rfl, .inr (hb.tk (TK.of (s4.trans s6))).seq, _, _, rfl, rfl, ?_⟩
  have b2 : ([V.ref z] : List V).length * ((max vs.length us.length : Nat) - (us.length : Int)).toNat ≤ 1000 := by
    show 1 * _ ≤ 1000
    omega
  refine ⟨z2, _, _, rfl, rfl, upd_same, by omega, by omega, Nat.le_of_lt (small1000 b2), fun r2 t2 => ?_⟩
  rw [rep_one]
  have s7 := s6.trans (same_new t2 (.lst (List.replicate ((max vs.length us.length : Nat) - (us.length : Int)).toNat (V.ref z))))
  have l2a : (upd (upd (upd H4 l2 (.lst us)) z2 (.lst [.ref z])) r2 (.lst (List.replicate ((max vs.length us.length : Nat) - (us.length : Int)).toNat (V.ref z)))) l2 = some (.lst us) := by
    have e1 : (upd (upd H4 l2 (.lst us)) z2 (.lst [V.ref z])) l2 = some (.lst us) := by
      rw [upd_ne (ne_of_none upd_same m2), upd_same]
    rw [upd_ne (ne_of_none e1 t2), e1]
  refine ⟨l2, r2, _, _, rfl, rfl, l2a, upd_same, by rw [List.length_replicate]; exact Nat.le_of_lt (small1000 (by omega)), fun c2 u2 => ?_⟩
  have s8 := s7.trans (same_new u2 (.lst (us ++ List.replicate ((max vs.length us.length : Nat) - (us.length : Int)).toNat (V.ref z))))
  generalize hH8 : upd (upd (upd (upd H4 l2 (.lst us)) z2 (.lst [V.ref z])) r2 (.lst (List.replicate ((max vs.length us.length : Nat) - (us.length : Int)).toNat (V.ref z)))) c2 (.lst (us ++ List.replicate ((max vs.length us.length : Nat) - (us.length : Int)).toNat (V.ref z))) = H8 at s8
  have hc2 : H8 c2 = some (.lst (us ++ List.replicate ((max vs.length us.length : Nat) - (us.length : Int)).toNat (V.ref z))) := by rw [← hH8, upd_same]
  refine ⟨_, _, rfl, ?_⟩
  have hc1' := s8 _ _ hc1
  have s9 := s4.trans s8
  -- the two lists, as ratios
  have P1 : Paired (RatV K H8) (vs ++ List.replicate ((max vs.length us.length : Nat) - (vs.length : Int)).toNat (V.ref z)) (padM p (max p.length q.length)) := by
    rw [show ((max vs.length us.length : Nat) - (vs.length : Int)).toNat = max p.length q.length - p.length by rw [la, lb]; omega]
    exact pr_app (rats_tk hp (TK.of s9)) (pr_rep (hz _) _)
  have P2 : Paired (RatV K H8) (us ++ List.replicate ((max vs.length us.length : Nat) - (us.length : Int)).toNat (V.ref z)) (padM q (max p.length q.length)) := by
    rw [show ((max vs.length us.length : Nat) - (us.length : Int)).toNat = max p.length q.length - q.length by rw [la, lb]; omega]
    exact pr_app (rats_tk hq (TK.of s9)) (pr_rep (hz _) _)
  generalize vs ++ List.replicate ((max vs.length us.length : Nat) - (vs.length : Int)).toNat (V.ref z) = xs at hc1 hc1' P1
  generalize us ++ List.replicate ((max vs.length us.length : Nat) - (us.length : Int)).toNat (V.ref z) = ys at hc2 P2
  have lx := Paired.length P1
  have ly := Paired.length P2
  have lpx : (padM p (max p.length q.length)).length ≤ 1000 := by
    unfold padM
    rw [List.length_append, List.length_replicate]
    omega
  -- the comprehension
  refine ⟨_, rfl, _, rfl, c1, c2, xs, ys, rfl, .inl ⟨SqL.of hc1', SqL.of hc2, fun D nD => ?_⟩⟩
  refine lc_zipL (xs := xs) (ys := ys) (fun i H' => ∃ acc rs, Same H8 H' ∧ H' D = some (.lst acc) ∧ Paired (RatV K H') acc rs ∧ rs.length ≤ i ∧
    foldO (fun acc (p : Rt × Rt) => (plusM p.1 p.2).map fun r => acc ++ [r]) (((padM p (max p.length q.length)).zip (padM q (max p.length q.length))).drop i) rs = some fin) ?_ ?_ ?_ ?_
  · exact ⟨[], [], same_new nD _, upd_same, .nil, Nat.le_refl _, hf⟩
  · rintro i H' ⟨acc, rs, sm, _⟩
    exact ⟨SqL.of (sm _ _ hc1'), SqL.of (sm _ _ hc2)⟩
  · rintro i x y T H' hx hy ⟨acc, rs, sm, hD, hacc, hli, hfo⟩ nT
    obtain ⟨bx, ebx, rbx⟩ := pr_get2 P1 hx
    obtain ⟨bY, ebY, rby⟩ := pr_get2 P2 hy
    rw [drop_at (zip_get ebx ebY)] at hfo
    obtain ⟨rs', h1, hfo⟩ := bnd hfo
    obtain ⟨rr, h2, rfl⟩ := mpd h1
    have smT := same_new nT (.tup [x, y])
    refine ⟨T, [x, y], rfl, SqT.of upd_same, rfl, x, [y], rfl, y, [], rfl, rfl, rfl, ?_⟩
    refine ⟨_, rfl, _, rfl, _, _, _, _, _, rfl, rbx.tk (TK.of (sm.trans smT)), rby.tk (TK.of (sm.trans smT)), h2, fun v H5 s5' r5 => ?_⟩
    have hD5 : H5 D = some (.lst acc) := s5' _ _ (smT _ _ hD)
    have hl : acc.length ≤ 1000 := by
      have e1 := Paired.length hacc
      have e2 := (List.getElem?_eq_some_iff.mp hx).1
      omega
    have tk5 : TK H' H5 := (TK.of smT).trans (TK.of s5')
    refine ⟨acc, hD5, small1000 hl, acc ++ [v], rs ++ [rr], ?_, upd_same, pr_snoc (rats_tk hacc (tk5.trans (TK.put hD5 rfl))) (r5.tk (TK.put hD5 rfl)), by rw [List.length_append]; show rs.length + 1 ≤ i + 1; omega, hfo⟩
    exact same_put ((sm.trans smT).trans s5') nD
  · rintro H' ⟨acc, rs, sm, hD, hacc, hli, hfo⟩
    rw [drop_end (by rw [List.length_zip, ← lx, ← ly]; exact Nat.le_refl _)] at hfo
    cases hfo
    refine ⟨D, acc, fin, rfl, SqL.of hD, hacc, fun v H' s' r' => ?_⟩
    rw [hm] at r'
    exact k _ _ (s9.trans (sm.trans s')) r'
end
end LP

/-! product_of, through_points -/
namespace LP
open PySem PySem.Spec PyProof.Rows L2
theorem loop_step {α : Type} {f : Nat → α → Option α} {n i : Nat} {a : α} (h : i < n) : loopO f (n - i) i a = (f i a).bind (loopO f (n - (i + 1)) (i + 1)) := by
  rw [show n - i = (n - (i + 1)) + 1 by omega]
  rfl
theorem loop_end {α : Type} {f : Nat → α → Option α} {n : Nat} {a : α} : loopO f (n - n) n a = some a := by
  rw [Nat.sub_self]
  rfl
theorem ixN_nat {n j : Nat} {z : Int} (e : z = (j : Int)) (h : j < n) : ixN n z = some j := by
  subst e
  unfold ixN
  rw [if_pos (Int.natCast_nonneg j), if_pos (by omega), Int.toNat_natCast]
theorem len_set {α : Type} (l : List α) (i : Nat) (a : α) : (l.set i a).length = l.length := List.length_set
section
variable {P : Program} {w : World} {K : PySem.W.Frag} {mg : Str → Option Value} {base : Heap} {f : Addr} {fd : FuncData}
theorem scProd : FnScope ["one", "other", "found", "i", "j"] ["one", "other"] (defScope (topS 18)) := ⟨rfl, rfl, rfl, by decide +kernel, rfl, by decide +kernel, by decide +kernel⟩
theorem ok_prod (F : Fun K "product_of" "product_of" (topS 18) f fd) (m : mg "product_of" = some (.ref f)) (B : Bl mg) (C : Cs K mg) (GTr : Df P w K mg base 1 "trimmed" ["row"] (spTrim K)) (GP : Df P w K mg base 3 "plus" ["one", "other"] (sp2R K plusM)) (GT : Df P w K mg base 3 "times" ["one", "other"] (sp2R K timesM)) : Df P w K mg base 4 "product_of" ["one", "other"] (sp2P K prodM) := by
  refine ⟨f, fd, F.ok scProd (fun vs H Q E h => ?_) (fun cdv A outer s H vs Q E hr h => ?_), m, F.kp, F.binds fun _ _ _ _ _ _ us hl => match us, hl with | [_, _], _ => rfl⟩
  · obtain ⟨_, _, _, _, _, rfl, _⟩ := h
    rfl
  obtain ⟨_, _, p, q, r, rfl, ⟨a, vs, rfl, ha, hp⟩, ⟨b, us, rfl, hb, hq⟩, hm, k⟩ := h
  obtain ⟨z, mz, hz⟩ := C.zero
  obtain ⟨hg, hm⟩ := grd_ok hm
  obtain ⟨g1, g2⟩ := and_ok hg
  obtain ⟨fin, hf, hm⟩ := mpd hm
  have hr1 := hr.mono (show 1 ≤ 3 by decide)
  refine ⟨_, pss_cons (ps_set (i := 2) scProd.nd rfl (.inl rfl) (pe_op op_rep (pe_lst (pa_cons (pe_glob (v := .ref z) (by rfl) mz rfl) pa_nil)) (pe_op op_add (pe_callB call_len_seq (by rfl) B.len PySem.boot_len (pa_cons (pv 0) pa_nil)) (pe_callB call_len_seq (by rfl) B.len PySem.boot_len (pa_cons (pv 1) pa_nil)))))
    (pss_cons (ps_for PassesOwn.never rfl (pi_range1 (by rfl) B.range (pa_cons (pe_callB call_len_seq (by rfl) B.len PySem.boot_len (pa_cons (pv 0) pa_nil)) pa_nil)) (pg_name (i := 3) scProd.nd rfl (.inl rfl))
      (pss_one (ps_for PassesOwn.never rfl (pi_range1 (by rfl) B.range (pa_cons (pe_callB call_len_seq (by rfl) B.len PySem.boot_len (pa_cons (pv 1) pa_nil)) pa_nil)) (pg_name (i := 4) scProd.nd rfl (.inl rfl))
        (pss_one (ps_asg (pe_callD GP hr (by rfl) (pa_cons (pe_ix ix_list (pv 2) (pe_op op_add (pv 3) (pv 4)) (fun _ _ => rfl)) (pa_cons (pe_callD GT hr (by rfl) (pa_cons (pe_ix ix_tup (pv 0) (pv 3) (fun _ _ => rfl)) (pa_cons (pe_ix ix_tup (pv 1) (pv 4) (fun _ _ => rfl)) pa_nil))) pa_nil)))
          (pg_sub (pv 2) (pe_op op_add (pv 3) (pv 4)) set_list))))))
    (pss_one (ps_ret (pe_callD GTr hr1 (by rfl) (pa_cons (pv 2) pa_nil))))), ?_⟩
  have la := Paired.length hp
  have lb := Paired.length hq
  refine ⟨by show 1 ≤ sizeLine; decide, fun z1 m1 => ?_⟩
  have s1 := same_new m1 (.lst [.ref z])
  refine ⟨_, rfl, a, vs, rfl, .inr (ha.tk (TK.of s1)).seq, _, rfl, b, us, rfl, .inr (hb.tk (TK.of s1)).seq, _, _, rfl, rfl, ?_⟩
  have b1 : ([V.ref z] : List V).length * (((vs.length : Nat) : Int) + ((us.length : Nat) : Int)).toNat ≤ 2000 := by
    show 1 * _ ≤ 2000
    omega
  refine ⟨z1, _, _, rfl, rfl, upd_same, by omega, by omega, Nat.le_of_lt (small5 (by omega)), fun l nl => ?_⟩
  rw [rep_one, show (((vs.length : Nat) : Int) + ((us.length : Nat) : Int)).toNat = p.length + q.length by omega]
  have nl0 : H l = none := s1.free nl
  have s2 : Same H (upd (upd H z1 (.lst [V.ref z])) l (.lst (List.replicate (p.length + q.length) (V.ref z)))) := s1.trans (same_new nl _)
  refine ⟨_, rfl, a, vs, rfl, .inr (ha.tk (TK.of s2)).seq, _, rfl, by omega, by omega, ?_⟩
  refine for_range (lo := 0) (n := vs.length) (fun i σ H' => ∃ acc fq x y, σ = [some (.ref a), some (.ref b), some (.ref l), x, y] ∧ Same H H' ∧ H' l = some (.lst acc) ∧ Paired (RatV K H') acc fq ∧
    loopO (fun i f => loopO (prodIn p q i) q.length 0 f) (vs.length - i) i fq = some fin) ?_ ?_ ?_
  · exact ⟨_, List.replicate (p.length + q.length) (0, 1), none, none, rfl, s2, upd_same, pr_rep (hz _) _, by rw [la]; exact hf⟩
  · rintro i σ H1 hi ⟨acc, fq, x, y, rfl, sm, hl, hacc, hlo⟩
    rw [loop_step hi] at hlo
    obtain ⟨fi, hin, hlo⟩ := bnd hlo
    refine ⟨_, rfl, b, us, rfl, .inr (hb.tk (TK.of sm)).seq, _, rfl, by omega, by omega, ?_⟩
    refine for_range (lo := 0) (n := us.length) (fun j σ H' => ∃ acc fq y, σ = [some (.ref a), some (.ref b), some (.ref l), some (.int (0 + (i : Int))), y] ∧ Same H H' ∧ H' l = some (.lst acc) ∧ Paired (RatV K H') acc fq ∧
      loopO (prodIn p q i) (us.length - j) j fq = some fi) ?_ ?_ ?_
    · exact ⟨acc, fq, y, rfl, sm, hl, hacc, by rw [lb]; exact hin⟩
    · rintro j σ H2 hj ⟨acc2, fq2, y2, rfl, sm2, hl2, hacc2, hlo2⟩
      rw [loop_step hj] at hlo2
      obtain ⟨fj, hij, hlo2⟩ := bnd hlo2
      obtain ⟨x0, hx0, hij⟩ := bnd hij
      obtain ⟨y0, hy0, hij⟩ := bnd hij
      obtain ⟨z0, hz0, hij⟩ := bnd hij
      obtain ⟨t0, ht0, hij⟩ := bnd hij
      obtain ⟨r0, hr0, efj⟩ := mpd hij
      obtain ⟨vx, evx, rvx⟩ := pr_get hacc2 hx0
      obtain ⟨vy, evy, rvy⟩ := pr_get hp hy0
      obtain ⟨vz, evz, rvz⟩ := pr_get hq hz0
      have eij : (0 + (i : Int)) + (0 + (j : Int)) = ((i + j : Nat) : Int) := by omega
      refine ⟨_, rfl, _, rfl, _, rfl, _, _, rfl, rfl, l, acc2, _, vx, rfl, rfl, SqL.of hl2, at_of eij evx, ?_⟩
      refine ⟨_, rfl, _, rfl, a, vs, _, vy, rfl, rfl, (ha.tk (TK.of sm2)).seq, at_of (by omega) evy, ?_⟩
      refine ⟨_, rfl, _, rfl, b, us, _, vz, rfl, rfl, (hb.tk (TK.of sm2)).seq, at_of (by omega) evz, ?_⟩
      refine ⟨_, _, _, _, _, rfl, rvy.tk (TK.of sm2), rvz.tk (TK.of sm2), ht0, fun v1 H3 s3 r3 => ?_⟩
      refine ⟨_, _, _, _, _, rfl, rvx.tk (TK.of s3), r3, hr0, fun v2 H4 s4 r4 => ?_⟩
      have sm4 := sm2.trans (s3.trans s4)
      have hl4 := s4 _ _ (s3 _ _ hl2)
      have hj4 : i + j < acc2.length := (List.getElem?_eq_some_iff.mp evx).1
      refine ⟨_, rfl, _, rfl, _, rfl, _, _, rfl, rfl, l, acc2, _, i + j, rfl, rfl, hl4, ixN_nat eij hj4, ?_⟩
      refine ⟨acc2.set (i + j) v2, fj, _, rfl, same_put sm4 nl0, upd_same, ?_, hlo2⟩
      rw [← efj]
      have tk4 : TK H4 (upd H4 l (.lst (acc2.set (i + j) v2))) := TK.put hl4 rfl
      exact pr_set (rats_tk hacc2 ((TK.of (s3.trans s4)).trans tk4)) (r4.tk tk4) (i + j)
    · rintro σ H2 ⟨acc2, fq2, y2, rfl, sm2, hl2, hacc2, hlo2⟩
      rw [loop_end] at hlo2
      cases hlo2
      exact ⟨acc2, fi, _, _, rfl, sm2, hl2, hacc2, hlo⟩
  · rintro σ H2 ⟨acc, fq, x, y, rfl, sm, hl, hacc, hlo⟩
    rw [loop_end] at hlo
    cases hlo
    refine ⟨_, rfl, l, acc, fin, rfl, SqL.of hl, hacc, fun v H' s' r' => ?_⟩
    rw [hm] at r'
    exact k _ _ (sm.trans s') r'
/-! ### through_points -/
def spThr (K : PySem.W.Frag) : Sp := fun vs H Q _ => ∃ a b ps ws qs r, vs = [.ref a, .ref b] ∧ H a = some (.lst (ps.map V.int)) ∧ H b = some (.lst ws) ∧ Paired (RatV K H) ws qs ∧ thrM ps qs = some r ∧ ∀ v H', Same H H' → PolV K H' v r → Q v H'
theorem scThr : FnScope ["places", "values", "total", "basis", "at", "here", "rest"] ["places", "values"] (defScope (topS 19)) := ⟨rfl, rfl, rfl, by decide +kernel, rfl, by decide +kernel, by decide +kernel⟩
theorem ok_thr (F : Fun K "through_points" "through_points" (topS 19) f fd) (m : mg "through_points" = some (.ref f)) (B : Bl mg) (C : Cs K mg) (GTr : Df P w K mg base 1 "trimmed" ["row"] (spTrim K)) (GM : Df P w K mg base 3 "minus" ["one", "other"] (sp2R K minusM)) (GO : Df P w K mg base 3 "over" ["one", "other"] (sp2R K overM))
    (GV : Df P w K mg base 4 "value_of" ["poly", "n"] (spVal K)) (GS : Df P w K mg base 4 "sum_of" ["one", "other"] (sp2P K sumM)) (GP : Df P w K mg base 4 "product_of" ["one", "other"] (sp2P K prodM)) : Df P w K mg base 5 "through_points" ["places", "values"] (spThr K) := by
  refine ⟨f, fd, F.ok scThr (fun vs H Q E h => ?_) (fun cdv A outer s H vs Q E hr h => ?_), m, F.kp, F.binds fun _ _ _ _ _ _ us hl => match us, hl with | [_, _], _ => rfl⟩
  · obtain ⟨_, _, _, _, _, _, rfl, _⟩ := h
    rfl
  obtain ⟨a, b, ps, ws, qs, r, rfl, ha, hb, hw, hm, k⟩ := h
  obtain ⟨z, mz, hz⟩ := C.one
  obtain ⟨hg, hm⟩ := grd_ok hm
  have g1 : ps.length ≤ 1000 := of_decide_eq_true hg
  obtain ⟨fin, hf, hm⟩ := mpd hm
  have hr1 := hr.mono (show 1 ≤ 4 by decide)
  have hr3 := hr.mono (show 3 ≤ 4 by decide)
  refine ⟨_, pss_cons (ps_set (i := 2) scThr.nd rfl (.inl rfl) (pe_tup pa_nil)) (pss_cons (ps_set (i := 3) scThr.nd rfl (.inl rfl) (pe_tup (pa_cons (pe_glob (v := .ref z) (by rfl) mz rfl) pa_nil)))
    (pss_cons (ps_for PassesOwn.never rfl (pi_range1 (by rfl) B.range (pa_cons (pe_callB call_len_seq (by rfl) B.len PySem.boot_len (pa_cons (pv 0) pa_nil)) pa_nil)) (pg_name (i := 4) scThr.nd rfl (.inl rfl))
      (pss_cons (ps_set (i := 5) scThr.nd rfl (.inl rfl) (pe_tup (pa_cons (pe_ix ix_list (pv 0) (pv 4) (fun _ _ => rfl)) (pa_cons pe_int pa_nil))))
      (pss_cons (ps_set (i := 6) scThr.nd rfl (.inl rfl) (pe_callD GM hr3 (by rfl) (pa_cons (pe_ix ix_list (pv 1) (pv 4) (fun _ _ => rfl)) (pa_cons (pe_callD GV hr (by rfl) (pa_cons (pv 2) (pa_cons (pv 5) pa_nil))) pa_nil))))
      (pss_cons (ps_set (i := 2) scThr.nd rfl (.inl rfl) (pe_callD GS hr (by rfl) (pa_cons (pv 2) (pa_cons (pe_callD GP hr (by rfl) (pa_cons (pv 3) (pa_cons (pe_callD GTr hr1 (by rfl) (pa_cons (pe_lst (pa_cons (pe_callD GO hr3 (by rfl) (pa_cons (pv 6) (pa_cons (pe_callD GV hr (by rfl) (pa_cons (pv 3) (pa_cons (pv 5) pa_nil))) pa_nil))) pa_nil)) pa_nil)) pa_nil))) pa_nil))))
      (pss_one (ps_set (i := 3) scThr.nd rfl (.inl rfl) (pe_callD GP hr (by rfl) (pa_cons (pv 3) (pa_cons (pe_tup (pa_cons (pe_tup (pa_cons (pe_un un_neg (pe_ix ix_list (pv 0) (pv 4) (fun _ _ => rfl))) (pa_cons pe_int pa_nil))) (pa_cons (pe_glob (v := .ref z) (by rfl) mz rfl) pa_nil))) pa_nil)))))))))
    (pss_one (ps_ret (pv 2))))), ?_⟩
  refine ⟨by show 0 ≤ sizeLine; decide, fun t0 nt0 => ?_⟩
  have s1 := same_new nt0 (.tup [])
  refine ⟨by show 1 ≤ sizeLine; decide, fun b0 nb0 => ?_⟩
  have s2 := s1.trans (same_new nb0 (.tup [.ref z]))
  have P0 : PolV K (upd (upd H t0 (.tup [])) b0 (.tup [.ref z])) (.ref t0) [] := ⟨t0, [], rfl, .inl (by rw [upd_ne (ne_of_none upd_same nb0), upd_same]), .nil⟩
  have P1 : PolV K (upd (upd H t0 (.tup [])) b0 (.tup [.ref z])) (.ref b0) [(1, 1)] := ⟨b0, [.ref z], rfl, .inl upd_same, .cons (hz _) .nil⟩
  have lps : (ps.map V.int).length = ps.length := List.length_map _
  refine ⟨_, rfl, a, _, rfl, .inl (SqL.of (s2 _ _ ha)), _, rfl, by omega, by omega, ?_⟩
  refine for_range (lo := 0) (n := (ps.map V.int).length) (fun i σ H' => ∃ vt vb st x5 x6 x4, σ = [some (.ref a), some (.ref b), some vt, some vb, x4, x5, x6] ∧ Same H H' ∧ PolV K H' vt st.1 ∧ PolV K H' vb st.2 ∧ loopO (thrIn ps qs) ((ps.map V.int).length - i) i st = some fin) ?_ ?_ ?_
  · exact ⟨_, _, ([], [(1, 1)]), none, none, none, rfl, s2, P0, P1, by rw [lps]; exact hf⟩
  · rintro i σ H1 hi ⟨vt, vb, st, x5, x6, x4, rfl, sm, pt, pb, hlo⟩
    rw [loop_step hi] at hlo
    obtain ⟨st', hst, hlo⟩ := bnd hlo
    obtain ⟨p0, hp0, hst⟩ := bnd hst
    obtain ⟨v0, hv0, hst⟩ := bnd hst
    obtain ⟨a0, ha0, hst⟩ := bnd hst
    obtain ⟨r0, hr0, hst⟩ := bnd hst
    obtain ⟨bb, hbb, hst⟩ := bnd hst
    obtain ⟨c0, hc0, hst⟩ := bnd hst
    obtain ⟨m0, hm0, hst⟩ := bnd hst
    obtain ⟨t1, ht1, hst⟩ := bnd hst
    obtain ⟨b1, hb1, hst⟩ := bnd hst
    cases hst
    have ep : (ps.map V.int)[i]? = some (.int p0) := by rw [List.getElem?_map, hp0]; rfl
    obtain ⟨vv, evv, rvv⟩ := pr_get hw hv0
    -- here
    refine ⟨_, rfl, _, rfl, a, _, _, _, rfl, rfl, SqL.of (sm _ _ ha), at_of (by omega) ep, (by show 2 ≤ sizeLine; decide), fun h0 nh0 => ?_⟩
    have sm2 := sm.trans (same_new nh0 (.tup [.int p0, .int 1]))
    have tk2 := TK.new (o := .tup [.int p0, .int 1]) nh0
    have Rh : RatV K (upd H1 h0 (.tup [.int p0, .int 1])) (.ref h0) (p0, 1) := .new
    -- rest
    refine ⟨_, rfl, _, rfl, b, ws, _, vv, rfl, rfl, SqL.of (sm2 _ _ hb), at_of (by omega) evv, ?_⟩
    refine ⟨_, rfl, _, rfl, _, _, _, _, _, rfl, pt.tk tk2, Rh, ha0, fun v3 H3 s3 r3 => ?_⟩
    have sm3 := sm2.trans s3
    refine ⟨_, _, _, _, _, rfl, rvv.tk (TK.of sm3), r3, hr0, fun v4 H4 s4 r4 => ?_⟩
    have sm4 := sm3.trans s4
    have tk4 := tk2.trans (TK.of (s3.trans s4))
    have Rh4 := Rh.tk (TK.of (s3.trans s4))
    -- total
    refine ⟨_, rfl, _, rfl, _, rfl, _, rfl, _, rfl, _, _, _, _, _, rfl, pb.tk tk4, Rh4, hbb, fun v5 H5 s5 r5 => ?_⟩
    refine ⟨_, _, _, _, _, rfl, r4.tk (TK.of s5), r5, hc0, fun v6 H6 s6 r6 => ?_⟩
    refine ⟨by show 1 ≤ sizeLine; decide, fun l0 nl0 => ?_⟩
    have s7 := (s5.trans s6).trans (same_new nl0 (.lst [v6]))
    refine ⟨l0, [v6], [c0], rfl, SqL.of upd_same, .cons (r6.tk (TK.new nl0)) .nil, fun v8 H8 s8 r8 => ?_⟩
    have s8' := s7.trans s8
    refine ⟨_, _, _, _, _, rfl, (pb.tk tk4).tk (TK.of s8'), r8, hm0, fun v9 H9 s9 r9 => ?_⟩
    have s9' := s8'.trans s9
    refine ⟨_, _, _, _, _, rfl, (pt.tk tk4).tk (TK.of s9'), r9, ht1, fun v10 H10 s10 r10 => ?_⟩
    have s10' := s9'.trans s10
    have sm10 := sm4.trans s10'
    -- basis
    refine ⟨_, rfl, _, rfl, _, rfl, a, _, _, _, rfl, rfl, SqL.of (sm10 _ _ ha), at_of (by omega) ep, _, rfl, (by show 2 ≤ sizeLine; decide), fun q0 nq0 => ?_⟩
    refine ⟨by show 2 ≤ sizeLine; decide, fun q1 nq1 => ?_⟩
    have s11 := (same_new nq0 (.tup [.int (-p0), .int 1])).trans (same_new nq1 (.tup [.ref q0, .ref z]))
    have Rq : RatV K (upd H10 q0 (.tup [.int (-p0), .int 1])) (.ref q0) (-p0, 1) := .new
    refine ⟨_, _, _, _, _, rfl, (pb.tk tk4).tk (TK.of (s10'.trans s11)), ⟨q1, _, rfl, .inl upd_same, .cons (Rq.tk (TK.new nq1)) (.cons (hz _) .nil)⟩, hb1, fun v12 H12 s12 r12 => ?_⟩
    exact ⟨_, _, (t1, b1), _, _, _, rfl, sm10.trans (s11.trans s12), r10.tk (TK.of (s11.trans s12)), r12, hlo⟩
  · rintro σ H1 ⟨vt, vb, st, x5, x6, x4, rfl, sm, pt, pb, hlo⟩
    rw [loop_end] at hlo
    cases hlo
    rw [hm] at pt
    exact ⟨_, rfl, k _ _ sm pt⟩
end
end LP

/-! need_sums, parts_of -/
namespace LP
open PySem PySem.Spec PyProof.Rows L2
/-! ### a comprehension of two clauses: over a list, then over a range -/
theorem lc2_list {K : PySem.W.Frag} {a : Addr} {xs : List V} {g : TG} {tt : L2.TT} {wi1 : TI} {g1 : TG} {tt1 : L2.TT} {te : TE} {vs vs1 : List Nat} {σ : L2.St} {H1 : Hp} {D : Addr} {Qd : Hp → Prop} (Pv : Nat → Hp → Prop) (h0 : Pv 0 (upd H1 D (.lst []))) (hl : ∀ i H, Pv i H → SqL K H a xs)
    (hs : ∀ i x H, xs[i]? = some x → Pv i H → g x (wipe σ vs) H fun σ2 H2 => wipe σ2 vs = wipe σ vs ∧ tt σ2 H2 fun b H3 =>
      if b = true then wi1 σ2 H3 fun J1 H4 => ∃ W1 : Nat → Nat → Hp → Prop, (∃ m, W1 0 m H4) ∧ ∀ j k H, W1 j k H →
        (J1.stop j H ∧ Pv (i + 1) H) ∨ (J1.go j H ∧ ∃ Nx1 : Hp → Prop, (∀ H', Nx1 H' → ∃ k', k' < k ∧ W1 (j + 1) k' H') ∧ ∀ x H', J1.yld j H x H' → g1 x (wipe σ2 vs1) H' fun σ3 H5 => wipe σ3 vs1 = wipe σ2 vs1 ∧ tt1 σ3 H5 fun b H6 =>
          if b = true then te σ3 H6 fun y H7 => ∃ acc, H7 D = some (.lst acc) ∧ acc.length < sizeLine ∧ Nx1 (upd H7 D (.lst (acc ++ [y]))) else Nx1 H6)
      else Pv (i + 1) H3) (hd : ∀ H, Pv xs.length H → Qd H) :
    ∃ W : Nat → Nat → Hp → Prop, (∃ m, W 0 m (upd H1 D (.lst []))) ∧ ∀ i m H, W i m H →
      ((Itl K a).stop i H ∧ Qd H) ∨ ((Itl K a).go i H ∧ ∃ Nx : Hp → Prop, (∀ H', Nx H' → ∃ m', m' < m ∧ W (i + 1) m' H') ∧ ∀ x H', (Itl K a).yld i H x H' → g x (wipe σ vs) H' fun σ2 H2 => wipe σ2 vs = wipe σ vs ∧ tt σ2 H2 fun b H3 =>
        if b = true then wi1 σ2 H3 fun J1 H4 => ∃ W1 : Nat → Nat → Hp → Prop, (∃ m, W1 0 m H4) ∧ ∀ j k H, W1 j k H →
          (J1.stop j H ∧ Nx H) ∨ (J1.go j H ∧ ∃ Nx1 : Hp → Prop, (∀ H', Nx1 H' → ∃ k', k' < k ∧ W1 (j + 1) k' H') ∧ ∀ x H', J1.yld j H x H' → g1 x (wipe σ2 vs1) H' fun σ3 H5 => wipe σ3 vs1 = wipe σ2 vs1 ∧ tt1 σ3 H5 fun b H6 =>
            if b = true then te σ3 H6 fun y H7 => ∃ acc, H7 D = some (.lst acc) ∧ acc.length < sizeLine ∧ Nx1 (upd H7 D (.lst (acc ++ [y]))) else Nx1 H6)
        else Nx H3) := by
  refine ⟨fun i m H => m = xs.length - i ∧ i ≤ xs.length ∧ Pv i H, ⟨xs.length, by simp, Nat.zero_le _, h0⟩, ?_⟩
  rintro i m H ⟨rfl, hi, p⟩
  have q := hl i H p
  by_cases hlt : i < xs.length
  · refine .inr ⟨⟨xs, xs[i], q, by simp [hlt]⟩, Pv (i + 1), fun H' p' => ⟨xs.length - (i + 1), by omega, rfl, hlt, p'⟩, fun x H' y => ?_⟩
    obtain ⟨e, y⟩ := y
    subst e
    exact hs i x _ (y xs q) p
  · have e : i = xs.length := by omega
    subst e
    exact .inl ⟨⟨xs, q, Nat.le_refl _⟩, hd H p⟩
theorem lc2_range {lo : Int} {n : Nat} {g1 : TG} {tt1 : L2.TT} {te : TE} {vs1 : List Nat} {σ2 : L2.St} {H4 : Hp} {D : Addr} {Nx : Hp → Prop} (Pv : Nat → Hp → Prop) (h0 : Pv 0 H4)
    (hs : ∀ j H, j < n → Pv j H → g1 (.int (lo + j)) (wipe σ2 vs1) H fun σ3 H5 => wipe σ3 vs1 = wipe σ2 vs1 ∧ tt1 σ3 H5 fun b H6 =>
      if b = true then te σ3 H6 fun y H7 => ∃ acc, H7 D = some (.lst acc) ∧ acc.length < sizeLine ∧ Pv (j + 1) (upd H7 D (.lst (acc ++ [y]))) else Pv (j + 1) H6) (hd : ∀ H, Pv n H → Nx H) :
    ∃ W1 : Nat → Nat → Hp → Prop, (∃ m, W1 0 m H4) ∧ ∀ j k H, W1 j k H →
      ((Itr lo n).stop j H ∧ Nx H) ∨ ((Itr lo n).go j H ∧ ∃ Nx1 : Hp → Prop, (∀ H', Nx1 H' → ∃ k', k' < k ∧ W1 (j + 1) k' H') ∧ ∀ x H', (Itr lo n).yld j H x H' → g1 x (wipe σ2 vs1) H' fun σ3 H5 => wipe σ3 vs1 = wipe σ2 vs1 ∧ tt1 σ3 H5 fun b H6 =>
        if b = true then te σ3 H6 fun y H7 => ∃ acc, H7 D = some (.lst acc) ∧ acc.length < sizeLine ∧ Nx1 (upd H7 D (.lst (acc ++ [y]))) else Nx1 H6) := by
  refine ⟨fun i m H => m = n - i ∧ i ≤ n ∧ Pv i H, ⟨n, by simp, Nat.zero_le _, h0⟩, ?_⟩
  rintro i m H ⟨rfl, hi, p⟩
  by_cases hlt : i < n
  · refine .inr ⟨hlt, Pv (i + 1), fun H' p' => ⟨n - (i + 1), by omega, rfl, hlt, p'⟩, fun x H' y => ?_⟩
    obtain ⟨e, y⟩ := y
    subst e y
    exact hs i _ hlt p
  · have e : i = n := by omega
    subst e
    exact .inl ⟨Nat.le_refl _, hd H p⟩
theorem map_get {ns : List Int} {i : Nat} {x : V} (h : (ns.map V.int)[i]? = some x) : ∃ n, ns[i]? = some n ∧ x = .int n := by
  rw [List.getElem?_map] at h
  cases e : ns[i]? with
  | none => rw [e] at h; cases h
  | some n => rw [e] at h; exact ⟨n, rfl, (Option.some.inj h).symm⟩
theorem map_at {ns : List Int} {i : Nat} {n : Int} (h : ns[i]? = some n) : (ns.map V.int)[i]? = some (.int n) := by
  rw [List.getElem?_map, h]
  rfl
/-- the module's numbers -/
structure Nm (mg : Str → Option Value) : Prop where
  sums : ∃ t, mg "MOST_SUMS" = some (.int 4 t)
  sum : ∃ t, mg "MOST_SUM" = some (.int 30 t)
section
variable {P : Program} {w : World} {K : PySem.W.Frag} {mg : Str → Option Value} {base : Heap} {f : Addr} {fd : FuncData}
/-! ### need_sums -/
def spNeed : Sp := fun vs H Q _ => ∃ p ns, vs = [.ref p] ∧ H p = some (.tup (ns.map V.int)) ∧ needM ns = true ∧ ∀ H', Same H H' → Q .non H'
theorem scNeed : FnScope ["value", "x"] ["value"] (defScope (topS 23)) := ⟨rfl, rfl, rfl, by decide +kernel, rfl, by decide +kernel, by decide +kernel⟩
theorem ok_need (F : Fun K "need_sums" "need_sums" (topS 23) f fd) (m : mg "need_sums" = some (.ref f)) (B : Bl mg) (N : Nm mg) (GI : Df P w K mg base 1 "is_in" ["value", "least", "most"] spIsIn) : Df P w K mg base 2 "need_sums" ["value"] spNeed := by
  refine ⟨f, fd, F.ok scNeed (fun vs H Q E h => ?_) (fun cdv A outer s H vs Q E hr h => ?_), m, F.kp, F.binds fun _ _ _ _ _ _ us hl => match us, hl with | [_], _ => rfl⟩
  · obtain ⟨_, _, rfl, _⟩ := h
    rfl
  obtain ⟨p, ns, rfl, hp, hn, k⟩ := h
  obtain ⟨t4, m4⟩ := N.sums
  obtain ⟨t30, m30⟩ := N.sum
  unfold needM at hn
  rw [Bool.and_eq_true] at hn
  obtain ⟨hn1, hn2⟩ := hn
  obtain ⟨h1, h4⟩ := and_ok hn1
  have hall := List.all_eq_true.mp hn2
  refine ⟨_, pss_cons (ps_if (PW.pt (pw_or (pt_not (pt_val (pe_callB call_isi (by rfl) B.isi (by decide +kernel) (pa_cons (pv 0) (pa_cons (pe_bltn (v := .ty "tuple") (u := .type "tuple") (by rfl) B.tup (by decide +kernel) rfl) pa_nil)))))
      (pw_or1 (pt_not (pt_chain op_le op_le pe_int (pe_callB call_len_seq (by rfl) B.len PySem.boot_len (pa_cons (pv 0) pa_nil)) (pe_glob (v := .int 4) (by rfl) m4 ⟨_, rfl⟩)))))) (pss_one ps_never) pss_nil)
    (pss_one (ps_if (pt_cmpR (op_neD hr.units) (pe_lc (own := [("x", 1)]) (g := gName 1) rfl scNeed.nd (pi_tup (pv 0)) (blkOk_by (N := ["value", "x"]) (sc := defScope (topS 23)) (by decide +kernel)) (fun _ _ _ _ _ => pg_name (i := 1) scNeed.nd rfl (.inl rfl))
      (fun _ _ _ _ _ => pts_one (pt_not (pt_val (pe_callD GI hr (by rfl) (pa_cons (pv 1) (pa_cons pe_int (pa_cons (pe_glob (v := .int 30) (by rfl) m30 ⟨_, rfl⟩) pa_nil))))))) (fun _ _ _ _ _ => pv 1)) (pe_lst pa_nil) (nomark _)) (pss_one ps_never) pss_nil)), ?_⟩
  refine ⟨_, rfl, _, _, .type "tuple", .type "tuple", true, rfl, .ty _, .base (.tup hp), kit_ty (by decide +kernel), _, rfl, iteF ?_⟩
  refine ⟨_, rfl, p, _, rfl, .inr (SqT.of hp), _, _, rfl, rfl, _, rfl, ?_⟩
  rw [List.length_map, decide_eq_true (show (1 : Int) ≤ (ns.length : Int) by omega)]
  refine iteT ?_
  refine ⟨_, _, rfl, rfl, _, rfl, ?_⟩
  rw [decide_eq_true (show ((ns.length : Nat) : Int) ≤ 4 by omega)]
  refine iteF ?_
  refine ⟨_, rfl, p, rfl, ⟨_, SqT.of hp⟩, fun D nD => ?_⟩
  refine lc_tup (xs := ns.map V.int) (fun i H' => Same H H' ∧ H' D = some (.lst [])) ?_ ?_ ?_ ?_
  · exact ⟨same_new nD _, upd_same⟩
  · rintro i H' _ ⟨sm, _⟩
    exact SqT.of (sm _ _ hp)
  · rintro i x H' hx ⟨sm, hD⟩
    obtain ⟨n, hn, rfl⟩ := map_get hx
    have hb := hall n (List.mem_of_getElem? hn)
    refine ⟨rfl, _, rfl, n, 0, 30, rfl, _, rfl, ?_⟩
    rw [hb]
    exact iteF ⟨sm, hD⟩
  · rintro H' ⟨sm, hD⟩
    refine ⟨Nat.zero_le _, fun e ne => ?_⟩
    have hD' : upd H' e (.lst []) D = some (.lst []) := by rw [upd_ne (ne_of_none hD ne)]; exact hD
    refine ⟨.list [], .list [], .lst (SqL.of hD') .nil, .lst (SqL.of upd_same) .nil, rfl, rfl, _, rfl, ?_⟩
    exact iteF (k _ (sm.trans (same_new ne _)))
/-! ### parts_of -/
def PtV (H : Hp) (v : V) (x : Pt) : Prop := ∃ p q, v = .ref p ∧ H p = some (.tup [.ref q, .int x.2]) ∧ H q = some (.tup (x.1.map V.int))
theorem PtV.tk {H H' : Hp} {v : V} {x : Pt} (h : PtV H v x) (k : TK H H') : PtV H' v x := let ⟨p, q, e, a, b⟩ := h; ⟨p, q, e, k _ _ a, k _ _ b⟩
theorem pts_tk {H H' : Hp} {vs : List V} {xs : List Pt} (h : Paired (PtV H) vs xs) (k : TK H H') : Paired (PtV H') vs xs := pr_mono h fun _ _ f => f.tk k
def spPts : Sp := fun vs H Q _ => ∃ total p ns r, vs = [.int total, .ref p] ∧ H p = some (.tup (ns.map V.int)) ∧ ptsM total ns = some r ∧ ∀ l ws H', Same H H' → H l = none → H' l = some (.lst ws) → Paired (IntT H') ws r → Q (.ref l) H'
theorem scPts : FnScope ["total", "limits", "found", "limit", "some", "left", "x"] ["total", "limits"] (defScope (topS 24)) := ⟨rfl, rfl, rfl, by decide +kernel, rfl, by decide +kernel, by decide +kernel⟩
theorem ok_pts (F : Fun K "parts_of" "parts_of" (topS 24) f fd) (m : mg "parts_of" = some (.ref f)) (B : Bl mg) : Df P w K mg base 1 "parts_of" ["total", "limits"] spPts := by
  refine ⟨f, fd, F.ok scPts (fun vs H Q E h => ?_) (fun cdv A outer s H vs Q E hr h => ?_), m, F.kp, F.binds fun _ _ _ _ _ _ us hl => match us, hl with | [_, _], _ => rfl⟩
  · obtain ⟨_, _, _, _, rfl, _⟩ := h
    rfl
  obtain ⟨total, p, ns, r, rfl, hp, hm, k⟩ := h
  obtain ⟨fin, hf, hm⟩ := bnd hm
  refine ⟨_, pss_cons (ps_set (i := 2) scPts.nd rfl (.inl rfl) (pe_lst (pa_cons (pe_tup (pa_cons (pe_tup pa_nil) (pa_cons (pv 0) pa_nil))) pa_nil)))
    (pss_cons (ps_for PassesOwn.never rfl (pi_tup (pv 1)) (pg_name (i := 3) scPts.nd rfl (.inr rfl))
      (pss_one (ps_setLc2 (i := 2) (own := [("some", 4), ("left", 5), ("x", 6)]) (vs1 := [6]) (g := gTup K 2 (gCons (gName 4) (gCons (gName 5) gNil))) (g1 := gName 6) (tt := tYes) (tt1 := tYes) rfl scPts.nd rfl rfl (sw_true rfl rfl rfl (by decide +kernel)) (pi_list (pv 2))
        (blkOk_by (N := ["total", "limits", "found", "limit", "some", "left", "x"]) (sc := defScope (topS 24)) (by decide +kernel)) (by decide)
        (fun _ _ _ _ _ => pg_tup rfl (pgs_cons (pg_name (i := 4) scPts.nd rfl (.inl rfl)) (pgs_cons (pg_name (i := 5) scPts.nd rfl (.inl rfl)) pgs_nil))) (fun _ _ _ _ _ => pts_nil)
        (fun _ _ _ _ _ => pi_range1 (by rfl) B.range (pa_cons (pe_op op_add (pe_callB (call_min2 rfl) (by rfl) B.min (by decide +kernel) (pa_cons (pv 3) (pa_cons (pv 5) pa_nil))) pe_int) pa_nil))
        (fun _ _ _ _ _ => pg_name (i := 6) scPts.nd rfl (.inl rfl)) (fun _ _ _ _ _ => pts_nil)
        (fun _ _ _ _ _ => pe_tup (pa_cons (pe_op (r := rCatA K) op_catA (pv 4) (pe_tup (pa_cons (pv 6) pa_nil))) (pa_cons (pe_op op_sub (pv 5) (pv 6)) pa_nil))))))
    (pss_one (ps_ret (pe_lc (own := [("some", 4), ("left", 5)]) (g := gTup K 2 (gCons (gName 4) (gCons (gName 5) gNil))) rfl scPts.nd (pi_list (pv 2)) (blkOk_by (N := ["total", "limits", "found", "limit", "some", "left", "x"]) (sc := defScope (topS 24)) (by decide +kernel))
      (fun _ _ _ _ _ => pg_tup rfl (pgs_cons (pg_name (i := 4) scPts.nd rfl (.inl rfl)) (pgs_cons (pg_name (i := 5) scPts.nd rfl (.inl rfl)) pgs_nil))) (fun _ _ _ _ _ => pts_one (pt_cmpR op_eq (pv 5) pe_int (nomark _))) (fun _ _ _ _ _ => pv 4))))), ?_⟩
  -- found = [((), total)]
  refine ⟨by show 0 ≤ sizeLine; decide, fun t0 nt0 => ?_⟩
  refine ⟨_, rfl, (by show 2 ≤ sizeLine; decide), fun t1 nt1 => ?_⟩
  refine ⟨by show 1 ≤ sizeLine; decide, fun l0 nl0 => ?_⟩
  have s0 : Same H (upd (upd (upd H t0 (.tup [])) t1 (.tup [.ref t0, .int total])) l0 (.lst [.ref t1])) := ((same_new nt0 _).trans (same_new nt1 _)).trans (same_new nl0 _)
  have P0 : PtV (upd (upd (upd H t0 (.tup [])) t1 (.tup [.ref t0, .int total])) l0 (.lst [.ref t1])) (.ref t1) ([], total) :=
    PtV.tk ⟨t1, t0, rfl, upd_same, by rw [upd_ne (ne_of_none upd_same nt1), upd_same]; rfl⟩ (TK.new nl0)
  have nl00 : H l0 = none := ((same_new nt0 (.tup [])).trans (same_new nt1 (.tup [.ref t0, .int total]))).free nl0
  refine ⟨_, rfl, p, rfl, ⟨_, SqT.of (s0 _ _ hp)⟩, ?_⟩
  refine for_tup (xs := ns.map V.int) (fun i σ H' => ∃ l ws fs x3 x4 x5 x6, σ = [some (.int total), some (.ref p), some (.ref l), x3, x4, x5, x6] ∧ Same H H' ∧ H l = none ∧ H' l = some (.lst ws) ∧ Paired (PtV H') ws fs ∧
    foldO (fun found limit => ptsStep limit found) (ns.drop i) fs = some fin) ?_ ?_ ?_ ?_
  · exact ⟨l0, [.ref t1], [([], total)], none, none, none, none, rfl, s0, nl00, upd_same, .cons P0 .nil, hf⟩
  · rintro i σ H' _ ⟨l, ws, fs, x3, x4, x5, x6, rfl, sm, _⟩
    exact SqT.of (sm _ _ hp)
  · rintro i x σ H' hx ⟨l, ws, fs, x3, x4, x5, x6, rfl, sm, nl, hl, hws, hfo⟩
    obtain ⟨lim, hlim, rfl⟩ := map_get hx
    rw [drop_at hlim] at hfo
    obtain ⟨fs', hst, hfo⟩ := bnd hfo
    refine ⟨_, rfl, l, rfl, ⟨_, SqL.of hl⟩, fun D nD => ?_⟩
    refine lc2_list (xs := ws) (fun kk H2 => ∃ acc ac, Same H' H2 ∧ H2 D = some (.lst acc) ∧ Paired (PtV H2) acc ac ∧
      foldO (fun acc (p : Pt) => grd (decide (p.1.length ≤ 1000) && decide (-1000 ≤ min2 lim p.2 + 1) && decide (min2 lim p.2 + 1 ≤ 1000)) (loopO (ptsIn p) (min2 lim p.2 + 1).toNat 0 acc)) (fs.drop kk) ac = some fs') ?_ ?_ ?_ ?_
    · exact ⟨[], [], same_new nD _, upd_same, .nil, hst⟩
    · rintro kk H2 ⟨acc, ac, s2, _⟩
      exact SqL.of (s2 _ _ hl)
    · rintro kk x H2 hx2 ⟨acc, ac, s2, hD, hacc, hfo2⟩
      obtain ⟨⟨sm0, lf⟩, hfs, pp, qq, rfl, hpp, hqq⟩ := pr_get2 hws hx2
      rw [drop_at hfs] at hfo2
      obtain ⟨ac', hac, hfo2⟩ := bnd hfo2
      obtain ⟨hg, hac⟩ := grd_ok hac
      rw [Bool.and_eq_true] at hg
      obtain ⟨hg1, hg3⟩ := hg
      obtain ⟨g1, g2⟩ := and_ok hg1
      have g3 := of_decide_eq_true hg3
      have g1' : sm0.length ≤ 1000 := g1
      have g2' : -1000 ≤ min2 lim lf + 1 := g2
      have g3' : min2 lim lf + 1 ≤ 1000 := g3
      refine ⟨pp, _, rfl, SqT.of (s2 _ _ hpp), rfl, _, _, rfl, _, _, rfl, rfl, rfl, ?_⟩
      refine ⟨_, rfl, _, rfl, _, _, rfl, _, _, rfl, rfl, _, rfl, (by show -(2 ^ 62) ≤ min2 lim lf + 1; omega), (by show min2 lim lf + 1 < 2 ^ 62; omega), ?_⟩
      refine lc2_range (lo := 0) (n := (min2 lim lf + 1).toNat) (fun j H3 => ∃ acc ac, Same H' H3 ∧ H3 D = some (.lst acc) ∧ Paired (PtV H3) acc ac ∧ loopO (ptsIn (sm0, lf)) ((min2 lim lf + 1).toNat - j) j ac = some ac') ?_ ?_ ?_
      · exact ⟨acc, ac, s2, hD, hacc, hac⟩
      · rintro j H3 hj ⟨acc3, ac3, s3, hD3, hacc3, hlo⟩
        rw [loop_step hj] at hlo
        obtain ⟨ac4, h4, hlo⟩ := bnd hlo
        obtain ⟨hg4, h4⟩ := grd_ok h4
        have g4 := of_decide_eq_true hg4
        have e4 := Option.some.inj h4
        have la := Paired.length hacc3
        -- behind some + (x,)
        have rest : ∀ q2 H4, Same H3 H4 → H4 q2 = some (.tup ((sm0 ++ [(j : Int)]).map V.int)) →
            tCons (tOp (rI0 fun i j => .int (i - j)) (tVar 5) (tVar 6)) tNil [none, none, none, none, none, some (.int lf), some (.int (0 + (j : Int)))] H4 (fun xs H5 => (V.ref q2 :: xs).length ≤ sizeLine ∧ ∀ p, H5 p = none → ∃ acc, (upd H5 p (.tup (V.ref q2 :: xs))) D = some (.lst acc) ∧ acc.length < sizeLine ∧
              (fun H3 => ∃ acc ac, Same H' H3 ∧ H3 D = some (.lst acc) ∧ Paired (PtV H3) acc ac ∧ loopO (ptsIn (sm0, lf)) ((min2 lim lf + 1).toNat - (j + 1)) (j + 1) ac = some ac') (upd (upd H5 p (.tup (V.ref q2 :: xs))) D (.lst (acc ++ [.ref p])))) := by
          intro q2 H4 s4 hq2
          refine ⟨_, rfl, _, rfl, _, _, rfl, rfl, (by show 2 ≤ sizeLine; decide), fun t nt => ?_⟩
          have hD4 := s4 _ _ hD3
          have hD5 : upd H4 t (.tup [.ref q2, .int (lf - (0 + (j : Int)))]) D = some (.lst acc3) := by rw [upd_ne (ne_of_none hD4 nt)]; exact hD4
          refine ⟨acc3, hD5, small5 (by omega), acc3 ++ [.ref t], ac4, same_put ((s3.trans s4).trans (same_new nt _)) nD, upd_same, ?_, hlo⟩
          rw [← e4]
          have tk5 : TK (upd H4 t (.tup [.ref q2, .int (lf - (0 + (j : Int)))])) (upd (upd H4 t (.tup [.ref q2, .int (lf - (0 + (j : Int)))])) D (.lst (acc3 ++ [.ref t]))) := TK.put hD5 rfl
          have tk4 := (TK.new (o := .tup [.ref q2, .int (lf - (0 + (j : Int)))]) nt).trans tk5
          refine pr_snoc (pts_tk hacc3 ((TK.of s4).trans tk4)) ⟨t, q2, rfl, ?_, tk4 _ _ hq2⟩
          refine tk5 _ _ ?_
          rw [upd_same, Int.zero_add]
        refine ⟨rfl, ?_⟩
        refine ⟨_, rfl, _, rfl, (by show 1 ≤ sizeLine; decide), fun t2 nt2 => ?_⟩
        have s5 := same_new nt2 (.tup [.int (0 + (j : Int))])
        have lt : (sm0.map V.int).length + ([V.int (0 + (j : Int))] : List V).length ≤ sizeLine := by
          rw [List.length_map]
          exact Nat.le_of_lt (small5 (by show sm0.length + 1 ≤ 100000; omega))
        refine ⟨qq, t2, _, _, rfl, rfl, SqT.of ((s3.trans s5) _ _ hqq), SqT.of upd_same, lt, fun e => ?_, fun _ e => (nomatch e), fun e1 e2 t3 nt3 => ?_⟩
        · have e' : sm0 = [] := List.map_eq_nil_iff.mp e
          subst e'
          refine rest t2 _ s5 ?_
          rw [upd_same, Int.zero_add]
          rfl
        · refine rest t3 _ (s5.trans (same_new nt3 _)) ?_
          rw [upd_same, Int.zero_add, List.map_append]
          rfl
      · rintro H3 ⟨acc3, ac3, s3, hD3, hacc3, hlo⟩
        rw [loop_end] at hlo
        cases hlo
        exact ⟨acc3, ac', s3, hD3, hacc3, hfo2⟩
    · rintro H2 ⟨acc, ac, s2, hD, hacc, hfo2⟩
      rw [drop_end (by rw [Paired.length hws]; exact Nat.le_refl _)] at hfo2
      cases hfo2
      exact ⟨D, acc, fs', _, _, _, _, rfl, sm.trans s2, sm.free nD, hD, hacc, hfo⟩
  · rintro σ H' ⟨l, ws, fs, x3, x4, x5, x6, rfl, sm, nl, hl, hws, hfo⟩
    rw [drop_end (by rw [List.length_map]; exact Nat.le_refl _)] at hfo
    cases hfo
    refine ⟨_, rfl, l, rfl, ⟨_, SqL.of hl⟩, fun D nD => ?_⟩
    refine lc_list (xs := ws) (fun kk H2 => ∃ acc ac, Same H' H2 ∧ H2 D = some (.lst acc) ∧ Paired (IntT H2) acc ac ∧ foldO (fun acc (p : Pt) => if p.2 = 0 then grd (decide (acc.length < 100000)) (some (acc ++ [p.1])) else some acc) (fin.drop kk) ac = some r) ?_ ?_ ?_ ?_
    · exact ⟨[], [], same_new nD _, upd_same, .nil, hm⟩
    · rintro kk H2 _ ⟨acc, ac, s2, _⟩
      exact SqL.of (s2 _ _ hl)
    · rintro kk x H2 hx2 ⟨acc, ac, s2, hD, hacc, hfo2⟩
      obtain ⟨⟨sm0, lf⟩, hfs, pp, qq, rfl, hpp, hqq⟩ := pr_get2 hws hx2
      rw [drop_at hfs] at hfo2
      obtain ⟨ac', hac, hfo3⟩ := bnd hfo2
      refine ⟨pp, _, rfl, SqT.of (s2 _ _ hpp), rfl, _, _, rfl, _, _, rfl, rfl, rfl, ?_⟩
      refine ⟨_, rfl, rfl, _, rfl, ?_⟩
      rw [dec_int]
      by_cases e : lf = 0
      · subst e
        have hac2 : grd (decide (ac.length < 100000)) (some (ac ++ [sm0])) = some ac' := by
          rw [← hac]
          exact (if_pos rfl).symm
        obtain ⟨hg, e2⟩ := grd_ok hac2
        have g := of_decide_eq_true hg
        have e3 := Option.some.inj e2
        have la := Paired.length hacc
        refine iteT ?_
        refine ⟨_, rfl, acc, hD, small5 (by omega), acc ++ [.ref qq], ac', same_put s2 nD, upd_same, ?_, hfo3⟩
        rw [← e3]
        have tk2 : TK H2 (upd H2 D (.lst (acc ++ [.ref qq]))) := TK.put hD rfl
        exact pr_snoc (pr_mono hacc fun _ _ f => f.tk tk2) ⟨qq, rfl, tk2 _ _ (s2 _ _ hqq)⟩
      · have hac2 : some ac = some ac' := by
          rw [← hac]
          exact (if_neg e).symm
        cases hac2
        rw [show (lf == 0) = false from beq_eq_false_iff_ne.mpr e]
        exact iteF ⟨acc, ac, s2, hD, hacc, hfo3⟩
    · rintro H2 ⟨acc, ac, s2, hD, hacc, hfo2⟩
      rw [drop_end (by rw [Paired.length hws]; exact Nat.le_refl _)] at hfo2
      cases hfo2
      exact k D acc H2 (sm.trans s2) (sm.free nD) hD hacc
end
end LP

/-! count_of, table_count -/
namespace LP
open PySem PySem.Spec PyProof.Rows L2
/-! ### the items of a dict with tuple keys, walked -/
theorem for_itemsT {d : Addr} {o : Obj} {kvs : List (List L2.Key × V)} {g : TG} {tb : TS} {D : Ends} {σ : L2.St} {H : Hp} (Pv : Nat → L2.St → Hp → Prop) (h0 : Pv 0 σ H) (hq : ∀ i σ H, Pv i σ H → H d = some (.frz o (.dT kvs)))
    (hs : ∀ i k v q T σ H, kvs[i]? = some (k, v) → H q = some (.tup (k.map kV)) → Pv i σ H → H T = none → g (.ref T) σ (upd H T (.tup [.ref q, v])) fun σ2 H2 => tb { D with nx := Pv (i + 1), ct := Pv (i + 1), bk := D.nx } σ2 H2) (hd : ∀ σ H, Pv kvs.length σ H → D.nx σ H) :
    ∃ W : Nat → Nat → L2.St → Hp → Prop, (∃ m, W 0 m σ H) ∧ ∀ i m σ H, W i m σ H →
      ((ItiT d o kvs).stop i H ∧ D.nx σ H) ∨ ((ItiT d o kvs).go i H ∧ ∃ N : L2.St → Hp → Prop, (∀ σ' H', N σ' H' → ∃ m', m' < m ∧ W (i + 1) m' σ' H') ∧ ∀ x H', (ItiT d o kvs).yld i H x H' → g x σ H' fun σ2 H2 => tb { D with nx := N, ct := N, bk := D.nx } σ2 H2) := by
  refine ⟨fun i m σ H => m = kvs.length - i ∧ i ≤ kvs.length ∧ Pv i σ H, ⟨kvs.length, by simp, Nat.zero_le _, h0⟩, ?_⟩
  rintro i m σ H ⟨rfl, hi, p⟩
  have q := hq i σ H p
  by_cases hlt : i < kvs.length
  · refine .inr ⟨⟨q, hlt⟩, Pv (i + 1), fun σ' H' p' => ⟨kvs.length - (i + 1), by omega, rfl, hlt, p'⟩, fun x H' y => ?_⟩
    obtain ⟨T, k, v, b, e1, rfl, hT, hb, rfl⟩ := y
    exact hs i k v b T σ H e1 hb p hT
  · have e : i = kvs.length := by omega
    subst e
    exact .inl ⟨⟨q, Nat.le_refl _⟩, hd σ H p⟩
/-! ### dicts as lists -/
def encK (k : List Int) : List L2.Key := k.map Sum.inl
def enc (kv : List Int × Int) : List L2.Key × V := (encK kv.1, .int kv.2)
theorem encK_kV (k : List Int) : (encK k).map kV = k.map V.int := by
  unfold encK
  rw [List.map_map]
  rfl
theorem encK_inj : ∀ {a b : List Int}, encK a = encK b → a = b
  | [], [], _ => rfl
  | [], _ :: _, h => nomatch h
  | _ :: _, [], h => nomatch h
  | x :: a, y :: b, h => by
    injection h with h1 h2
    rw [Sum.inl.inj h1, encK_inj (a := a) (b := b) h2]
theorem encK_dec (a b : List Int) : decide (encK a = encK b) = decide (a = b) := by
  by_cases e : a = b
  · subst e
    rw [decide_eq_true rfl, decide_eq_true rfl]
  · rw [decide_eq_false e, decide_eq_false fun z => e (encK_inj z)]
theorem enc_val (k : List Int) : ∀ d : Dc, valV (d.map enc) (encK k) = (lookD d k).map V.int
  | [] => rfl
  | kv :: d => by
    by_cases e : kv.1 = k
    · subst e
      rw [List.map_cons, valV_pos (show (enc kv).1 = encK kv.1 from rfl)]
      unfold lookD
      rw [List.find?_cons, decide_eq_true rfl]
      rfl
    · rw [List.map_cons, valV_neg (show ¬ (enc kv).1 = encK k from fun z => e (encK_inj z)), enc_val k d]
      unfold lookD
      rw [List.find?_cons, decide_eq_false e]
theorem enc_getD (k : List Int) (d : Dc) : (valV (d.map enc) (encK k)).getD (.int 0) = .int ((lookD d k).getD 0) := by
  rw [enc_val]
  cases lookD d k <;> rfl
theorem enc_any (k : List Int) : ∀ d : Dc, ((d.map enc).any fun kv => decide (kv.1 = encK k)) = d.any fun kv => decide (kv.1 = k)
  | [] => rfl
  | kv :: d => by
    rw [List.map_cons, List.any_cons, List.any_cons, enc_any k d, show (enc kv).1 = encK kv.1 from rfl, encK_dec]
theorem enc_put (k : List Int) (v : Int) (d : Dc) : putK (d.map enc) (encK k) (.int v) = (putD d k v).map enc := by
  unfold putK putD
  rw [enc_any]
  by_cases h : (d.any fun kv => decide (kv.1 = k)) = true
  · rw [if_pos h, if_pos h, List.map_map, List.map_map]
    apply List.map_congr_left
    intro kv _
    show (if (enc kv).1 = encK k then ((enc kv).1, V.int v) else enc kv) = enc (if kv.1 = k then (kv.1, v) else kv)
    by_cases e : kv.1 = k
    · rw [if_pos (show (enc kv).1 = encK k by rw [← e]; rfl), if_pos e]
      rfl
    · rw [if_neg (show ¬ (enc kv).1 = encK k from fun z => e (encK_inj z)), if_neg e]
  · rw [if_neg h, if_neg h, List.map_append]
    rfl
/-! ### the sorted list -/
theorem ins_perm (x : Int) : ∀ l : List Int, (insI x l).Perm (x :: l)
  | [] => .refl _
  | y :: r => by
    unfold insI
    by_cases h : x ≤ y
    · rw [if_pos h]
    · rw [if_neg h]
      exact ((ins_perm x r).cons y).trans (.swap x y r)
theorem ins_up (x : Int) : ∀ l : List Int, l.Pairwise (· ≤ ·) → (insI x l).Pairwise (· ≤ ·)
  | [], _ => List.pairwise_singleton _ _
  | y :: r, h => by
    obtain ⟨h1, h2⟩ := List.pairwise_cons.mp h
    unfold insI
    by_cases e : x ≤ y
    · rw [if_pos e]
      exact List.pairwise_cons.mpr ⟨fun z hz => (List.mem_cons.mp hz).elim (fun q => by rw [q]; exact e) fun q => Int.le_trans e (h1 z q), h⟩
    · rw [if_neg e]
      refine List.pairwise_cons.mpr ⟨fun z hz => ?_, ins_up x r h2⟩
      rcases List.mem_cons.mp ((ins_perm x r).mem_iff.mp hz) with q | q
      · rw [q]; omega
      · exact h1 z q
theorem sortI_perm : ∀ l : List Int, (sortI l).Perm l
  | [] => .refl _
  | x :: r => (ins_perm x (sortI r)).trans ((sortI_perm r).cons x)
theorem sortI_up : ∀ l : List Int, (sortI l).Pairwise (· ≤ ·)
  | [] => .nil
  | x :: r => ins_up x _ (sortI_up r)
theorem sortI_eq {a l : List Int} (hp : a.Perm l) (hu : a.Pairwise (· ≤ ·)) : a = sortI l := PySem.W.ksm_same (hp.trans (sortI_perm l).symm) hu (sortI_up l)
theorem subM_take {a b : List Int} {i : Nat} {x y : Int} (h1 : a[i]? = some x) (h2 : b[i]? = some y) : (subM a b).take (i + 1) = (subM a b).take i ++ [x - y] := by
  have e : (subM a b)[i]? = some (x - y) := by
    unfold subM
    rw [List.getElem?_map, zip_get h1 h2]
    rfl
  rw [List.take_add_one, e]
  rfl
theorem subM_len (a b : List Int) : (subM a b).length = min a.length b.length := by
  unfold subM
  rw [List.length_map, List.length_zip]
theorem cat_rep (n : Nat) : (List.replicate n [V.int 0]).flatten = (List.replicate n (0 : Int)).map V.int := by
  rw [rep_one, List.map_replicate]
/-- all but what stands at e is as it was -/
def SB (e : Addr) (H H' : Hp) : Prop := ∀ b o, b ≠ e → H b = some o → H' b = some o
theorem SB.refl (e : Addr) (H : Hp) : SB e H H := fun _ _ _ h => h
theorem SB.same {e : Addr} {H H1 H2 : Hp} (a : SB e H H1) (b : Same H1 H2) : SB e H H2 := fun c o n h => b _ _ (a c o n h)
theorem SB.put {e : Addr} {H H1 : Hp} (a : SB e H H1) (o : HO) : SB e H (upd H1 e o) := fun c o' n h => by
  rw [upd_ne n]
  exact a c o' n h
theorem SB.tk {e : Addr} {H H' : Hp} {u : HO} (a : SB e H H') (h : H e = some u) (hu : isTup u = false) : TK H H' := fun b xs q => a b _ (fun z => by
  subst z
  rw [h] at q
  cases q
  cases hu) q
section
variable {P : Program} {w : World} {K : PySem.W.Frag} {mg : Str → Option Value} {base : Heap} {f : Addr} {fd : FuncData}
def spCnt : Sp := fun vs H Q _ => ∃ a b rows cols r, vs = [.ref a, .ref b] ∧ H a = some (.tup (rows.map V.int)) ∧ H b = some (.tup (cols.map V.int)) ∧ cntM rows cols = some r ∧ ∀ H', Same H H' → Q (.int r) H'
theorem scCnt : FnScope ["rows", "columns", "row", "total", "less", "left", "many", "some", "rest", "x", "y"] ["rows", "columns"] (defScope (topS 25)) := ⟨rfl, rfl, rfl, by decide +kernel, rfl, by decide +kernel, by decide +kernel⟩
theorem ok_cnt (F : Fun K "count_of" "count_of" (topS 25) f fd) (m : mg "count_of" = some (.ref f)) (B : Bl mg) (GP : Df P w K mg base 1 "parts_of" ["total", "limits"] spPts) : Df P w K mg base 2 "count_of" ["rows", "columns"] spCnt := by
  refine ⟨f, fd, F.ok scCnt (fun vs H Q E h => ?_) (fun cdv A outer s H vs Q E hr h => ?_), m, F.kp, F.binds fun _ _ _ _ _ _ us hl => match us, hl with | [_, _], _ => rfl⟩
  · obtain ⟨_, _, _, _, _, rfl, _⟩ := h
    rfl
  obtain ⟨a, b, rows, cols, r, rfl, ha, hb, hm, k⟩ := h
  obtain ⟨hg, hm⟩ := grd_ok hm
  obtain ⟨g1, g2⟩ := and_ok hg
  obtain ⟨fin, hf, hm⟩ := mpd hm
  have hu := hu_of hr
  refine ⟨_, pss_cons (ps_set (i := 2) scCnt.nd rfl (.inl rfl) (pe_dispT hu (pe_callTy call_tuple_of (by rfl) B.tup (by decide +kernel) (pa_cons (pv 1) pa_nil)) pe_int))
    (pss_cons (ps_for PassesOwn.never rfl (pi_tup (pv 0)) (pg_name (i := 3) scCnt.nd rfl (.inl rfl))
      (pss_cons (ps_set (i := 4) scCnt.nd rfl (.inl rfl) pe_dnewT)
      (pss_cons (ps_lock (ps_for PassesOwn.never rfl (pi_itemsT (pv 2)) (pg_tup rfl (pgs_cons (pg_name (i := 5) scCnt.nd rfl (.inl rfl)) (pgs_cons (pg_name (i := 6) scCnt.nd rfl (.inl rfl)) pgs_nil)))
        (pss_one (ps_for PassesOwn.never rfl (pi_list (pe_callD GP hr (by rfl) (pa_cons (pv 3) (pa_cons (pv 5) pa_nil)))) (pg_name (i := 7) scCnt.nd rfl (.inl rfl))
          (pss_cons (ps_set (i := 8) scCnt.nd rfl (.inl rfl) (pe_callTy call_tuple_of (by rfl) B.tup (by decide +kernel) (pa_cons (pe_callB cr_sortedI (by rfl) B.sorted (by decide +kernel) (pa_cons
            (pe_lc (own := [("x", 9), ("y", 10)]) (g := gTup K 2 (gCons (gName 9) (gCons (gName 10) gNil))) (tt := tYes) rfl scCnt.nd (RZ.pi_zipA (by rfl) B.zip (pa_cons (pv 5) (pa_cons (pv 7) pa_nil))) (blkOk_by (N := ["rows", "columns", "row", "total", "less", "left", "many", "some", "rest", "x", "y"]) (sc := defScope (topS 25)) (by decide +kernel))
              (fun _ _ _ _ _ => pg_tup rfl (pgs_cons (pg_name (i := 9) scCnt.nd rfl (.inl rfl)) (pgs_cons (pg_name (i := 10) scCnt.nd rfl (.inl rfl)) pgs_nil))) (fun _ _ _ _ _ => pts_nil) (fun _ _ _ _ _ => pe_op op_sub (pv 9) (pv 10))) pa_nil)) pa_nil)))
          (pss_one (ps_dput hu (pv 4) (pv 8) (pe_op op_add (pe_dget2 hu (pv 4) (pv 8) pe_int ⟨by rfl, by rfl, by rfl, by rfl⟩) (pv 6)) rfl)))))))
      (pss_one (ps_set (i := 2) scCnt.nd rfl (.inl rfl) (pv 4))))))
    (pss_one (ps_ret (pe_dget2 hu (pv 2) (pe_op op_repA (pe_tup (pa_cons pe_int pa_nil)) (pe_callB call_len_seq (by rfl) B.len PySem.boot_len (pa_cons (pv 1) pa_nil))) pe_int ⟨by rfl, by rfl, by rfl, by rfl⟩)))), ?_⟩
  -- row = {tuple(columns): 1}
  intro d nd
  have s1 := same_new nd (.dT [])
  refine ⟨_, rfl, b, _, rfl, .inr ⟨SqT.of (s1 _ _ hb), upd_same, b, encK cols, rfl, (by rw [encK_kV]; exact s1 _ _ hb), ?_⟩⟩
  have s2 : Same H (upd (upd H d (.dT [])) d (.dT [(encK cols, .int 1)])) := same_put s1 nd
  refine ⟨_, rfl, a, rfl, ⟨_, SqT.of (s2 _ _ ha)⟩, ?_⟩
  refine for_tup (xs := rows.map V.int) (fun i σ H' => ∃ d dc x3 x4 x5 x6 x7 x8 x9 x10, σ = [some (.ref a), some (.ref b), some (.ref d), x3, x4, x5, x6, x7, x8, x9, x10] ∧ Same H H' ∧ H d = none ∧ H' d = some (.dT (dc.map enc)) ∧
    foldO (fun row total => cntRow total row) (rows.drop i) dc = some fin) ?_ ?_ ?_ ?_
  · exact ⟨d, [(cols, 1)], none, none, none, none, none, none, none, none, rfl, s2, nd, upd_same, hf⟩
  · rintro i σ H' _ ⟨d, dc, x3, x4, x5, x6, x7, x8, x9, x10, rfl, sm, _⟩
    exact SqT.of (sm _ _ ha)
  · clear s1 s2 nd d
    rintro i x σ H1 hx ⟨d, dc, x3, x4, x5, x6, x7, x8, x9, x10, rfl, sm, nd, hd, hfo⟩
    obtain ⟨tot, htot, rfl⟩ := map_get hx
    rw [drop_at htot] at hfo
    obtain ⟨dc', hrow, hfo⟩ := bnd hfo
    intro e ne
    have ned : e ≠ d := fun z => by
      rw [z, hd] at ne
      cases ne
    have ne0 : H e = none := sm.free ne
    have sm2 := sm.trans (same_new ne (.dT []))
    have hd2 : upd H1 e (.dT []) d = some (.dT (dc.map enc)) := by rw [upd_ne (Ne.symm ned)]; exact hd
    refine ⟨d, _, hd2, trivial, fun od => ?_⟩
    have sm3 : Same H (upd (upd H1 e (.dT [])) d (.frz od (.dT (dc.map enc)))) := same_put sm2 nd
    have he3 : (upd (upd H1 e (.dT [])) d (.frz od (.dT (dc.map enc)))) e = some (.dT []) := by rw [upd_ne ned, upd_same]
    refine ⟨_, rfl, d, od, _, rfl, upd_same, ?_⟩
    refine for_itemsT (kvs := dc.map enc) (fun j σ H' => ∃ lc x5 x6 x7 x8 x9 x10, σ = [some (.ref a), some (.ref b), some (.ref d), some (.int tot), some (.ref e), x5, x6, x7, x8, x9, x10] ∧ Same H H' ∧ H' d = some (.frz od (.dT (dc.map enc))) ∧ H' e = some (.dT (lc.map enc)) ∧
      foldO (fun less (kv : List Int × Int) => (ptsM tot kv.1).bind fun sms => foldO (cntIn kv.1 kv.2) sms less) (dc.drop j) lc = some dc') ?_ ?_ ?_ ?_
    · exact ⟨[], _, _, _, _, _, _, rfl, sm3, upd_same, he3, hrow⟩
    · rintro j σ H' ⟨lc, x5, x6, x7, x8, x9, x10, rfl, _, hd', _⟩
      exact hd'
    · rintro j kk v q T σ H2 hkv hq ⟨lc, x5, x6, x7, x8, x9, x10, rfl, smA, hdA, heA, hfoA⟩ nT
      obtain ⟨⟨lf, many⟩, hdc, ekv⟩ : ∃ kv, dc[j]? = some kv ∧ enc kv = (kk, v) := by
        rw [List.getElem?_map] at hkv
        cases e0 : dc[j]? with
        | none => rw [e0] at hkv; cases hkv
        | some kv => rw [e0] at hkv; exact ⟨kv, rfl, Option.some.inj hkv⟩
      cases ekv
      rw [encK_kV] at hq
      rw [drop_at hdc] at hfoA
      obtain ⟨lc', hin, hfoA⟩ := bnd hfoA
      obtain ⟨sms, hsms, hin⟩ := bnd hin
      have smT := same_new nT (.tup [.ref q, .int many])
      refine ⟨T, _, rfl, SqT.of upd_same, rfl, _, _, rfl, _, _, rfl, rfl, ?_⟩
      refine ⟨_, rfl, _, rfl, tot, q, lf, sms, rfl, smT _ _ hq, hsms, fun l ws H3 s3 nl hl hws => ?_⟩
      refine ⟨l, rfl, ⟨_, SqL.of hl⟩, ?_⟩
      have hq3 := s3 _ _ (smT _ _ hq)
      have hd3 := s3 _ _ (smT _ _ hdA)
      have he3' := s3 _ _ (smT _ _ heA)
      have smB := smA.trans (smT.trans s3)
      have nle : l ≠ e := ne_of hl he3' (fun z => nomatch z)
      refine for_list (xs := ws) (fun jj σ H' => ∃ lc x7 x8 x9 x10, σ = [some (.ref a), some (.ref b), some (.ref d), some (.int tot), some (.ref e), some (.ref q), some (.int many), x7, x8, x9, x10] ∧ SB e H3 H' ∧ H' e = some (.dT (lc.map enc)) ∧
        foldO (cntIn lf many) (sms.drop jj) lc = some lc') ?_ ?_ ?_ ?_
      · exact ⟨lc, _, _, _, _, rfl, SB.refl _ _, he3', hin⟩
      · rintro jj σ H' _ ⟨lc, x7, x8, x9, x10, rfl, sb, _⟩
        exact SqL.of (sb _ _ nle hl)
      · rintro jj x σ H4 hx4 ⟨lc4, x7, x8, x9, x10, rfl, sb, he4, hfo4⟩
        obtain ⟨sm4, hsm4, qs, rfl, hqs⟩ := pr_get2 hws hx4
        rw [drop_at hsm4] at hfo4
        obtain ⟨lc5, hc5, hfo5⟩ := bnd hfo4
        obtain ⟨hg5, hc5⟩ := grd_ok hc5
        obtain ⟨g5, g6⟩ := and_ok hg5
        have e5 := Option.some.inj hc5
        have tk4 : TK H3 H4 := sb.tk he3' rfl
        -- the differences
        refine ⟨_, rfl, _, rfl, q, qs, _, _, rfl, .inr ⟨SqT.of (tk4 _ _ hq3), SqT.of (tk4 _ _ hqs), fun D nD => ?_⟩⟩
        refine lc_zipT (xs := lf.map V.int) (ys := sm4.map V.int) (fun i H' => Same H4 H' ∧ H' D = some (.lst (((subM lf sm4).take i).map V.int))) ?_ ?_ ?_ ?_
        · exact ⟨same_new nD _, upd_same⟩
        · rintro i H' ⟨s', _⟩
          exact ⟨SqT.of (s' _ _ (tk4 _ _ hq3)), SqT.of (s' _ _ (tk4 _ _ hqs))⟩
        · rintro i x y T2 H5 hx5 hy5 ⟨s5, hD5⟩ nT2
          obtain ⟨xn, hxn, rfl⟩ := map_get hx5
          obtain ⟨yn, hyn, rfl⟩ := map_get hy5
          refine ⟨T2, _, rfl, SqT.of upd_same, rfl, _, _, rfl, _, _, rfl, rfl, rfl, ?_⟩
          have hD6 : upd H5 T2 (.tup [.int xn, .int yn]) D = some (.lst (((subM lf sm4).take i).map V.int)) := by rw [upd_ne (ne_of_none hD5 nT2)]; exact hD5
          have gl : (((subM lf sm4).take i).map V.int).length < sizeLine := by
            rw [List.length_map, List.length_take, subM_len]
            exact small5 (by omega)
          refine ⟨_, rfl, _, rfl, _, _, rfl, rfl, _, hD6, gl, same_put (s5.trans (same_new nT2 _)) nD, ?_⟩
          rw [upd_same, subM_take hxn hyn, List.map_append]
          rfl
        · rintro H5 ⟨s5, hD5⟩
          rw [List.take_of_length_le (by rw [subM_len, List.length_map, List.length_map]; exact Nat.le_refl _)] at hD5
          refine ⟨D, _, rfl, SqL.of hD5, fun ns' p hperm hup np => ?_⟩
          have ens := sortI_eq hperm hup
          subst ens
          refine ⟨p, _, rfl, .inl ⟨SqL.of upd_same, fun t nt => ?_⟩⟩
          -- rest stands at t
          have s6 : Same H4 (upd (upd H5 p (.lst ((sortI (subM lf sm4)).map V.int))) t (.tup ((sortI (subM lf sm4)).map V.int))) := (s5.trans (same_new np _)).trans (same_new nt _)
          have he6 := s6 _ _ he4
          have ht6 : (upd (upd H5 p (.lst ((sortI (subM lf sm4)).map V.int))) t (.tup ((sortI (subM lf sm4)).map V.int))) t = some (.tup ((encK (sortI (subM lf sm4))).map kV)) := by rw [upd_same, encK_kV]
          refine ⟨_, rfl, e, rfl, .inr ⟨_, .inl he6⟩, _, rfl, _, DGet.t he6 ht6, ?_⟩
          rw [enc_getD]
          refine ⟨_, rfl, _, _, rfl, rfl, ?_⟩
          refine ⟨_, rfl, _, rfl, e, _, rfl, DPut.t he6 ht6 (by rw [List.length_map]; exact small5 (by omega)), ?_⟩
          rw [enc_put, e5]
          exact ⟨lc5, _, _, _, _, rfl, (sb.same s6).put _, upd_same, hfo5⟩
      · rintro σ H4 ⟨lc4, x7, x8, x9, x10, rfl, sb, he4, hfo4⟩
        rw [drop_end (by rw [Paired.length hws]; exact Nat.le_refl _)] at hfo4
        cases hfo4
        have nb : ∀ bb o, H bb = some o → bb ≠ e := fun bb o z => ne_of_none z ne0
        exact ⟨lc', _, _, _, _, _, _, rfl, fun bb o z => sb _ _ (nb bb o z) (smB _ _ z), sb _ _ (Ne.symm ned) hd3, he4, hfoA⟩
    · rintro σ H2 ⟨lc, x5, x6, x7, x8, x9, x10, rfl, smA, hdA, heA, hfoA⟩
      rw [drop_end (by rw [List.length_map]; exact Nat.le_refl _)] at hfoA
      cases hfoA
      refine ⟨hdA, _, rfl, ?_⟩
      exact ⟨e, dc', _, _, _, _, _, _, _, _, rfl, same_put smA nd, ne0, by rw [upd_ne ned]; exact heA, hfo⟩
  · clear s1 s2 nd d
    rintro σ H1 ⟨d, dc, x3, x4, x5, x6, x7, x8, x9, x10, rfl, sm, nd, hd, hfo⟩
    rw [drop_end (by rw [List.length_map]; exact Nat.le_refl _)] at hfo
    cases hfo
    have rest : ∀ H2 t, Same H1 H2 → H2 t = some (.tup ((List.replicate cols.length (0 : Int)).map V.int)) → ∃ o, DGet H2 d (.ref t) o ∧ Q (o.getD (.int 0)) H2 := by
      intro H2 t s2 ht
      refine ⟨_, DGet.t (k := encK (List.replicate cols.length 0)) (s2 _ _ hd) (by rw [encK_kV]; exact ht), ?_⟩
      rw [enc_getD, hm]
      exact k _ (sm.trans s2)
    refine ⟨_, rfl, d, rfl, .inr ⟨_, .inl hd⟩, (by show 1 ≤ sizeLine; decide), fun t nt => ?_⟩
    have st := same_new nt (.tup [.int 0])
    refine ⟨_, rfl, b, _, rfl, .inr (SqT.of (st _ _ (sm _ _ hb))), t, _, _, rfl, rfl, SqT.of upd_same, (fun z => nomatch z), (by rw [List.length_map]; omega), (by rw [List.length_map]; omega), (by show 1 ≤ 1000; decide), fun e1 => ?_, fun _ p np => ?_⟩
    · refine rest _ t st ?_
      rw [List.length_map] at e1
      have e2 : cols.length = 1 := by omega
      rw [upd_same, e2]
      rfl
    · refine rest _ p (st.trans (same_new np _)) ?_
      rw [upd_same, List.length_map, Int.toNat_natCast, cat_rep]
end
end LP

/-! table_count, square_polynomial -/
namespace LP
open PySem PySem.Spec PyProof.Rows L2
/-- (n,) * size -/
theorem rep_ok {K : PySem.W.Frag} {H : Hp} {n : Int} {sz : Nat} {t : Addr} {Q : VK} (h1 : 1 ≤ sz) (h3 : sz ≤ 1000) (ht : H t = some (.tup [.int n])) (k : ∀ p H', Same H H' → H' p = some (.tup ((List.replicate sz n).map V.int)) → Q (.ref p) H') : rRepA K (.ref t) (.int (sz : Int)) H Q := by
  refine ⟨t, _, _, rfl, rfl, SqT.of ht, (fun z => nomatch z), by omega, by omega, (by show 1 ≤ 1000; decide), fun e => ?_, fun _ p np => ?_⟩
  · have e1 : sz = 1 := by omega
    subst e1
    exact k t H (Same.refl _) ht
  · refine k p _ (same_new np _) ?_
    rw [upd_same, Int.toNat_natCast, rep_one, List.map_replicate]
section
variable {P : Program} {w : World} {K : PySem.W.Frag} {mg : Str → Option Value} {base : Heap} {f : Addr} {fd : FuncData}
/-! ### table_count -/
def spTc : Sp := fun vs H Q _ => ∃ a b rows cols r, vs = [.ref a, .ref b] ∧ H a = some (.tup (rows.map V.int)) ∧ H b = some (.tup (cols.map V.int)) ∧ tcM rows cols = some r ∧ ∀ H', Same H H' → Q (.int r) H'
theorem scTc : FnScope ["rows", "columns"] ["rows", "columns"] (defScope (topS 26)) := ⟨rfl, rfl, rfl, by decide +kernel, rfl, by decide +kernel, by decide +kernel⟩
theorem ok_tc (F : Fun K "table_count" "table_count" (topS 26) f fd) (m : mg "table_count" = some (.ref f)) (B : Bl mg) (GN : Df P w K mg base 2 "need_sums" ["value"] spNeed) (GC : Df P w K mg base 2 "count_of" ["rows", "columns"] spCnt) : Df P w K mg base 3 "table_count" ["rows", "columns"] spTc := by
  refine ⟨f, fd, F.ok scTc (fun vs H Q E h => ?_) (fun cdv A outer s H vs Q E hr h => ?_), m, F.kp, F.binds fun _ _ _ _ _ _ us hl => match us, hl with | [_, _], _ => rfl⟩
  · obtain ⟨_, _, _, _, _, rfl, _⟩ := h
    rfl
  obtain ⟨a, b, rows, cols, r, rfl, ha, hb, hm, k⟩ := h
  obtain ⟨hg, hm⟩ := grd_ok hm
  rw [Bool.and_eq_true] at hg
  refine ⟨_, pss_cons (ps_expr (pe_callD GN hr (by rfl) (pa_cons (pv 0) pa_nil))) (pss_cons (ps_expr (pe_callD GN hr (by rfl) (pa_cons (pv 1) pa_nil)))
    (pss_one (ps_ret (pe_callD GC hr (by rfl) (pa_cons (pv 0) (pa_cons (pe_callTy call_tuple_of (by rfl) B.tup (by decide +kernel) (pa_cons (pe_callB cr_sortedT (by rfl) B.sorted (by decide +kernel) (pa_cons (pv 1) pa_nil)) pa_nil)) pa_nil)))))), ?_⟩
  refine ⟨_, rfl, a, rows, rfl, ha, hg.1, fun H1 s1 => ?_⟩
  refine ⟨_, rfl, b, cols, rfl, s1 _ _ hb, hg.2, fun H2 s2 => ?_⟩
  have s12 := s1.trans s2
  refine ⟨_, rfl, _, rfl, b, cols, rfl, SqT.of (s12 _ _ hb), fun ns' p hp hu np => ?_⟩
  have e := sortI_eq hp hu
  subst e
  refine ⟨p, _, rfl, .inl ⟨SqL.of upd_same, fun t nt => ?_⟩⟩
  have s3 := s12.trans ((same_new np (.lst ((sortI cols).map V.int))).trans (same_new nt (.tup ((sortI cols).map V.int))))
  exact ⟨a, t, rows, sortI cols, r, rfl, s3 _ _ ha, upd_same, hm, fun H' s' => k _ (s3.trans s')⟩
/-! ### square_polynomial -/
def spSq (K : PySem.W.Frag) : Sp := fun vs H Q _ => ∃ (sz : Nat) (r : Pl), vs = [.int (sz : Int)] ∧ sqM sz = some r ∧ ∀ v H', Same H H' → PolV K H' v r → Q v H'
theorem scSq : FnScope ["size", "most", "n"] ["size"] (defScope (topS 27)) := ⟨rfl, rfl, rfl, by decide +kernel, rfl, by decide +kernel, by decide +kernel⟩
theorem ok_sq (F : Fun K "square_polynomial" "square_polynomial" (topS 27) f fd) (m : mg "square_polynomial" = some (.ref f)) (B : Bl mg) (GI : Df P w K mg base 1 "is_in" ["value", "least", "most"] spIsIn) (GC : Df P w K mg base 2 "count_of" ["rows", "columns"] spCnt)
    (GT : Df P w K mg base 5 "through_points" ["places", "values"] (spThr K)) : Df P w K mg base 6 "square_polynomial" ["size"] (spSq K) := by
  refine ⟨f, fd, F.ok scSq (fun vs H Q E h => ?_) (fun cdv A outer s H vs Q E hr h => ?_), m, F.kp, F.binds fun _ _ _ _ _ _ us hl => match us, hl with | [_], _ => rfl⟩
  · obtain ⟨_, _, rfl, _⟩ := h
    rfl
  obtain ⟨sz, r, rfl, hm, k⟩ := h
  obtain ⟨hg, hm⟩ := grd_ok hm
  obtain ⟨g1, g3⟩ := and_ok hg
  obtain ⟨vals, hv, hm⟩ := bnd hm
  have hr1 := hr.mono (show 1 ≤ 5 by decide)
  have hr2 := hr.mono (show 2 ≤ 5 by decide)
  have em : ((sz : Int) - 1) * ((sz : Int) - 1) + 1 = (((sz - 1) * (sz - 1) + 1 : Nat) : Int) := by
    rcases (show sz = 1 ∨ sz = 2 ∨ sz = 3 by omega) with rfl | rfl | rfl <;> rfl
  have bm : (sz - 1) * (sz - 1) + 1 ≤ 5 := by
    rcases (show sz = 1 ∨ sz = 2 ∨ sz = 3 by omega) with rfl | rfl | rfl <;> decide
  refine ⟨_, pss_cons (ps_if (pt_not (pt_val (pe_callD GI hr1 (by rfl) (pa_cons (pv 0) (pa_cons pe_int (pa_cons pe_int pa_nil)))))) (pss_one ps_never) pss_nil)
    (pss_cons (ps_set (i := 1) scSq.nd rfl (.inl rfl) (pe_op op_mul (pe_op op_sub (pv 0) pe_int) (pe_op op_sub (pv 0) pe_int)))
    (pss_one (ps_ret (pe_callD GT hr (by rfl) (pa_cons (pe_listRg rfl (by rfl) B.lst (prg_1 (by rfl) B.range (pe_op op_add (pv 1) pe_int))) (pa_cons
      (pe_lc (own := [("n", 2)]) (g := gName 2) (tt := tYes) rfl scSq.nd (pi_range1 (by rfl) B.range (pa_cons (pe_op op_add (pv 1) pe_int) pa_nil)) (blkOk_by (N := ["size", "most", "n"]) (sc := defScope (topS 27)) (by decide +kernel)) (fun _ _ _ _ _ => pg_name (i := 2) scSq.nd rfl (.inl rfl)) (fun _ _ _ _ _ => pts_nil)
        (fun _ _ _ _ _ => pe_tup (pa_cons (pe_callD GC hr2 (by rfl) (pa_cons (pe_op (r := rRepA K) op_repA (pe_tup (pa_cons (pv 2) pa_nil)) (pv 0)) (pa_cons (pe_op (r := rRepA K) op_repA (pe_tup (pa_cons (pv 2) pa_nil)) (pv 0)) pa_nil))) (pa_cons pe_int pa_nil)))) pa_nil)))))), ?_⟩
  refine ⟨_, rfl, _, _, _, rfl, _, rfl, ?_⟩
  rw [decide_eq_true (show (1 : Int) ≤ (sz : Int) by omega), decide_eq_true (show (sz : Int) ≤ 3 by omega)]
  refine iteF ?_
  refine ⟨_, rfl, _, _, rfl, rfl, _, rfl, _, _, rfl, rfl, _, _, rfl, rfl, .inl ⟨by omega, by omega⟩, ?_⟩
  refine ⟨_, rfl, _, _, rfl, rfl, _, rfl, RgOk.of_le (Int.le_refl 0) (by rw [em]; omega) (by decide) (by rw [em]; omega), fun p1 np1 => ?_⟩
  have eR : rgV 0 (((sz : Int) - 1) * ((sz : Int) - 1) + 1) = ((List.range ((sz - 1) * (sz - 1) + 1)).map fun (i : Nat) => (i : Int)).map V.int := by
    unfold rgV
    rw [em, Int.sub_zero, Int.toNat_natCast, List.map_map]
    apply List.map_congr_left
    intro i _
    show V.int (0 + (i : Int)) = V.int (i : Int)
    rw [Int.zero_add]
  rw [eR]
  have s1 := same_new np1 (.lst (((List.range ((sz - 1) * (sz - 1) + 1)).map fun (i : Nat) => (i : Int)).map V.int))
  generalize hH1 : upd H p1 (.lst (((List.range ((sz - 1) * (sz - 1) + 1)).map fun (i : Nat) => (i : Int)).map V.int)) = H1 at s1
  have h1p : H1 p1 = some (.lst (((List.range ((sz - 1) * (sz - 1) + 1)).map fun (i : Nat) => (i : Int)).map V.int)) := by rw [← hH1, upd_same]
  refine ⟨_, rfl, _, _, rfl, rfl, _, rfl, by rw [em]; omega, by rw [em]; omega, fun D nD => ?_⟩
  have en : (((sz : Int) - 1) * ((sz : Int) - 1) + 1).toNat = (sz - 1) * (sz - 1) + 1 := by rw [em, Int.toNat_natCast]
  refine lc_range (lo := 0) (n := (((sz : Int) - 1) * ((sz : Int) - 1) + 1).toNat) (fun i H' => ∃ acc ac, Same H1 H' ∧ H' D = some (.lst acc) ∧ Paired (RatV K H') acc ac ∧ acc.length ≤ i ∧ loopO (sqIn sz) ((((sz : Int) - 1) * ((sz : Int) - 1) + 1).toNat - i) i ac = some vals) ?_ ?_ ?_
  · exact ⟨[], [], same_new nD _, upd_same, .nil, Nat.le_refl _, by rw [en]; exact hv⟩
  · rintro i H2 hi ⟨acc, ac, sm, hD, hacc, hle, hlo⟩
    rw [loop_step hi] at hlo
    obtain ⟨ac', hac, hlo'⟩ := bnd hlo
    obtain ⟨c, hc, ec⟩ := mpd hac
    rw [en] at hi
    refine ⟨rfl, ?_⟩
    refine ⟨_, rfl, (by show 1 ≤ sizeLine; decide), fun t1 nt1 => ⟨_, rfl, ?_⟩⟩
    have st1 := same_new nt1 (.tup [.int (0 + (i : Int))])
    refine rep_ok g1 (by omega) upd_same fun q1 H3 s3 hq1 => ?_
    refine ⟨_, rfl, (by show 1 ≤ sizeLine; decide), fun t2 nt2 => ⟨_, rfl, ?_⟩⟩
    have st2 := same_new nt2 (.tup [.int (0 + (i : Int))])
    refine rep_ok g1 (by omega) upd_same fun q2 H4 s4 hq2 => ?_
    rw [Int.zero_add] at hq1 hq2 s3 s4 st1 st2
    have s24 : Same H2 H4 := (st1.trans s3).trans (st2.trans s4)
    refine ⟨q1, q2, _, _, c, rfl, (st2.trans s4) _ _ hq1, hq2, hc, fun H5 s5 => ?_⟩
    refine ⟨(by show 2 ≤ sizeLine; decide), fun t3 nt3 => ?_⟩
    have hD5 := s5 _ _ (s24 _ _ hD)
    have s6 := same_new nt3 (.tup [.int c, .int 1])
    refine ⟨acc, s6 _ _ hD5, small5 (by omega), acc ++ [.ref t3], ac', same_put ((sm.trans (s24.trans s5)).trans s6) nD, upd_same, ?_, by rw [List.length_append]; show acc.length + 1 ≤ i + 1; omega, hlo'⟩
    rw [← ec]
    have tk6 : TK (upd H5 t3 (.tup [.int c, .int 1])) (upd (upd H5 t3 (.tup [.int c, .int 1])) D (.lst (acc ++ [.ref t3]))) := TK.put (s6 _ _ hD5) rfl
    exact pr_snoc (rats_tk hacc ((TK.of ((s24.trans s5).trans s6)).trans tk6)) ((RatV.new (a := c) (b := 1)).tk tk6)
  · rintro H2 ⟨acc, ac, sm, hD, hacc, hle, hlo⟩
    rw [loop_end] at hlo
    cases hlo
    exact ⟨p1, D, _, acc, vals, r, rfl, sm _ _ h1p, hD, hacc, hm, fun v H' s' pv' => k _ _ (s1.trans (sm.trans s')) pv'⟩
end
end LP

/-! the law's is_ratio, is_polynomial, value -/
namespace LP
open PySem PySem.Spec PyProof.Rows L2
theorem tt_ty {K : PySem.W.Frag} {H : Hp} {p : Addr} {xs : List V} (h : TT K H p xs) : TyX K H (.ref p) (.type "tuple") := by
  rcases h with h | ⟨o, its, n, e, c, _⟩
  · exact .base (.tup h)
  · exact .kTuple e c
theorem two_get {a b : Int} {i : Nat} {x : V} (h : ([V.int a, V.int b] : List V)[i]? = some x) : ∃ n, x = .int n := by
  match i, h with
  | 0, h => exact ⟨a, (Option.some.inj h).symm⟩
  | 1, h => exact ⟨b, (Option.some.inj h).symm⟩
section
variable {P : Program} {w : World} {K : PySem.W.Frag} {mg : Str → Option Value} {base : Heap} {f : Addr} {fd : FuncData}
/-! ### _law_is_ratio -/
def spIsRat (K : PySem.W.Frag) : Sp := fun vs H Q _ => ∃ v q, vs = [v] ∧ RatV K H v q ∧ isRatM q = some true ∧ ∀ H', Same H H' → Q (.bl true) H'
theorem scIsRat : FnScope ["_law_value_here", "_law_x"] ["_law_value_here"] (defScope (topS 32)) := ⟨rfl, rfl, rfl, by decide +kernel, rfl, by decide +kernel, by decide +kernel⟩
theorem ok_israt (F : Fun K "_law_is_ratio" "_law_is_ratio" (topS 32) f fd) (m : mg "_law_is_ratio" = some (.ref f)) (B : Bl mg) (GG : Df P w K mg base 1 "_law_gcd" ["_law_one", "_law_other"] spGcd) : Df P w K mg base 2 "_law_is_ratio" ["_law_value_here"] (spIsRat K) := by
  refine ⟨f, fd, F.ok scIsRat (fun vs H Q E h => ?_) (fun cdv A outer s H vs Q E hr h => ?_), m, F.kp, F.binds fun _ _ _ _ _ _ us hl => match us, hl with | [_], _ => rfl⟩
  · obtain ⟨_, _, rfl, _⟩ := h
    rfl
  obtain ⟨_, q, rfl, ⟨p, rfl, hp⟩, hm, k⟩ := h
  have hb : ¬ q.2 < 1 := fun e => by
    unfold isRatM at hm
    rw [if_pos e] at hm
    cases hm
  have hm2 : (gcdM q.1 q.2).map (fun g => decide (g = 1)) = some true := by
    unfold isRatM at hm
    rw [if_neg hb] at hm
    exact hm
  obtain ⟨g, hg, eg⟩ := mpd hm2
  refine ⟨_, pss_cons (ps_if (PW.pt (pw_or (pt_not (pt_val (pe_callB call_isi (by rfl) B.isi (by decide +kernel) (pa_cons (pv 0) (pa_cons (pe_bltn (v := .ty "tuple") (u := .type "tuple") (by rfl) B.tup (by decide +kernel) rfl) pa_nil)))))
      (pw_or1 (pt_cmpR op_ne (pe_callB call_len_seq (by rfl) B.len PySem.boot_len (pa_cons (pv 0) pa_nil)) pe_int (nomark _))))) (pss_one (ps_ret pe_bl)) pss_nil)
    (pss_cons (ps_if (PW.pt (pw_or (pt_cmpR (op_neD hr.units) (pe_lc (own := [("_law_x", 1)]) (g := gName 1) rfl scIsRat.nd (pi_tup (pv 0)) (blkOk_by (N := ["_law_value_here", "_law_x"]) (sc := defScope (topS 32)) (by decide +kernel)) (fun _ _ _ _ _ => pg_name (i := 1) scIsRat.nd rfl (.inl rfl))
        (fun _ _ _ _ _ => pts_one (PW.pt (pw_or (pt_not (pt_val (pe_callB (r := rIsi K) call_isi (by rfl) B.isi (by decide +kernel) (pa_cons (pv 1) (pa_cons (pe_bltn (v := .ty "int") (u := .type "int") (by rfl) B.int (by decide +kernel) rfl) pa_nil)))))
          (pw_or1 (pt_val (pe_callB (r := rIsi K) call_isi (by rfl) B.isi (by decide +kernel) (pa_cons (pv 1) (pa_cons (pe_bltn (v := .ty "bool") (u := .type "bool") (by rfl) B.bool (by decide +kernel) rfl) pa_nil)))))))) (fun _ _ _ _ _ => pv 1)) (pe_lst pa_nil) (nomark _))
      (pw_or1 (pt_cmpR op_lt (pe_ix ix_tup (pv 0) pe_int (fun _ _ => rfl)) pe_int (nomark _))))) (pss_one (ps_ret pe_bl)) pss_nil)
    (pss_one (ps_ret (pe_cmpR op_eq (pe_callD GG hr (by rfl) (pa_cons (pe_ix ix_tup (pv 0) pe_int (fun _ _ => rfl)) (pa_cons (pe_ix ix_tup (pv 0) pe_int (fun _ _ => rfl)) pa_nil))) pe_int (nomark _))))), ?_⟩
  refine ⟨_, rfl, _, _, .type "tuple", .type "tuple", true, rfl, .ty _, tt_ty hp, kit_ty (by decide +kernel), _, rfl, iteF ?_⟩
  refine ⟨_, rfl, p, _, rfl, .inr hp.seq, rfl, _, rfl, ?_⟩
  refine iteF ?_
  refine ⟨_, rfl, p, rfl, ⟨_, hp.seq⟩, fun D nD => ?_⟩
  refine lc_tup (xs := [.int q.1, .int q.2]) (fun i H' => Same H H' ∧ H' D = some (.lst [])) ?_ ?_ ?_ ?_
  · exact ⟨same_new nD _, upd_same⟩
  · rintro i H' _ ⟨sm, _⟩
    exact (hp.tk (TK.of sm)).seq
  · rintro i x H' hx ⟨sm, hD⟩
    obtain ⟨n, rfl⟩ := two_get hx
    refine ⟨rfl, _, rfl, _, _, .type "int", .type "int", true, rfl, .ty _, .base (.int _), kit_ty (by decide +kernel), _, rfl, iteF ?_⟩
    refine ⟨_, rfl, _, _, .type "int", .type "bool", false, rfl, .ty _, .base (.int _), kit_ty (by decide +kernel), _, rfl, iteF ?_⟩
    exact ⟨sm, hD⟩
  · rintro H' ⟨sm, hD⟩
    refine ⟨Nat.zero_le _, fun e ne => ?_⟩
    have hD' : upd H' e (.lst []) D = some (.lst []) := by rw [upd_ne (ne_of_none hD ne)]; exact hD
    have sm2 := sm.trans (same_new ne (.lst []))
    have hp2 := (hp.tk (TK.of sm2)).seq
    refine ⟨.list [], .list [], .lst (SqL.of hD') .nil, .lst (SqL.of upd_same) .nil, rfl, rfl, _, rfl, iteF ?_⟩
    refine ⟨_, rfl, p, _, _, _, rfl, rfl, hp2, at1, _, _, rfl, rfl, _, rfl, ?_⟩
    rw [decide_eq_false hb]
    refine iteF ?_
    refine ⟨_, rfl, p, _, _, _, rfl, rfl, hp2, at0, _, rfl, p, _, _, _, rfl, rfl, hp2, at1, q.1, q.2, g, rfl, hg, rfl, ?_⟩
    have e1 : g = 1 := of_decide_eq_true eg
    rw [e1]
    exact k _ sm2
/-! ### _law_is_polynomial -/
def spIsPol (K : PySem.W.Frag) : Sp := fun vs H Q _ => ∃ v q, vs = [v] ∧ PolV K H v q ∧ (∀ p ∈ q, isRatM p = some true) ∧ (∃ q' b, q = q' ++ [b] ∧ b ≠ (0, 1)) ∧ ∀ H', Same H H' → Q (.bl true) H'
theorem scIsPol : FnScope ["_law_value_here", "_law_one"] ["_law_value_here"] (defScope (topS 33)) := ⟨rfl, rfl, rfl, by decide +kernel, rfl, by decide +kernel, by decide +kernel⟩
theorem ok_ispol (F : Fun K "_law_is_polynomial" "_law_is_polynomial" (topS 33) f fd) (m : mg "_law_is_polynomial" = some (.ref f)) (B : Bl mg) (GR : Df P w K mg base 2 "_law_is_ratio" ["_law_value_here"] (spIsRat K)) : Df P w K mg base 3 "_law_is_polynomial" ["_law_value_here"] (spIsPol K) := by
  refine ⟨f, fd, F.ok scIsPol (fun vs H Q E h => ?_) (fun cdv A outer s H vs Q E hr h => ?_), m, F.kp, F.binds fun _ _ _ _ _ _ us hl => match us, hl with | [_], _ => rfl⟩
  · obtain ⟨_, _, rfl, _⟩ := h
    rfl
  obtain ⟨_, q, rfl, ⟨p, vs, rfl, hp, hq⟩, hall, ⟨q', b, eq, hb⟩, k⟩ := h
  refine ⟨_, pss_cons (ps_if (PW.pt (pw_or (pt_not (pt_val (pe_callB call_isi (by rfl) B.isi (by decide +kernel) (pa_cons (pv 0) (pa_cons (pe_bltn (v := .ty "tuple") (u := .type "tuple") (by rfl) B.tup (by decide +kernel) rfl) pa_nil)))))
      (pw_or1 (pt_cmpR (op_neD hr.units) (pe_lc (own := [("_law_one", 1)]) (g := gName 1) rfl scIsPol.nd (pi_tup (pv 0)) (blkOk_by (N := ["_law_value_here", "_law_one"]) (sc := defScope (topS 33)) (by decide +kernel)) (fun _ _ _ _ _ => pg_name (i := 1) scIsPol.nd rfl (.inl rfl))
        (fun _ _ _ _ _ => pts_one (pt_not (pt_val (pe_callD GR hr (by rfl) (pa_cons (pv 1) pa_nil))))) (fun _ _ _ _ _ => pv 1)) (pe_lst pa_nil) (nomark _))))) (pss_one (ps_ret pe_bl)) pss_nil)
    (pss_one (ps_ret (pe_or (pe_cmpR (op_eqD hr.units) (pv 0) (pe_tup pa_nil) (nomark _)) (pe_one (pe_cmpR (op_neD hr.units) (pe_ix ix_tup (pv 0) (pe_un un_neg pe_int) (fun _ _ => rfl)) (pe_tup (pa_cons pe_int (pa_cons pe_int pa_nil))) (nomark _)))))), ?_⟩
  refine ⟨_, rfl, _, _, .type "tuple", .type "tuple", true, rfl, .ty _, tt_ty hp, kit_ty (by decide +kernel), _, rfl, iteF ?_⟩
  refine ⟨_, rfl, p, rfl, ⟨_, hp.seq⟩, fun D nD => ?_⟩
  refine lc_tup (xs := vs) (fun i H' => Same H H' ∧ H' D = some (.lst [])) ?_ ?_ ?_ ?_
  · exact ⟨same_new nD _, upd_same⟩
  · rintro i H' _ ⟨sm, _⟩
    exact (hp.tk (TK.of sm)).seq
  · rintro i x H' hx ⟨sm, hD⟩
    obtain ⟨r, hr1, hrv⟩ := pr_get2 hq hx
    refine ⟨rfl, _, rfl, _, _, rfl, hrv.tk (TK.of sm), hall r (List.mem_of_getElem? hr1), fun H2 s2 => ⟨_, rfl, iteF ?_⟩⟩
    exact ⟨sm.trans s2, s2 _ _ hD⟩
  · rintro H' ⟨sm, hD⟩
    refine ⟨Nat.zero_le _, fun e ne => ?_⟩
    have hD' : upd H' e (.lst []) D = some (.lst []) := by rw [upd_ne (ne_of_none hD ne)]; exact hD
    have sm2 := sm.trans (same_new ne (.lst []))
    refine ⟨.list [], .list [], .lst (SqL.of hD') .nil, .lst (SqL.of upd_same) .nil, rfl, rfl, _, rfl, iteF ?_⟩
    refine ⟨_, rfl, (by show 0 ≤ sizeLine; decide), fun t nt => ?_⟩
    have sm3 := sm2.trans (same_new nt (.tup []))
    have hp3 := (hp.tk (TK.of sm3)).seq
    have hq3 := rats_tk hq (TK.of sm3)
    refine ⟨.tuple (q.map ratD), .tuple [], .tup hp3 (rats_dp hq3), .tup (SqT.of upd_same) .nil, shp_tup q, rfl, _, rfl, ?_⟩
    rw [eqv_tnil, eq, show (q' ++ [b]).isEmpty = false by simp]
    refine iteF ?_
    rw [eq] at hq3
    obtain ⟨vs', v, evs, _, hv⟩ := pr_last hq3
    rw [evs] at hp3
    refine ⟨_, rfl, 1, rfl, p, _, _, v, rfl, rfl, hp3, atI_last vs' v, (by show 2 ≤ sizeLine; decide), fun t2 nt2 => ?_⟩
    have tk4 := TK.new (o := .tup [.int 0, .int 1]) nt2
    refine ⟨ratD b, ratD (0, 1), rat_dp (hv.tk tk4), rat_dp (RatV.new (a := 0) (b := 1)), shp_rat _, shp_rat _, ?_⟩
    rw [eqv_rat, decide_eq_false hb]
    exact k _ (sm3.trans (same_new nt2 _))
/-! ### _law_value -/
def spLval (K : PySem.W.Frag) : Sp := fun vs H Q _ => ∃ v q n r, vs = [v, .int n] ∧ PolV K H v q ∧ lvalM q n = some r ∧ ∀ v H', Same H H' → RatV K H' v r → Q v H'
theorem scLval : FnScope ["_law_poly", "_law_n", "_law_total", "_law_power", "_law_one"] ["_law_poly", "_law_n"] (defScope (topS 37)) := ⟨rfl, rfl, rfl, by decide +kernel, rfl, by decide +kernel, by decide +kernel⟩
theorem ok_lval (F : Fun K "_law_value" "_law_value" (topS 37) f fd) (m : mg "_law_value" = some (.ref f)) (B : Bl mg) (GT : Df P w K mg base 3 "_law_times" ["_law_one", "_law_other"] (sp2R K timesM)) (GP : Df P w K mg base 3 "_law_plus" ["_law_one", "_law_other"] (sp2R K plusM)) : Df P w K mg base 4 "_law_value" ["_law_poly", "_law_n"] (spLval K) := by
  refine ⟨f, fd, F.ok scLval (fun vs H Q E h => ?_) (fun cdv A outer s H vs Q E hr h => ?_), m, F.kp, F.binds fun _ _ _ _ _ _ us hl => match us, hl with | [_, _], _ => rfl⟩
  · obtain ⟨_, _, _, _, rfl, _⟩ := h
    rfl
  obtain ⟨_, q, n, r, rfl, ⟨p, vs, rfl, hp, hq⟩, hm, k⟩ := h
  obtain ⟨fin, hf, hm⟩ := mpd hm
  refine ⟨_, pss_cons (ps_asg (pe_tup (pa_cons (pe_tup (pa_cons pe_int (pa_cons pe_int pa_nil))) (pa_cons pe_int pa_nil))) (pg_tup rfl (pgs_cons (pg_name (i := 2) scLval.nd rfl (.inl rfl)) (pgs_cons (pg_name (i := 3) scLval.nd rfl (.inl rfl)) pgs_nil))))
    (pss_cons (ps_for PassesOwn.never rfl (pi_tup (pv 0)) (pg_name (i := 4) scLval.nd rfl (.inl rfl))
      (pss_cons (ps_set (i := 2) scLval.nd rfl (.inl rfl) (pe_callD GP hr (by rfl) (pa_cons (pv 2) (pa_cons (pe_callD GT hr (by rfl) (pa_cons (pv 4) (pa_cons (pe_tup (pa_cons (pv 3) (pa_cons pe_int pa_nil))) pa_nil))) pa_nil))))
      (pss_one (ps_set (i := 3) scLval.nd rfl (.inl rfl) (pe_op op_mul (pv 3) (pv 1))))))
    (pss_one (ps_ret (pv 2)))), ?_⟩
  refine ⟨(by show 2 ≤ sizeLine; decide), fun t0 nt0 => ⟨(by show 2 ≤ sizeLine; decide), fun t00 nt00 => ⟨t00, _, rfl, SqT.of upd_same, rfl, _, _, rfl, _, _, rfl, rfl, ?_⟩⟩⟩
  have s0 := (same_new nt0 (.tup [.int 0, .int 1])).trans (same_new nt00 (.tup [.ref t0, .int 1]))
  refine ⟨_, rfl, p, rfl, ⟨_, (hp.tk (TK.of s0)).seq⟩, ?_⟩
  refine for_tup (xs := vs) (fun i σ H' => ∃ vt st x4, σ = [some (.ref p), some (.int n), some vt, some (.int st.2), x4] ∧ Same H H' ∧ RatV K H' vt st.1 ∧ foldO (lvalIn n) (q.drop i) st = some fin) ?_ ?_ ?_ ?_
  · exact ⟨_, ((0, 1), 1), none, rfl, s0, (RatV.new (a := 0) (b := 1)).tk (TK.new nt00), hf⟩
  · rintro i σ H' _ ⟨vt, st, x4, rfl, sm, _⟩
    exact (hp.tk (TK.of sm)).seq
  · rintro i x σ H' hx ⟨vt, st, x4, rfl, sm, ht, hfo⟩
    obtain ⟨b, hb, hxb⟩ := pr_get2 hq hx
    rw [drop_at hb] at hfo
    obtain ⟨st', hst, hfo'⟩ := bnd hfo
    obtain ⟨t, hT, hst⟩ := bnd hst
    obtain ⟨u, hU, hst⟩ := bnd hst
    obtain ⟨m2, hM, est⟩ := mpd hst
    obtain ⟨bm, em⟩ := mul_ok hM
    subst em
    refine ⟨_, rfl, _, rfl, _, rfl, (by show 2 ≤ sizeLine; decide), fun t1 nt1 => ?_⟩
    have s1 := same_new nt1 (.tup [.int st.2, .int 1])
    refine ⟨_, _, _, _, _, rfl, hxb.tk (TK.of (sm.trans s1)), RatV.new (a := st.2) (b := 1), hT, fun v2 H2 s2 r2 => ?_⟩
    refine ⟨_, _, _, _, _, rfl, ht.tk (TK.of (s1.trans s2)), r2, hU, fun v3 H3 s3 r3 => ?_⟩
    refine ⟨_, rfl, _, rfl, _, _, rfl, rfl, .inl bm, ?_⟩
    rw [← est] at hfo'
    exact ⟨v3, (u, st.2 * n), _, rfl, sm.trans (s1.trans (s2.trans s3)), r3, hfo'⟩
  · rintro σ H' ⟨vt, st, x4, rfl, sm, ht, hfo⟩
    rw [drop_end (by rw [Paired.length hq]; exact Nat.le_refl _)] at hfo
    cases hfo
    rw [hm] at ht
    exact ⟨_, rfl, k _ _ sm ht⟩
end
end LP

/-! the law's table count, its draws -/
namespace LP
open PySem PySem.Spec PyProof.Rows L2
theorem cut_one (xs : List V) : cutV xs (some 1) none = xs.drop 1 := by
  unfold cutV
  rw [show HT.sIx xs.length 0 (some 1) = min 1 xs.length from HT.sIx_nat xs.length 0 1, HT.sIx_none]
  cases xs with
  | nil => rfl
  | cons x r =>
    rw [show min 1 (x :: r).length = 1 by
      rw [List.length_cons]
      omega]
    show (List.take ((x :: r).length - 1) r) = r
    rw [List.length_cons, Nat.add_sub_cancel]
    exact List.take_length
section
variable {P : Program} {w : World} {K : PySem.W.Frag} {mg : Str → Option Value} {base : Heap} {f : Addr} {fd : FuncData}
/-! ### _law_table_count -/
def spLtc (n : Nat) : Sp := fun vs H Q _ => ∃ a b rows cols r, vs = [.ref a, .ref b] ∧ H a = some (.tup (rows.map V.int)) ∧ H b = some (.tup (cols.map V.int)) ∧ rows.length ≤ n ∧ ltcM rows cols = some r ∧ ∀ H', Same H H' → Q (.int r) H'
theorem scLtc : FnScope ["_law_rows", "_law_columns", "_law_total", "_law_some", "_law_limit", "_law_longer", "_law_one", "_law_x", "_law_k"] ["_law_rows", "_law_columns"] (defScope (topS 30)) := ⟨rfl, rfl, rfl, by decide +kernel, rfl, by decide +kernel, by decide +kernel⟩
theorem ltc_step {n : Nat} (F : Fun K "_law_table_count" "_law_table_count" (topS 30) f fd) (m : mg "_law_table_count" = some (.ref f)) (B : Bl mg) (G : Df P w K mg base n "_law_table_count" ["_law_rows", "_law_columns"] (spLtc n)) : Df P w K mg base (n + 1) "_law_table_count" ["_law_rows", "_law_columns"] (spLtc (n + 1)) := by
  refine ⟨f, fd, F.ok scLtc (fun vs H Q E h => ?_) (fun cdv A outer s H vs Q E hr h => ?_), m, F.kp, F.binds fun _ _ _ _ _ _ us hl => match us, hl with | [_, _], _ => rfl⟩
  · obtain ⟨_, _, _, _, _, rfl, _⟩ := h
    rfl
  obtain ⟨a, b, rows, cols, r, rfl, ha, hb, hn, hm, k⟩ := h
  refine ⟨_, pss_cons (ps_if (pt_cmpR op_eq (pe_callB call_len_seq (by rfl) B.len PySem.boot_len (pa_cons (pv 0) pa_nil)) pe_int (nomark _))
      (pss_one (ps_ret (pe_ifExp (pt_cmpR op_eq (pe_ix ix_tup (pv 0) pe_int (fun _ _ => rfl)) (pe_callB (cr_sumT rfl) (by rfl) B.sum (by decide +kernel) (pa_cons (pv 1) pa_nil)) (nomark _)) pe_int pe_int))) pss_nil)
    (pss_cons (ps_par rfl scLtc.nd (i := 2) (j := 3) rfl rfl (by decide) rfl rfl (pa_cons pe_int (pa_cons (pe_lst (pa_cons (pe_tup pa_nil) pa_nil)) pa_nil)) (by rfl))
    (pss_cons (ps_for PassesOwn.never rfl (pi_tup (pv 1)) (pg_name (i := 4) scLtc.nd rfl (.inl rfl))
      (pss_cons (ps_set (i := 5) scLtc.nd rfl (.inl rfl) (pe_lst pa_nil))
      (pss_cons (ps_for PassesOwn.never rfl (pi_list (pv 3)) (pg_name (i := 6) scLtc.nd rfl (.inr rfl))
        (pss_one (ps_set (i := 5) scLtc.nd rfl (.inl rfl) (pe_op op_cat (pv 5)
          (pe_lc (own := [("_law_x", 7)]) (g := gName 7) (tt := tYes) rfl scLtc.nd (pi_range1 (by rfl) B.range (pa_cons (pe_op op_add (pe_callB (call_min2 rfl) (by rfl) B.min (by decide +kernel) (pa_cons (pv 4) (pa_cons (pe_op op_sub (pe_ix ix_tup (pv 0) pe_int (fun _ _ => rfl)) (pe_callB (cr_sumT rfl) (by rfl) B.sum (by decide +kernel) (pa_cons (pv 6) pa_nil))) pa_nil))) pe_int) pa_nil))
            (blkOk_by (N := ["_law_rows", "_law_columns", "_law_total", "_law_some", "_law_limit", "_law_longer", "_law_one", "_law_x", "_law_k"]) (sc := defScope (topS 30)) (by decide +kernel)) (fun _ _ _ _ _ => pg_name (i := 7) scLtc.nd rfl (.inl rfl)) (fun _ _ _ _ _ => pts_nil)
            (fun _ _ _ _ _ => pe_op (r := rCatA K) op_catA (pv 6) (pe_tup (pa_cons (pv 7) pa_nil))))))))
      (pss_one (ps_set (i := 3) scLtc.nd rfl (.inl rfl) (pv 5))))))
    (pss_cons (ps_for PassesOwn.never rfl (pi_list (pv 3)) (pg_name (i := 6) scLtc.nd rfl (.inr rfl))
      (pss_one (ps_if (pt_cmpR op_eq (pe_callB (cr_sumT rfl) (by rfl) B.sum (by decide +kernel) (pa_cons (pv 6) pa_nil)) (pe_ix ix_tup (pv 0) pe_int (fun _ _ => rfl)) (nomark _))
        (pss_one (ps_set (i := 2) scLtc.nd rfl (.inl rfl) (pe_op op_add (pv 2) (pe_callD G hr (by rfl) (pa_cons (pe_slice sl_tupA (pv 0) (po_some pe_int) po_none) (pa_cons (pe_callTy call_tuple_of (by rfl) B.tup (by decide +kernel) (pa_cons
          (pe_lc (own := [("_law_k", 8)]) (g := gName 8) (tt := tYes) rfl scLtc.nd (pi_range1 (by rfl) B.range (pa_cons (pe_callB call_len_seq (by rfl) B.len PySem.boot_len (pa_cons (pv 1) pa_nil)) pa_nil))
            (blkOk_by (N := ["_law_rows", "_law_columns", "_law_total", "_law_some", "_law_limit", "_law_longer", "_law_one", "_law_x", "_law_k"]) (sc := defScope (topS 30)) (by decide +kernel)) (fun _ _ _ _ _ => pg_name (i := 8) scLtc.nd rfl (.inl rfl)) (fun _ _ _ _ _ => pts_nil)
            (fun _ _ _ _ _ => pe_op op_sub (pe_ix (r := rIxT K) ix_tup (pv 1) (pv 8) (fun _ _ => rfl)) (pe_ix (r := rIxT K) ix_tup (pv 6) (pv 8) (fun _ _ => rfl)))) pa_nil)) pa_nil))))))
        pss_nil)))
    (pss_one (ps_ret (pv 2)))))), ?_⟩
  refine ⟨_, rfl, a, _, rfl, .inr (SqT.of ha), rfl, _, rfl, ?_⟩
  rw [dec_int, List.length_map]
  match rows, ha, hn, hm with
  | [], _, _, hm => exact nomatch hm
  | [r0], ha, hn, hm =>
    refine iteT ?_
    have hm' := Option.some.inj hm
    refine ⟨_, rfl, a, _, _, _, rfl, rfl, SqT.of ha, rfl, _, rfl, b, cols, rfl, SqT.of hb, rfl, _, rfl, ?_⟩
    rw [dec_int]
    by_cases e : r0 = cols.sum
    · rw [if_pos e] at hm'
      rw [show (r0 == cols.sum) = true from beq_iff_eq.mpr e]
      refine iteT ?_
      show Q (.int 1) H
      rw [hm']
      exact k H (Same.refl _)
    · rw [if_neg e] at hm'
      rw [show (r0 == cols.sum) = false from beq_eq_false_iff_ne.mpr e]
      refine iteF ?_
      show Q (.int 0) H
      rw [hm']
      exact k H (Same.refl _)
  | r0 :: r1 :: rest, ha, hn, hm =>
    obtain ⟨hg, hm⟩ := grd_ok hm
    have gc := of_decide_eq_true hg
    obtain ⟨sms, hsm, hm⟩ := bnd hm
    have ha0 : atI ((r0 :: r1 :: rest).map V.int) 0 = some (.int r0) := at_of (j := 0) rfl rfl
    rw [show ((((r0 :: r1 :: rest).length : Nat) : Int) == 1) = false from beq_eq_false_iff_ne.mpr (by rw [List.length_cons, List.length_cons]; omega)]
    refine iteF ?_
    refine ⟨(by show 0 ≤ sizeLine; decide), fun t0 nt0 => ⟨(by show 1 ≤ sizeLine; decide), fun l0 nl0 => ⟨_, _, rfl, ?_⟩⟩⟩
    have s0 := (same_new nt0 (.tup [])).trans (same_new nl0 (.lst [.ref t0]))
    have P0 : IntT (upd (upd H t0 (.tup [])) l0 (.lst [.ref t0])) (.ref t0) [] := ⟨t0, rfl, TK.new nl0 _ _ upd_same⟩
    refine ⟨_, rfl, b, rfl, ⟨_, SqT.of (s0 _ _ hb)⟩, ?_⟩
    refine for_tup (xs := cols.map V.int) (fun i σ H' => ∃ l ws fs x4 x5 x6 x7 x8, σ = [some (.ref a), some (.ref b), some (.int 0), some (.ref l), x4, x5, x6, x7, x8] ∧ Same H H' ∧ H' l = some (.lst ws) ∧ Paired (IntT H') ws fs ∧
      foldO (fun sm limit => foldO (lgIn r0 limit) sm []) (cols.drop i) fs = some sms) ?_ ?_ ?_ ?_
    · exact ⟨l0, [.ref t0], [[]], none, none, none, none, none, rfl, s0, upd_same, .cons P0 .nil, hsm⟩
    · rintro i σ H' _ ⟨l, ws, fs, x4, x5, x6, x7, x8, rfl, sm, _⟩
      exact SqT.of (sm _ _ hb)
    · rintro i x σ H1 hx ⟨l, ws, fs, x4, x5, x6, x7, x8, rfl, sm, hl, hws, hfo⟩
      obtain ⟨lim, hlim, rfl⟩ := map_get hx
      rw [drop_at hlim] at hfo
      obtain ⟨fs', hst, hfo⟩ := bnd hfo
      refine ⟨(by show 0 ≤ sizeLine; decide), fun l2 nl2 => ?_⟩
      have sA := same_new nl2 (.lst [])
      refine ⟨_, rfl, l, rfl, ⟨_, SqL.of (sA _ _ hl)⟩, ?_⟩
      refine for_list (xs := ws) (fun j σ H' => ∃ lo xs ac x6 x7 x8, σ = [some (.ref a), some (.ref b), some (.int 0), some (.ref l), some (.int lim), some (.ref lo), x6, x7, x8] ∧ Same H1 H' ∧ H' lo = some (.lst xs) ∧ Paired (IntT H') xs ac ∧
        foldO (lgIn r0 lim) (fs.drop j) ac = some fs') ?_ ?_ ?_ ?_
      · exact ⟨l2, [], [], _, _, _, rfl, sA, upd_same, .nil, hst⟩
      · rintro j σ H' _ ⟨lo, xs, ac, x6, x7, x8, rfl, sB, _⟩
        exact SqL.of (sB _ _ hl)
      · rintro j x σ H2 hx2 ⟨lo, xs, ac, x6, x7, x8, rfl, sB, hlo, hac, hfo2⟩
        obtain ⟨one, hone, q, rfl, hq⟩ := pr_get2 hws hx2
        rw [drop_at hone] at hfo2
        obtain ⟨ac', hin, hfo2⟩ := bnd hfo2
        obtain ⟨hg2, hin⟩ := grd_ok hin
        rw [Bool.and_eq_true, Bool.and_eq_true, Bool.and_eq_true] at hg2
        obtain ⟨⟨⟨g1, g2⟩, g3⟩, g4⟩ := hg2
        have g1 := of_decide_eq_true g1
        have g2 := of_decide_eq_true g2
        have g3 := of_decide_eq_true g3
        have g4 := of_decide_eq_true g4
        have e2 := Option.some.inj hin
        have lac := Paired.length hac
        refine ⟨_, rfl, _, rfl, _, rfl, a, _, _, _, rfl, rfl, SqT.of ((sm.trans sB) _ _ ha), ha0, _, rfl, q, one, rfl, SqT.of (sB _ _ hq), _, _, rfl, rfl, _, _, rfl, _, _, rfl, rfl, _, rfl, (by show -(2 ^ 62) ≤ min2 lim (r0 - one.sum) + 1; omega), (by show min2 lim (r0 - one.sum) + 1 < 2 ^ 62; omega), fun D nD => ?_⟩
        refine lc_range (lo := 0) (n := (min2 lim (r0 - one.sum) + 1).toNat) (fun i H' => ∃ acc, Same H2 H' ∧ H' D = some (.lst acc) ∧ Paired (IntT H') acc ((List.range i).map fun (x : Nat) => one ++ [(x : Int)])) ?_ ?_ ?_
        · exact ⟨[], same_new nD _, upd_same, .nil⟩
        · rintro i2 H3 hi2 ⟨acc, sC, hD, hacc⟩
          have lacc := Paired.length hacc
          rw [List.length_map, List.length_range] at lacc
          have rest : ∀ q2 H4, Same H3 H4 → H4 q2 = some (.tup ((one ++ [(i2 : Int)]).map V.int)) → ∃ acc, H4 D = some (.lst acc) ∧ acc.length < sizeLine ∧
              (fun i H' => ∃ acc, Same H2 H' ∧ H' D = some (.lst acc) ∧ Paired (IntT H') acc ((List.range i).map fun (x : Nat) => one ++ [(x : Int)])) (i2 + 1) (upd H4 D (.lst (acc ++ [.ref q2]))) := by
            intro q2 H4 s4 hq2
            have hD4 := s4 _ _ hD
            have tk4 : TK H4 (upd H4 D (.lst (acc ++ [.ref q2]))) := TK.put hD4 rfl
            refine ⟨acc, hD4, small5 (by omega), acc ++ [.ref q2], same_put (sC.trans s4) nD, upd_same, ?_⟩
            rw [List.range_succ, List.map_append]
            exact pr_snoc (pr_mono hacc fun _ _ f => f.tk ((TK.of s4).trans tk4)) ⟨q2, rfl, tk4 _ _ hq2⟩
          refine ⟨rfl, ?_⟩
          refine ⟨_, rfl, _, rfl, (by show 1 ≤ sizeLine; decide), fun t2 nt2 => ?_⟩
          have s5 := same_new nt2 (.tup [.int (0 + (i2 : Int))])
          have lt : (one.map V.int).length + ([V.int (0 + (i2 : Int))] : List V).length ≤ sizeLine := by
            rw [List.length_map]
            exact Nat.le_of_lt (small5 (by show one.length + 1 ≤ 100000; omega))
          refine ⟨q, t2, _, _, rfl, rfl, SqT.of ((sB.trans (sC.trans s5)) _ _ hq), SqT.of upd_same, lt, fun e => ?_, fun _ e => (nomatch e), fun e1 e2 t3 nt3 => ?_⟩
          · have e' : one = [] := List.map_eq_nil_iff.mp e
            refine rest t2 _ s5 ?_
            rw [upd_same, Int.zero_add, e']
            rfl
          · refine rest t3 _ (s5.trans (same_new nt3 _)) ?_
            rw [upd_same, Int.zero_add, List.map_append]
            rfl
        · rintro H3 ⟨acc, sC, hD, hacc⟩
          have lacc := Paired.length hacc
          rw [List.length_map, List.length_range] at lacc
          refine ⟨lo, D, xs, acc, rfl, rfl, sC _ _ hlo, hD, (by rw [sizeLine_eq]; omega), fun c nc => ?_⟩
          have sD := same_new nc (.lst (xs ++ acc))
          have tkD := TK.of (sC.trans sD)
          refine ⟨c, xs ++ acc, ac', _, _, _, rfl, sB.trans (sC.trans sD), upd_same, ?_, hfo2⟩
          rw [← e2]
          exact pr_app (pr_mono hac fun _ _ f => f.tk tkD) (pr_mono hacc fun _ _ f => f.tk (TK.of sD))
      · rintro σ H2 ⟨lo, xs, ac, x6, x7, x8, rfl, sB, hlo, hac, hfo2⟩
        rw [drop_end (by rw [Paired.length hws]; exact Nat.le_refl _)] at hfo2
        cases hfo2
        exact ⟨_, rfl, lo, xs, fs', _, _, _, _, _, rfl, sm.trans sB, hlo, hac, hfo⟩
    · rintro σ H1 ⟨l, ws, fs, x4, x5, x6, x7, x8, rfl, sm, hl, hws, hfo⟩
      rw [drop_end (by rw [List.length_map]; exact Nat.le_refl _)] at hfo
      cases hfo
      refine ⟨_, rfl, l, rfl, ⟨_, SqL.of hl⟩, ?_⟩
      refine for_list (xs := ws) (fun j σ H' => ∃ t x6 x7 x8, σ = [some (.ref a), some (.ref b), some (.int t), some (.ref l), x4, x5, x6, x7, x8] ∧ Same H1 H' ∧
        foldO (fun t one => if one.sum = r0 then (lsubM cols one).bind fun c => (ltcM (r1 :: rest) c).map fun z => t + z else some t) (sms.drop j) t = some r) ?_ ?_ ?_ ?_
      · exact ⟨0, _, _, _, rfl, Same.refl _, hm⟩
      · rintro j σ H' _ ⟨t, x6, x7, x8, rfl, sB, _⟩
        exact SqL.of (sB _ _ hl)
      · rintro j x σ H2 hx2 ⟨t, x6, x7, x8, rfl, sB, hfo2⟩
        obtain ⟨one, hone, q, rfl, hq⟩ := pr_get2 hws hx2
        rw [drop_at hone] at hfo2
        obtain ⟨t', hin, hfo3⟩ := bnd hfo2
        refine ⟨_, rfl, q, one, rfl, SqT.of (sB _ _ hq), _, rfl, a, _, _, _, rfl, rfl, SqT.of ((sm.trans sB) _ _ ha), ha0, rfl, _, rfl, ?_⟩
        rw [dec_int]
        by_cases e : one.sum = r0
        · have hin2 : ((lsubM cols one).bind fun c => (ltcM (r1 :: rest) c).map fun z => t + z) = some t' := by
            rw [← hin]
            exact (if_pos e).symm
          obtain ⟨cs, hcs, hin3⟩ := bnd hin2
          obtain ⟨zz, hzz, ez⟩ := mpd hin3
          rw [show (one.sum == r0) = true from beq_iff_eq.mpr e]
          refine iteT ?_
          refine ⟨_, rfl, _, rfl, 1, rfl, a, _, rfl, SqT.of ((sm.trans sB) _ _ ha), fun h0 => ?_, fun _ p np => ?_⟩
          · exfalso
            have h1 := h0.1
            rw [show HT.sIx ((r0 :: r1 :: rest).map V.int).length 0 (some 1) = min 1 ((r0 :: r1 :: rest).map V.int).length from HT.sIx_nat _ 0 1, List.length_map, List.length_cons] at h1
            omega
          rw [cut_one]
          have sP := same_new np (.tup (((r0 :: r1 :: rest).map V.int).drop 1))
          refine ⟨_, rfl, b, _, rfl, .inr (SqT.of ((sm.trans (sB.trans sP)) _ _ hb)), _, rfl, (by rw [List.length_map]; omega), (by rw [List.length_map]; omega), fun D nD => ?_⟩
          generalize hHp : upd H2 p (.tup (((r0 :: r1 :: rest).map V.int).drop 1)) = Hp2 at sP nD
          have hp2 : Hp2 p = some (.tup ((r1 :: rest).map V.int)) := by rw [← hHp, upd_same]; rfl
          refine lc_range (lo := 0) (n := (cols.map V.int).length) (fun i H' => ∃ acc, Same Hp2 H' ∧ H' D = some (.lst (acc.map V.int)) ∧ acc.length ≤ i ∧ loopO (fun k acc => (cols[k]?).bind fun x => (one[k]?).bind fun y => some (acc ++ [x - y])) ((cols.map V.int).length - i) i acc = some cs) ?_ ?_ ?_
          · exact ⟨[], same_new nD _, upd_same, Nat.le_refl _, by rw [List.length_map]; exact hcs⟩
          · rintro i H3 hi ⟨acc, sC, hD, hle, hlo⟩
            rw [loop_step hi] at hlo
            obtain ⟨acc', hst, hlo⟩ := bnd hlo
            obtain ⟨x0, hx0, hst⟩ := bnd hst
            obtain ⟨y0, hy0, hst⟩ := bnd hst
            have ea := Option.some.inj hst
            rw [List.length_map] at hi
            refine ⟨rfl, ?_⟩
            refine ⟨_, rfl, _, rfl, b, _, _, _, rfl, rfl, SqT.of ((sm.trans (sB.trans (sP.trans sC))) _ _ hb), at_of (by omega) (map_at hx0), ?_⟩
            refine ⟨_, rfl, _, rfl, q, _, _, _, rfl, rfl, SqT.of ((sB.trans (sP.trans sC)) _ _ hq), at_of (by omega) (map_at hy0), _, _, rfl, rfl, ?_⟩
            refine ⟨acc.map V.int, hD, by rw [List.length_map]; exact small5 (by omega), acc', same_put sC nD, ?_, by rw [← ea, List.length_append]; show acc.length + 1 ≤ i + 1; omega, hlo⟩
            rw [upd_same, ← ea, List.map_append]
            rfl
          · rintro H3 ⟨acc, sC, hD, hle, hlo⟩
            rw [loop_end] at hlo
            cases hlo
            refine ⟨D, _, rfl, .inl ⟨SqL.of hD, fun u nu => ?_⟩⟩
            have sU := same_new nu (.tup (cs.map V.int))
            refine ⟨p, u, r1 :: rest, cs, zz, rfl, (sC.trans sU) _ _ hp2, upd_same, ?_, hzz, fun H4 s4 => ?_⟩
            · rw [List.length_cons] at hn
              omega
            · refine ⟨_, _, rfl, rfl, ?_⟩
              refine ⟨t + zz, _, _, _, rfl, sB.trans (sP.trans (sC.trans (sU.trans s4))), ?_⟩
              rw [ez]
              exact hfo3
        · have hin2 : some t = some t' := by
            rw [← hin]
            exact (if_neg e).symm
          cases hin2
          rw [show (one.sum == r0) = false from beq_eq_false_iff_ne.mpr e]
          exact iteF ⟨t, _, _, _, rfl, sB, hfo3⟩
      · rintro σ H2 ⟨t, x6, x7, x8, rfl, sB, hfo2⟩
        rw [drop_end (by rw [Paired.length hws]; exact Nat.le_refl _)] at hfo2
        cases hfo2
        exact ⟨_, rfl, k _ (sm.trans sB)⟩
theorem ltc_none (F : Fun K "_law_table_count" "_law_table_count" (topS 30) f fd) (m : mg "_law_table_count" = some (.ref f)) : Df P w K mg base 0 "_law_table_count" ["_law_rows", "_law_columns"] (spLtc 0) := by
  have no : ∀ vs H Q E, ¬ spLtc 0 vs H Q E := fun vs H Q E h => by
    obtain ⟨a, b, rows, cols, r, _, _, _, hn, hm, _⟩ := h
    cases rows with
    | nil => cases hm
    | cons x y => rw [List.length_cons] at hn; omega
  exact ⟨f, fd, ⟨fun vs H Q E h => absurd h (no vs H Q E), fun A outer s H args us vs Q E _ _ _ _ h => absurd h (no vs H Q E)⟩, m, F.kp, F.binds fun _ _ _ _ _ _ us hl => match us, hl with | [_, _], _ => rfl⟩
theorem ok_ltc (F : Fun K "_law_table_count" "_law_table_count" (topS 30) f fd) (m : mg "_law_table_count" = some (.ref f)) (B : Bl mg) : ∀ n, Df P w K mg base n "_law_table_count" ["_law_rows", "_law_columns"] (spLtc n)
  | 0 => ltc_none F m
  | n + 1 => ltc_step F m B (ok_ltc F m B n)
end
end LP

/-! the law's draws -/
namespace LP
open PySem PySem.Spec PyProof.Rows L2
theorem fmod_nat (z : Int) (m : Nat) (h : 1 ≤ m) : ∃ v : Nat, z.fmod (m : Int) = (v : Int) ∧ v < m := by
  rw [Int.fmod_eq_emod_of_nonneg z (by omega)]
  have h0 := Int.emod_nonneg z (show (m : Int) ≠ 0 by omega)
  have h1 := Int.emod_lt_of_pos z (show (0 : Int) < (m : Int) by omega)
  exact ⟨(z % (m : Int)).toNat, by omega, by omega⟩
/-- the row of the draws stands at l -/
def RowAt (H : Hp) (l scr : Addr) : Prop := ∃ i a c : Int, H l = some (.lst [.ref scr, .int i, .int a, .int c]) ∧ 0 ≤ i ∧ 0 ≤ a ∧ a < 2147483647
theorem sq_sb {K : PySem.W.Frag} {H H' : Hp} {l scr s : Addr} {ns : List Int} {zs : List V} (h : SqL K H scr (ns.map V.int)) (hl : H l = some (.lst (V.ref s :: zs))) (sb : SB l H H') : SqL K H' scr (ns.map V.int) := by
  rcases h with (h | ⟨o, h⟩) | h
  · refine .inl (.inl (sb _ _ (fun e => ?_) h))
    subst e
    rw [hl] at h
    cases ns with
    | nil => cases h
    | cons n r => cases h
  · refine .inl (.inr ⟨o, sb _ _ (fun e => ?_) h⟩)
    subst e
    rw [hl] at h
    cases h
  · exact .inr h
theorem RowAt.same {H H' : Hp} {l scr : Addr} (h : RowAt H l scr) (s : Same H H') : RowAt H' l scr := let ⟨i, a, c, e, r⟩ := h; ⟨i, a, c, s _ _ e, r⟩
section
variable {P : Program} {w : World} {K : PySem.W.Frag} {mg : Str → Option Value} {base : Heap} {f : Addr} {fd : FuncData}
def spTak (K : PySem.W.Frag) : Sp := fun vs H Q _ => ∃ (l scr : Addr) (ns : List Int) (m : Nat), vs = [.ref l, .int (m : Int)] ∧ RowAt H l scr ∧ SqL K H scr (ns.map V.int) ∧ 1 ≤ m ∧ m ≤ 1000 ∧ ∀ (v : Nat) H', v < m → SB l H H' → RowAt H' l scr → Q (.int (v : Int)) H'
theorem scTak : FnScope ["_law_row", "_law_many", "_law_found", "_law_cell"] ["_law_row", "_law_many"] (defScope (topS 29)) := ⟨rfl, rfl, rfl, by decide +kernel, rfl, by decide +kernel, by decide +kernel⟩
theorem ok_tak (F : Fun K "_law_taken" "_law_taken" (topS 29) f fd) (m : mg "_law_taken" = some (.ref f)) (B : Bl mg) : Df P w K mg base 1 "_law_taken" ["_law_row", "_law_many"] (spTak K) := by
  refine ⟨f, fd, F.ok scTak (fun vs H Q E h => ?_) (fun cdv A outer s H vs Q E hr h => ?_), m, F.kp, F.binds fun _ _ _ _ _ _ us hl => match us, hl with | [_, _], _ => rfl⟩
  · obtain ⟨_, _, _, _, rfl, _⟩ := h
    rfl
  obtain ⟨l, scr, ns, m, rfl, ⟨i, a, c, hl, hi, ha0, ha1⟩, hS, m1, m2, k⟩ := h
  refine ⟨_, pss_cons (ps_if (pt_cmpR op_gt (pe_ix ix_list (pv 0) pe_int (fun _ _ => rfl)) pe_int (nomark _))
      (pss_cons (ps_set (i := 2) scTak.nd rfl (.inl rfl) (pe_op op_modN (pe_callTy call_int1 (by rfl) B.int (by decide +kernel) (pa_cons (pe_ix ix_list (pv 0) pe_int (fun _ _ => rfl)) pa_nil)) (pv 1)))
      (pss_cons (ps_asg (pe_op op_fdivN (pe_ix ix_list (pv 0) pe_int (fun _ _ => rfl)) (pv 1)) (pg_sub (pv 0) pe_int set_list))
      (pss_one (ps_ret (pv 2))))) pss_nil)
    (pss_cons (ps_asg (pe_op op_add (pe_ix ix_list (pv 0) pe_int (fun _ _ => rfl)) pe_int) (pg_sub (pv 0) pe_int set_list))
    (pss_cons (ps_if (pt_cmpR op_gt (pe_ix ix_list (pv 0) pe_int (fun _ _ => rfl)) (pe_callB call_len_seq (by rfl) B.len PySem.boot_len (pa_cons (pe_ix ix_list (pv 0) pe_int (fun _ _ => rfl)) pa_nil)) (nomark _))
      (pss_cons (ps_asg (pe_op op_modN (pe_callTy call_int1 (by rfl) B.int (by decide +kernel) (pa_cons (pe_op op_add (pe_op op_mul (pe_ix ix_list (pv 0) pe_int (fun _ _ => rfl)) pe_int) pe_int) pa_nil)) pe_int) (pg_sub (pv 0) pe_int set_list))
      (pss_one (ps_ret (pe_op op_modN (pe_callTy call_int1 (by rfl) B.int (by decide +kernel) (pa_cons (pe_op op_fdivN (pe_ix ix_list (pv 0) pe_int (fun _ _ => rfl)) pe_int) pa_nil)) (pv 1))))) pss_nil)
    (pss_cons (ps_set (i := 3) scTak.nd rfl (.inl rfl) (pe_ix ix_list (pe_ix ix_list (pv 0) pe_int (fun _ _ => rfl)) (pe_op op_sub (pe_ix ix_list (pv 0) pe_int (fun _ _ => rfl)) pe_int) (fun _ _ => rfl)))
    (pss_cons (ps_asg (pe_op op_modN (pe_callTy call_int1 (by rfl) B.int (by decide +kernel) (pa_cons (pe_op op_add (pe_op op_add (pe_op op_mul (pe_ix ix_list (pv 0) pe_int (fun _ _ => rfl)) pe_int) (pv 3)) pe_int) pa_nil)) pe_int) (pg_sub (pv 0) pe_int set_list))
    (pss_cons (ps_if (pt_cmpR op_ge (pv 3) (pe_op op_pow pe_int pe_int) (nomark _)) (pss_one (ps_asg (pe_op op_fdivN (pv 3) (pv 1)) (pg_sub (pv 0) pe_int set_list))) pss_nil)
    (pss_one (ps_ret (pe_op op_modN (pe_callTy call_int1 (by rfl) B.int (by decide +kernel) (pa_cons (pv 3) pa_nil)) (pv 1))))))))), ?_⟩
  have dm : ((m : Nat) : Int) ≠ 0 := by omega
  have dm2 : ((m : Nat) : Int).natAbs < 1073741824 := by omega
  refine ⟨_, rfl, l, _, _, _, rfl, rfl, SqL.of hl, (show atI _ 3 = some (V.int c) from rfl), _, _, rfl, rfl, _, rfl, ?_⟩
  refine ite2 (fun hc => ?_) (fun hc => ?_)
  · -- the rest of a great cell
    obtain ⟨v, ev, hv⟩ := fmod_nat c m m1
    refine ⟨_, rfl, l, _, _, _, rfl, rfl, SqL.of hl, (show atI _ 3 = some (V.int c) from rfl), .inl ⟨_, rfl, _, rfl, _, _, rfl, rfl, dm, ?_⟩⟩
    refine ⟨_, rfl, l, _, _, _, rfl, rfl, SqL.of hl, (show atI _ 3 = some (V.int c) from rfl), _, rfl, _, _, rfl, rfl, ⟨dm, dm2⟩, ?_⟩
    refine ⟨_, rfl, l, _, _, 3, rfl, rfl, hl, rfl, ?_⟩
    have q1 := k v _ hv ((SB.refl l H).put (.lst [.ref scr, .int i, .int a, .int (c.fdiv (m : Int))])) ⟨i, a, _, upd_same, hi, ha0, ha1⟩
    rw [← ev] at q1
    exact ⟨_, rfl, q1⟩
  · refine ⟨_, rfl, l, _, _, _, rfl, rfl, SqL.of hl, (show atI _ 1 = some (V.int i) from rfl), _, _, rfl, rfl, ?_⟩
    refine ⟨_, rfl, l, _, _, 1, rfl, rfl, hl, rfl, ?_⟩
    have sb1 : SB l H (upd H l (.lst [.ref scr, .int (i + 1), .int a, .int c])) := (SB.refl l H).put _
    have hl1 : (upd H l (.lst [.ref scr, .int (i + 1), .int a, .int c])) l = some (.lst [.ref scr, .int (i + 1), .int a, .int c]) := upd_same
    have hS1 := sq_sb hS hl sb1
    refine ⟨_, rfl, l, _, _, _, rfl, rfl, SqL.of hl1, (show atI _ 1 = some (V.int (i + 1)) from rfl), ?_⟩
    refine ⟨_, rfl, l, _, _, _, rfl, rfl, SqL.of hl1, (show atI _ 0 = some (V.ref scr) from rfl), scr, _, rfl, .inl hS1, _, _, rfl, rfl, _, rfl, ?_⟩
    refine ite2 (fun hc2 => ?_) (fun hc2 => ?_)
    · -- behind the cells: mixed numbers
      obtain ⟨a', ea', ha'⟩ := fmod_nat (a * 48271 + 11) 2147483647 (by decide)
      refine ⟨_, rfl, l, _, _, _, rfl, rfl, SqL.of hl1, (show atI _ 2 = some (V.int a) from rfl), _, _, rfl, rfl, .inl ⟨by omega, by omega⟩, _, _, rfl, rfl, .inl ⟨_, rfl, _, _, rfl, rfl, (show (2147483647 : Int) ≠ 0 by decide), ?_⟩⟩
      refine ⟨_, rfl, l, _, _, 2, rfl, rfl, hl1, rfl, ?_⟩
      refine ⟨_, rfl, l, _, _, _, rfl, rfl, SqL.of upd_same, (show atI _ 2 = some (V.int ((a * 48271 + 11).fmod 2147483647)) from rfl), _, _, rfl, rfl, ⟨(show (7 : Int) ≠ 0 by decide), (show (7 : Int).natAbs < 1073741824 by decide)⟩, .inl ⟨_, rfl, _, rfl, _, _, rfl, rfl, dm, ?_⟩⟩
      obtain ⟨v, ev, hv⟩ := fmod_nat (((a * 48271 + 11).fmod 2147483647).fdiv 7) m m1
      have ea2 : (a * 48271 + 11).fmod 2147483647 = (a' : Int) := ea'
      have q1 := k v _ hv (sb1.put (.lst [.ref scr, .int (i + 1), .int ((a * 48271 + 11).fmod 2147483647), .int c])) ⟨i + 1, _, c, upd_same, by omega, by rw [ea2]; omega, by rw [ea2]; omega⟩
      rw [← ev] at q1
      exact q1
    · have hlt : i < (ns.length : Int) := by
        have e := of_decide_eq_false (Bool.eq_false_iff.mpr hc2)
        rw [List.length_map] at e
        omega
      obtain ⟨j, ej⟩ : ∃ j : Nat, i = (j : Int) := ⟨i.toNat, by omega⟩
      have hj : j < ns.length := by omega
      have ens : ns[j]? = some ns[j] := List.getElem?_eq_getElem hj
      generalize ns[j] = cell at ens
      refine ⟨_, rfl, l, _, _, _, rfl, rfl, SqL.of hl1, (show atI _ 0 = some (V.ref scr) from rfl), ?_⟩
      refine ⟨_, rfl, l, _, _, _, rfl, rfl, SqL.of hl1, (show atI _ 1 = some (V.int (i + 1)) from rfl), _, _, rfl, rfl, scr, _, _, _, rfl, rfl, hS1, at_of (by omega) (map_at ens), ?_⟩
      obtain ⟨a', ea', ha'⟩ := fmod_nat (a * 48271 + cell + 11) 2147483647 (by decide)
      have ea2 : (a * 48271 + cell + 11).fmod 2147483647 = (a' : Int) := ea'
      refine ⟨_, rfl, l, _, _, _, rfl, rfl, SqL.of hl1, (show atI _ 2 = some (V.int a) from rfl), _, _, rfl, rfl, .inl ⟨by omega, by omega⟩, _, rfl, _, _, rfl, rfl, _, _, rfl, rfl, .inl ⟨_, rfl, _, _, rfl, rfl, (show (2147483647 : Int) ≠ 0 by decide), ?_⟩⟩
      refine ⟨_, rfl, l, _, _, 2, rfl, rfl, hl1, rfl, ?_⟩
      obtain ⟨v, ev, hv⟩ := fmod_nat cell m m1
      refine ⟨_, rfl, _, _, rfl, rfl, ⟨by decide, by decide, by decide⟩, _, _, rfl, rfl, _, rfl, ?_⟩
      refine ite2 (fun hc3 => ?_) (fun hc3 => ?_)
      · refine ⟨_, rfl, _, rfl, _, _, rfl, rfl, ⟨dm, dm2⟩, ?_⟩
        refine ⟨_, rfl, l, _, _, 3, rfl, rfl, upd_same, rfl, ?_⟩
        refine ⟨_, rfl, .inl ⟨_, rfl, _, rfl, _, _, rfl, rfl, dm, ?_⟩⟩
        have q1 := k v _ hv ((sb1.put (.lst [.ref scr, .int (i + 1), .int ((a * 48271 + cell + 11).fmod 2147483647), .int c])).put (.lst [.ref scr, .int (i + 1), .int ((a * 48271 + cell + 11).fmod 2147483647), .int (cell.fdiv (m : Int))])) ⟨i + 1, _, _, upd_same, by omega, by rw [ea2]; omega, by rw [ea2]; omega⟩
        rw [← ev] at q1
        exact q1
      · refine ⟨_, rfl, .inl ⟨_, rfl, _, rfl, _, _, rfl, rfl, dm, ?_⟩⟩
        have q1 := k v _ hv (sb1.put (.lst [.ref scr, .int (i + 1), .int ((a * 48271 + cell + 11).fmod 2147483647), .int c])) ⟨i + 1, _, c, upd_same, by omega, by rw [ea2]; omega, by rw [ea2]; omega⟩
        rw [← ev] at q1
        exact q1
end
end LP

/-! the law -/
namespace LP
open PySem PySem.Spec PyProof.Rows L2
theorem pol_all : ∀ size : Nat, size < 4 → 1 ≤ size → ∀ p ∈ polyOf size, isRatM p = some true := by decide +kernel
theorem pol_last (sz : Nat) (h1 : sz < 4) (h2 : 1 ≤ sz) : ∃ q' b, polyOf sz = q' ++ [b] ∧ b ≠ (0, 1) := by
  rcases (show sz = 1 ∨ sz = 2 ∨ sz = 3 by omega) with rfl | rfl | rfl
  · exact ⟨[], (1, 1), rfl, by decide⟩
  · exact ⟨[(1, 1)], (1, 1), rfl, by decide⟩
  · exact ⟨[(1, 1), (9, 4), (15, 8), (3, 4)], (1, 8), rfl, by decide⟩
section
variable {P : Program} {w : World} {K : PySem.W.Frag} {mg : Str → Option Value} {base : Heap} {f : Addr} {fd : FuncData}
def spLaw (K : PySem.W.Frag) : Sp := fun vs H Q _ => ∃ (a : Addr) (ns : List Int), vs = [.ref a] ∧ SqL K H a (ns.map V.int) ∧ ∀ H', Q (.bl true) H'
theorem scLaw : FnScope ["_law_script", "_law_row", "_law_size", "_law_n", "_law_poly", "_law_due", "_law_one", "_law_other", "_law_k"] ["_law_script"] (defScope (topS 38)) := ⟨rfl, rfl, rfl, by decide +kernel, rfl, by decide +kernel, by decide +kernel⟩
theorem ok_law (F : Fun K "law" "law" (topS 38) f fd) (m : mg "law" = some (.ref f)) (B : Bl mg) (GT : Df P w K mg base 1 "_law_taken" ["_law_row", "_law_many"] (spTak K)) (GS : Df P w K mg base 6 "square_polynomial" ["size"] (spSq K)) (GL : Df P w K mg base 3 "_law_table_count" ["_law_rows", "_law_columns"] (spLtc 3))
    (GP : Df P w K mg base 3 "_law_is_polynomial" ["_law_value_here"] (spIsPol K)) (GV : Df P w K mg base 4 "_law_value" ["_law_poly", "_law_n"] (spLval K)) (GC : Df P w K mg base 3 "table_count" ["rows", "columns"] spTc) : FnOk P w K mg base CX0 7 f fd ["_law_script"] (spLaw K) := by
  refine F.ok scLaw (fun vs H Q E h => ?_) (fun cdv A outer s H vs Q E hr h => ?_)
  · obtain ⟨_, _, rfl, _⟩ := h
    rfl
  obtain ⟨a, ns, rfl, hS, k⟩ := h
  have hr1 := hr.mono (show 1 ≤ 6 by decide)
  have hr3 := hr.mono (show 3 ≤ 6 by decide)
  have hr4 := hr.mono (show 4 ≤ 6 by decide)
  refine ⟨_, pss_cons (ps_set (i := 1) scLaw.nd rfl (.inl rfl) (pe_lst (pa_cons (pv 0) (pa_cons pe_int (pa_cons pe_int (pa_cons pe_int pa_nil))))))
    (pss_cons (ps_par rfl scLaw.nd (i := 2) (j := 3) rfl rfl (by decide) rfl rfl (pa_cons (pe_op op_add pe_int (pe_callD GT hr1 (by rfl) (pa_cons (pv 1) (pa_cons pe_int pa_nil)))) (pa_cons (pe_callD GT hr1 (by rfl) (pa_cons (pv 1) (pa_cons pe_int pa_nil))) pa_nil)) (by rfl))
    (pss_cons (ps_set (i := 4) scLaw.nd rfl (.inr rfl) (pe_callD GS hr (by rfl) (pa_cons (pv 2) pa_nil)))
    (pss_cons (ps_set (i := 5) scLaw.nd rfl (.inl rfl) (pe_callD GL hr3 (by rfl) (pa_cons (pe_op op_repA (pe_tup (pa_cons (pv 3) pa_nil)) (pv 2)) (pa_cons (pe_op op_repA (pe_tup (pa_cons (pv 3) pa_nil)) (pv 2)) pa_nil))))
    (pss_cons (ps_if (PW.pt (pw_or (pt_not (pt_val (pe_callD GP hr3 (by rfl) (pa_cons (pv 4) pa_nil)))) (pw_or1 (pt_cmpR op_ne (pe_callB call_len_seq (by rfl) B.len PySem.boot_len (pa_cons (pv 4) pa_nil)) (pe_op op_add (pe_op op_mul (pe_op op_sub (pv 2) pe_int) (pe_op op_sub (pv 2) pe_int)) pe_int) (nomark _))))) (pss_one (ps_ret pe_bl)) pss_nil)
    (pss_cons (ps_if (pt_cmpR (op_neD hr.units) (pe_callD GV hr4 (by rfl) (pa_cons (pv 4) (pa_cons (pv 3) pa_nil))) (pe_tup (pa_cons (pv 5) (pa_cons pe_int pa_nil))) (nomark _)) (pss_one (ps_ret pe_bl)) pss_nil)
    (pss_cons (ps_if (pt_cmpR (op_neD hr.units) (pe_lc (own := [("_law_k", 8)]) (g := gName 8) rfl scLaw.nd (pi_range2 (by rfl) B.range (pa_cons pe_int (pa_cons (pv 2) pa_nil)))
        (blkOk_by (N := ["_law_script", "_law_row", "_law_size", "_law_n", "_law_poly", "_law_due", "_law_one", "_law_other", "_law_k"]) (sc := defScope (topS 38)) (by decide +kernel)) (fun _ _ _ _ _ => pg_name (i := 8) scLaw.nd rfl (.inl rfl))
        (fun _ _ _ _ _ => pts_one (pt_cmpR (r := rNeD K) (op_neD hr.units) (pe_callD GV hr4 (by rfl) (pa_cons (pv 4) (pa_cons (pe_op op_sub pe_int (pv 8)) pa_nil))) (pe_tup (pa_cons pe_int (pa_cons pe_int pa_nil))) (nomark _))) (fun _ _ _ _ _ => pv 8)) (pe_lst pa_nil) (nomark _)) (pss_one (ps_ret pe_bl)) pss_nil)
    (pss_cons (ps_set (i := 3) scLaw.nd rfl (.inl rfl) (pe_callD GT hr1 (by rfl) (pa_cons (pv 1) (pa_cons pe_int pa_nil))))
    (pss_cons (ps_par rfl scLaw.nd (i := 6) (j := 7) rfl rfl (by decide) rfl rfl (pa_cons (pe_callD GV hr4 (by rfl) (pa_cons (pv 4) (pa_cons (pe_op op_sub (pe_op op_sub pe_int (pv 3)) (pv 2)) pa_nil))) (pa_cons (pe_callD GV hr4 (by rfl) (pa_cons (pv 4) (pa_cons (pv 3) pa_nil))) pa_nil)) (by rfl))
    (pss_cons (ps_if (pt_cmpR (op_neD hr.units) (pv 6) (pe_ifExp (pt_cmpR op_eq (pe_op op_modN (pe_callTy call_int1 (by rfl) B.int (by decide +kernel) (pa_cons (pv 2) pa_nil)) pe_int) pe_int (nomark _)) (pv 7) (pe_tup (pa_cons (pe_op op_sub pe_int (pe_ix ix_tup (pv 7) pe_int (fun _ _ => rfl))) (pa_cons (pe_ix ix_tup (pv 7) pe_int (fun _ _ => rfl)) pa_nil)))) (nomark _)) (pss_one (ps_ret pe_bl)) pss_nil)
    (pss_one (ps_ret (pe_ifExp (pt_cmpR op_lt (pv 3) pe_int (nomark _)) (pe_cmpR op_eq (pe_callD GC hr3 (by rfl) (pa_cons (pe_op op_repA (pe_tup (pa_cons (pv 3) pa_nil)) (pv 2)) (pa_cons (pe_op op_repA (pe_tup (pa_cons (pv 3) pa_nil)) (pv 2)) pa_nil))) (pe_ix ix_tup (pv 7) pe_int (fun _ _ => rfl)) (nomark _)) pe_bl)))))))))))), ?_⟩
  -- the row of the draws
  refine ⟨_, rfl, (by show 4 ≤ sizeLine; decide), fun l nl => ?_⟩
  have sA := same_new nl (.lst [.ref a, .int 0, .int 3393, .int 0])
  have RA : RowAt (upd H l (.lst [.ref a, .int 0, .int 3393, .int 0])) l a := ⟨0, 3393, 0, upd_same, by decide, by decide, by decide⟩
  have SA : SqL K (upd H l (.lst [.ref a, .int 0, .int 3393, .int 0])) a (ns.map V.int) := sA.seq hS
  refine ⟨_, rfl, l, a, ns, 3, rfl, RA, SA, by decide, by decide, fun v1 H1 hv1 sb1 R1 => ?_⟩
  have S1 := sq_sb SA upd_same sb1
  obtain ⟨i1, a1, c1, hl1, _⟩ := id R1
  refine ⟨_, _, rfl, rfl, ?_⟩
  refine ⟨_, rfl, l, a, ns, 7, rfl, R1, S1, by decide, by decide, fun v2 H2 hv2 sb2 R2 => ?_⟩
  have S2 := sq_sb S1 hl1 sb2
  refine ⟨_, _, rfl, ?_⟩
  have z1 : 1 + v1 < 4 := by omega
  have z2 : 1 ≤ 1 + v1 := by omega
  -- the polynomial
  refine ⟨_, rfl, 1 + v1, polyOf (1 + v1), rfl, sq_fact _ z1 z2, fun vp H3 s3 pp => ?_⟩
  have R3 := R2.same s3
  have S3 := s3.seq S2
  -- due
  obtain ⟨dl, dv⟩ := due_fact (1 + v1) z1 z2 v2 hv2
  refine ⟨_, rfl, (by show 1 ≤ sizeLine; decide), fun t1 nt1 => ⟨_, rfl, ?_⟩⟩
  have st1 := same_new nt1 (.tup [.int (v2 : Int)])
  refine rep_ok (sz := 1 + v1) z2 (by omega) upd_same fun q1 H4 s4 hq1 => ?_
  refine ⟨_, rfl, (by show 1 ≤ sizeLine; decide), fun t2 nt2 => ⟨_, rfl, ?_⟩⟩
  have st2 := same_new nt2 (.tup [.int (v2 : Int)])
  refine rep_ok (sz := 1 + v1) z2 (by omega) upd_same fun q2 H5 s5 hq2 => ?_
  refine ⟨q1, q2, _, _, _, rfl, (st2.trans s5) _ _ hq1, hq2, by rw [List.length_replicate]; omega, dl, fun H6 s6 => ?_⟩
  have s36 : Same H3 H6 := (st1.trans s4).trans ((st2.trans s5).trans s6)
  have p6 := pp.tk (TK.of s36)
  -- a polynomial
  refine ⟨_, rfl, _, _, rfl, p6, pol_all _ z1 z2, pol_last _ z1 z2, fun H7 s7 => ⟨_, rfl, iteF ?_⟩⟩
  have p7 := p6.tk (TK.of s7)
  obtain ⟨pa, pvs, epa, hpa, hpv⟩ := id p7
  subst epa
  have em : (1 + (v1 : Int) - 1) * (1 + (v1 : Int) - 1) + 1 = (pvs.length : Int) := by
    rw [Paired.length hpv, (pol_fact _ z1 z2).2]
    rcases (show v1 = 0 ∨ v1 = 1 ∨ v1 = 2 by omega) with rfl | rfl | rfl <;> rfl
  refine ⟨_, rfl, pa, _, rfl, .inr hpa.seq, _, rfl, _, _, rfl, rfl, _, rfl, _, _, rfl, rfl, _, _, rfl, rfl, .inl ⟨by omega, by omega⟩, _, _, rfl, rfl, rfl, _, rfl, ?_⟩
  refine iteNS (show V.int (pvs.length : Int) = V.int ((1 + (v1 : Int) - 1) * (1 + (v1 : Int) - 1) + 1) from congrArg V.int em.symm) ?_
  -- its value
  refine ⟨_, rfl, _, rfl, _, _, _, _, rfl, p7, dv, fun v8 H8 s8 r8 => ?_⟩
  refine ⟨_, rfl, (by show 2 ≤ sizeLine; decide), fun t3 nt3 => ?_⟩
  have st3 := same_new nt3 (.tup [.int (dueOf (1 + v1) v2), .int 1])
  refine ⟨ratD (dueOf (1 + v1) v2, 1), ratD (dueOf (1 + v1) v2, 1), rat_dp (r8.tk (TK.of st3)), rat_dp (RatV.new (a := dueOf (1 + v1) v2) (b := 1)), shp_rat _, shp_rat _, _, rfl, ?_⟩
  rw [eqv_rat]
  refine iteNS rfl ?_
  have s39 := s36.trans (s7.trans (s8.trans st3))
  have p9 := pp.tk (TK.of s39)
  -- its zeros
  refine ⟨_, rfl, _, _, rfl, ⟨by decide, by decide, by omega, by omega⟩, fun D nD => ?_⟩
  generalize hH9 : upd H8 t3 (.tup [.int (dueOf (1 + v1) v2), .int 1]) = H9 at s39 p9 nD
  refine lc_range (lo := 1) (n := (1 + (v1 : Int) - 1).toNat) (fun i H' => Same H9 H' ∧ H' D = some (.lst [])) ?_ ?_ ?_
  · exact ⟨same_new nD _, upd_same⟩
  · rintro i H' hi ⟨sm, hD⟩
    have zf := zero_fact (1 + v1) z1 z2 (1 + i) (by omega) (by omega)
    refine ⟨rfl, ?_⟩
    refine ⟨_, rfl, _, rfl, _, _, rfl, rfl, _, _, _, _, rfl, p9.tk (TK.of sm), zf, fun v10 H10 s10 r10 => ?_⟩
    refine ⟨(by show 2 ≤ sizeLine; decide), fun t4 nt4 => ?_⟩
    have st4 := same_new nt4 (.tup [.int 0, .int 1])
    refine ⟨ratD (0, 1), ratD (0, 1), rat_dp (r10.tk (TK.of st4)), rat_dp (RatV.new (a := 0) (b := 1)), shp_rat _, shp_rat _, _, rfl, ?_⟩
    rw [eqv_rat]
    exact iteNS rfl ⟨sm.trans (s10.trans st4), (s10.trans st4) _ _ hD⟩
  · rintro H10 ⟨sm, hD⟩
    refine ⟨Nat.zero_le _, fun e ne => ?_⟩
    have hD' : upd H10 e (.lst []) D = some (.lst []) := by rw [upd_ne (ne_of_none hD ne)]; exact hD
    refine ⟨.list [], .list [], .lst (SqL.of hD') .nil, .lst (SqL.of upd_same) .nil, rfl, rfl, _, rfl, iteF ?_⟩
    have s311 := s39.trans (sm.trans (same_new ne (.lst [])))
    -- the other n
    refine ⟨_, rfl, l, a, ns, 20, rfl, R3.same s311, s311.seq S3, by decide, by decide, fun v3 H12 hv3 sb12 R12 => ?_⟩
    obtain ⟨i3, a3, c3, hl3, _⟩ := id (R3.same s311)
    have p12 := pp.tk ((TK.of s311).trans (sb12.tk hl3 rfl))
    obtain ⟨o1, o2⟩ := oth_fact (1 + v1) z1 z2 v3 hv3
    refine ⟨_, rfl, _, rfl, _, _, rfl, rfl, _, rfl, _, _, rfl, rfl, _, _, _, _, rfl, p12, o2, fun w1 H13 s13 r13 => ?_⟩
    refine ⟨_, rfl, _, rfl, _, _, _, _, rfl, p12.tk (TK.of s13), o1, fun w2 H14 s14 r14 => ?_⟩
    refine ⟨_, _, rfl, ?_⟩
    have r13' := r13.tk (TK.of s14)
    obtain ⟨pw, epw, hpw⟩ := id r14
    subst epw
    -- the end, whatever else was made
    have fin : ∀ H15, Same H14 H15 → (tRet (tIf (tTest (tOp (rI0 fun i j => .bl (decide (i < j))) (tVar 3) (tC (.int 9)))) (tOp rEq (tCallD spTc (tCons (tOp (rRepA K) (tTup (tCons (tVar 3) tNil)) (tVar 2)) (tCons (tOp (rRepA K) (tTup (tCons (tVar 3) tNil)) (tVar 2)) tNil))) (tOp (rIxT K) (tVar 7) (tC (.int 0)))) (tC (.bl true))))
        { nx := fun _ H' => Q .non H', rt := Q } [some (.ref a), some (.ref l), some (.int (1 + (v1 : Int))), some (.int (v3 : Int)), some (.ref pa), some (.int (dueOf (1 + v1) v2)), some w1, some (.ref pw), none] H15 := by
      intro H15 s15
      refine ⟨_, rfl, _, _, rfl, rfl, _, rfl, ?_⟩
      refine ite2 (fun e9 => ?_) (fun e9 => ?_)
      · have h9 : v3 < 9 := by
          have := of_decide_eq_true e9
          omega
        refine ⟨_, rfl, (by show 1 ≤ sizeLine; decide), fun t5 nt5 => ⟨_, rfl, ?_⟩⟩
        have st5 := same_new nt5 (.tup [.int (v3 : Int)])
        refine rep_ok (sz := 1 + v1) z2 (by omega) upd_same fun q3 H16 s16 hq3 => ?_
        refine ⟨_, rfl, (by show 1 ≤ sizeLine; decide), fun t6 nt6 => ⟨_, rfl, ?_⟩⟩
        have st6 := same_new nt6 (.tup [.int (v3 : Int)])
        refine rep_ok (sz := 1 + v1) z2 (by omega) upd_same fun q4 H17 s17 hq4 => ?_
        refine ⟨q3, q4, _, _, _, rfl, (st6.trans s17) _ _ hq3, hq4, tc_fact _ z1 z2 v3 h9, fun H18 s18 => ?_⟩
        have s1418 := s15.trans ((st5.trans s16).trans ((st6.trans s17).trans s18))
        refine ⟨_, rfl, pw, _, _, _, rfl, rfl, (hpw.tk (TK.of s1418)).seq, at0, rfl, ?_⟩
        rw [decide_eq_true rfl]
        exact k _
      · exact k _
    refine ⟨_, rfl, _, rfl, .inl ⟨_, rfl, _, _, rfl, rfl, (show (2 : Int) ≠ 0 by decide), rfl, _, rfl, ?_⟩⟩
    rw [dec_int]
    by_cases e2 : ((1 + v1 : Nat) : Int).fmod 2 = 1
    · have eo : oneOf (1 + v1) v3 = othOf (1 + v1) v3 := if_pos e2
      rw [eo] at r13'
      rw [show ((1 + (v1 : Int)).fmod 2 == 1) = true from beq_iff_eq.mpr e2]
      refine iteT ?_
      refine ⟨_, rfl, ratD (othOf (1 + v1) v3), ratD (othOf (1 + v1) v3), rat_dp r13', rat_dp r14, shp_rat _, shp_rat _, _, rfl, ?_⟩
      rw [eqv_rat]
      exact iteNS rfl (fin _ (Same.refl _))
    · have eo : oneOf (1 + v1) v3 = (0 - (othOf (1 + v1) v3).1, (othOf (1 + v1) v3).2) := if_neg e2
      rw [eo] at r13'
      rw [show ((1 + (v1 : Int)).fmod 2 == 1) = false from beq_eq_false_iff_ne.mpr e2]
      refine iteF ?_
      refine ⟨_, rfl, pw, _, _, _, rfl, rfl, hpw.seq, at0, _, _, rfl, rfl, _, rfl, pw, _, _, _, rfl, rfl, hpw.seq, at1, (by show 2 ≤ sizeLine; decide), fun t7 nt7 => ?_⟩
      have st7 := same_new nt7 (.tup [.int (0 - (othOf (1 + v1) v3).1), .int (othOf (1 + v1) v3).2])
      refine ⟨ratD (0 - (othOf (1 + v1) v3).1, (othOf (1 + v1) v3).2), ratD (0 - (othOf (1 + v1) v3).1, (othOf (1 + v1) v3).2), rat_dp (r13'.tk (TK.of st7)), rat_dp (RatV.new (a := 0 - (othOf (1 + v1) v3).1) (b := (othOf (1 + v1) v3).2)), shp_rat _, shp_rat _, _, rfl, ?_⟩
      rw [eqv_rat]
      exact iteNS rfl (fin _ st7)
end
end LP

/-! the program's top, the closing theorem -/
namespace LP
open PySem PySem.Spec PyProof.Rows L2
/-- a def stands at the top -/
structure Dd (K : PySem.W.Frag) (x : Str) (st : Stmt) : Prop where
  ex : ∃ (f : Addr) (oc : Value) (od an : Option Addr) (osl : Array (Option Value)) (kV doc pm cdv ct : Value), PySem.W.nsIn K mainGlobals x = some (some (.ref f)) ∧
    K.lookup f = some ⟨oc, od, .func (PySem.W.fnOf x x (defArgs st) (defBody st) (defScope st) .none kV doc pm an cdv ct), osl⟩ ∧ PySem.W.codeIn K cdv x = true ∧ PySem.W.keepIn K (.ref f) = true
theorem Dd.mk' {K : PySem.W.Frag} {x : Str} {st : Stmt} {f : Addr} {oc : Value} {od an : Option Addr} {osl : Array (Option Value)} {kV doc pm cdv ct : Value} (a : PySem.W.nsIn K mainGlobals x = some (some (.ref f)))
    (l : K.lookup f = some ⟨oc, od, .func (PySem.W.fnOf x x (defArgs st) (defBody st) (defScope st) .none kV doc pm an cdv ct), osl⟩) (c : PySem.W.codeIn K cdv x = true) (k : PySem.W.keepIn K (.ref f) = true) : Dd K x st :=
  ⟨⟨f, oc, od, an, osl, kV, doc, pm, cdv, ct, a, l, c, k⟩⟩
theorem Dd.fn {K : PySem.W.Frag} {x : Str} {st : Stmt} {h : Heap} {mg : Str → Option Value} (D : Dd K x st) (X : K.In h) (G : h.Ns mainGlobals mg) : ∃ f fd, Fun K x x st f fd ∧ mg x = some (.ref f) := by
  obtain ⟨f, oc, od, an, osl, kV, doc, pm, cdv, ct, a, l, c, k⟩ := D.ex
  exact ⟨f, _, fun_mk l c k, PySem.W.mg_of X G a⟩
/-- a pair of ints of the module -/
structure Dp2 (K : PySem.W.Frag) (x : Str) (i j : Int) : Prop where
  ex : ∃ (z : Addr) (dd : Option Addr) (n : Nat) (sl : Array (Option Value)) (t u : Tok), PySem.W.nsIn K mainGlobals x = some (some (.ref z)) ∧ K.lookup z = some ⟨.type "tuple", dd, .seq #[.int i t, .int j u] n, sl⟩
theorem Dp2.mk' {K : PySem.W.Frag} {x : Str} {i j : Int} {z : Addr} {dd : Option Addr} {n : Nat} {sl : Array (Option Value)} {t u : Tok} (a : PySem.W.nsIn K mainGlobals x = some (some (.ref z))) (l : K.lookup z = some ⟨.type "tuple", dd, .seq #[.int i t, .int j u] n, sl⟩) : Dp2 K x i j :=
  ⟨⟨z, dd, n, sl, t, u, a, l⟩⟩
theorem Dp2.rat {K : PySem.W.Frag} {x : Str} {i j : Int} {h : Heap} {mg : Str → Option Value} (D : Dp2 K x i j) (X : K.In h) (G : h.Ns mainGlobals mg) : ∃ z, mg x = some (.ref z) ∧ ∀ H, RatV K H (.ref z) (i, j) := by
  obtain ⟨z, dd, n, sl, t, u, a, l⟩ := D.ex
  refine ⟨z, PySem.W.mg_of X G a, fun H => ⟨z, rfl, .inr ⟨_, _, n, l, rfl, rfl, (by show 2 ≤ sizeLine; decide), .cons ⟨t, rfl⟩ (.cons ⟨u, rfl⟩ .nil)⟩⟩⟩

theorem all_mk {l : PySem.W.OpenLaw} {w : World} {K : PySem.W.Frag} {h : Heap} {mg : Str → Option Value} {fa f38 : Addr} (X : K.In h) (G : h.Ns mainGlobals mg) (hfa : mg "law" = some (.ref fa))
    (d5 : Dd K "is_in" (topS 5))
    (d6 : Dd K "gcd" (topS 6))
    (d7 : Dd K "reduced" (topS 7))
    (d8 : Dd K "plus" (topS 8))
    (d9 : Dd K "minus" (topS 9))
    (d10 : Dd K "times" (topS 10))
    (d11 : Dd K "over" (topS 11))
    (d15 : Dd K "trimmed" (topS 15))
    (d16 : Dd K "value_of" (topS 16))
    (d17 : Dd K "sum_of" (topS 17))
    (d18 : Dd K "product_of" (topS 18))
    (d19 : Dd K "through_points" (topS 19))
    (d23 : Dd K "need_sums" (topS 23))
    (d24 : Dd K "parts_of" (topS 24))
    (d25 : Dd K "count_of" (topS 25))
    (d26 : Dd K "table_count" (topS 26))
    (d27 : Dd K "square_polynomial" (topS 27))
    (d29 : Dd K "_law_taken" (topS 29))
    (d30 : Dd K "_law_table_count" (topS 30))
    (d31 : Dd K "_law_gcd" (topS 31))
    (d32 : Dd K "_law_is_ratio" (topS 32))
    (d33 : Dd K "_law_is_polynomial" (topS 33))
    (d34 : Dd K "_law_ratio" (topS 34))
    (d35 : Dd K "_law_plus" (topS 35))
    (d36 : Dd K "_law_times" (topS 36))
    (d37 : Dd K "_law_value" (topS 37))
    {od38 an38 : Option Addr} {sl38 : Array (Option Value)} {oc38 kV38 dc38 pm38 cd38 ct38 : Value}
    (a38 : PySem.W.nsIn K mainGlobals "law" = some (some (.ref f38))) (l38 : K.lookup f38 = some ⟨oc38, od38, .func (PySem.W.fnOf "law" "law" (defArgs (topS 38)) (defBody (topS 38)) (defScope (topS 38)) .none kV38 dc38 pm38 an38 cd38 ct38), sl38⟩) (c38 : PySem.W.codeIn K cd38 "law" = true) (k38 : PySem.W.keepIn K (.ref f38) = true)
    (dz : Dp2 K "ZERO" 0 1) (d1 : Dp2 K "ONE" 1 1) {t4 t30 : Tok} (n4 : PySem.W.nsIn K mainGlobals "MOST_SUMS" = some (some (.int 4 t4))) (n30 : PySem.W.nsIn K mainGlobals "MOST_SUM" = some (some (.int 30 t30)))
    (z_abs : PySem.W.nsIn K mainGlobals "abs" = some none) (z_len : PySem.W.nsIn K mainGlobals "len" = some none) (z_max : PySem.W.nsIn K mainGlobals "max" = some none) (z_min : PySem.W.nsIn K mainGlobals "min" = some none) (z_range : PySem.W.nsIn K mainGlobals "range" = some none) (z_zip : PySem.W.nsIn K mainGlobals "zip" = some none) (z_isi : PySem.W.nsIn K mainGlobals "isinstance" = some none) (z_int : PySem.W.nsIn K mainGlobals "int" = some none) (z_bool : PySem.W.nsIn K mainGlobals "bool" = some none) (z_tup : PySem.W.nsIn K mainGlobals "tuple" = some none) (z_lst : PySem.W.nsIn K mainGlobals "list" = some none) (z_sorted : PySem.W.nsIn K mainGlobals "sorted" = some none) (z_sum : PySem.W.nsIn K mainGlobals "sum" = some none) :
    ∃ fd : FuncData, (∀ (s : Shared) (v : Value), BindsTo s fd ⟨[v], []⟩ [("_law_script", v)]) ∧ ∀ base : Heap, K.In base → base.Ns mainGlobals mg → FnOk l.prog w K mg base CX0 7 fa fd ["_law_script"] (spLaw K) := by
  have e := hfa.symm.trans (PySem.W.mg_of X G a38)
  cases e
  have F38 := fun_mk (st := topS 38) l38 c38 k38
  have m38 := PySem.W.mg_of X G a38
  have B : Bl mg := ⟨PySem.W.mg_none_of X G z_abs, PySem.W.mg_none_of X G z_len, PySem.W.mg_none_of X G z_max, PySem.W.mg_none_of X G z_min, PySem.W.mg_none_of X G z_range, PySem.W.mg_none_of X G z_zip, PySem.W.mg_none_of X G z_isi, PySem.W.mg_none_of X G z_int, PySem.W.mg_none_of X G z_bool, PySem.W.mg_none_of X G z_tup, PySem.W.mg_none_of X G z_lst, PySem.W.mg_none_of X G z_sorted, PySem.W.mg_none_of X G z_sum⟩
  have C : Cs K mg := ⟨dz.rat X G, d1.rat X G⟩
  have N : Nm mg := ⟨⟨t4, PySem.W.mg_of X G n4⟩, ⟨t30, PySem.W.mg_of X G n30⟩⟩
  obtain ⟨f5, fd5, F5, m5⟩ := d5.fn X G
  obtain ⟨f6, fd6, F6, m6⟩ := d6.fn X G
  obtain ⟨f7, fd7, F7, m7⟩ := d7.fn X G
  obtain ⟨f8, fd8, F8, m8⟩ := d8.fn X G
  obtain ⟨f9, fd9, F9, m9⟩ := d9.fn X G
  obtain ⟨f10, fd10, F10, m10⟩ := d10.fn X G
  obtain ⟨f11, fd11, F11, m11⟩ := d11.fn X G
  obtain ⟨f15, fd15, F15, m15⟩ := d15.fn X G
  obtain ⟨f16, fd16, F16, m16⟩ := d16.fn X G
  obtain ⟨f17, fd17, F17, m17⟩ := d17.fn X G
  obtain ⟨f18, fd18, F18, m18⟩ := d18.fn X G
  obtain ⟨f19, fd19, F19, m19⟩ := d19.fn X G
  obtain ⟨f23, fd23, F23, m23⟩ := d23.fn X G
  obtain ⟨f24, fd24, F24, m24⟩ := d24.fn X G
  obtain ⟨f25, fd25, F25, m25⟩ := d25.fn X G
  obtain ⟨f26, fd26, F26, m26⟩ := d26.fn X G
  obtain ⟨f27, fd27, F27, m27⟩ := d27.fn X G
  obtain ⟨f29, fd29, F29, m29⟩ := d29.fn X G
  obtain ⟨f30, fd30, F30, m30⟩ := d30.fn X G
  obtain ⟨f31, fd31, F31, m31⟩ := d31.fn X G
  obtain ⟨f32, fd32, F32, m32⟩ := d32.fn X G
  obtain ⟨f33, fd33, F33, m33⟩ := d33.fn X G
  obtain ⟨f34, fd34, F34, m34⟩ := d34.fn X G
  obtain ⟨f35, fd35, F35, m35⟩ := d35.fn X G
  obtain ⟨f36, fd36, F36, m36⟩ := d36.fn X G
  obtain ⟨f37, fd37, F37, m37⟩ := d37.fn X G
  refine ⟨PySem.W.fnOf "law" "law" (defArgs (topS 38)) (defBody (topS 38)) (defScope (topS 38)) .none kV38 dc38 pm38 an38 cd38 ct38, fun s v => .of_eq rfl, fun base _ _ => ?_⟩
  have Gisin := ok_isin (P := l.prog) (w := w) (base := base) F5 m5 B
  have Ggcd := ok_gcd (P := l.prog) (w := w) (base := base) F6 m6 B
  have Gred := ok_red F7 m7 B Ggcd
  have Gplus := ok_plus F8 m8 Gred
  have Gminus := ok_minus F9 m9 Gred
  have Gtimes := ok_times F10 m10 Gred
  have Gover := ok_over F11 m11 Gred
  have Gtrim := ok_trim (P := l.prog) (w := w) (base := base) F15 m15 B C
  have Gval := ok_val F16 m16 B C Gtimes Gplus
  have Gsum := ok_sum F17 m17 B C Gtrim Gplus
  have Gprod := ok_prod F18 m18 B C Gtrim Gplus Gtimes
  have Gthr := ok_thr F19 m19 B C Gtrim Gminus Gover Gval Gsum Gprod
  have Gneed := ok_need F23 m23 B N Gisin
  have Gpts := ok_pts (P := l.prog) (w := w) (base := base) F24 m24 B
  have Gcnt := ok_cnt F25 m25 B Gpts
  have Gtc := ok_tc F26 m26 B Gneed Gcnt
  have Gsq := ok_sq F27 m27 B Gisin Gcnt Gthr
  have Gtak := ok_tak (P := l.prog) (w := w) (base := base) F29 m29 B
  have Gltc := ok_ltc (P := l.prog) (w := w) (base := base) F30 m30 B 3
  have Glgcd := ok_lgcd (P := l.prog) (w := w) (base := base) F31 m31 B
  have Gisrat := ok_israt F32 m32 B Glgcd
  have Gispol := ok_ispol F33 m33 B Gisrat
  have Glrat := ok_lrat F34 m34 B Glgcd
  have Glplus := ok_lplus F35 m35 Glrat
  have Gltimes := ok_ltimes F36 m36 Glrat
  have Glval := ok_lval F37 m37 B Gltimes Glplus
  exact ok_law F38 m38 B Gtak Gsq Gltc Gispol Glval Gtc
theorem walk {l : PySem.W.OpenLaw} {q : Program} {loose : List Str} {XP : (Str → Option Value) → Heap → Prop} {YP : World → Heap → Prop} {d : DefRec} {K : Params → PySem.W.Frag} (hn : l.most = some 63) (hdf : d.params.defaults = [])
    (hY : ∀ (w : World) (h : Heap), YP w h → (K w.params).In h)
    (F : ∀ (w : World) (mg : Str → Option Value) (fa : Addr) (h : Heap), (K w.params).In h → h.Ns mainGlobals mg → mg d.name = some (.ref fa) →
      ∃ fd : FuncData, (∀ (s : Shared) (u : Value), BindsTo s fd ⟨[u], []⟩ [("_law_script", u)]) ∧ ∀ base : Heap, (K w.params).In base → base.Ns mainGlobals mg → FnOk l.prog w (K w.params) mg base CX0 7 fa fd ["_law_script"] (spLaw (K w.params))) :
    PySem.W.WalkO q loose XP YP l.row.toRowW d [] (fun f vs => PySem.call f vs) :=
  L2.walk_of (n := 63) (k := 7) (x := "_law_script") (CX := fun _ => CX0) (sp := fun w => spLaw (K w.params)) hn (by decide) hdf ⟨rfl, by decide, by decide⟩ hY F (fun _ _ a ns hl _ hS => ⟨a, ns, rfl, hS, fun _ => rfl⟩) fun _ _ _ _ _ z => z
end LP
open PySem PySem.W PyProof.Rows
set_option maxRecDepth 100000 in
set_option maxHeartbeats 0 in
theorem PySem.Challenge.cw_latticepoints_k93_whole_square_tables_holds : PySem.Challenge.rw_latticepoints_k93_whole_square_tables.Holds := by
  w_on; o_law; k_head; (case hw => w_witness2)
  k_fill
  refine LP.walk (l := PySem.Challenge.rw_latticepoints_k93_whole_square_tables) rfl rfl (fun w h Y => PySem.W.kIn_of Y) ?F
  case F =>
    intro w mg fa h KX G hmg
    refine' LP.all_mk KX G hmg ?d5 ?d6 ?d7 ?d8 ?d9 ?d10 ?d11 ?d15 ?d16 ?d17 ?d18 ?d19 ?d23 ?d24 ?d25 ?d26 ?d27 ?d29 ?d30 ?d31 ?d32 ?d33 ?d34 ?d35 ?d36 ?d37 ?a38 ?l38 ?c38 ?k38 ?dz ?d1 ?n4 ?n30 ?z_abs ?z_len ?z_max ?z_min ?z_range ?z_zip ?z_isi ?z_int ?z_bool ?z_tup ?z_lst ?z_sorted ?z_sum
    (case d5 => (refine' LP.Dd.mk' ?a ?l ?c ?k; (case a => k_is); (case l => k_is); (case c => k_is); (case k => k_is)))
    (case d6 => (refine' LP.Dd.mk' ?a ?l ?c ?k; (case a => k_is); (case l => k_is); (case c => k_is); (case k => k_is)))
    (case d7 => (refine' LP.Dd.mk' ?a ?l ?c ?k; (case a => k_is); (case l => k_is); (case c => k_is); (case k => k_is)))
    (case d8 => (refine' LP.Dd.mk' ?a ?l ?c ?k; (case a => k_is); (case l => k_is); (case c => k_is); (case k => k_is)))
    (case d9 => (refine' LP.Dd.mk' ?a ?l ?c ?k; (case a => k_is); (case l => k_is); (case c => k_is); (case k => k_is)))
    (case d10 => (refine' LP.Dd.mk' ?a ?l ?c ?k; (case a => k_is); (case l => k_is); (case c => k_is); (case k => k_is)))
    (case d11 => (refine' LP.Dd.mk' ?a ?l ?c ?k; (case a => k_is); (case l => k_is); (case c => k_is); (case k => k_is)))
    (case d15 => (refine' LP.Dd.mk' ?a ?l ?c ?k; (case a => k_is); (case l => k_is); (case c => k_is); (case k => k_is)))
    (case d16 => (refine' LP.Dd.mk' ?a ?l ?c ?k; (case a => k_is); (case l => k_is); (case c => k_is); (case k => k_is)))
    (case d17 => (refine' LP.Dd.mk' ?a ?l ?c ?k; (case a => k_is); (case l => k_is); (case c => k_is); (case k => k_is)))
    (case d18 => (refine' LP.Dd.mk' ?a ?l ?c ?k; (case a => k_is); (case l => k_is); (case c => k_is); (case k => k_is)))
    (case d19 => (refine' LP.Dd.mk' ?a ?l ?c ?k; (case a => k_is); (case l => k_is); (case c => k_is); (case k => k_is)))
    (case d23 => (refine' LP.Dd.mk' ?a ?l ?c ?k; (case a => k_is); (case l => k_is); (case c => k_is); (case k => k_is)))
    (case d24 => (refine' LP.Dd.mk' ?a ?l ?c ?k; (case a => k_is); (case l => k_is); (case c => k_is); (case k => k_is)))
    (case d25 => (refine' LP.Dd.mk' ?a ?l ?c ?k; (case a => k_is); (case l => k_is); (case c => k_is); (case k => k_is)))
    (case d26 => (refine' LP.Dd.mk' ?a ?l ?c ?k; (case a => k_is); (case l => k_is); (case c => k_is); (case k => k_is)))
    (case d27 => (refine' LP.Dd.mk' ?a ?l ?c ?k; (case a => k_is); (case l => k_is); (case c => k_is); (case k => k_is)))
    (case d29 => (refine' LP.Dd.mk' ?a ?l ?c ?k; (case a => k_is); (case l => k_is); (case c => k_is); (case k => k_is)))
    (case d30 => (refine' LP.Dd.mk' ?a ?l ?c ?k; (case a => k_is); (case l => k_is); (case c => k_is); (case k => k_is)))
    (case d31 => (refine' LP.Dd.mk' ?a ?l ?c ?k; (case a => k_is); (case l => k_is); (case c => k_is); (case k => k_is)))
    (case d32 => (refine' LP.Dd.mk' ?a ?l ?c ?k; (case a => k_is); (case l => k_is); (case c => k_is); (case k => k_is)))
    (case d33 => (refine' LP.Dd.mk' ?a ?l ?c ?k; (case a => k_is); (case l => k_is); (case c => k_is); (case k => k_is)))
    (case d34 => (refine' LP.Dd.mk' ?a ?l ?c ?k; (case a => k_is); (case l => k_is); (case c => k_is); (case k => k_is)))
    (case d35 => (refine' LP.Dd.mk' ?a ?l ?c ?k; (case a => k_is); (case l => k_is); (case c => k_is); (case k => k_is)))
    (case d36 => (refine' LP.Dd.mk' ?a ?l ?c ?k; (case a => k_is); (case l => k_is); (case c => k_is); (case k => k_is)))
    (case d37 => (refine' LP.Dd.mk' ?a ?l ?c ?k; (case a => k_is); (case l => k_is); (case c => k_is); (case k => k_is)))
    (case a38 => k_is)
    (case l38 => k_is)
    (case c38 => k_is)
    (case k38 => k_is)
    (case dz => (refine' LP.Dp2.mk' ?a ?l; (case a => k_is); (case l => k_is)))
    (case d1 => (refine' LP.Dp2.mk' ?a ?l; (case a => k_is); (case l => k_is)))
    (case n4 => k_is)
    (case n30 => k_is)
    (case z_abs => k_is)
    (case z_len => k_is)
    (case z_max => k_is)
    (case z_min => k_is)
    (case z_range => k_is)
    (case z_zip => k_is)
    (case z_isi => k_is)
    (case z_int => k_is)
    (case z_bool => k_is)
    (case z_tup => k_is)
    (case z_lst => k_is)
    (case z_sorted => k_is)
    (case z_sum => k_is)
