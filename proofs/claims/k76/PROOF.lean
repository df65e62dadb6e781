import PyProof.Rows.All
import Wide.All
import OpenK.AllK
import Wide.FinOn
import KE.KStateDown
import KE.KDictWalk
import KE.KPairComp
import PyProof.DictMoreH
import HandS.ForMost
import HandS.ForExc
import HandS.Defaults
import HandS.Walk
import HandS.OwnEq
import KE.SortData
import HandS.SortInts
import PyProof.ReprNest
import PyProof.ReprReads
import PyProof.StrHeap
import HandS.HeadEnd
import HandS.HeadHook1
import HandS.HeadHook2
import PySem.Challenge.RW_lightturns_k76_whole_owed_as_known
import HandS.IsInst
import HandS.FStr
import HandS.WideBits
import HandS.Wide
import HandS.Head0
import HandS.Head1
import HandS.Head2
import Lean
import HandS.Base
import HandS.Call
import HandS.Ends
import HandS.More
import HandS.Words
import HandS.WordsExc
set_option Elab.async false
set_option linter.all false
set_option maxRecDepth 100000
set_option maxHeartbeats 0
namespace K76
open PySem PySem.Spec PyProof.Rows L2

/-! ### a dict with tuple keys: setdefault, its items walked -/
section
variable {X : Cx} {pins : List (Addr × Obj)} {σ : L2.St} {H : Hp} {s : Shared} {d : Addr} {o : Obj}
theorem frzTv {kvs : List (List L2.Key × V)} (I : Inv X pins σ H s) (h : H d = some (.frz o (.dT kvs))) :
    (d == sysModules) = false ∧ s.heap.get? d = some o ∧ o.ExactDict ∧ ∃ (es : Array DictEntry) (ep : Nat), o.data = .dict es ep ∧ es.size = kvs.length ∧
      ∀ (i : Nat) (k : List L2.Key) (v : V), kvs[i]? = some (k, v) → ∃ (en : DictEntry) (q : Addr), es[i]? = some en ∧ en.key = .ref q ∧ H q = some (.tup (k.map kV)) ∧ RelV v en.val := by
  obtain ⟨hd, z, hs, xs, pr, ob, es, ep, ho, hx, hdt, he, _⟩ := I.hok d _ h
  rw [hd] at ho
  cases ho
  refine ⟨hs, hd, hx, es, ep, hdt, ?_, fun i k v e => ?_⟩
  · have l1 : es.size = xs.length := size_of_entries he
    have l2 : kvs.length = xs.length := Paired.length pr
    omega
  · obtain ⟨b, hb, e1, e2, e3⟩ := paired_get pr e
    have q := entry_at he i
    rw [hb] at q
    exact ⟨_, b.2.1, q, rfl, e2, e3⟩
/-- the pairs of a locked dict with tuple keys: each a new tuple of the key's own tuple and the value -/
def Itit (d : Addr) (o : Obj) (kvs : List (List L2.Key × V)) : It :=
  ⟨fun i H => H d = some (.frz o (.dT kvs)) ∧ i < kvs.length,
   fun i H x H' => ∃ T q k v, kvs[i]? = some (k, v) ∧ x = .ref T ∧ H T = none ∧ H q = some (.tup (k.map kV)) ∧ H' = upd H T (.tup [.ref q, v]),
   fun i H => H d = some (.frz o (.dT kvs)) ∧ kvs.length ≤ i⟩
theorem turn_itemsT {P : Program} {w : World} {K : PySem.W.Frag} {es : Array DictEntry} {ep : Nat} {kvs : List (List L2.Key × V)} {elts : List Expr} {kk : Nat} {tpos : Pos} (it : Addr) (hod : o.data = .dict es ep) :
    Turn P w K (.Tuple elts kk tpos) (Itit d o kvs) [it] it (fun i h => ∃ ok ov, IsItemIter h it d i kvs.length ep ok ov) where
  mem := by simp
  obj := fun i h st b hb => by
    have e : b = it := by simpa using hb
    subst e
    obtain ⟨ok, ov, e⟩ := st
    exact ⟨_, e, fun v z => nomatch z⟩
  keep := fun i h h' st k => let ⟨ok, ov, e⟩ := st; ⟨ok, ov, k it (by simp) _ e⟩
  item := by
    intro X hP hw hK hc i pins s σ H E I hf st hg
    subst hP hw hK
    obtain ⟨hd, hi⟩ := hg
    obtain ⟨hs, hgd, hx, es1, ep1, hdt, hsz, ent⟩ := frzTv I hd
    obtain ⟨rfl, rfl⟩ := dict_ep hod hdt
    obtain ⟨⟨k, v⟩, hkv⟩ : ∃ p, kvs[i]? = some p := ⟨kvs[i], List.getElem?_eq_getElem hi⟩
    obtain ⟨en, q, hen, hkey, hq, hv⟩ := ent i k v hkv
    obtain ⟨ok, ov, he⟩ := st
    rw [← hsz] at he hi
    have hen2 : es1[i] = en := by
      rw [Array.getElem?_eq_getElem hi] at hen
      exact Option.some.inj hen
    have hlt : it < s.heap.objs.size := Heap.lt_size he
    refine wpAny_pyNext_items_item_raw he ⟨o, hgd, hx, hdt⟩ hi fun h' ho hT hz hk => ?_
    rw [hen2, hkey] at ho hT
    refine ⟨_, rfl, wpAny_letOwnedTupleGo_items (s := { s with heap := h' }) ho fun h'' he' sb => ?_⟩
    have hT2 : h''.get? s.heap.objs.size = some { cls := .type "tuple", data := .seq #[.ref q, en.val] } := (sb.2 _ (Nat.ne_of_gt hlt)).trans hT
    have new : ObjOk X.prog X.w (upd H s.heap.objs.size (.tup [.ref q, v])) h'' s.heap.objs.size (.tup [.ref q, v]) :=
      ⟨by show 2 ≤ sizeLine; decide, [.ref q, en.val], .cons rfl (.cons hv .nil), ⟨_, hT2, rfl, _, rfl⟩⟩
    have I1 : Inv X pins σ (upd H s.heap.objs.size (.tup [.ref q, v])) { s with heap := h'' } :=
      I.turnedNew (t' := s.toks) (ch := [it]) (fun b ob hb e => (sb.2 b (by simpa using hb)).trans (hk b ob (by simpa using hb) e)) hf (Nat.le_refl _) new
    refine ⟨.ref s.heap.objs.size, _, I1, rfl, ⟨_, q, k, v, hkv, rfl, I.hok.fresh (Nat.le_refl _), hq, rfl⟩, ⟨.ref q, en.val, ?_⟩, fun b hb => ?_⟩
    · rw [← hsz]; exact he'
    · have e : b = it := by simpa using hb
      rw [e, upd_ne (Nat.ne_of_lt hlt)]
      exact (hf it (by simp)).1
  done := by
    intro X hP hw hK hc i pins s σ H E I hf st hg
    subst hP hw hK
    obtain ⟨hd, hi⟩ := hg
    obtain ⟨f0, f1, f2, f3, f4, f5⟩ := hf it (by simp)
    obtain ⟨hs, hgd, hx, es1, ep1, hdt, hsz, ent⟩ := frzTv I hd
    obtain ⟨rfl, rfl⟩ := dict_ep hod hdt
    obtain ⟨ok, ov, he⟩ := st
    rw [← hsz] at he hi
    exact wpAny_pyNext_items_end_raw (I.ok.hd hc) he ⟨o, hgd, hx, hdt⟩ hi fun h' eb => ⟨rfl, I.turned (t' := s.toks) (fun b ob hb e => eb b ob hb e) f0 f1 f3 f4 f5⟩
  self := fun A i s Q E st h => let ⟨_, _, e⟩ := st; PySem.W.kcp_self e h
def iItemsT (td : TE) : TI := fun σ H R => td σ H fun x H1 => ∃ d o kvs, x = .ref d ∧ H1 d = some (.frz o (.dT kvs)) ∧ R (Itit d o kvs) H1
theorem pi_itemsT {e : Expr} {td : TE} {apos cpos : Pos} {elts : List Expr} {kk : Nat} {tpos : Pos} (he : PE X e td) (hbase : attributeBase e "items" X.env (eval e X.env) = eval e X.env := by rfl) (hline : (apos.endLine == cpos.line) = true := by rfl) :
    PI X (.Tuple elts kk tpos) (.Call (.Attribute e "items" apos) [] [] cpos) (iItemsT td) := by
  refine ⟨fun pins s σ H R I h => ?_⟩
  refine wpAny_Call_method (T := "dict") (id := "dict.items") hbase rfl hline F.plainAttrs_dict F.slot_dict_items F.type_dict_items (thn (he.run pins s σ H _ I h) fun u s1 hq => ?_)
  obtain ⟨x, H1, I1, rx, d, o, kvs, ex, hd, q⟩ := hq
  subst ex
  obtain rfl : u = Value.ref d := rx
  obtain ⟨hs, hgd, hx, es, ep, hdt, hsz, _⟩ := frzTv I1 hd
  have hm : s1.heap.DictRaw d es ep := ⟨o, hgd, hx, hdt⟩
  obtain ⟨t1, t2, _⟩ := isD_at I1 (.inr ⟨kvs, .inr ⟨o, hd⟩⟩)
  refine ⟨t1, t2, ?_⟩
  have I2 : Inv X pins σ H1 { s1 with heap := s1.heap.push { cls := .type "dict_items", data := .fields #[.ref d] } } := I1.kept (t' := s1.toks) fun b ob q => Heap.get?_push_of_some _ q
  have fin : wpAny (model X.prog X.w) X.A (pyIter (.ref s1.heap.objs.size)) (PIE X pins σ (.Tuple elts kk tpos) R) X.xe { s1 with heap := s1.heap.push { cls := .type "dict_items", data := .fields #[.ref d] } } := by
    refine wpAny_pyIter_items_raw (d := d) ⟨_, Heap.get?_push_size _ rfl, rfl, rfl⟩ (hm.at fun ob e => Heap.get?_push_of_some _ e) (pi_one (tk := s1.toks) I2 _ (turn_itemsT _ hdt) ⟨.none, .none, ?_⟩ q)
    rw [← hsz]
    exact Heap.get?_push_size _ rfl
  show wpAny _ _ (callWith cpos (.builtin "dict.items") [.ref d] [] []) _ X.xe s1
  exact method_meetsIn F.slot_dict_items F.entry_dict_items rfl (PySem.evalArgs_none ⟨rfl, hm.typeIs, F.args_dict_items_1 _, _, meets_dict_items_raw d hs, ⟨es, ep, hm⟩, fin⟩)
theorem walk_itemsT {kvs : List (List L2.Key × V)} : L2.Walk (Itit d o kvs) kvs.length (fun H => H d = some (.frz o (.dT kvs)))
    (fun i H x H' => ∃ T q k v, kvs[i]? = some (k, v) ∧ x = .ref T ∧ H T = none ∧ H q = some (.tup (k.map kV)) ∧ H' = upd H T (.tup [.ref q, v])) :=
  ⟨fun _ _ hi q => ⟨q, hi⟩, fun _ q => ⟨q, Nat.le_refl _⟩, fun _ _ _ _ _ _ y => y⟩
end
/-- d.setdefault(y, z) -/
def tDSetdT (td ty tx : TE) : TE := fun σ H Q => td σ H fun x H1 => ∃ a, x = .ref a ∧ IsD H1 a ∧ ty σ H1 fun y H2 => tx σ H2 fun z H3 => ∃ (kvs : List (List L2.Key × V)) (k : List L2.Key) (b : Addr), H3 a = some (.dT kvs) ∧ y = .ref b ∧
  H3 b = some (.tup (k.map kV)) ∧ kvs.length < sizeLine ∧ (∀ v, valV kvs k = some v → Q v H3) ∧ (valV kvs k = none → Q z (upd H3 a (.dT (putK kvs k z))))
section
variable {X : Cx} {o e f : Expr} {td ty tx : TE} {apos cpos : Pos}
theorem pe_dsetdT (hu : X.A.units + 1 < cLine) (ho : PE X o td) (he : PE X e ty) (hf : PE X f tx) (m : M2 X o "setdefault" apos e f cpos) : PE X (.Call (.Attribute o "setdefault" apos) [e, f] [] cpos) (tDSetdT td ty tx) := by
  refine ⟨fun pins s σ H Q I h => ?_⟩
  refine wpAny_Call_method m.base m.few m.line PySem.F.plainAttrs_dict PySem.F.slot_dict_setdefault PySem.F.type_dict_setdefault (thn (ho.run pins s σ H _ I h) fun u s1 hq => ?_)
  obtain ⟨x, H1, I1, rx, a, ex, d, q1⟩ := hq
  subst ex
  obtain rfl : u = Value.ref a := rx
  obtain ⟨t1, t2, _⟩ := isD_at I1 d
  refine ⟨t1, t2, ?_⟩
  rw [m.trees]
  refine Calls.callWith_builtin rfl (Calls.evalArgs_plain (Calls.spliced_cons (thn (he.run pins s1 σ H1 _ I1 q1) fun iv s2 hq2 => ?_)))
  obtain ⟨y, H2, I2, ry, q2⟩ := hq2
  refine Calls.spliced_cons (thn (hf.run pins s2 σ H2 _ I2 q2) fun fv s3 hq3 => ?_)
  obtain ⟨z, H3, I3, rz, kvs, k, b, ea, ey, eb, hl, q3, q4⟩ := hq3
  refine Calls.spliced_nil ?_
  subst ey
  obtain rfl : iv = Value.ref b := ry
  obtain ⟨z0, hd, xs, rel, dd⟩ := dt_of I3.hok ea
  have hz : xs.length ≤ sizeLine := by rw [← Paired.length rel]; exact z0
  have hl2 : (putK kvs k z).length ≤ sizeLine := by have := length_putK kvs k z; omega
  refine call_setdefault_heap (tupleKind_room_in1 hu) (key_of I3.hok eb) hd dd (fun p hp => ?_) (fun hn h' dd' hs => ?_) hz
  · have r := rel.val k
    rw [hp] at r
    cases q0 : valV kvs k with
    | none =>
      rw [q0] at r
      exact (show False from r).elim
    | some v0 =>
      rw [q0] at r
      exact ⟨v0, H3, I3.tok _, r, q3 v0 q0⟩
  · have r := rel.val k
    rw [hn] at r
    cases q0 : valV kvs k with
    | some v0 =>
      rw [q0] at r
      exact (show False from r).elim
    | none =>
      obtain ⟨q, es, ep, hq, h2, h3, h4, _, h5⟩ := dd'
      refine ⟨z, upd H3 a (.dT (putK kvs k z)), d_write I3 (by rw [ea]; exact True.intro) hs ⟨q, hq⟩ ⟨hl2, hd, _, (rel.put k eb rz).keeps fun c ys ec => ?_, q, es, ep, hq, h2, h3, h4, h5⟩, rz, q4 q0⟩
      rw [upd_ne (ne_of ec ea (fun z => nomatch z))]
      exact ec
end
end K76
namespace K76
open PySem PySem.Spec PyProof.Rows L2

/-! ### sorted of a list of tuples (int, text) -/
abbrev DP := Addr × Int × Str
def dpEnc (b : DP) : PyData := .tuple [.int b.2.1, .str b.2.2]
def dpV (b : DP) : List V := [.int b.2.1, .str b.2.2]
theorem dp_alike (a b : DP) : PySem.W.alike (dpEnc a) (dpEnc b) = true := by
  simp [dpEnc, PySem.W.alike, PySem.W.alikeAll]
theorem dp_le {a b : DP} (h : PySem.W.dataLe false dpEnc a b = true) : a.2.1 ≤ b.2.1 := by
  have h1 : (!PySem.W.dataLt (dpEnc b) (dpEnc a)) = true := h
  have h2 : PySem.W.dataLt (dpEnc b) (dpEnc a) = false := by
    cases e : PySem.W.dataLt (dpEnc b) (dpEnc a) with
    | false => rfl
    | true => rw [e] at h1; cases h1
  unfold dpEnc at h2
  rw [PySem.W.dataLt_pair (by simp [PySem.W.alike]) (by simp [PySem.W.alike]), PySem.W.dataLt_int] at h2
  by_cases e : PyData.eqv (.int b.2.1) (.int a.2.1) = true
  · have e2 : b.2.1 = a.2.1 := by simpa [PyData.eqv] using e
    omega
  · rw [if_neg e] at h2
    have := of_decide_eq_false h2
    omega
theorem dp_depth (b : DP) : (dpEnc b).depth ≤ 3 := by
  simp [dpEnc, PyData.depth, PyData.depthAll]
theorem dataLe_total : PySem.W.TotalLe (PySem.W.dataLe false dpEnc) := PySem.W.sortLe_total _ _ _
section
variable {X : Cx} {pins : List (Addr × Obj)} {σ : L2.St} {H : Hp} {s : Shared}
theorem dp_reads (I : Inv X pins σ H s) {b : DP} (h : H b.1 = some (.tup (dpV b))) : Reads s.heap (.ref b.1) (dpEnc b) ([] ++ ([] ++ [])) := by
  obtain ⟨_, its, r, o, ho, hc, n, hd⟩ := I.hok b.1 _ h
  obtain ⟨u, w', rfl, ⟨t, rfl⟩, ⟨t', rfl⟩⟩ := vals2 r
  refine .tuple ho hc hd ?_
  exact .cons (.int _ _) (.cons (.str _ _) .nil)
theorem dp_each (I : Inv X pins σ H s) : ∀ (bs : List DP), (∀ b ∈ bs, H b.1 = some (.tup (dpV b))) →
    PySem.W.EachIs (fun v b => ∃ as, Reads s.heap v (dpEnc b) as) (bs.map fun b => Value.ref b.1) bs
  | [], _ => .nil
  | b :: bs, h => .cons ⟨_, dp_reads I (h b List.mem_cons_self)⟩ (dp_each I bs fun c hc => h c (List.mem_cons_of_mem _ hc))
theorem ref_each : ∀ (bs : List DP), PySem.W.EachIs (fun (v : Value) (b : DP) => v = .ref b.1) (bs.map fun b => Value.ref b.1) bs
  | [] => .nil
  | b :: bs => .cons rfl (ref_each bs)
theorem each_refs : ∀ {vs : List Value} {bs : List DP}, PySem.W.EachIs (fun (v : Value) (b : DP) => v = .ref b.1) vs bs → vs = bs.map fun b => Value.ref b.1
  | _, _, .nil => rfl
  | _, _, .cons h t => by rw [List.map_cons, h, each_refs t]
theorem vals_refs : ∀ (bs : List DP), Vals (bs.map fun b => V.ref b.1) (bs.map fun b => Value.ref b.1)
  | [] => .nil
  | b :: bs => .cons rfl (vals_refs bs)
theorem refs_vals : ∀ {bs : List DP} {us : List Value}, Vals (bs.map fun b => V.ref b.1) us → us = bs.map fun b => Value.ref b.1
  | [], us, h => by
    cases us with
    | nil => rfl
    | cons _ _ => cases h
  | b :: bs, us, h => by
    cases us with
    | nil => cases h
    | cons u us =>
      obtain ⟨r, t⟩ : RelV (.ref b.1) u ∧ Vals (bs.map fun b => V.ref b.1) us := by
        cases h with
        | cons r t => exact ⟨r, t⟩
      rw [List.map_cons, ← refs_vals t]
      rw [show u = Value.ref b.1 from r]
end
def rSortDP (K : PySem.W.Frag) : List V → Hp → VK → Prop := fun vs H Q => ∃ (a : Addr) (bs : List DP), vs = [.ref a] ∧ SqL K H a (bs.map fun b => V.ref b.1) ∧ (∀ b ∈ bs, H b.1 = some (.tup (dpV b))) ∧
  ∀ (bs' : List DP) (p : Addr), bs'.Perm bs → bs'.Pairwise (fun x y => x.2.1 ≤ y.2.1) → H p = none → Q (.ref p) (upd H p (.lst (bs'.map fun b => V.ref b.1)))
theorem cr_sortedDP {X : Cx} (hu : X.A.units + 64 < cLine) : CallR X (.builtin "sorted") (rSortDP X.K) := by
  intro pins s σ H vs us Q I r h
  obtain ⟨a, bs, rfl, hs, ht, q⟩ := h
  obtain ⟨its, rv, hl, hz⟩ := I.list hs
  rw [Vals.ref1 r]
  have ei := refs_vals rv
  subst ei
  rw [List.length_map] at hz
  refine PySem.W.sorted_data hl.isList (ref_each bs) (dp_each I bs ht) (PySem.W.AllAlike.of dp_alike) (PySem.W.Sortable.tuples fun b => ⟨_, _, rfl⟩) hz (fun b _ => by have := dp_depth b; omega) fun out h1 h2 => ?_
  have eo := each_refs h2
  have hp : (bs.mergeSort (PySem.W.dataLe false dpEnc)).Perm bs := List.mergeSort_perm _ _
  have hs2 := (PySem.W.sort_pairwise dataLe_total bs).imp (S := fun (x y : DP) => x.2.1 ≤ y.2.1) fun h => dp_le h
  obtain ⟨ep, he'⟩ := PyProof.Rows.sortedAll_at s.heap (bs.map fun b => Value.ref b.1) out.toArray
  rw [eo] at he'
  rw [eo]
  have hlen : ((bs.mergeSort (PySem.W.dataLe false dpEnc)).map fun b => V.ref b.1).length ≤ sizeLine := by
    rw [List.length_map, hp.length_eq]
    exact hz
  exact ⟨.ref _, upd H (s.heap.objs.size + 1) (.lst ((bs.mergeSort (PySem.W.dataLe false dpEnc)).map fun b => V.ref b.1)), I.laid (t' := s.toks) (fun _ _ => PyProof.Rows.sortedAll_old) (Nat.le_succ _)
    ⟨hlen, _, ep, vals_refs _, he'⟩, rfl, q _ _ hp hs2 (I.hok.fresh (Nat.le_succ _))⟩
end K76
namespace K76
open PySem PySem.Spec PyProof.Rows L2

/-! ### repr of lists whose items are own instances, tuples of ints, lists -/
section
variable {prog : Program} {w : World} {M : Model} {A : Around} {E : Value → Shared → Prop} {s : Shared} {K : PySem.W.Frag} {x C f : Addr} {ox : Obj} {od : Option Obj} {name : Str}
theorem ifBoundBy_own {last : Value → List Value → Sem Value} {Q : Option Value → Shared → Prop} (X : K.In s.heap) (I : PySem.W.InstAt s.heap x ox C od) (hs : PySem.W.findIn K (.ref C) name = some (some (.ref f))) (hf : PySem.W.isFn K (.ref f) = true)
    (h : wpAny M A (last (.ref f) [.ref x]) (fun v => Q (some v)) E s) : wpAny M A (callSpecialIfBoundBy? last (.ref x) name) Q E s := by
  simp only [callSpecialIfBoundBy?, bindSpecialIfBound?]
  refine wpAny_holding (wpAny_bind (wpAny_bind (wpAny_bind (I.type.here ((PySem.W.looks_findIn X hs).here ?_)))))
  refine wpAny_bind (wpAny_askSetting (wpAny_ite ?_))
  have fin : wpAny M A (last (.ref f) [.ref x] >>= fun v => pure (some v)) Q E s := wpAny_bind (wpAny_mono h (fun v s' h' => wpAny_pure h') fun _ _ h' => h')
  split
  · exact wpAny_bind ((PySem.W.bind_fn X _ (beq_iff_eq.mp hf)).here (wpAny_pure (by exact fin)))
  · exact wpAny_tryCatch (wpAny_bind ((PySem.W.bind_fn X _ (beq_iff_eq.mp hf)).here (wpAny_pure (by exact fin))))
theorem reprObjUnder_own {b : Nat} {Q : Value → Shared → Prop} (hu : A.units < cLine) (X : K.In s.heap) (I : PySem.W.InstAt s.heap x ox C od) (hs : PySem.W.findIn K (.ref C) "__repr__" = some (some (.ref f))) (hf : PySem.W.isFn K (.ref f) = true)
    (h : wpAny (model prog w) A (call (.ref f) [.ref x]) (fun v s' => (∃ y u, v = .str y u) ∧ Q v s') E s) : wpAny (model prog w) A (pyReprObjUnder b (.ref x)) Q E s := by
  unfold pyReprObjUnder pyReprObjBy
  refine wpAny_bind (wpAny_cRoomFor hu ?_)
  refine wpAny_bind (m := specialOf (.ref x) "__repr__") (wpAny_bind (I.type.here ((PySem.W.looks_findIn X hs).here ?_)))
  refine wpAny_bind (ifBoundBy_own (name := "__repr__") X I hs hf ?_)
  refine wpAny_mono h (fun v s' hv => ?_) fun _ _ z => z
  obtain ⟨⟨y, u, rfl⟩, hq⟩ := hv
  exact wpAny_bind (wpAny_isInstance (T := "str") (b := true) rfl isSubtype_str_str (wpAny_pure hq))
end

/-- what is shown of what: t the text of x; as: the addresses that must not be shown already -/
abbrev Rep := V → Str → List Addr → Hp → Prop
def MonR (D : Rep) : Prop := ∀ x t as H H', L2.Ext H H' → D x t as H → D x t as H'
def RepG (X : Cx) (n : Nat) (D : Rep) : Prop :=
  ∀ (base : Nat) (A : Around) (g : List Code) (pins : List (Addr × Obj)) (s : Shared) (σ : L2.St) (H : Hp) (x : V) (u : Value) (t : Str) (as : List Addr), L2.Sub X n A → A.guards = some g → (∀ b ∈ as, Clear g b) → Inv X pins σ H s → RelV x u → D x t as H →
    base + t.length ≤ sizeLine → wpAny (model X.prog X.w) A (pyReprUnder base u) (fun r s' => r = t ∧ ∃ H', Inv X pins σ H' s' ∧ L2.Ext H H') X.xe s
theorem RepG.mono {X : Cx} {n m : Nat} {D : Rep} (h : RepG X n D) (hn : n ≤ m) : RepG X m D := fun base A g pins s σ H x u t as sb => h base A g pins s σ H x u t as (sb.mono hn)

/-- an own instance by its own __repr__ -/
def DIns (C : Addr) (R : Addr → Str → Hp → Prop) : Rep := fun x t _ H => ∃ a dx fs, x = .ref a ∧ H a = some (.ins C dx fs) ∧ R a t H
def spRep (R : Addr → Str → Hp → Prop) : Sp := fun vs H Q _ => ∃ a t, vs = [.ref a] ∧ R a t H ∧ ∀ H', L2.Ext H H' → Q (.str t) H'
theorem repG_ins {X : Cx} {n : Nat} {CX : CXT} {C f : Addr} {fd : FuncData} {ps : List Str} {R : Addr → Str → Hp → Prop} {E : XK} (F : FnOk X.prog X.w X.K X.mg X.base CX n f fd ps (spRep R))
    (hs : PySem.W.findIn X.K (.ref C) "__repr__" = some (some (.ref f))) (hf : PySem.W.isFn X.K (.ref f) = true) (hb : Binds X.K fd ps []) (hx : Passes CX X E) : RepG X n (DIns C R) := by
  intro base A g pins s σ H x u t as sb hg hcl I rx d hz
  obtain ⟨a, dx, fs, rfl, ha, hr⟩ := d
  cases rx
  obtain ⟨mA, J, _⟩ := ins_get I.hok ha
  obtain ⟨od, J, _⟩ := J.look
  refine wpAny_pyReprUnder_ref (by omega) (reprObjUnder_own sb.room.units0 I.kIn J hs hf ?_)
  have hsp : spRep R [.ref a] H (fun v H' => v = .str t ∧ L2.Ext H H') E := ⟨a, t, rfl, hr, fun H' e => ⟨rfl, e⟩⟩
  have e0 : Env0 X.prog X.w X.K X.mg X.base A X.stack s H := by
    have e := I.env0
    exact ⟨by rw [sb.fr]; exact e.frames, e.mod, e.bs, e.bsz, e.funs, e.frf, e.hok, e.bare⟩
  have hl := F.len _ _ _ _ hsp
  have r2 : Vals [V.ref a] [Value.ref a] := .cons rfl .nil
  refine wpAny_call (codeAny_mono (F.run A X.stack s H ⟨[.ref a], []⟩ [.ref a] [.ref a] _ E sb.room e0 (by
    have := hb s [.ref a] I.kIn (by simpa using hl)
    simpa using this) r2 hsp) fun r s' hq => ?_)
  cases r with
  | error e => exact hx pins σ H s e s' I hq
  | ok fl =>
    cases fl with
    | ret w =>
      obtain ⟨z, H', I', rz, ez, ex⟩ := I.after hq
      subst ez
      obtain ⟨tk, rfl⟩ := rz
      exact ⟨⟨t, tk, rfl⟩, t, tk, rfl, rfl, H', I', ex⟩
    | next => exact False.elim hq
    | brk => exact False.elim hq
    | cont => exact False.elim hq

/-- a tuple of ints -/
def DInts : Rep := fun x t as H => ∃ (a : Addr) (ns : List Int), x = .ref a ∧ H a = some (.tup (ns.map V.int)) ∧ (∀ n ∈ ns, n.natAbs.log2 < 1920) ∧ t = tupleText (ns.map fun n => (toString n : Str)) ∧ a ∈ as
theorem mon_ints : MonR DInts := fun x t as H H' e d => by
  obtain ⟨a, ns, h1, h2, h3⟩ := d
  exact ⟨a, ns, h1, e _ _ h2, h3⟩
theorem ints_all {prog : Program} {w : World} {h : Heap} : ∀ {ns : List Int} {its : List Value}, Vals (ns.map V.int) its → (∀ n ∈ ns, n.natAbs.log2 < 1920) → ReprAllK prog w [] h 0 its (ns.map fun n => (toString n : Str))
  | [], _, r, _ => by
    cases r
    exact .nil
  | n :: ns, _, r, h => by
    cases r with
    | cons r1 r2 =>
      obtain ⟨t, rfl⟩ := r1
      exact .cons (ReprK.of_is (ReprIs.int t (h n List.mem_cons_self)) _ _ _) (ints_all r2 fun z hz => h z (List.mem_cons_of_mem _ hz))
theorem repG_ints {X : Cx} : RepG X 0 DInts := by
  intro base A g pins s σ H x u t as sb hg hcl I rx d hz
  obtain ⟨a, ns, rfl, ha, hn, rfl, has⟩ := d
  cases rx
  obtain ⟨_, its, r, o, ho, hc, n, hd⟩ := I.hok a _ ha
  have hk : ReprK X.prog X.w [a] s.heap 1 (.ref a) (tupleText (ns.map fun n => (toString n : Str))) := ReprK.tuple (as := []) (d := 0) ho hc hd (by simp) (by simpa using ints_all r hn)
  have hu := sb.room.units
  refine hk base hz A g X.xe s _ hg (fun b hb => ?_) (by omega) (fun _ _ e => e) fun h' tk k => ⟨rfl, H, I.kept (t' := tk) k, fun _ _ e => e⟩
  have e : b = a := by simpa using hb
  rw [e]
  exact hcl a has

/-- a list, item by item -/
def DLst (D : Rep) : Rep := fun x t as H => ∃ (a : Addr) (xs : List V) (ts : List Str) (as0 : List Addr), x = .ref a ∧ H a = some (.lst xs) ∧ ts.length = xs.length ∧ (∀ (i : Nat) y, xs[i]? = some y → ∃ t, ts[i]? = some t ∧ D y t as0 H) ∧ t = listText ts ∧ a ∈ as ∧ a ∉ as0 ∧ ∀ b ∈ as0, b ∈ as
theorem mon_lst {D : Rep} (hD : MonR D) : MonR (DLst D) := fun x t as H H' e d => by
  obtain ⟨a, xs, ts, as0, h1, h2, h3, h4, h5⟩ := d
  refine ⟨a, xs, ts, as0, h1, e _ _ h2, h3, fun i y hy => ?_, h5⟩
  obtain ⟨t, ht, d⟩ := h4 i y hy
  exact ⟨t, ht, hD _ _ _ _ _ e d⟩
theorem strs_vals : ∀ {l : List Str} {its : List Value}, Vals (l.map V.str) its → ∃ done : List (Str × Tok), its = strValues done ∧ done.map (·.1) = l
  | [], its, r => by
    cases r
    exact ⟨[], rfl, rfl⟩
  | x :: l, its, r => by
    cases r with
    | cons r1 r2 =>
      obtain ⟨t, rfl⟩ := r1
      obtain ⟨done, e1, e2⟩ := strs_vals r2
      exact ⟨(x, t) :: done, by rw [e1]; rfl, by rw [List.map_cons, e2]⟩
theorem loop_depth {A : Around} {args : Args} : (A.under (.builtin "list.__repr__.loop" args)).depth ≤ A.depth + 1 := by
  first
    | exact Nat.le_refl _
    | (simp [Around.under, Code.weight, Code.isCreation, Code.isGuard, Code.isCaller, Code.frames, Code.isFrame, guardIds])
theorem loop_frames {A : Around} {args : Args} : (A.under (.builtin "list.__repr__.loop" args)).frames = A.frames := by
  first
    | rfl
    | simp [Around.under, Code.envs, Code.isFrame, pushEnvs]
theorem sub_loop {X : Cx} {n : Nat} {A : Around} (sb : L2.Sub X (n + 1) A) (args : Args) : L2.Sub X n (A.under (.builtin "list.__repr__.loop" args)) :=
  ⟨⟨sb.room.hd, by have := sb.room.dp; have := loop_depth (A := A) (args := args); omega, by have := sb.room.un; rw [units_under_list_loop]; omega⟩, by rw [loop_frames]; exact sb.fr⟩
section
variable {X : Cx} {n : Nat} {D : Rep} {A : Around} {g : List Code} {a : Addr} {xs : List V} {ts : List Str} {as as0 : List Addr} {base : Nat} {H0 : Hp} {R : Result → Shared → Prop} {pins : List (Addr × Obj)} {σ : L2.St}
theorem rep_loop {P : Addr} (hD : RepG X n D) (hM : MonR D) (sb : L2.Sub X (n + 1) A) (hg : A.guards = some g) (ha : H0 a = some (.lst xs)) (hP0 : H0 P = none) (hl : ts.length = xs.length)
    (hT : ∀ (i : Nat) y, xs[i]? = some y → ∃ t, ts[i]? = some t ∧ D y t as0 H0) (hcl : ∀ b ∈ as0, Clear g b) (hna : a ∉ as0) (hsz : base + (listText ts).length ≤ sizeLine)
    (hR : ∀ s' u H', Inv X pins σ H' s' → L2.Ext H0 H' → R (.ok (.ret (.str (listText ts) u))) s') (hE : ∀ e s', X.xe e s' → R (.error e) s') :
    ∀ (k i : Nat) (s : Shared) (H : Hp), xs.length - i = k → i ≤ xs.length → Inv X pins σ H s → L2.Ext H0 H → H P = some (.lst ((ts.take i).map V.str)) →
      codeAny (model X.prog X.w) A (.builtin "list.__repr__.loop" ⟨[.ref a, rawInt i, .ref P, rawInt ((base + piled (ts.take i) : Nat) : Int)], []⟩) R s := by
  have hX : (listText ts).length = (textFrom 0 "[" ts).length + 1 := by
    show (textFrom 0 "[" ts ++ "]").length = _
    rw [strLen_append]; rfl
  have hL := textFrom_len ts 0 "["
  have hsz1 : ts.length ≤ sizeLine := by
    have h1 := hL.1
    rw [if_neg (Nat.lt_irrefl 0)] at h1
    omega
  have hsz2 : ∀ t ∈ ts, t.length ≤ sizeLine := fun t ht => by
    have h2 := hL.2.1 t ht
    omega
  have hsz3 : (listText ts).length ≤ sizeLine := by omega
  have hp3 := piled_le_listText ts
  have hne : a ≠ P := ne_of_none ha hP0
  intro k
  induction k with
  | zero =>
    intro i s H hk hi I e0 hP
    have hin : i = xs.length := by omega
    obtain ⟨_, its, na, rv, hoa⟩ := I.hok a _ (e0 _ _ ha)
    obtain ⟨_, its2, nP, rv2, hoP⟩ := I.hok P _ hP
    obtain ⟨done, ed, em⟩ := strs_vals rv2
    refine codeAny_builtin F.entry_list_repr_loop ?_
    show wpAny _ _ (Builtin.«list.__repr__.loop» ⟨[.ref a, .int i 0, .ref P, .int ((base + piled (ts.take i) : Nat) : Int) 0], []⟩) _ _ s
    rw [repr_loop_tree]
    refine wpAny_bind (wpAny_listItems hoa rfl ?_)
    have hlen := rv.length
    have hnone : its.toArray[(i : Int).toNat]? = none := by simp; omega
    simp only [hnone]
    unfold reprEnd
    refine wpAny_bind (wpAny_listItems hoP rfl ?_)
    rw [show its2.toArray.toList = strValues done by simpa using ed, repr_fold]
    refine wpAny_bind (wpAny_pure ?_)
    have hall : done.map (·.1) = ts := by rw [em, hin, ← hl, List.take_length]
    rw [hall]
    refine wpAny_bind (wpAny_mkStr (wpAny_pure ?_) hsz3)
    exact hR _ _ H (I.tok _) e0
  | succ k ih =>
    intro i s H hk hi I e0 hP
    have hlt : i < xs.length := by omega
    obtain ⟨_, its, na, rv, hoa⟩ := I.hok a _ (e0 _ _ ha)
    have hlen := rv.length
    have hlt2 : i < its.length := by omega
    obtain ⟨t, ht, hd⟩ := hT i xs[i] (List.getElem?_eq_getElem hlt)
    have hp1 := piled_take_succ ht
    have hp2 := piled_take_le ts (i + 1)
    obtain ⟨u, hu, ru⟩ := rv.get (List.getElem?_eq_getElem hlt)
    refine codeAny_builtin F.entry_list_repr_loop ?_
    show wpAny _ _ (Builtin.«list.__repr__.loop» ⟨[.ref a, .int i 0, .ref P, .int ((base + piled (ts.take i) : Nat) : Int) 0], []⟩) _ _ s
    rw [repr_loop_tree]
    refine wpAny_bind (wpAny_listItems hoa rfl ?_)
    have hsome : its.toArray[(i : Int).toNat]? = some u := by simpa using hu
    simp only [hsome]
    rw [Int.toNat_natCast]
    refine wpAny_bind (wpAny_holding (wpAny_mono (hD (base + piled (ts.take i) + 1) _ _ pins s σ H _ u t as0 (sub_loop sb _) (guards_under_guard (isGuard_list_loop _) hg)
      (fun b hb => (hcl b hb).cons (a := a) fun e => hna (e ▸ hb)) I ru (hM _ _ _ _ _ e0 hd) (by omega)) (fun r s1 hr => ?_) fun e s1 hx => hE e s1 hx))
    obtain ⟨rfl, H1, I1, e1⟩ := hr
    refine wpAny_bind (wpAny_mkStr ?_ (hsz2 r (List.mem_of_getElem? ht)))
    have hP1 := e1 _ _ hP
    have I2 := I1.tok (s1.toks + 1)
    obtain ⟨zP, its2, nP, rv2, hoP⟩ := I1.hok P _ hP1
    refine wpAny_bind ?_
    show wpAny _ _ (updateSeq P _) _ _ _
    have hasz : its2.toArray.size ≤ sizeLine := by
      have e4 : ((ts.take i).map V.str).length ≤ i := by rw [List.length_map, List.length_take]; omega
      have e5 := rv2.length
      rw [List.size_toArray]
      omega
    refine wpAny_updateSeq (s := { s1 with toks := s1.toks + 1 }) hoP rfl (wpAny_pure ⟨F.quiet_list_repr_loop _, ?_⟩) hasz
    have q1 : ((i : Int) + 1) = ((i + 1 : Nat) : Int) := by omega
    have q2 : base + piled (ts.take i) + (r.length + 2) = base + piled (ts.take (i + 1)) := by omega
    rw [q1, q2]
    obtain ⟨nP2, hnew⟩ : ∃ m, (s1.heap.update P (Obj.mapSeq fun x => x.push (.str r s1.toks))).get? P = some { cls := .type "list", data := .seq (its2.toArray.push (.str r s1.toks)) m } := ⟨_, Heap.get?_update_self _ hoP rfl⟩
    refine ih (i + 1) _ (upd H1 P (.lst ((ts.take (i + 1)).map V.str))) (by omega) hlt ?_ (fun b o e => ?_) upd_same
    · refine I1.write (e := P) (t' := s1.toks + 1) (by rw [hP1]; trivial) (.inl rfl) (fun b v hb hv => (Heap.get?_update_other _ _ (fun h : P = b => hb h.symm)).trans hv) ⟨_, hnew⟩ ⟨?_, its2 ++ [.str r s1.toks], nP2, ?_, ?_⟩
      · rw [List.length_map, List.length_take]
        omega
      · rw [List.take_add_one, ht, List.map_append]
        exact rv2.append (.cons ⟨_, rfl⟩ .nil)
      · rw [hnew]
        simp
    · have hbP : b ≠ P := ne_of_none e hP0
      rw [upd_ne hbP]
      exact e1 _ _ (e0 _ _ e)
theorem rep_body (hD : RepG X n D) (hM : MonR D) (sb : L2.Sub X (n + 1) A) (hg : A.guards = some g) {s : Shared} {H : Hp} (I : Inv X pins σ H s) (ha : H a = some (.lst xs)) (h0 : xs ≠ []) (hl : ts.length = xs.length)
    (hT : ∀ (i : Nat) y, xs[i]? = some y → ∃ t, ts[i]? = some t ∧ D y t as0 H) (hca : Clear g a) (hcl : ∀ b ∈ as0, Clear g b) (hna : a ∉ as0) (hsz : base + (listText ts).length ≤ sizeLine)
    (hR : ∀ s' u H', Inv X pins σ H' s' → L2.Ext H H' → R (.ok (.ret (.str (listText ts) u))) s') (hE : ∀ e s', X.xe e s' → R (.error e) s') :
    wpAny (model X.prog X.w) A.in1 (Builtin.listReprAt base ⟨[.ref a], []⟩) (fun fin s' => match fin with | .done f => R (.ok f) s' | .again c' => c'.quiet = true ∧ codeAny (model X.prog X.w) A c' R s') (fun e s' => R (.error e) s') s := by
  obtain ⟨_, its, na, rv, hoa⟩ := I.hok a _ ha
  cases its with
  | nil =>
    cases xs with
    | nil => exact absurd rfl h0
    | cons _ _ => cases rv
  | cons v0 l0 =>
    refine wpAny_list_repr_head (A := A.in1) hg (fun v rest kw hm => listSameRef_of_ne (hca _ _ _ _ hm)) hoa rfl ?_
    refine wpAny_bind (m := newList []) (wpAny_newObj_type ?_)
    refine wpAny_pure ⟨F.quiet_list_repr_loop _, ?_⟩
    have hf : H s.heap.objs.size = none := I.hok.fresh (Nat.le_refl _)
    have I1 : Inv X pins σ (upd H s.heap.objs.size (.lst [])) { s with heap := s.heap.push { cls := .type "list", data := .seq ([] : List Value).toArray } } :=
      I.laid (t' := s.toks) (fun b o e => Heap.get?_push_of_some _ e) (Nat.le_refl _) ⟨Nat.zero_le _, [], 0, .nil, Heap.get?_push_size _ rfl⟩
    exact rep_loop (P := s.heap.objs.size) (H0 := H) hD hM sb hg ha hf hl hT hcl hna hsz hR hE _ 0 _ _ rfl (Nat.zero_le _) I1 (L2.Ext.upd hf) upd_same
/-- a list within -/
theorem repG_lst (hD : RepG X n D) (hM : MonR D) : RepG X (n + 1) (DLst D) := by
  intro base A g pins s σ H x u t as sb hg hcl I rx d hz
  obtain ⟨a, xs, ts, as0, rfl, ha, hl, hT, rfl, haa, hna, hsub⟩ := d
  cases rx
  obtain ⟨_, its, na, rv, hoa⟩ := id (I.hok a _ ha)
  by_cases h0 : xs = []
  · subst h0
    have ets : ts = [] := List.length_eq_zero_iff.mp hl
    subst ets
    cases rv
    rw [listText_nil]
    exact wpAny_pyReprUnder_ref (by omega) (wpAny_pyReprObjUnder_list_empty ⟨_, hoa, rfl⟩ sb.room.units0 hoa rfl ⟨_, _, rfl, rfl, H, I.tok _, fun _ _ e => e⟩)
  · refine wpAny_pyReprUnder_ref (by omega) (wpAny_pyReprObjUnder_twin (twin := "list.__repr__.under") ⟨_, hoa, rfl⟩ F.slot_list_repr.toG rfl sb.room.units0 ?_)
    refine call_twin_plain F.plain_list_repr_under F.entry_list_repr_under F.check_list_repr_under ⟨_, hoa, rfl⟩ F.slot_list_repr.toG (F.args_list_repr_1 _) ?_
    exact rep_body hD hM sb hg I ha h0 hl hT (hcl a haa) (fun b hb => hcl b (hsub b hb)) hna hz (fun s' u H' I' e => ⟨⟨_, _, rfl⟩, _, _, rfl, rfl, H', I', e⟩) fun e s' hx => hx
end
/-- repr(xs), xs a list; nothing is shown already -/
def rRep (D : Rep) : List V → Hp → VK → Prop := fun vs H Q => ∃ (a : Addr) (xs : List V) (ts : List Str) (as0 : List Addr), vs = [.ref a] ∧ H a = some (.lst xs) ∧ xs ≠ [] ∧ ts.length = xs.length ∧
  (∀ (i : Nat) y, xs[i]? = some y → ∃ t, ts[i]? = some t ∧ D y t as0 H) ∧ a ∉ as0 ∧ (listText ts).length ≤ sizeLine ∧ ∀ H', L2.Ext H H' → Q (.str (listText ts)) H'
theorem call_repG {X : Cx} {n : Nat} {D : Rep} (hD : RepG X n D) (hM : MonR D) (hr : Room (n + 2) X.A) (hg : X.A.guards = some []) : CallR X (.builtin "repr") (rRep D) := by
  intro pins s σ H vs us Q I r h
  obtain ⟨a, xs, ts, as0, rfl, ha, h0, hl, hT, hna, hz, q⟩ := h
  rw [Vals.ref1 r]
  obtain ⟨_, its, na, rv, hoa⟩ := id (I.hok a _ ha)
  have hu := hr.units
  refine call_repr_slot (by omega) ⟨_, hoa, rfl⟩ F.slot_list_repr.toG ?_
  refine wpAny_call (codeAny_call_builtin F.slot_list_repr.plain F.entry_list_repr (F.slot_list_repr.check _ _ _ _ _ _ _ _ ⟨_, hoa, rfl⟩ (F.args_list_repr_1 _) ?_))
  refine rep_body (base := 0) (A := X.A.in1) (R := callEnd _ _) hD hM ⟨hr.in1, rfl⟩ hg I ha h0 hl hT (Clear.nil a) (fun b _ => Clear.nil b) hna (by omega) (fun s' u H' I' e => ?_) fun e s' hx => hx
  exact ⟨_, _, rfl, .str (listText ts), H', I', ⟨_, rfl⟩, q H' e⟩
end K76
namespace K76
open PySem PySem.Spec PyProof.Rows L2

/-! ### defs that are called where nothing is being shown (no repr is under way) -/
structure FnG (P : Program) (w : World) (K : PySem.W.Frag) (mg : Str → Option Value) (base : Heap) (k : Nat) (f : Addr) (fd : FuncData) (ps : List Str) (sp : Sp) : Prop where
  len : ∀ vs H Q E, sp vs H Q E → vs.length = ps.length
  run : ∀ (A : Around) (outer : List Env) (s : Shared) (H : Hp) (args : Args) (us : List Value) (vs : List V) (Q : VK) (E : XK), A.guards = some [] → Room k A → Env0 P w K mg base A outer s H →
    BindsTo s fd args (ps.zip us) → Vals vs us → sp vs H Q E → codeAny (model P w) A (.call (.ref f) args) (CR CX0 outer P w H s Q E) s
section
variable {P : Program} {w : World} {K : PySem.W.Frag} {mg : Str → Option Value} {base : Heap} {x qual : Str} {params : Arguments} {body : List Stmt} {scope : Scope} {dvs : List V} {kws : List (Str × V)} {f : Addr} {fd : FuncData}
/-- such a def, by its body -/
theorem fnG_of {N ps : List Str} {k : Nat} {sp : Sp} (F : FunD K x qual params body scope dvs kws f fd) (S : FnScope N ps scope)
    (len : ∀ vs H Q E, sp vs H Q E → vs.length = ps.length)
    (hbody : ∀ (cdv : Value) (A : Around) (outer : List Env) (s : Shared) (H : Hp) (vs : List V) (Q : VK) (E : XK), A.guards = some [] →
      Room k (A.deeper (envOfC qual scope s.heap.objs.size f cdv)) → sp vs H Q E →
      ∃ t, PSs (cxOf CX0 P w K mg base N qual scope f cdv A outer s H E).nox body t ∧ t { nx := fun _ H' => Q .non H', rt := Q } (start N vs) H) :
    FnG P w K mg base (k + 1) f fd ps sp := by
  obtain ⟨oc, od, dV, kV, doc, pm, an, cdv, ct, osl, rfl, lk, hcd, _, _⟩ := F.ex
  refine ⟨len, fun A outer s H args us vs Q E hgd hr e0 hb r hsp => ?_⟩
  have hl := len _ _ _ _ hsp
  have KX : K.In s.heap := e0.mod.kin.keeps fun b o e => (e0.bs b o e).1
  have lim : s.heap.NoLimit := e0.mod.nolimit.keeps fun b o e => (e0.bs b o e).1
  have hkind : ∀ y ∈ ps.zip us, scope.names.lookup y.1 = some .local ∨
      (scope.names.lookup y.1 = some .cell ∧ ((cellsFrom (s.heap.objs.size + 1) scope.names []).lookup y.1).isSome = true) := by
    rintro ⟨n, v⟩ hy
    rcases S.par n (List.of_mem_zip hy).1 with q | q
    · exact .inl q
    · exact .inr ⟨q, PySem.W.cellsFrom_some _ _ _ (.inl q)⟩
  refine codeAny_call_function hr.depth (KX _ _ lk) rfl S.co S.gen rfl (PySem.W.codeRec_of KX hcd) (hb _ _ _ _ ?_)
  refine wpAny_newFunctionEnv_cells S.kind hkind fun env he s1 z => ?_
  subst he
  refine ⟨lim.keeps z.toInCall.keep, codeAny_func ?_⟩
  obtain ⟨t, ht, hq⟩ := hbody cdv A outer s H vs Q E hgd (hr.deeper _) hsp
  have I : Inv (cxOf CX0 P w K mg base N qual scope f cdv A outer s H E) [] (start N vs) H s1 := inv_start S hr.hd e0 hl r z
  refine wpAny_mono (ht.nox.run [] s1 (start N vs) H _ I hq) (fun fl s' hs => ?_) fun e s' hs => hs
  cases fl with
  | ret u =>
    obtain ⟨v, σ', H', J, rv, q⟩ := hs
    exact ⟨v, H', J.os, J.bare, J.base, J.hok, rv, q⟩
  | next =>
    obtain ⟨σ', H', J, q⟩ := hs
    exact ⟨.non, H', J.os, J.bare, J.base, J.hok, rfl, q⟩
  | brk =>
    obtain ⟨_, _, _, q⟩ := hs
    exact q.elim
  | cont =>
    obtain ⟨_, _, _, q⟩ := hs
    exact q.elim
end
section
variable {X : Cx} {k : Nat} {f : Addr} {fd : FuncData} {ps : List Str} {sp : Sp} {x : Str} {p pos : Pos} {e : Expr} {es : List Expr} {t : TA}
theorem pe_callG (F : FnG X.prog X.w X.K X.mg X.base k f fd ps sp) (hgd : X.A.guards = some []) (hr : Room k X.A) (hg : Gl X x) (hm : X.mg x = some (.ref f)) (hk : PySem.W.keepIn X.K (.ref f) = true) (hb : Binds X.K fd ps [])
    (ha : PA X (e :: es) t) (hdb : (x == ("__debug__" : Str)) = false := by decide) (he : starEach (e :: es) X.env = (false, eval e X.env) :: starEach es X.env := by rfl)
    (hpl : (backTo pos (starEach es X.env)).any (·.1) = false := by rfl) : PE X (.Call (.Name x p) (e :: es) [] pos) (tCall sp [] E0 t) := by
  refine ⟨fun pins s σ H Q I h => ?_⟩
  refine wpAny_Call_Name_kw (ld_glob I hg hm ?_ hdb)
  refine PySem.W.callWith_K (h₀ := X.base) I.ok.mod.kin hk (thn (ha.run pos pins s σ H _ I h) fun us s1 hq => ?_) he hpl
  obtain ⟨vs, H1, I1, r, q⟩ := hq
  refine ⟨I1.kIn, ?_⟩
  have q2 : sp vs H1 Q E0 := by
    have z : sp (vs ++ []) H1 Q E0 := q
    rwa [List.append_nil] at z
  have hl : (us ++ []).length = ps.length := by
    rw [List.append_nil, ← r.length]
    exact F.len _ _ _ _ q2
  have hbs := hb s1 us I1.kIn hl
  rw [List.append_nil] at hbs
  refine wpAny_call (codeAny_mono (F.run X.A X.stack s1 H1 ⟨us, []⟩ us vs Q E0 hgd hr I1.env0 hbs r q2) fun r s' hz => ?_)
  cases r with
  | error e => exact hz.elim
  | ok fl =>
    cases fl with
    | ret u => exact I1.after hz
    | next => exact False.elim hz
    | brk => exact False.elim hz
    | cont => exact False.elim hz
end
/-- the law's call, from such a promise -/
theorem law_callG {P : Program} {w : World} {K : PySem.W.Frag} {mg mb : Str → Option Value} {k : Nat} {fa a : Addr} {fd : FuncData} {x : Str} {sp : Sp} {s₁ : Shared} {vs : List Value} {ns : List Int}
    (KX : K.In s₁.heap) (hns : s₁.heap.Ns mainGlobals mg) (hb : s₁.heap.Ns builtinsNs mb) (hbb : ∀ x : Str, x ≠ "__name__" → mb x = bootBuiltins x) (hlim : s₁.heap.NoLimit)
    (hg : s₁.gens = #[]) (ha : s₁.heap.get? a = some { cls := .type "list", data := .seq vs.toArray }) (hi : IntsAre vs ns) (hl : ns.length ≤ sizeLine) (hr : Room k callerA)
    (F : ∀ base : Heap, K.In base → base.Ns mainGlobals mg → FnG P w K mg base k fa fd [x] sp)
    (hbind : ∀ (s : Shared) (u : Value), BindsTo s fd ⟨[u], []⟩ [(x, u)])
    (hsp : ∀ H : Hp, Only H → SqL K H a (ns.map V.int) → sp [.ref a] H (fun v _ => v = .bl true) E0) :
    codeAny (model P w) callerA (.call (.ref fa) ⟨[.ref a], []⟩)
      (fun r s' => r = .ok (.ret (.bool true)) ∧ OldK s₁.heap s'.heap ∧ s'.os = s₁.os ∧ AllBare s'.gens) s₁ := by
  have rv := vals_ints hi
  have lenV := hi.length
  have core : ∀ H : Hp, Only H → SqL K H a (ns.map V.int) → HOk P w H s₁.heap → (∀ b, H b ≠ none → b = a) →
      (H a ≠ none → K.lookup a = none) → codeAny (model P w) callerA (.call (.ref fa) ⟨[.ref a], []⟩)
        (fun r s' => r = .ok (.ret (.bool true)) ∧ OldK s₁.heap s'.heap ∧ s'.os = s₁.os ∧ AllBare s'.gens) s₁ := by
    intro H hO hS hok hA hK
    have bo : ∀ {b : Addr} {o : Obj}, s₁.heap.get? b = some o → H b = none → (hidT s₁.heap H).get? b = some o := fun e n => hidT_get e n
    have noA : ∀ {b : Addr} {o : Obj} {es : Array DictEntry} {ep : Nat}, s₁.heap.get? b = some o → o.data = .dict es ep → H b = none := by
      intro b o es ep e d
      cases q : H b with
      | none => rfl
      | some u =>
        have eb : b = a := hA b (by rw [q]; simp)
        rw [eb, ha] at e
        cases e
        have d2 : Data.seq vs.toArray _ = Data.dict es ep := d
        cases d2
    have nsK : ∀ {b : Addr} {m : Str → Option Value}, s₁.heap.Ns b m → (hidT s₁.heap H).Ns b m := by
      rintro b m ⟨o, es, ep, e, d, r⟩
      exact ⟨o, es, ep, bo e (noA e d), d, r⟩
    have hKb : K.In (hidT s₁.heap H) := by
      intro b o e
      refine bo (KX b o e) ?_
      cases q : H b with
      | none => rfl
      | some u =>
        have eb : b = a := hA b (by rw [q]; simp)
        rw [eb] at q e
        rw [hK (by rw [q]; simp)] at e
        cases e
    obtain ⟨mc, l1, l2⟩ := hlim
    have hM : Mod K mg (hidT s₁.heap H) := ⟨hKb, nsK hns, ⟨mb, nsK hb, hbb⟩, ⟨mc, nsK l1, l2⟩⟩
    have e0 : Env0 P w K mg (hidT s₁.heap H) callerA [] s₁ H :=
      ⟨rfl, hM, fun b o e => of_hidT e, Nat.le_of_eq (hidT_size _ _), trivial, fun b z => absurd (show b ∈ ([] : List Addr) from z) (by simp), hok, .of_eq hg⟩
    refine codeAny_mono ((F _ hKb (nsK hns)).run callerA [] s₁ H ⟨[.ref a], []⟩ [.ref a] [.ref a] _ _ rfl hr e0 (hbind s₁ (.ref a)) (.cons rfl .nil) (hsp H hO hS)) fun r s' h => ?_
    cases r with
    | error e => exact h.elim
    | ok fl =>
      cases fl with
      | next => exact False.elim h
      | brk => exact False.elim h
      | cont => exact False.elim h
      | ret u =>
        obtain ⟨v, H2, os, bare, un, hok2, r2, q⟩ := h
        have q2 : v = .bl true := q
        subst q2
        obtain rfl : u = Value.bool true := r2
        refine ⟨rfl, OldK.of_keep fun b o e => ?_, os, bare⟩
        cases q : H b with
        | none => exact un.keep b o e q (fun z => absurd (show b ∈ ([] : List Addr) from z) (by simp)) (by simp)
        | some u =>
          rcases hO b with z | ⟨ob, xs, z⟩
          · rw [q] at z
            cases z
          · have z2 := un.frzs b ob _ z
            obtain ⟨e1, _⟩ := hok b _ z
            obtain ⟨e2, _⟩ := hok2 b _ z2
            rw [e] at e1
            cases e1
            exact e2
  cases hk : K.lookup a with
  | some o =>
    have e := KX a o hk
    rw [ha] at e
    cases e
    refine core (fun _ => none) (fun _ => .inl rfl) (.inr ⟨_, vs.toArray, _, hk, rfl, rfl, rfl, ?_, by simpa using rv⟩) (fun b u z => ?_) (fun b z => absurd rfl z) fun z => absurd rfl z
    · rw [List.size_toArray, lenV]
      exact hl
    · have z2 : (none : Option HO) = some u := z
      cases z2
  | none =>
    let ob : Obj := { cls := .type "list", data := .seq vs.toArray }
    refine core (fun b => if b = a then some (.frz ob (.lst (ns.map V.int))) else none) (fun b => ?_) (.inl (.inr ⟨ob, if_pos rfl⟩)) (fun b u z => ?_) (fun b z => ?_) fun _ => hk
    · by_cases q : b = a
      · exact .inr ⟨_, _, if_pos q⟩
      · exact .inl (if_neg q)
    · by_cases q : b = a
      · have z2 := (if_pos q).symm.trans z
        cases z2
        subst q
        exact ⟨ha, by rw [List.length_map]; exact hl, vs, _, rv, ha⟩
      · have z2 := (if_neg q).symm.trans z
        cases z2
    · by_cases q : b = a
      · exact q
      · exact absurd (if_neg q) z
theorem walkG {l : PySem.W.OpenLaw} {n k : Nat} {q : Program} {loose : List Str} {XP : (Str → Option Value) → Heap → Prop} {YP : World → Heap → Prop} {d : DefRec} {x : Str}
    (hn : l.most = some n) (hn2 : n ≤ sizeLine) (hdf : d.params.defaults = []) (hr : Room k callerA)
    (F : ∀ (w : World) (mg : Str → Option Value) (fa : Addr) (h : Heap), YP w h → h.Ns mainGlobals mg → mg d.name = some (.ref fa) →
      ∃ (K : PySem.W.Frag) (fd : FuncData) (sp : Sp), K.In h ∧ (∀ (s : Shared) (u : Value), BindsTo s fd ⟨[u], []⟩ [(x, u)]) ∧
        (∀ (H : Hp) (a : Addr) (ns : List Int), ns.length ≤ n → Only H → SqL K H a (ns.map V.int) → sp [.ref a] H (fun v _ => v = .bl true) E0) ∧
        ∀ base : Heap, K.In base → base.Ns mainGlobals mg → FnG l.prog w K mg base k fa fd [x] sp) :
    PySem.W.WalkO q loose XP YP l.row.toRowW d [] (fun f vs => PySem.call f vs) := by
  refine Att.attach_call hn hdf fun w s₀ s₁ mg mb fa o pm cd doc a vs ns G Y ho hd hcd hmg hobj hints hlen hg => ?_
  obtain ⟨K, fd, sp, KX, hb, hsp, hF⟩ := F w mg fa _ Y G.T.g hmg
  exact law_callG KX G.T.g G.T.b G.T.builtins G.T.nolimit hg hobj hints (Nat.le_trans hlen hn2) hr hF hb fun H hO hS => hsp H a ns hlen hO hS
end K76
namespace K76
open PySem

/-! ### told moves -/
abbrev Row := Int × Str × Int × Option Str
abbrev MT := List ((Str × Int) × List (Int × Option Str))
def okK (kn : Option Int) (k : Int) : Bool := match kn with
  | none => true
  | some n => decide (k ≤ n)
def putDown {α : Type} (rows : List (Int × α)) (k : Int) (x : α) : List (Int × α) :=
  (if rows.getLast?.map (·.1) = some k then rows.dropLast else rows) ++ [(k, x)]
def lastTold {α : Type} (d : α) (rows : List (Int × α)) (kn : Option Int) : α := rows.foldl (fun f r => if okK kn r.1 = true then r.2 else f) d
def valM {κ α : Type} [DecidableEq κ] (M : List (κ × α)) (key : κ) : Option α := (M.find? fun e => decide (e.1 = key)).map (·.2)
def tellM (M : MT) (key : Str × Int) (k : Int) (x : Option Str) : MT :=
  if (valM M key).isSome = true then M.map (fun e => if e.1 = key then (e.1, putDown e.2 k x) else e) else M ++ [(key, [(k, x)])]
def bookM (R : List Row) : MT := R.foldl (fun M r => tellM M (r.2.1, r.2.2.1) r.1 r.2.2.2) []
def shiftR (far : Int) (r : Row) : Row := (r.1, r.2.1, r.2.2.1 + far, r.2.2.2)

theorem lastTold_snoc {α : Type} (d : α) (rows : List (Int × α)) (k : Int) (x : α) (kn : Option Int) : lastTold d (rows ++ [(k, x)]) kn = if okK kn k = true then x else lastTold d rows kn := by
  unfold lastTold
  rw [List.foldl_append]
  rfl
theorem snoc_of {α : Type} : ∀ {l : List α} {y : α}, l.getLast? = some y → l = l.dropLast ++ [y]
  | l, y, h => by
    have hne : l ≠ [] := by
      intro e
      rw [e] at h
      cases h
    have h2 := List.getLast?_eq_some_getLast hne
    rw [h2] at h
    have h3 := List.dropLast_concat_getLast hne
    rw [Option.some.inj h] at h3
    exact h3.symm
theorem lastTold_put {α : Type} (d : α) (rows : List (Int × α)) (k : Int) (x : α) (kn : Option Int) : lastTold d (putDown rows k x) kn = if okK kn k = true then x else lastTold d rows kn := by
  unfold putDown
  rw [lastTold_snoc]
  by_cases h : rows.getLast?.map (·.1) = some k
  · rw [if_pos h]
    cases e : rows.getLast? with
    | none =>
      rw [e] at h
      cases h
    | some y =>
      rw [e] at h
      have hy : y.1 = k := Option.some.inj h
      have hr := snoc_of e
      have h2 : lastTold d rows kn = if okK kn y.1 = true then y.2 else lastTold d rows.dropLast kn := by
        conv => lhs; rw [hr]
        exact lastTold_snoc d rows.dropLast y.1 y.2 kn
      by_cases o : okK kn k = true
      · rw [if_pos o, if_pos o]
      · rw [if_neg o, if_neg o, h2, hy, if_neg o]
  · rw [if_neg h]
theorem putDown_len {α : Type} (rows : List (Int × α)) (k : Int) (x : α) : (putDown rows k x).length ≤ rows.length + 1 := by
  unfold putDown
  split
  · rw [List.length_append, List.length_dropLast]
    show rows.length - 1 + 1 ≤ _
    omega
  · rw [List.length_append]
    exact Nat.le_refl _
section
variable {κ α : Type} [DecidableEq κ]
theorem valM_nil (key : κ) : valM ([] : List (κ × α)) key = none := rfl
theorem valM_cons (e : κ × α) (M : List (κ × α)) (key : κ) : valM (e :: M) key = if e.1 = key then some e.2 else valM M key := by
  unfold valM
  rw [List.find?_cons]
  by_cases h : e.1 = key
  · simp [h]
  · simp [h]
theorem valM_map (f : κ → α → α) (key : κ) : ∀ M : List (κ × α), valM (M.map fun e => (e.1, f e.1 e.2)) key = (valM M key).map (f key)
  | [] => rfl
  | e :: M => by
    rw [List.map_cons, valM_cons, valM_cons, valM_map f key M]
    by_cases h : e.1 = key
    · simp [h]
    · simp [h]
theorem valM_snoc (key k2 : κ) (x : α) : ∀ M : List (κ × α), valM (M ++ [(k2, x)]) key = ((valM M key).or (if k2 = key then some x else none))
  | [] => by
    rw [List.nil_append, valM_cons, valM_nil]
    rfl
  | e :: M => by
    rw [List.cons_append, valM_cons, valM_cons, valM_snoc key k2 x M]
    by_cases h : e.1 = key
    · rw [if_pos h, if_pos h]
      rfl
    · rw [if_neg h, if_neg h]
theorem valM_mem {M : List (κ × α)} (nd : (M.map (·.1)).Nodup) : ∀ {key : κ} {x : α}, valM M key = some x ↔ (key, x) ∈ M := by
  induction M with
  | nil => intro key x; simp [valM_nil]
  | cons e M ih =>
    intro key x
    rw [List.map_cons, List.nodup_cons] at nd
    rw [valM_cons, List.mem_cons]
    by_cases h : e.1 = key
    · rw [if_pos h]
      constructor
      · intro q
        left
        have q2 := Option.some.inj q
        rw [← h, ← q2]
      · rintro (q | q)
        · rw [← q]
        · exact absurd (List.mem_map.mpr ⟨_, q, h.symm⟩) nd.1
    · rw [if_neg h, ih nd.2]
      constructor
      · exact fun q => .inr q
      · rintro (q | q)
        · rw [← q] at h
          exact absurd rfl h
        · exact q
theorem valM_none {M : List (κ × α)} {key : κ} : valM M key = none ↔ key ∉ M.map (·.1) := by
  induction M with
  | nil => simp [valM_nil]
  | cons e M ih =>
    rw [valM_cons, List.map_cons, List.mem_cons]
    by_cases h : e.1 = key
    · rw [if_pos h]
      simp [h]
    · rw [if_neg h, ih]
      constructor
      · rintro q (z | z)
        · exact h z.symm
        · exact q z
      · exact fun q z => q (.inr z)
end
theorem valM_tell (M : MT) (key key2 : Str × Int) (k : Int) (x : Option Str) : valM (tellM M key k x) key2 = if key2 = key then some (putDown ((valM M key).getD []) k x) else valM M key2 := by
  unfold tellM
  by_cases h : (valM M key).isSome = true
  · rw [if_pos h]
    have e1 : (M.map fun e => if e.1 = key then (e.1, putDown e.2 k x) else e) = M.map fun e => (e.1, (fun (z : Str × Int) (y : List (Int × Option Str)) => if z = key then putDown y k x else y) e.1 e.2) := by
      apply List.map_congr_left
      intro e _
      by_cases q : e.1 = key
      · simp only [if_pos q]
      · simp only [if_neg q]
    rw [e1, valM_map (fun (z : Str × Int) (y : List (Int × Option Str)) => if z = key then putDown y k x else y) key2 M]
    by_cases q : key2 = key
    · rw [if_pos q, q]
      cases z : valM M key with
      | none => rw [z] at h; cases h
      | some y => simp
    · rw [if_neg q]
      cases z : valM M key2 with
      | none => rfl
      | some y => simp [q]
  · rw [if_neg h, valM_snoc]
    have hn : valM M key = none := by
      cases z : valM M key with
      | none => rfl
      | some y => rw [z] at h; exact absurd rfl h
    by_cases q : key2 = key
    · rw [if_pos q, q, hn, if_pos rfl]
      rfl
    · rw [if_neg q, if_neg (fun z => q z.symm)]
      cases valM M key2 <;> rfl
theorem tellM_keys (M : MT) (key : Str × Int) (k : Int) (x : Option Str) : (tellM M key k x).map (·.1) = if (valM M key).isSome = true then M.map (·.1) else M.map (·.1) ++ [key] := by
  unfold tellM
  by_cases h : (valM M key).isSome = true
  · rw [if_pos h, if_pos h, List.map_map]
    apply List.map_congr_left
    intro e _
    show (if e.1 = key then (e.1, putDown e.2 k x) else e).1 = e.1
    split <;> rfl
  · rw [if_neg h, if_neg h, List.map_append]
    rfl
theorem tellM_nodup {M : MT} (nd : (M.map (·.1)).Nodup) (key : Str × Int) (k : Int) (x : Option Str) : ((tellM M key k x).map (·.1)).Nodup := by
  rw [tellM_keys]
  by_cases h : (valM M key).isSome = true
  · rw [if_pos h]
    exact nd
  · rw [if_neg h]
    have hn : valM M key = none := by
      cases z : valM M key with
      | none => rfl
      | some y => rw [z] at h; exact absurd rfl h
    rw [List.nodup_append]
    refine ⟨nd, List.nodup_cons.mpr ⟨List.not_mem_nil, List.nodup_nil⟩, fun a ha b hb => ?_⟩
    have eb : b = key := by simpa using hb
    rw [eb]
    intro e
    rw [e] at ha
    exact valM_none.mp hn ha
theorem tellM_len (M : MT) (key : Str × Int) (k : Int) (x : Option Str) : (tellM M key k x).length ≤ M.length + 1 := by
  unfold tellM
  split
  · rw [List.length_map]; omega
  · rw [List.length_append]; simp
theorem tellM_mem {M : MT} {key : Str × Int} {k : Int} {x : Option Str} {e : (Str × Int) × List (Int × Option Str)} (h : e ∈ tellM M key k x) :
    e ∈ M ∨ e.1 = key ∧ ∃ l, (l = [] ∨ (key, l) ∈ M) ∧ e.2 = putDown l k x := by
  unfold tellM at h
  by_cases q : (valM M key).isSome = true
  · rw [if_pos q] at h
    obtain ⟨e1, h1, h2⟩ := List.mem_map.mp h
    by_cases z : e1.1 = key
    · rw [if_pos z] at h2
      right
      rw [← h2]
      refine ⟨z, e1.2, .inr ?_, rfl⟩
      rw [← z]
      exact h1
    · rw [if_neg z] at h2
      left
      rw [← h2]
      exact h1
  · rw [if_neg q] at h
    rcases List.mem_append.mp h with h | h
    · exact .inl h
    · right
      have h1 : e = (key, [(k, x)]) := by simpa using h
      rw [h1]
      exact ⟨rfl, [], .inl rfl, rfl⟩
/-- what is fit in a book -/
structure MOk (M : MT) (m : Nat) : Prop where
  nd : (M.map (·.1)).Nodup
  len : M.length ≤ m
  rows : ∀ e ∈ M, e.2.length ≤ m
  day : ∀ e ∈ M, 0 ≤ e.1.2
theorem MOk.nil (m : Nat) : MOk [] m := ⟨List.nodup_nil, Nat.zero_le _, (fun _ h => nomatch h), (fun _ h => nomatch h)⟩
theorem MOk.tell {M : MT} {m : Nat} (h : MOk M m) {key : Str × Int} (hd : 0 ≤ key.2) (k : Int) (x : Option Str) : MOk (tellM M key k x) (m + 1) := by
  refine ⟨tellM_nodup h.nd _ _ _, Nat.le_trans (tellM_len _ _ _ _) (by have := h.len; omega), fun e he => ?_, fun e he => ?_⟩
  · rcases tellM_mem he with q | ⟨q, l, q1, q2⟩
    · have := h.rows e q
      omega
    · rw [q2]
      have := putDown_len l k x
      rcases q1 with z | z
      · rw [z] at this ⊢
        simp at this
        omega
      · have := h.rows _ z
        simp at this
        omega
  · rcases tellM_mem he with q | ⟨q, _⟩
    · exact h.day e q
    · rw [q]
      exact hd
theorem bookM_snoc (R : List Row) (r : Row) : bookM (R ++ [r]) = tellM (bookM R) (r.2.1, r.2.2.1) r.1 r.2.2.2 := by
  unfold bookM
  rw [List.foldl_append]
  rfl
theorem snoc_ind {α : Type} {P : List α → Prop} (h0 : P []) (h1 : ∀ l x, P l → P (l ++ [x])) : ∀ l, P l := by
  intro l
  have : ∀ n (l : List α), l.length = n → P l := by
    intro n
    induction n with
    | zero =>
      intro l e
      rw [List.length_eq_zero_iff.mp e]
      exact h0
    | succ n ih =>
      intro l e
      have hne : l ≠ [] := by
        intro q
        rw [q] at e
        cases e
      rw [← List.dropLast_concat_getLast hne]
      refine h1 _ _ (ih _ ?_)
      rw [List.length_dropLast]
      omega
  exact this _ l rfl
theorem bookM_ok (R : List Row) (hR : ∀ r ∈ R, 0 ≤ r.2.2.1) : MOk (bookM R) R.length := by
  induction R using snoc_ind with
  | h0 => exact MOk.nil _
  | h1 l x ih =>
    rw [bookM_snoc, List.length_append]
    exact (ih fun r hr => hR r (List.mem_append_left _ hr)).tell (hR x (List.mem_append_right _ List.mem_cons_self)) _ _
/-- what was told last of a keeper's day -/
def sem (R : List Row) (key : Str × Int) (kn : Option Int) : Option Str := R.foldl (fun f r => if (r.2.1, r.2.2.1) = key ∧ okK kn r.1 = true then r.2.2.2 else f) none
theorem sem_snoc (R : List Row) (r : Row) (key : Str × Int) (kn : Option Int) : sem (R ++ [r]) key kn = if (r.2.1, r.2.2.1) = key ∧ okK kn r.1 = true then r.2.2.2 else sem R key kn := by
  unfold sem
  rw [List.foldl_append]
  rfl
theorem last_sem (R : List Row) (key : Str × Int) (kn : Option Int) : lastTold none ((valM (bookM R) key).getD []) kn = sem R key kn := by
  induction R using snoc_ind with
  | h0 => rfl
  | h1 l r ih =>
    rw [bookM_snoc, valM_tell, sem_snoc]
    by_cases h : key = (r.2.1, r.2.2.1)
    · rw [if_pos h]
      show lastTold none (putDown _ _ _) kn = _
      rw [lastTold_put]
      by_cases o : okK kn r.1 = true
      · rw [if_pos o, if_pos ⟨h.symm, o⟩]
      · rw [if_neg o, if_neg (fun z => o z.2), ← h]
        exact ih
    · rw [if_neg h, if_neg (fun z => h z.1.symm)]
      exact ih
/-! ### the moves that hold -/
def heldL (M : MT) (keeper : Str) (kn : Option Int) : List (Int × Str) := M.filterMap fun e => if e.1.1 = keeper then (lastTold none e.2 kn).map (fun p => (e.1.2, p)) else none
theorem heldL_mem {M : MT} (nd : (M.map (·.1)).Nodup) {keeper : Str} {kn : Option Int} {d : Int} {p : Str} : (d, p) ∈ heldL M keeper kn ↔ lastTold none ((valM M (keeper, d)).getD []) kn = some p := by
  unfold heldL
  rw [List.mem_filterMap]
  constructor
  · rintro ⟨⟨⟨n, d2⟩, rows⟩, hm, he⟩
    by_cases h : n = keeper
    · simp only [if_pos h] at he
      cases q : lastTold none rows kn with
      | none => rw [q] at he; cases he
      | some p2 =>
        rw [q] at he
        have he2 : (d2, p2) = (d, p) := Option.some.inj he
        obtain ⟨rfl, rfl⟩ := Prod.mk.inj he2
        subst h
        rw [(valM_mem nd).mpr hm]
        exact q
    · simp only [if_neg h] at he
      cases he
  · intro h
    cases q : valM M (keeper, d) with
    | none => rw [q] at h; cases h
    | some rows =>
      rw [q] at h
      refine ⟨_, (valM_mem nd).mp q, ?_⟩
      simp only [if_true]
      rw [show lastTold none rows kn = some p from h]
      rfl
theorem heldL_days : ∀ {M : MT}, (M.map (·.1)).Nodup → ∀ (keeper : Str) (kn : Option Int), ((heldL M keeper kn).map (·.1)).Nodup
  | [], _, _, _ => List.nodup_nil
  | e :: M, nd, keeper, kn => by
    rw [List.map_cons, List.nodup_cons] at nd
    have ih := heldL_days nd.2 keeper kn
    unfold heldL at ih ⊢
    rw [List.filterMap_cons]
    by_cases h : e.1.1 = keeper
    · rw [if_pos h]
      cases q : lastTold none e.2 kn with
      | none => exact ih
      | some p =>
        show ((e.1.2, p) :: _).map (·.1) |>.Nodup
        rw [List.map_cons, List.nodup_cons]
        refine ⟨fun hm => nd.1 ?_, ih⟩
        obtain ⟨⟨d, p2⟩, h1, h2⟩ := List.mem_map.mp hm
        obtain ⟨e2, h3, h4⟩ := List.mem_filterMap.mp h1
        by_cases z : e2.1.1 = keeper
        · rw [if_pos z] at h4
          cases q2 : lastTold none e2.2 kn with
          | none => rw [q2] at h4; cases h4
          | some p3 =>
            rw [q2] at h4
            have h5 : (e2.1.2, p3) = (d, p2) := Option.some.inj h4
            have h6 : e2.1 = e.1 := by
              apply Prod.ext
              · rw [z, h]
              · exact (Prod.mk.inj h5).1.trans h2
            exact List.mem_map.mpr ⟨e2, h3, h6⟩
        · rw [if_neg z] at h4
          cases h4
    · rw [if_neg h]
      exact ih
theorem heldL_len (M : MT) (keeper : Str) (kn : Option Int) : (heldL M keeper kn).length ≤ M.length := List.length_filterMap_le _ _
abbrev Srt (L : List (Int × Str)) : Prop := L.Pairwise fun a b => a.1 < b.1
def heldS (M : MT) (keeper : Str) (kn : Option Int) : List (Int × Str) := (heldL M keeper kn).mergeSort fun a b => decide (a.1 ≤ b.1)
theorem srt_of {L : List (Int × Str)} (h : L.Pairwise fun a b => a.1 ≤ b.1) (nd : (L.map (·.1)).Nodup) : Srt L := by
  induction L with
  | nil => exact .nil
  | cons a l ih =>
    rw [List.map_cons, List.nodup_cons] at nd
    rw [List.pairwise_cons] at h
    refine List.pairwise_cons.mpr ⟨fun b hb => ?_, ih h.2 nd.2⟩
    have h1 := h.1 b hb
    have h2 : a.1 ≠ b.1 := fun e => nd.1 (List.mem_map.mpr ⟨b, hb, e.symm⟩)
    show a.1 < b.1
    omega
/-- two rising lists of the same things are one -/
theorem srt_ext : ∀ {L L2 : List (Int × Str)}, Srt L → Srt L2 → (∀ x, x ∈ L ↔ x ∈ L2) → L = L2
  | [], [], _, _, _ => rfl
  | [], b :: l, _, _, h => absurd ((h b).mpr List.mem_cons_self) List.not_mem_nil
  | a :: l, [], _, _, h => absurd ((h a).mp List.mem_cons_self) List.not_mem_nil
  | a :: l, b :: l2, h1, h2, h => by
    rw [Srt, List.pairwise_cons] at h1 h2
    have e : a = b := by
      rcases List.mem_cons.mp ((h a).mp List.mem_cons_self) with q | q
      · exact q
      · rcases List.mem_cons.mp ((h b).mpr List.mem_cons_self) with q2 | q2
        · exact q2.symm
        · have := h1.1 b q2
          have := h2.1 a q
          omega
    subst e
    refine congrArg (a :: ·) (srt_ext h1.2 h2.2 fun x => ?_)
    constructor
    · intro hx
      rcases List.mem_cons.mp ((h x).mp (List.mem_cons_of_mem _ hx)) with q | q
      · have := h1.1 x hx
        rw [q] at this
        omega
      · exact q
    · intro hx
      rcases List.mem_cons.mp ((h x).mpr (List.mem_cons_of_mem _ hx)) with q | q
      · have := h2.1 x hx
        rw [q] at this
        omega
      · exact q
theorem heldS_perm (M : MT) (keeper : Str) (kn : Option Int) : (heldS M keeper kn).Perm (heldL M keeper kn) := List.mergeSort_perm _ _
theorem heldS_srt {M : MT} (nd : (M.map (·.1)).Nodup) (keeper : Str) (kn : Option Int) : Srt (heldS M keeper kn) := by
  refine srt_of ?_ ?_
  · refine (List.pairwise_mergeSort (le := fun (a b : Int × Str) => decide (a.1 ≤ b.1)) (fun a b c h1 h2 => ?_) (fun a b => ?_) _).imp fun h => of_decide_eq_true h
    · have := of_decide_eq_true h1
      have := of_decide_eq_true h2
      exact decide_eq_true (by omega)
    · by_cases q : a.1 ≤ b.1
      · simp [q]
      · have : b.1 ≤ a.1 := by omega
        simp [this]
  · exact (((heldS_perm M keeper kn).map (·.1)).nodup_iff).mpr (heldL_days nd keeper kn)
theorem heldS_of {M : MT} (nd : (M.map (·.1)).Nodup) {keeper : Str} {kn : Option Int} {L : List (Int × Str)} (hp : L.Perm (heldL M keeper kn)) (hs : L.Pairwise fun a b => a.1 ≤ b.1) : L = heldS M keeper kn := by
  refine srt_ext (srt_of hs (((hp.map (·.1)).nodup_iff).mpr (heldL_days nd keeper kn))) (heldS_srt nd keeper kn) fun x => ?_
  rw [hp.mem_iff, (heldS_perm M keeper kn).mem_iff]
theorem heldS_mem {R : List Row} (hR : ∀ r ∈ R, 0 ≤ r.2.2.1) {keeper : Str} {kn : Option Int} {d : Int} {p : Str} : (d, p) ∈ heldS (bookM R) keeper kn ↔ sem R (keeper, d) kn = some p := by
  rw [(heldS_perm _ _ _).mem_iff, heldL_mem (bookM_ok R hR).nd, last_sem]
theorem heldS_day {M : MT} {m : Nat} (h : MOk M m) {keeper : Str} {kn : Option Int} : ∀ x ∈ heldS M keeper kn, 0 ≤ x.1 := by
  intro x hx
  rw [(heldS_perm _ _ _).mem_iff] at hx
  obtain ⟨e, h1, h2⟩ := List.mem_filterMap.mp hx
  by_cases z : e.1.1 = keeper
  · rw [if_pos z] at h2
    cases q : lastTold none e.2 kn with
    | none => rw [q] at h2; cases h2
    | some p =>
      rw [q] at h2
      have h3 : (e.1.2, p) = x := Option.some.inj h2
      rw [← h3]
      exact h.day e h1
  · rw [if_neg z] at h2
    cases h2
theorem heldS_len {M : MT} {m : Nat} (h : MOk M m) (keeper : Str) (kn : Option Int) : (heldS M keeper kn).length ≤ m := by
  rw [(heldS_perm M keeper kn).length_eq]
  exact Nat.le_trans (heldL_len M keeper kn) h.len
/-- two books in which a keeper's days hold alike -/
theorem heldS_congr {R R2 : List Row} (hR : ∀ r ∈ R, 0 ≤ r.2.2.1) (hR2 : ∀ r ∈ R2, 0 ≤ r.2.2.1) {keeper : Str} {kn kn2 : Option Int} (h : ∀ d, sem R (keeper, d) kn = sem R2 (keeper, d) kn2) :
    heldS (bookM R) keeper kn = heldS (bookM R2) keeper kn2 := by
  refine srt_ext (heldS_srt (bookM_ok R hR).nd _ _) (heldS_srt (bookM_ok R2 hR2).nd _ _) ?_
  rintro ⟨d, p⟩
  rw [heldS_mem hR, heldS_mem hR2, h]
end K76
namespace K76
open PySem

/-! ### runs, turns, spells -/
def runStep (found : List (Str × Int)) (m : Int × Str) : List (Str × Int) :=
  if m.1 = 0 then [(m.2, 0)] else if (found.getLast?.map (·.1)) = some m.2 then found else found ++ [(m.2, m.1)]
def ash : Str := ""
def runsOf (L : List (Int × Str)) : List (Str × Int) := L.foldl runStep [(ash, 0)]
def turnsOf : List (Str × Int) → List (Str × Int × Option Int)
  | [] => []
  | [r] => [(r.1, r.2, none)]
  | r :: q :: l => (r.1, r.2, some (q.2 - 1)) :: turnsOf (q :: l)
def isOut (p : Str) : Bool := !decide (p = ash)
def spellStep (day : Int) (found : List (Bool × Int × Int)) (t : Str × Int × Option Int) : List (Bool × Int × Int) :=
  let last := match t.2.2 with
    | none => day
    | some z => if z < day then z else day
  if day < t.2.1 then found else
    match found.getLast? with
    | some x => if x.1 = isOut t.1 then found.dropLast ++ [(isOut t.1, x.2.1, last)] else found ++ [(isOut t.1, t.2.1, last)]
    | none => found ++ [(isOut t.1, t.2.1, last)]
def spellsOf (T : List (Str × Int × Option Int)) (day : Int) : List (Bool × Int × Int) := T.foldl (spellStep day) []
def spells (L : List (Int × Str)) (day : Int) : List (Bool × Int × Int) := spellsOf (turnsOf (runsOf L)) day

def placeAt (L : List (Int × Str)) (x : Int) : Str := L.foldl (fun p m => if m.1 ≤ x then m.2 else p) ash
/-- runs: from 0 on, rising -/
structure RunsOk (R : List (Str × Int)) : Prop where
  head : ∃ p l, R = (p, 0) :: l
  rise : R.Pairwise fun a b => a.2 < b.2
theorem RunsOk.ne {R : List (Str × Int)} (h : RunsOk R) : R ≠ [] := by
  obtain ⟨p, l, e⟩ := h.head
  rw [e]
  exact List.cons_ne_nil _ _
def runAt (R : List (Str × Int)) (x : Int) : Str := R.foldl (fun p r => if r.2 ≤ x then r.1 else p) ash
theorem runsOf_snoc (L : List (Int × Str)) (m : Int × Str) : runsOf (L ++ [m]) = runStep (runsOf L) m := by
  unfold runsOf
  rw [List.foldl_append]
  rfl
theorem srt_snoc {L : List (Int × Str)} {m : Int × Str} (h : Srt (L ++ [m])) : Srt L ∧ ∀ x ∈ L, x.1 < m.1 := by
  obtain ⟨h1, h2, h3⟩ := List.pairwise_append.mp h
  exact ⟨h1, fun x hx => h3 x hx m List.mem_cons_self⟩
theorem runAt_snoc (R : List (Str × Int)) (r : Str × Int) (x : Int) : runAt (R ++ [r]) x = if r.2 ≤ x then r.1 else runAt R x := by
  unfold runAt
  rw [List.foldl_append]
  rfl
theorem placeAt_snoc (L : List (Int × Str)) (m : Int × Str) (x : Int) : placeAt (L ++ [m]) x = if m.1 ≤ x then m.2 else placeAt L x := by
  unfold placeAt
  rw [List.foldl_append]
  rfl
structure RunsInv (L : List (Int × Str)) (R : List (Str × Int)) : Prop where
  ok : RunsOk R
  below : ∀ r ∈ R, r.2 = 0 ∨ ∃ m ∈ L, m.1 = r.2
  at_ : ∀ x, 0 ≤ x → runAt R x = placeAt L x
  len : R.length ≤ L.length + 1
theorem runs_inv (L : List (Int × Str)) (hs : Srt L) (h0 : ∀ m ∈ L, 0 ≤ m.1) : RunsInv L (runsOf L) := by
  induction L using snoc_ind with
  | h0 =>
    refine ⟨⟨⟨ash, [], rfl⟩, List.pairwise_singleton _ _⟩, fun r hr => ?_, fun x hx => ?_, Nat.le_refl _⟩
    · have : r = (ash, 0) := by simpa [runsOf] using hr
      rw [this]
      exact .inl rfl
    · show (if (0 : Int) ≤ x then ash else ash) = ash
      split <;> rfl
  | h1 l m ih =>
    obtain ⟨hl, hm⟩ := srt_snoc hs
    have ih := ih hl fun x hx => h0 x (List.mem_append_left _ hx)
    have hm0 := h0 m (List.mem_append_right _ List.mem_cons_self)
    rw [runsOf_snoc]
    unfold runStep
    by_cases hz : m.1 = 0
    · rw [if_pos hz]
      have el : l = [] := by
        cases l with
        | nil => rfl
        | cons y t =>
          have a := hm y List.mem_cons_self
          have b := h0 y (by simp)
          omega
      refine ⟨⟨⟨m.2, [], rfl⟩, List.pairwise_singleton _ _⟩, fun r hr => ?_, fun x hx => ?_, ?_⟩
      · have : r = (m.2, 0) := by simpa using hr
        rw [this]
        exact .inl rfl
      · rw [placeAt_snoc, if_pos (by omega)]
        show (if (0 : Int) ≤ x then m.2 else ash) = m.2
        rw [if_pos hx]
      · show 1 ≤ _
        omega
    · rw [if_neg hz]
      have hlast : ∀ r ∈ runsOf l, r.2 < m.1 := by
        intro r hr
        rcases ih.below r hr with q | ⟨y, hy, q⟩
        · omega
        · have := hm y hy
          omega
      by_cases hp : (runsOf l).getLast?.map (·.1) = some m.2
      · rw [if_pos hp]
        refine ⟨ih.ok, fun r hr => ?_, fun x hx => ?_, ?_⟩
        · rcases ih.below r hr with q | ⟨y, hy, q⟩
          · exact .inl q
          · exact .inr ⟨y, List.mem_append_left _ hy, q⟩
        · rw [ih.at_ x hx, placeAt_snoc]
          by_cases hx2 : m.1 ≤ x
          · rw [if_pos hx2, ← ih.at_ x hx]
            cases e : (runsOf l).getLast? with
            | none => rw [e] at hp; cases hp
            | some y =>
              rw [e] at hp
              have hy : y.1 = m.2 := Option.some.inj hp
              have hr := snoc_of e
              have hy2 : y ∈ runsOf l := List.mem_of_getLast? e
              have := hlast y hy2
              conv => lhs; rw [hr]
              rw [runAt_snoc, if_pos (by omega)]
              exact hy
          · rw [if_neg hx2]
        · rw [List.length_append]
          have := ih.len
          omega
      · rw [if_neg hp]
        refine ⟨⟨?_, ?_⟩, fun r hr => ?_, fun x hx => ?_, ?_⟩
        · obtain ⟨p, t, e⟩ := ih.ok.head
          exact ⟨p, t ++ [(m.2, m.1)], by rw [e]; rfl⟩
        · refine List.pairwise_append.mpr ⟨ih.ok.rise, List.pairwise_singleton _ _, fun a ha b hb => ?_⟩
          have eb : b = (m.2, m.1) := by simpa using hb
          rw [eb]
          exact hlast a ha
        · rcases List.mem_append.mp hr with q | q
          · rcases ih.below r q with q | ⟨y, hy, q⟩
            · exact .inl q
            · exact .inr ⟨y, List.mem_append_left _ hy, q⟩
          · have : r = (m.2, m.1) := by simpa using q
            rw [this]
            exact .inr ⟨m, List.mem_append_right _ List.mem_cons_self, rfl⟩
        · rw [runAt_snoc, placeAt_snoc, ih.at_ x hx]
        · rw [List.length_append, List.length_append]
          have := ih.len
          simp
          omega
/-- spells: maximal, from a to z (left out), out by out -/
def Cov (out : Int → Bool) : Int → Int → Option Bool → List (Bool × Int × Int) → Prop
  | a, z, _, [] => a = z
  | a, z, prev, s :: r => s.2.1 = a ∧ a ≤ s.2.2 ∧ s.2.2 < z ∧ prev ≠ some s.1 ∧ (∀ x, a ≤ x → x ≤ s.2.2 → out x = s.1) ∧ Cov out (s.2.2 + 1) z (some s.1) r
theorem cov_unique {out out2 : Int → Bool} {z : Int} : ∀ {S S2 : List (Bool × Int × Int)} {a : Int} {prev : Option Bool}, (∀ x, a ≤ x → x < z → out x = out2 x) → Cov out a z prev S → Cov out2 a z prev S2 → S = S2
  | [], [], _, _, _, _, _ => rfl
  | [], s :: r, a, prev, h, h1, h2 => by
    have e : a = z := h1
    obtain ⟨q1, q2, q3, _⟩ := h2
    omega
  | s :: r, [], a, prev, h, h1, h2 => by
    have e : a = z := h2
    obtain ⟨q1, q2, q3, _⟩ := h1
    omega
  | s :: r, s2 :: r2, a, prev, h, h1, h2 => by
    obtain ⟨b, f, l⟩ := s
    obtain ⟨b2, f2, l2⟩ := s2
    obtain ⟨q1, q2, q3, q4, q5, q6⟩ := h1
    obtain ⟨p1, p2, p3, p4, p5, p6⟩ := h2
    simp only at q1 q2 q3 q4 q5 q6 p1 p2 p3 p4 p5 p6
    have eb : b = b2 := by
      rw [← q5 a (Int.le_refl _) q2, ← p5 a (Int.le_refl _) p2]
      exact h a (Int.le_refl _) (by omega)
    subst eb
    have el : l = l2 := by
      rcases Int.lt_trichotomy l l2 with c | c | c
      · exfalso
        cases r with
        | nil =>
          have e : l + 1 = z := q6
          omega
        | cons s3 r3 =>
          obtain ⟨w1, w2, w3, w4, w5, w6⟩ := q6
          have e1 := w5 (l + 1) (Int.le_refl _) w2
          have e2 := p5 (l + 1) (by omega) (by omega)
          have e3 := h (l + 1) (by omega) (by omega)
          apply w4
          rw [← e1, e3, e2]
      · exact c
      · exfalso
        cases r2 with
        | nil =>
          have e : l2 + 1 = z := p6
          omega
        | cons s3 r3 =>
          obtain ⟨w1, w2, w3, w4, w5, w6⟩ := p6
          have e1 := w5 (l2 + 1) (Int.le_refl _) w2
          have e2 := q5 (l2 + 1) (by omega) (by omega)
          have e3 := h (l2 + 1) (by omega) (by omega)
          apply w4
          rw [← e1, ← e3, e2]
    subst el
    have er : r = r2 := cov_unique (fun x h3 h4 => h x (by omega) h4) q6 p6
    rw [er, q1, p1]
def lastB (prev : Option Bool) (S : List (Bool × Int × Int)) : Option Bool := match S.getLast? with
  | some s => some s.1
  | none => prev
theorem cov_snoc {out : Int → Bool} {s : Bool × Int × Int} : ∀ {S : List (Bool × Int × Int)} {a m : Int} {prev : Option Bool}, s.2.1 = m → m ≤ s.2.2 → (S.getLast?.map (·.1)).or prev ≠ some s.1 →
    (∀ x, m ≤ x → x ≤ s.2.2 → out x = s.1) → Cov out a m prev S → Cov out a (s.2.2 + 1) prev (S ++ [s])
  | [], a, m, prev, h1, h2, h3, h4, h => by
    have e : a = m := h
    subst e
    exact ⟨h1, h2, by omega, by simpa using h3, h4, rfl⟩
  | y :: r, a, m, prev, h1, h2, h3, h4, h => by
    obtain ⟨q1, q2, q3, q4, q5, q6⟩ := h
    refine ⟨q1, q2, by omega, q4, q5, cov_snoc (S := r) h1 h2 ?_ h4 q6⟩
    cases r with
    | nil => simpa using h3
    | cons y2 r2 =>
      rw [List.getLast?_cons_cons, List.getLast?_eq_some_getLast (List.cons_ne_nil y2 r2)] at h3
      rw [List.getLast?_eq_some_getLast (List.cons_ne_nil y2 r2)]
      exact h3
/-- the last spell goes on -/
theorem cov_grow {out : Int → Bool} {b : Bool} {f l l2 : Int} : ∀ {S : List (Bool × Int × Int)} {a : Int} {prev : Option Bool}, l < l2 → (∀ x, l < x → x ≤ l2 → out x = b) → Cov out a (l + 1) prev (S ++ [(b, f, l)]) →
    Cov out a (l2 + 1) prev (S ++ [(b, f, l2)])
  | [], a, prev, h1, h2, h => by
    obtain ⟨q1, q2, q3, q4, q5, q6⟩ := h
    simp only at q1 q2 q3 q4 q5 q6
    refine ⟨q1, by simp only; omega, by simp only; omega, q4, fun x h3 h4 => ?_, rfl⟩
    by_cases c : x ≤ l
    · exact q5 x h3 c
    · exact h2 x (by omega) h4
  | y :: r, a, prev, h1, h2, h => by
    obtain ⟨q1, q2, q3, q4, q5, q6⟩ := h
    exact ⟨q1, q2, by omega, q4, q5, cov_grow (S := r) h1 h2 q6⟩
theorem cov_last {out : Int → Bool} {b : Bool} {f l : Int} : ∀ {S : List (Bool × Int × Int)} {a z : Int} {prev : Option Bool}, Cov out a z prev (S ++ [(b, f, l)]) → z = l + 1
  | [], a, z, prev, h => by
    obtain ⟨q1, q2, q3, q4, q5, q6⟩ := h
    exact (show l + 1 = z from q6).symm
  | y :: r, a, z, prev, h => by
    obtain ⟨q1, q2, q3, q4, q5, q6⟩ := h
    exact cov_last (S := r) q6
/-- one turn more, from m on to last -/
theorem cov_step {out : Int → Bool} {day m last : Int} {p : Str} {l : Option Int} {S : List (Bool × Int × Int)} (h : Cov out 0 m none S) (hm : m ≤ day)
    (hl : (match l with | none => day | some z => if z < day then z else day) = last) (h1 : m ≤ last) (ho : ∀ x, m ≤ x → x ≤ last → out x = isOut p) : Cov out 0 (last + 1) none (spellStep day S (p, m, l)) := by
  unfold spellStep
  simp only
  rw [if_neg (by omega), hl]
  cases e : S.getLast? with
  | none =>
    have es : S = [] := List.getLast?_eq_none_iff.mp e
    exact cov_snoc (s := (isOut p, m, last)) rfl h1 (by rw [e]; simp) ho h
  | some x =>
    obtain ⟨b, f, l0⟩ := x
    simp only
    by_cases hb : b = isOut p
    · rw [if_pos hb]
      have er := snoc_of e
      rw [er] at h
      have hz := cov_last h
      subst hb
      subst hz
      exact cov_grow (by omega) (fun x a c => ho x (by omega) c) h
    · rw [if_neg hb]
      exact cov_snoc (s := (isOut p, m, last)) rfl h1 (by rw [e]; simpa using hb) ho h
theorem spell_skip {day : Int} : ∀ {T : List (Str × Int × Option Int)} {S : List (Bool × Int × Int)}, (∀ t ∈ T, day < t.2.1) → T.foldl (spellStep day) S = S
  | [], _, _ => rfl
  | t :: T, S, h => by
    rw [List.foldl_cons]
    have e : spellStep day S t = S := by
      unfold spellStep
      simp only
      rw [if_pos (h t List.mem_cons_self)]
    rw [e]
    exact spell_skip fun x hx => h x (List.mem_cons_of_mem _ hx)
theorem turnsOf_first : ∀ {R : List (Str × Int)} {t : Str × Int × Option Int}, t ∈ turnsOf R → ∃ r ∈ R, t.1 = r.1 ∧ t.2.1 = r.2
  | [], t, h => by cases h
  | [r], t, h => by
    have e : t = (r.1, r.2, none) := by simpa [turnsOf] using h
    rw [e]
    exact ⟨r, List.mem_cons_self, rfl, rfl⟩
  | r :: q :: l, t, h => by
    rcases List.mem_cons.mp (show t ∈ (r.1, r.2, some (q.2 - 1)) :: turnsOf (q :: l) from h) with e | e
    · rw [e]
      exact ⟨r, List.mem_cons_self, rfl, rfl⟩
    · obtain ⟨y, hy, e2⟩ := turnsOf_first e
      exact ⟨y, List.mem_cons_of_mem _ hy, e2⟩
theorem runAt_skip {x : Int} : ∀ {R : List (Str × Int)} {p : Str}, (∀ r ∈ R, x < r.2) → R.foldl (fun p r => if r.2 ≤ x then r.1 else p) p = p
  | [], _, _ => rfl
  | r :: R, p, h => by
    rw [List.foldl_cons]
    have := h r List.mem_cons_self
    rw [if_neg (by omega)]
    exact runAt_skip fun y hy => h y (List.mem_cons_of_mem _ hy)
theorem spells_cov {out : Int → Bool} {day : Int} : ∀ (R : List (Str × Int)) (r : Str × Int) (S : List (Bool × Int × Int)), (r :: R).Pairwise (fun a b => a.2 < b.2) → r.2 ≤ day →
    (∀ x, r.2 ≤ x → out x = isOut ((r :: R).foldl (fun p r => if r.2 ≤ x then r.1 else p) ash)) → Cov out 0 r.2 none S → Cov out 0 (day + 1) none ((turnsOf (r :: R)).foldl (spellStep day) S)
  | [], r, S, hp, hr, ho, h => by
    show Cov out 0 (day + 1) none (spellStep day S (r.1, r.2, none))
    refine cov_step h hr rfl hr fun x h1 h2 => ?_
    rw [ho x h1]
    show isOut (if r.2 ≤ x then r.1 else ash) = isOut r.1
    rw [if_pos h1]
  | q :: R, r, S, hp, hr, ho, h => by
    rw [List.pairwise_cons] at hp
    have hrq : r.2 < q.2 := hp.1 q List.mem_cons_self
    have hlater : ∀ y ∈ q :: R, q.2 ≤ y.2 := by
      intro y hy
      rcases List.mem_cons.mp hy with e | e
      · rw [e]
        exact Int.le_refl _
      · have := (List.pairwise_cons.mp hp.2).1 y e
        omega
    have hout : ∀ x, r.2 ≤ x → x < q.2 → out x = isOut r.1 := by
      intro x h1 h2
      rw [ho x h1, List.foldl_cons, if_pos h1]
      rw [runAt_skip fun y hy => by have := hlater y hy; omega]
    show Cov out 0 (day + 1) none ((turnsOf (q :: R)).foldl (spellStep day) (spellStep day S (r.1, r.2, some (q.2 - 1))))
    by_cases hq : q.2 ≤ day
    · have h1 := cov_step (p := r.1) (l := some (q.2 - 1)) (last := q.2 - 1) h hr (by show (if q.2 - 1 < day then q.2 - 1 else day) = q.2 - 1; rw [if_pos (by omega)]) (by omega) fun x a b => hout x a (by omega)
      have e : q.2 - 1 + 1 = q.2 := by omega
      rw [e] at h1
      refine spells_cov R q _ hp.2 hq (fun x h2 => ?_) h1
      rw [ho x (by omega), List.foldl_cons, List.foldl_cons, List.foldl_cons]
      rw [if_pos h2, if_pos h2]
    · have h1 := cov_step (p := r.1) (l := some (q.2 - 1)) (last := day) h hr (by
        show (if q.2 - 1 < day then q.2 - 1 else day) = day
        split <;> omega) hr fun x a b => hout x a (by omega)
      rw [spell_skip fun t ht => ?_]
      · exact h1
      · obtain ⟨y, hy, _, e⟩ := turnsOf_first ht
        have := hlater y hy
        omega
theorem spells_ok {L : List (Int × Str)} (hs : Srt L) (h0 : ∀ m ∈ L, 0 ≤ m.1) {day : Int} (hd : 0 ≤ day) : Cov (fun x => isOut (placeAt L x)) 0 (day + 1) none (spells L day) := by
  have inv := runs_inv L hs h0
  obtain ⟨p, l, e⟩ := inv.ok.head
  unfold spells spellsOf
  have hr := inv.ok.rise
  have ha := inv.at_
  rw [e] at hr ha ⊢
  refine spells_cov l (p, 0) [] hr hd (fun x hx => ?_) rfl
  rw [← ha x hx]
  rfl
/-- spells hang on nothing but who is out when -/
theorem spells_congr {L L2 : List (Int × Str)} (hs : Srt L) (h0 : ∀ m ∈ L, 0 ≤ m.1) (hs2 : Srt L2) (h02 : ∀ m ∈ L2, 0 ≤ m.1) {day : Int} (hd : 0 ≤ day)
    (h : ∀ x, 0 ≤ x → x ≤ day → isOut (placeAt L x) = isOut (placeAt L2 x)) : spells L day = spells L2 day :=
  cov_unique (fun x h1 h2 => h x h1 (by omega)) (spells_ok hs h0 hd) (spells_ok hs2 h02 hd)
/-- spells lie within -/
def SpOk (day : Int) (S : List (Bool × Int × Int)) : Prop := ∀ s ∈ S, 0 ≤ s.2.1 ∧ s.2.1 ≤ s.2.2 ∧ s.2.2 ≤ day
theorem cov_in {out : Int → Bool} {z : Int} : ∀ {S : List (Bool × Int × Int)} {a : Int} {prev : Option Bool}, 0 ≤ a → Cov out a z prev S → ∀ s ∈ S, 0 ≤ s.2.1 ∧ s.2.1 ≤ s.2.2 ∧ s.2.2 < z
  | [], _, _, _, _, s, hs => by cases hs
  | y :: r, a, prev, ha, h, s, hs => by
    obtain ⟨q1, q2, q3, q4, q5, q6⟩ := h
    rcases List.mem_cons.mp hs with e | e
    · rw [e]
      exact ⟨by omega, by omega, q3⟩
    · exact cov_in (by omega) q6 s e
theorem spells_in {L : List (Int × Str)} (hs : Srt L) (h0 : ∀ m ∈ L, 0 ≤ m.1) {day : Int} (hd : 0 ≤ day) : SpOk day (spells L day) := fun s h => by
  have := cov_in (Int.le_refl 0) (spells_ok hs h0 hd) s h
  exact ⟨this.1, this.2.1, by omega⟩
theorem spellStep_len (day : Int) (S : List (Bool × Int × Int)) (t : Str × Int × Option Int) : (spellStep day S t).length ≤ S.length + 1 := by
  unfold spellStep
  simp only
  split
  · omega
  · cases e : S.getLast? with
    | none => simp only [List.length_append, List.length_cons, List.length_nil]; omega
    | some x =>
      simp only
      split
      · rw [List.length_append, List.length_dropLast]
        show S.length - 1 + 1 ≤ _
        omega
      · simp only [List.length_append, List.length_cons, List.length_nil]; omega
theorem foldl_len {α β : Type} {f : List β → α → List β} {c : Nat} (h : ∀ S t, (f S t).length ≤ S.length + c) : ∀ (T : List α) (S : List β), (T.foldl f S).length ≤ S.length + c * T.length
  | [], S => by simp
  | t :: T, S => by
    rw [List.foldl_cons]
    have h1 := foldl_len h T (f S t)
    have h2 := h S t
    rw [List.length_cons, Nat.mul_succ]
    omega
theorem turnsOf_len : ∀ R : List (Str × Int), (turnsOf R).length = R.length
  | [] => rfl
  | [r] => rfl
  | r :: q :: l => by
    show (turnsOf (q :: l)).length + 1 = _
    rw [turnsOf_len (q :: l)]
    rfl
theorem spells_len {L : List (Int × Str)} (hs : Srt L) (h0 : ∀ m ∈ L, 0 ≤ m.1) (day : Int) : (spells L day).length ≤ L.length + 1 := by
  have h1 := foldl_len (spellStep_len day) (turnsOf (runsOf L)) []
  rw [turnsOf_len] at h1
  have h2 := (runs_inv L hs h0).len
  unfold spells spellsOf
  simp at h1
  omega
/-! ### days over, given back -/
def lotsOf (S : List (Bool × Int × Int)) (term : Int) : List (Int × Int) := S.filterMap fun s => if s.1 = true ∧ s.2.1 + term ≤ s.2.2 then some (s.2.1 + term, s.2.2) else none
def giveBack : List (Int × Int) → Int → Int → List (Int × Int × Int) × List (Int × Int)
  | [], _, _ => ([], [])
  | (b, e) :: r, d, l => if d ≤ l then
      let m := (if l - d < e - b then l - d else e - b) + 1
      if b + m ≤ e then ([(b, d, m)], (b + m, e) :: r) else
        let g := giveBack r (d + m) l
        ((b, d, m) :: g.1, g.2)
    else ([], (b, e) :: r)
def setStep (term leave : Int) (z : List (Int × Int × Int) × List (Int × Int)) (s : Bool × Int × Int) : List (Int × Int × Int) × List (Int × Int) :=
  if s.1 = true then (z.1, z.2 ++ lotsOf [s] term) else ((z.1 ++ (giveBack z.2 (s.2.1 + leave) s.2.2).1), (giveBack z.2 (s.2.1 + leave) s.2.2).2)
def settled (S : List (Bool × Int × Int)) (term leave : Int) : List (Int × Int × Int) × List (Int × Int) := S.foldl (setStep term leave) ([], [])
def LotsOk (day : Int) (l : List (Int × Int)) : Prop := ∀ x ∈ l, 0 ≤ x.1 ∧ x.1 ≤ x.2 ∧ x.2 ≤ day
def GivOk (day : Int) (g : List (Int × Int × Int)) : Prop := ∀ x ∈ g, 0 ≤ x.1 ∧ x.1 ≤ day ∧ 0 ≤ x.2.1 ∧ x.2.1 ≤ day ∧ 0 ≤ x.2.2 ∧ x.2.2 ≤ day + 1
theorem lotsOf_ok {S : List (Bool × Int × Int)} {day term : Int} (h : SpOk day S) (ht : 0 ≤ term) : LotsOk day (lotsOf S term) := by
  intro x hx
  obtain ⟨s, h1, h2⟩ := List.mem_filterMap.mp hx
  have := h s h1
  by_cases c : s.1 = true ∧ s.2.1 + term ≤ s.2.2
  · rw [if_pos c] at h2
    have e := Option.some.inj h2
    rw [← e]
    exact ⟨by simp only; omega, c.2, this.2.2⟩
  · rw [if_neg c] at h2
    cases h2
theorem lotsOf_len (S : List (Bool × Int × Int)) (term : Int) : (lotsOf S term).length ≤ S.length := List.length_filterMap_le _ _
theorem giveBack_ok {day : Int} : ∀ {l : List (Int × Int)} {d z : Int}, 0 ≤ d → z ≤ day → LotsOk day l → GivOk day (giveBack l d z).1 ∧ LotsOk day (giveBack l d z).2 ∧ (giveBack l d z).1.length ≤ l.length ∧ (giveBack l d z).2.length ≤ l.length
  | [], d, z, _, _, _ => ⟨fun _ h => (nomatch h), fun _ h => (nomatch h), Nat.le_refl _, Nat.le_refl _⟩
  | (b, e) :: r, d, z, hd, hz, hl => by
    have hbe := hl (b, e) List.mem_cons_self
    simp only at hbe
    have hr : LotsOk day r := fun x hx => hl x (List.mem_cons_of_mem _ hx)
    unfold giveBack
    by_cases c : d ≤ z
    · rw [if_pos c]
      have hm : 1 ≤ (if z - d < e - b then z - d else e - b) + 1 ∧ (if z - d < e - b then z - d else e - b) + 1 ≤ z - d + 1 ∧ (if z - d < e - b then z - d else e - b) + 1 ≤ e - b + 1 := by
        split <;> omega
      generalize (if z - d < e - b then z - d else e - b) + 1 = m at hm ⊢
      obtain ⟨m1, m2, m3⟩ := hm
      simp only
      by_cases c2 : b + m ≤ e
      · rw [if_pos c2]
        refine ⟨fun x hx => ?_, fun x hx => ?_, by simp, by simp⟩
        · have ex : x = (b, d, m) := by simpa using hx
          rw [ex]
          exact ⟨hbe.1, by simp only; omega, hd, by simp only; omega, by simp only; omega, by simp only; omega⟩
        · rcases List.mem_cons.mp hx with q | q
          · rw [q]
            exact ⟨by simp only; omega, c2, hbe.2.2⟩
          · exact hr x q
      · rw [if_neg c2]
        obtain ⟨g1, g2, g3, g4⟩ := giveBack_ok (l := r) (d := d + m) (z := z) (by omega) hz hr
        refine ⟨fun x hx => ?_, g2, by simpa using g3, by simp; omega⟩
        rcases List.mem_cons.mp hx with q | q
        · rw [q]
          exact ⟨hbe.1, by simp only; omega, hd, by simp only; omega, by simp only; omega, by simp only; omega⟩
        · exact g1 x q
    · rw [if_neg c]
      exact ⟨fun _ h => (nomatch h), hl, by simp, by simp⟩
theorem settled_snoc (S : List (Bool × Int × Int)) (s : Bool × Int × Int) (term leave : Int) : settled (S ++ [s]) term leave = setStep term leave (settled S term leave) s := by
  unfold settled
  rw [List.foldl_append]
  rfl
theorem settled_ok {day term leave : Int} (ht : 0 ≤ term) (hl : 0 ≤ leave) (S : List (Bool × Int × Int)) (h : SpOk day S) :
    GivOk day (settled S term leave).1 ∧ LotsOk day (settled S term leave).2 ∧ (settled S term leave).2.length ≤ S.length ∧ (settled S term leave).1.length ≤ S.length * S.length := by
  induction S using snoc_ind with
  | h0 => exact ⟨fun _ h => (nomatch h), fun _ h => (nomatch h), Nat.le_refl _, Nat.le_refl _⟩
  | h1 S s ih =>
    obtain ⟨g1, g2, g3, g4⟩ := ih fun x hx => h x (List.mem_append_left _ hx)
    have hs := h s (List.mem_append_right _ List.mem_cons_self)
    rw [settled_snoc, List.length_append]
    have e2 : (S.length + [s].length) * (S.length + [s].length) = S.length * S.length + (2 * S.length + 1) := by
      show (S.length + 1) * (S.length + 1) = _
      rw [Nat.add_mul, Nat.mul_add]
      omega
    rw [e2]
    unfold setStep
    by_cases c : s.1 = true
    · rw [if_pos c]
      have h1 : SpOk day [s] := fun x hx => by
        have e : x = s := by simpa using hx
        rw [e]
        exact hs
      refine ⟨g1, fun x hx => ?_, ?_, by simp only; omega⟩
      · rcases List.mem_append.mp hx with q | q
        · exact g2 x q
        · exact lotsOf_ok h1 ht x q
      · have := lotsOf_len [s] term
        simp only [List.length_append]
        omega
    · rw [if_neg c]
      obtain ⟨k1, k2, k3, k4⟩ := giveBack_ok (l := (settled S term leave).2) (d := s.2.1 + leave) (z := s.2.2) (by omega) hs.2.2 g2
      refine ⟨fun x hx => ?_, k2, by simp only; omega, ?_⟩
      · rcases List.mem_append.mp hx with q | q
        · exact g1 x q
        · exact k1 x q
      · simp only [List.length_append]
        omega
/-! ### what is shown -/
def numT (n : Int) : Str := (toString n : Str)
def strT (x : Int × Int) : Str := ("Stretch(" : Str) ++ numT x.1 ++ ", " ++ numT x.2 ++ ")"
def givT (x : Int × Int × Int) : Str := tupleText [numT x.1, numT x.2.1, numT x.2.2]
def threeS (S : List (Bool × Int × Int)) (term leave : Int) : Str :=
  listText [listText ((lotsOf S term).map strT), listText ((settled S term leave).2.map strT), listText ((settled S term leave).1.map givT)]
def threeM (M : MT) (keeper : Str) (day term leave : Int) (kn : Option Int) : Str := threeS (spells (heldS M keeper kn) day) term leave
end K76
namespace K76
open PySem

/-! ### the law's four words on books -/
structure IsName (x : Str) : Prop where
  pos : 1 ≤ x.length
  len : x.length ≤ 8
  low : ∀ c ∈ x.cps.toList, 97 ≤ c ∧ c ≤ 122
def PlaceOk (p : Option Str) : Prop := ∀ x, p = some x → x = ash ∨ IsName x
structure RowsOk (ns : List Str) (R : List Row) : Prop where
  name : ∀ r ∈ R, r.2.1 ∈ ns
  known : ∀ r ∈ R, 0 ≤ r.1
  day : ∀ r ∈ R, 0 ≤ r.2.2.1 ∧ r.2.2.1 ≤ 40
  place : ∀ r ∈ R, PlaceOk r.2.2.2
  rise : R.Pairwise fun a b => a.1 ≤ b.1
  len : R.length ≤ 20
theorem RowsOk.sub {ns : List Str} {R R2 : List Row} (h : RowsOk ns R) (s : R2.Sublist R) : RowsOk ns R2 :=
  ⟨fun r hr => h.name r (s.subset hr), fun r hr => h.known r (s.subset hr), fun r hr => h.day r (s.subset hr), fun r hr => h.place r (s.subset hr), h.rise.sublist s, Nat.le_trans s.length_le h.len⟩
/-- the book that the law tells -/
def lawM (R : List Row) (far : Int) : MT := bookM (R.map (shiftR far))
theorem shift_day {R : List Row} {far : Int} (h : ∀ r ∈ R, 0 ≤ r.2.2.1) (hf : 0 ≤ far) : ∀ r ∈ R.map (shiftR far), 0 ≤ r.2.2.1 := by
  intro r hr
  obtain ⟨q, h1, h2⟩ := List.mem_map.mp hr
  rw [← h2]
  have := h q h1
  show 0 ≤ q.2.2.1 + far
  omega
theorem lawM_ok {ns : List Str} {R : List Row} {far : Int} (h : RowsOk ns R) (hf : 0 ≤ far) : MOk (lawM R far) R.length := by
  have := bookM_ok (R.map (shiftR far)) (shift_day (fun r hr => (h.day r hr).1) hf)
  rwa [List.length_map] at this
theorem sem_shift (far : Int) (n : Str) (d : Int) (kn : Option Int) (R : List Row) : sem (R.map (shiftR far)) (n, d) kn = sem R (n, d - far) kn := by
  induction R using snoc_ind with
  | h0 => rfl
  | h1 l r ih =>
    rw [List.map_append, List.map_singleton, sem_snoc, sem_snoc, ih]
    have e : ((shiftR far r).2.1, (shiftR far r).2.2.1) = (n, d) ↔ (r.2.1, r.2.2.1) = (n, d - far) := by
      show (r.2.1, r.2.2.1 + far) = (n, d) ↔ _
      rw [Prod.mk.injEq, Prod.mk.injEq]
      constructor
      · rintro ⟨a, b⟩
        exact ⟨a, by omega⟩
      · rintro ⟨a, b⟩
        exact ⟨a, by omega⟩
    have e2 : ((shiftR far r).2.1, (shiftR far r).2.2.1) = (n, d) ∧ okK kn (shiftR far r).1 = true ↔ (r.2.1, r.2.2.1) = (n, d - far) ∧ okK kn r.1 = true := and_congr e Iff.rfl
    by_cases c : (r.2.1, r.2.2.1) = (n, d - far) ∧ okK kn r.1 = true
    · rw [if_pos (e2.mpr c), if_pos c]
      rfl
    · rw [if_neg (fun z => c (e2.mp z)), if_neg c]
theorem three_congr {R R2 : List Row} {far : Int} (hf : 0 ≤ far) (hR : ∀ r ∈ R, 0 ≤ r.2.2.1) (hR2 : ∀ r ∈ R2, 0 ≤ r.2.2.1) {n : Str} {kn kn2 : Option Int} (h : ∀ d, sem R (n, d) kn = sem R2 (n, d) kn2) (day term leave : Int) :
    threeM (lawM R far) n day term leave kn = threeM (lawM R2 far) n day term leave kn2 := by
  unfold threeM lawM
  rw [heldS_congr (shift_day hR hf) (shift_day hR2 hf) fun d => by rw [sem_shift, sem_shift, h]]
/-! by then alone -/
theorem sem_filter (K : Int) (key : Str × Int) (R : List Row) : sem (R.filter fun r => decide (r.1 ≤ K)) key none = sem R key (some K) := by
  induction R using snoc_ind with
  | h0 => rfl
  | h1 l r ih =>
    rw [List.filter_append, sem_snoc, ← ih]
    by_cases c : r.1 ≤ K
    · have e : ([r].filter fun r => decide (r.1 ≤ K)) = [r] := by simp [c]
      rw [e, sem_snoc]
      show (if (r.2.1, r.2.2.1) = key ∧ true = true then _ else _) = (if (r.2.1, r.2.2.1) = key ∧ decide (r.1 ≤ K) = true then _ else _)
      rw [decide_eq_true c]
    · have e : ([r].filter fun r => decide (r.1 ≤ K)) = [] := by simp [c]
      rw [e, List.append_nil]
      show _ = (if (r.2.1, r.2.2.1) = key ∧ decide (r.1 ≤ K) = true then _ else _)
      rw [decide_eq_false c, if_neg (fun z => Bool.false_ne_true z.2)]
/-! at once -/
def putA (D : List ((Str × Int) × Option Str)) (key : Str × Int) (x : Option Str) : List ((Str × Int) × Option Str) :=
  if (valM D key).isSome = true then D.map (fun e => if e.1 = key then (e.1, x) else e) else D ++ [(key, x)]
def heldD (R : List Row) (K : Int) : List ((Str × Int) × Option Str) := R.foldl (fun D r => if r.1 ≤ K then putA D (r.2.1, r.2.2.1) r.2.2.2 else D) []
def rowOf (e : (Str × Int) × Option Str) : Option Row := e.2.map fun p => (0, e.1.1, e.1.2, some p)
def heldR (R : List Row) (K : Int) : List Row := (heldD R K).filterMap rowOf
theorem heldD_snoc (R : List Row) (r : Row) (K : Int) : heldD (R ++ [r]) K = if r.1 ≤ K then putA (heldD R K) (r.2.1, r.2.2.1) r.2.2.2 else heldD R K := by
  unfold heldD
  rw [List.foldl_append]
  rfl
theorem valM_putA (D : List ((Str × Int) × Option Str)) (key key2 : Str × Int) (x : Option Str) : valM (putA D key x) key2 = if key2 = key then some x else valM D key2 := by
  unfold putA
  by_cases h : (valM D key).isSome = true
  · rw [if_pos h]
    have e1 : (D.map fun e => if e.1 = key then (e.1, x) else e) = D.map fun e => (e.1, (fun (z : Str × Int) (y : Option Str) => if z = key then x else y) e.1 e.2) := by
      apply List.map_congr_left
      intro e _
      by_cases q : e.1 = key
      · simp only [if_pos q]
      · simp only [if_neg q]
    rw [e1, valM_map (fun (z : Str × Int) (y : Option Str) => if z = key then x else y) key2 D]
    by_cases q : key2 = key
    · rw [if_pos q, q]
      cases z : valM D key with
      | none =>
        rw [z] at h
        cases h
      | some y => simp
    · rw [if_neg q]
      cases z : valM D key2 with
      | none => rfl
      | some y => simp [q]
  · rw [if_neg h, valM_snoc]
    have hn : valM D key = none := by
      cases z : valM D key with
      | none => rfl
      | some y =>
        rw [z] at h
        exact absurd rfl h
    by_cases q : key2 = key
    · rw [if_pos q, q, hn, if_pos rfl]
      rfl
    · rw [if_neg q, if_neg (fun z => q z.symm)]
      cases valM D key2 <;> rfl
theorem putA_keys (D : List ((Str × Int) × Option Str)) (key : Str × Int) (x : Option Str) : (putA D key x).map (·.1) = if (valM D key).isSome = true then D.map (·.1) else D.map (·.1) ++ [key] := by
  unfold putA
  by_cases h : (valM D key).isSome = true
  · rw [if_pos h, if_pos h, List.map_map]
    apply List.map_congr_left
    intro e _
    show (if e.1 = key then (e.1, x) else e).1 = e.1
    split <;> rfl
  · rw [if_neg h, if_neg h, List.map_append]
    rfl
theorem heldD_nodup (R : List Row) (K : Int) : ((heldD R K).map (·.1)).Nodup := by
  induction R using snoc_ind with
  | h0 => exact List.nodup_nil
  | h1 l r ih =>
    rw [heldD_snoc]
    by_cases c : r.1 ≤ K
    · rw [if_pos c, putA_keys]
      by_cases h : (valM (heldD l K) (r.2.1, r.2.2.1)).isSome = true
      · rw [if_pos h]
        exact ih
      · rw [if_neg h]
        have hn : valM (heldD l K) (r.2.1, r.2.2.1) = none := by
          cases z : valM (heldD l K) (r.2.1, r.2.2.1) with
          | none => rfl
          | some y =>
            rw [z] at h
            exact absurd rfl h
        rw [List.nodup_append]
        refine ⟨ih, List.nodup_cons.mpr ⟨List.not_mem_nil, List.nodup_nil⟩, fun a ha b hb => ?_⟩
        have eb : b = (r.2.1, r.2.2.1) := by simpa using hb
        rw [eb]
        intro e
        rw [e] at ha
        exact valM_none.mp hn ha
    · rw [if_neg c]
      exact ih
theorem heldD_sem (R : List Row) (K : Int) (key : Str × Int) : (valM (heldD R K) key).getD none = sem R key (some K) := by
  induction R using snoc_ind with
  | h0 => rfl
  | h1 l r ih =>
    rw [heldD_snoc, sem_snoc]
    show _ = (if (r.2.1, r.2.2.1) = key ∧ decide (r.1 ≤ K) = true then _ else _)
    by_cases c : r.1 ≤ K
    · rw [if_pos c, valM_putA, decide_eq_true c]
      by_cases q : key = (r.2.1, r.2.2.1)
      · rw [if_pos q, if_pos ⟨q.symm, rfl⟩]
        rfl
      · rw [if_neg q, if_neg (fun z => q z.1.symm)]
        exact ih
    · rw [if_neg c, decide_eq_false c, if_neg (fun z => Bool.false_ne_true z.2)]
      exact ih
theorem sem_rowOf (key : Str × Int) (D : List ((Str × Int) × Option Str)) (nd : (D.map (·.1)).Nodup) : sem (D.filterMap rowOf) key none = (valM D key).getD none := by
  induction D using snoc_ind with
  | h0 => rfl
  | h1 D e ih =>
    rw [List.map_append, List.nodup_append] at nd
    have ih := ih nd.1
    obtain ⟨k, x⟩ := e
    rw [List.filterMap_append, valM_snoc]
    by_cases q : k = key
    · have hn : valM D key = none := by
        rw [valM_none]
        intro hm
        exact nd.2.2 key hm k (by simp) q.symm
      rw [hn] at ih ⊢
      rw [if_pos q]
      cases x with
      | none =>
        have e : [(k, (none : Option Str))].filterMap rowOf = [] := rfl
        rw [e, List.append_nil]
        exact ih
      | some p =>
        have e : [(k, some p)].filterMap rowOf = [((0 : Int), k.1, k.2, some p)] := rfl
        rw [e, sem_snoc, if_pos ⟨q, rfl⟩]
        rfl
    · rw [if_neg q]
      have hz : ((valM D key).or none).getD none = (valM D key).getD none := by
        cases valM D key <;> rfl
      rw [hz, ← ih]
      cases x with
      | none =>
        have e : [(k, (none : Option Str))].filterMap rowOf = [] := rfl
        rw [e, List.append_nil]
      | some p =>
        have e : [(k, some p)].filterMap rowOf = [((0 : Int), k.1, k.2, some p)] := rfl
        rw [e, sem_snoc, if_neg (fun z => q z.1)]
theorem sem_held (R : List Row) (K : Int) (key : Str × Int) : sem (heldR R K) key none = sem R key (some K) := by
  unfold heldR
  rw [sem_rowOf key _ (heldD_nodup R K), heldD_sem]
theorem heldD_from (K : Int) (R : List Row) : ∀ e ∈ heldD R K, ∃ r ∈ R, e.1 = (r.2.1, r.2.2.1) ∧ e.2 = r.2.2.2 := by
  induction R using snoc_ind with
  | h0 => exact fun e he => nomatch he
  | h1 l r ih =>
    intro e he
    rw [heldD_snoc] at he
    have old : e ∈ heldD l K → ∃ q ∈ l ++ [r], e.1 = (q.2.1, q.2.2.1) ∧ e.2 = q.2.2.2 := fun h => by
      obtain ⟨q, h1, h2⟩ := ih e h
      exact ⟨q, List.mem_append_left _ h1, h2⟩
    by_cases c : r.1 ≤ K
    · rw [if_pos c] at he
      unfold putA at he
      by_cases h : (valM (heldD l K) (r.2.1, r.2.2.1)).isSome = true
      · rw [if_pos h] at he
        obtain ⟨e1, h1, h2⟩ := List.mem_map.mp he
        by_cases z : e1.1 = (r.2.1, r.2.2.1)
        · rw [if_pos z] at h2
          rw [← h2]
          exact ⟨r, List.mem_append_right _ List.mem_cons_self, z, rfl⟩
        · rw [if_neg z] at h2
          rw [h2] at h1
          exact old h1
      · rw [if_neg h] at he
        rcases List.mem_append.mp he with h | h
        · exact old h
        · have e2 : e = ((r.2.1, r.2.2.1), r.2.2.2) := by simpa using h
          rw [e2]
          exact ⟨r, List.mem_append_right _ List.mem_cons_self, rfl, rfl⟩
    · rw [if_neg c] at he
      exact old he
theorem putA_len (D : List ((Str × Int) × Option Str)) (key : Str × Int) (x : Option Str) : (putA D key x).length ≤ D.length + 1 := by
  unfold putA
  split
  · rw [List.length_map]; omega
  · rw [List.length_append]; simp
theorem heldD_len (K : Int) (R : List Row) : (heldD R K).length ≤ R.length := by
  induction R using snoc_ind with
  | h0 => exact Nat.le_refl _
  | h1 l r ih =>
    rw [heldD_snoc, List.length_append]
    by_cases c : r.1 ≤ K
    · rw [if_pos c]
      have := putA_len (heldD l K) (r.2.1, r.2.2.1) r.2.2.2
      simp
      omega
    · rw [if_neg c]
      omega
theorem heldR_ok {ns : List Str} {R : List Row} (h : RowsOk ns R) (K : Int) : RowsOk ns (heldR R K) := by
  have from_ : ∀ r ∈ heldR R K, ∃ q ∈ R, r = ((0 : Int), q.2.1, q.2.2.1, q.2.2.2) := by
    intro r hr
    obtain ⟨e, h1, h2⟩ := List.mem_filterMap.mp hr
    obtain ⟨q, h3, h4, h5⟩ := heldD_from K R e h1
    obtain ⟨k, x⟩ := e
    cases x with
    | none => cases h2
    | some p =>
      have h6 : ((0 : Int), k.1, k.2, some p) = r := Option.some.inj h2
      refine ⟨q, h3, ?_⟩
      rw [← h6]
      simp only at h4 h5
      rw [h4, ← h5]
  have zero : ∀ r ∈ heldR R K, r.1 = 0 := fun r hr => by
    obtain ⟨q, _, e⟩ := from_ r hr
    rw [e]
  refine ⟨fun r hr => ?_, fun r hr => ?_, fun r hr => ?_, fun r hr => ?_, ?_, ?_⟩
  · obtain ⟨q, h1, e⟩ := from_ r hr
    rw [e]
    exact h.name q h1
  · rw [zero r hr]
    exact Int.le_refl 0
  · obtain ⟨q, h1, e⟩ := from_ r hr
    rw [e]
    exact h.day q h1
  · obtain ⟨q, h1, e⟩ := from_ r hr
    rw [e]
    exact h.place q h1
  · rw [List.pairwise_iff_forall_sublist]
    intro a b hab
    rw [zero a (hab.subset (by simp)), zero b (hab.subset (by simp))]
    exact Int.le_refl 0
  · have := heldD_len K R
    have := h.len
    have : (heldR R K).length ≤ (heldD R K).length := List.length_filterMap_le _ _
    omega
/-! other lights -/
def lightP (p : Option Str) : Option Str := match p with
  | none => none
  | some x => if x = ash then some x else some "light"
def lightR (r : Row) : Row := (r.1, r.2.1, r.2.2.1, lightP r.2.2.2)
theorem isName_light : IsName "light" := ⟨by decide, by decide, by decide⟩
theorem lightR_ok {ns : List Str} {R : List Row} (h : RowsOk ns R) : RowsOk ns (R.map lightR) := by
  have from_ : ∀ r ∈ R.map lightR, ∃ q ∈ R, r = lightR q := fun r hr => by
    obtain ⟨q, h1, h2⟩ := List.mem_map.mp hr
    exact ⟨q, h1, h2.symm⟩
  refine ⟨fun r hr => ?_, fun r hr => ?_, fun r hr => ?_, fun r hr => ?_, ?_, ?_⟩
  · obtain ⟨q, h1, e⟩ := from_ r hr
    rw [e]
    exact h.name q h1
  · obtain ⟨q, h1, e⟩ := from_ r hr
    rw [e]
    exact h.known q h1
  · obtain ⟨q, h1, e⟩ := from_ r hr
    rw [e]
    exact h.day q h1
  · obtain ⟨q, h1, e⟩ := from_ r hr
    rw [e]
    intro x hx
    have hx2 : lightP q.2.2.2 = some x := hx
    cases z : q.2.2.2 with
    | none =>
      rw [z] at hx2
      cases hx2
    | some y =>
      rw [z] at hx2
      have hx3 : (if y = ash then some y else some "light") = some x := hx2
      by_cases c : y = ash
      · rw [if_pos c] at hx3
        left
        rw [← Option.some.inj hx3]
        exact c
      · rw [if_neg c] at hx3
        right
        rw [← Option.some.inj hx3]
        exact isName_light
  · rw [List.pairwise_map]
    exact h.rise
  · rw [List.length_map]
    exact h.len
theorem sem_light (key : Str × Int) (kn : Option Int) (R : List Row) : sem (R.map lightR) key kn = lightP (sem R key kn) := by
  induction R using snoc_ind with
  | h0 => rfl
  | h1 l r ih =>
    rw [List.map_append, List.map_singleton, sem_snoc, sem_snoc]
    show (if (r.2.1, r.2.2.1) = key ∧ okK kn r.1 = true then lightP r.2.2.2 else _) = _
    by_cases c : (r.2.1, r.2.2.1) = key ∧ okK kn r.1 = true
    · rw [if_pos c, if_pos c]
    · rw [if_neg c, if_neg c]
      exact ih
def litS (p : Str) : Str := if p = ash then p else "light"
theorem isOut_lit (p : Str) : isOut (litS p) = isOut p := by
  unfold litS
  by_cases c : p = ash
  · rw [if_pos c]
  · rw [if_neg c]
    unfold isOut
    rw [decide_eq_false c]
    decide
theorem placeAt_map (x : Int) (L : List (Int × Str)) : placeAt (L.map fun m => (m.1, litS m.2)) x = litS (placeAt L x) := by
  induction L using snoc_ind with
  | h0 =>
    show ash = litS ash
    unfold litS
    rw [if_pos rfl]
  | h1 l m ih =>
    rw [List.map_append, List.map_singleton, placeAt_snoc, placeAt_snoc, ih]
    by_cases c : m.1 ≤ x
    · rw [if_pos c, if_pos c]
    · rw [if_neg c, if_neg c]
theorem three_light {ns : List Str} {R : List Row} (h : RowsOk ns R) {far : Int} (hf : 0 ≤ far) (n : Str) {day : Int} (hd : 0 ≤ day) (term leave : Int) :
    threeM (lawM (R.map lightR) far) n day term leave none = threeM (lawM R far) n day term leave none := by
  have hR := fun r hr => (h.day r hr).1
  have h2 := lightR_ok h
  have hR2 := fun r hr => (h2.day r hr).1
  have o1 := lawM_ok h hf
  have o2 := lawM_ok h2 hf
  have e : heldS (lawM (R.map lightR) far) n none = (heldS (lawM R far) n none).map fun m => (m.1, litS m.2) := by
    refine srt_ext (heldS_srt o2.nd n none) ?_ fun x => ?_
    · rw [Srt, List.pairwise_map]
      exact heldS_srt o1.nd n none
    · obtain ⟨d, p⟩ := x
      unfold lawM
      rw [heldS_mem (shift_day hR2 hf), sem_shift, sem_light, List.mem_map]
      constructor
      · intro q
        cases z : sem R (n, d - far) none with
        | none =>
          rw [z] at q
          cases q
        | some y =>
          rw [z] at q
          refine ⟨(d, y), (heldS_mem (shift_day hR hf)).mpr (by rw [sem_shift]; exact z), ?_⟩
          have q2 : (if y = ash then some y else some "light") = some p := q
          show (d, litS y) = (d, p)
          unfold litS
          by_cases c : y = ash
          · rw [if_pos c] at q2 ⊢
            rw [Option.some.inj q2]
          · rw [if_neg c] at q2 ⊢
            rw [Option.some.inj q2]
      · rintro ⟨⟨d2, y⟩, q1, q2⟩
        have q3 := Prod.mk.inj q2
        simp only at q3
        obtain ⟨e1, e2⟩ := q3
        subst e1
        have z := (heldS_mem (shift_day hR hf)).mp q1
        rw [sem_shift] at z
        rw [z]
        show (if y = ash then some y else some "light") = some p
        rw [← e2]
        unfold litS
        by_cases c : y = ash
        · rw [if_pos c, if_pos c]
        · rw [if_neg c, if_neg c]
  unfold threeM
  rw [spells_congr (heldS_srt o2.nd n none) (heldS_day o2) (heldS_srt o1.nd n none) (heldS_day o1) hd fun x _ _ => by rw [e, placeAt_map, isOut_lit]]
/-! a move more -/
theorem placeAt_filter (x : Int) (L : List (Int × Str)) : placeAt (L.filter fun m => decide (m.1 ≤ x)) x = placeAt L x := by
  induction L using snoc_ind with
  | h0 => rfl
  | h1 l m ih =>
    rw [List.filter_append, placeAt_snoc]
    by_cases c : m.1 ≤ x
    · have e : ([m].filter fun m => decide (m.1 ≤ x)) = [m] := by simp [c]
      rw [e, placeAt_snoc, if_pos c, if_pos c]
    · have e : ([m].filter fun m => decide (m.1 ≤ x)) = [] := by simp [c]
      rw [e, List.append_nil, if_neg c]
      exact ih
theorem placeAt_congr {L L2 : List (Int × Str)} (h1 : Srt L) (h2 : Srt L2) {x : Int} (h : ∀ d p, d ≤ x → ((d, p) ∈ L ↔ (d, p) ∈ L2)) : placeAt L x = placeAt L2 x := by
  rw [← placeAt_filter x L, ← placeAt_filter x L2]
  have e : (L.filter fun m => decide (m.1 ≤ x)) = L2.filter fun m => decide (m.1 ≤ x) := by
    refine srt_ext (h1.sublist List.filter_sublist) (h2.sublist List.filter_sublist) fun y => ?_
    rw [List.mem_filter, List.mem_filter]
    constructor
    · rintro ⟨a, b⟩
      exact ⟨(h y.1 y.2 (of_decide_eq_true b)).mp a, b⟩
    · rintro ⟨a, b⟩
      exact ⟨(h y.1 y.2 (of_decide_eq_true b)).mpr a, b⟩
  rw [e]
theorem RowsOk.snoc {ns : List Str} {R : List Row} (h : RowsOk ns R) {r : Row} (h1 : r.2.1 ∈ ns) (h2 : ∀ q ∈ R, q.1 ≤ r.1) (h3 : 0 ≤ r.1) (h4 : 0 ≤ r.2.2.1 ∧ r.2.2.1 ≤ 40) (h5 : PlaceOk r.2.2.2) (h6 : R.length < 20) : RowsOk ns (R ++ [r]) := by
  have hm : ∀ {P : Row → Prop}, (∀ q ∈ R, P q) → P r → ∀ q ∈ R ++ [r], P q := by
    intro P a b q hq
    rcases List.mem_append.mp hq with z | z
    · exact a q z
    · have e : q = r := by simpa using z
      rw [e]
      exact b
  refine ⟨hm h.name h1, hm h.known h3, hm h.day h4, hm h.place h5, ?_, ?_⟩
  · refine List.pairwise_append.mpr ⟨h.rise, List.pairwise_singleton _ _, fun a ha b hb => ?_⟩
    have e : b = r := by simpa using hb
    rw [e]
    exact h2 a ha
  · rw [List.length_append]
    show R.length + 1 ≤ 20
    omega
theorem lawM_snoc (R : List Row) (r : Row) (far : Int) : tellM (lawM R far) (r.2.1, r.2.2.1 + far) r.1 r.2.2.2 = lawM (R ++ [r]) far := by
  unfold lawM
  rw [List.map_append, List.map_singleton, bookM_snoc]
  rfl
theorem sem_all {K : Int} (key : Str × Int) (R : List Row) (h : ∀ r ∈ R, r.1 ≤ K) : sem R key (some K) = sem R key none := by
  induction R using snoc_ind with
  | h0 => rfl
  | h1 l r ih =>
    rw [sem_snoc, sem_snoc, ih fun q hq => h q (List.mem_append_left _ hq)]
    show (if (r.2.1, r.2.2.1) = key ∧ decide (r.1 ≤ K) = true then _ else _) = (if (r.2.1, r.2.2.1) = key ∧ true = true then _ else _)
    rw [decide_eq_true (h r (List.mem_append_right _ List.mem_cons_self))]
theorem three_known {R : List Row} {r : Row} {far : Int} (hf : 0 ≤ far) (hR : ∀ q ∈ R, 0 ≤ q.2.2.1) (hr : 0 ≤ r.2.2.1) {K : Int} (hk : K < r.1) (n : Str) (day term leave : Int) :
    threeM (lawM (R ++ [r]) far) n day term leave (some K) = threeM (lawM R far) n day term leave (some K) := by
  refine three_congr hf (fun q hq => ?_) hR (fun d => ?_) day term leave
  · rcases List.mem_append.mp hq with z | z
    · exact hR q z
    · have e : q = r := by simpa using z
      rw [e]
      exact hr
  · rw [sem_snoc, if_neg (fun z => ?_)]
    have := of_decide_eq_true (show decide (r.1 ≤ K) = true from z.2)
    omega
theorem three_others {R : List Row} {r : Row} {far : Int} (hf : 0 ≤ far) (hR : ∀ q ∈ R, 0 ≤ q.2.2.1) (hr : 0 ≤ r.2.2.1) {K : Int} (hk : ∀ q ∈ R, q.1 ≤ K) {n : Str} (hn : n ≠ r.2.1) (day term leave : Int) :
    threeM (lawM (R ++ [r]) far) n day term leave none = threeM (lawM R far) n day term leave (some K) := by
  refine three_congr hf (fun q hq => ?_) hR (fun d => ?_) day term leave
  · rcases List.mem_append.mp hq with z | z
    · exact hR q z
    · have e : q = r := by simpa using z
      rw [e]
      exact hr
  · rw [sem_snoc, sem_all _ R hk, if_neg (fun z => hn (Prod.mk.inj z.1).1.symm)]
theorem three_ahead {R : List Row} {r : Row} {far : Int} (hf : 0 ≤ far) (hR : ∀ q ∈ R, 0 ≤ q.2.2.1) (hr : 0 ≤ r.2.2.1) (n : Str) {day : Int} (hd : 0 ≤ day) (hlt : day < far + r.2.2.1) (term leave : Int) :
    threeM (lawM (R ++ [r]) far) n day term leave none = threeM (lawM R far) n day term leave none := by
  have hR2 : ∀ q ∈ R ++ [r], 0 ≤ q.2.2.1 := fun q hq => by
    rcases List.mem_append.mp hq with z | z
    · exact hR q z
    · have e : q = r := by simpa using z
      rw [e]
      exact hr
  have o1 := bookM_ok _ (shift_day hR hf)
  have o2 := bookM_ok _ (shift_day hR2 hf)
  unfold threeM lawM
  rw [spells_congr (heldS_srt o2.nd n none) (heldS_day o2) (heldS_srt o1.nd n none) (heldS_day o1) hd fun x _ hx => ?_]
  rw [placeAt_congr (heldS_srt o2.nd n none) (heldS_srt o1.nd n none) fun d p hd2 => ?_]
  rw [heldS_mem (shift_day hR2 hf), heldS_mem (shift_day hR hf), sem_shift, sem_shift, sem_snoc, if_neg (fun z => ?_)]
  have := (Prod.mk.inj z.1).2
  omega
end K76
namespace K76
open PySem PySem.Spec PyProof.Rows L2
def top (i : Nat) : Stmt := PySem.Challenge.pw_lightturns_k76_whole_owed_as_known.main.body.getD i (.Pass ⟨0, 0, 0, 0⟩)
abbrev sIsName : Stmt := top 15
abbrev sIsWhole : Stmt := top 16
abbrev sIsRank : Stmt := top 21
abbrev sIsPlace : Stmt := top 22
abbrev sWantRanks : Stmt := top 23
abbrev sWantDay : Stmt := top 24
abbrev sWantKnown : Stmt := top 25
abbrev sPutDown : Stmt := top 26
abbrev sLastTold : Stmt := top 27
abbrev sRunsOf : Stmt := top 32
abbrev sTurns : Stmt := top 33
abbrev sSpellsOf : Stmt := top 35
abbrev sWantSpells : Stmt := top 36
abbrev sLotsOf : Stmt := top 37
abbrev sGiveBack : Stmt := top 38
abbrev sSettledLots : Stmt := top 39
abbrev sDaysOver : Stmt := top 40
abbrev sDaysOwed : Stmt := top 41
abbrev sDaysGiven : Stmt := top 42
abbrev sLawCell : Stmt := top 44
abbrev sLawPot : Stmt := top 45
abbrev sLawTake : Stmt := top 46
abbrev sLawNames : Stmt := top 47
abbrev sLawMoves : Stmt := top 48
abbrev sLawFar : Stmt := top 49
abbrev sLawCase : Stmt := top 50
abbrev sLawBook : Stmt := top 51
abbrev sLawSomeDays : Stmt := top 53
abbrev sLawThree : Stmt := top 54
abbrev sLawHeld : Stmt := top 55
abbrev sLawByThenRight : Stmt := top 56
abbrev sLawLightsRight : Stmt := top 57
abbrev sLawLateRight : Stmt := top 58
abbrev sLaw : Stmt := top 59
abbrev sBookInit : Stmt := inClass (top 28) 0
abbrev sBookWantKeeper : Stmt := inClass (top 28) 3
abbrev sBookWantNotEarly : Stmt := inClass (top 28) 4
abbrev sBookTell : Stmt := inClass (top 28) 5
abbrev sBookLand : Stmt := inClass (top 28) 6
abbrev sBookHeldMoves : Stmt := inClass (top 28) 7
abbrev sStretchInit : Stmt := inClass (top 30) 0
abbrev sStretchFirst : Stmt := inClass (top 30) 1
abbrev sStretchLast : Stmt := inClass (top 30) 2
abbrev sStretchRepr : Stmt := inClass (top 30) 5
def d_sIsName : He.DefD := ⟨("is_name", none), "is_name", "is_name", defArgs sIsName, defBody sIsName, defScope sIsName, [], []⟩
def d_sIsWhole : He.DefD := ⟨("is_whole", none), "is_whole", "is_whole", defArgs sIsWhole, defBody sIsWhole, defScope sIsWhole, [.int 0], []⟩
def d_sIsRank : He.DefD := ⟨("is_rank", none), "is_rank", "is_rank", defArgs sIsRank, defBody sIsRank, defScope sIsRank, [], []⟩
def d_sIsPlace : He.DefD := ⟨("is_place", none), "is_place", "is_place", defArgs sIsPlace, defBody sIsPlace, defScope sIsPlace, [], []⟩
def d_sWantRanks : He.DefD := ⟨("want_ranks", none), "want_ranks", "want_ranks", defArgs sWantRanks, defBody sWantRanks, defScope sWantRanks, [], []⟩
def d_sWantDay : He.DefD := ⟨("want_day", none), "want_day", "want_day", defArgs sWantDay, defBody sWantDay, defScope sWantDay, [], []⟩
def d_sWantKnown : He.DefD := ⟨("want_known", none), "want_known", "want_known", defArgs sWantKnown, defBody sWantKnown, defScope sWantKnown, [], []⟩
def d_sPutDown : He.DefD := ⟨("put_down", none), "put_down", "put_down", defArgs sPutDown, defBody sPutDown, defScope sPutDown, [], []⟩
def d_sLastTold : He.DefD := ⟨("last_told", none), "last_told", "last_told", defArgs sLastTold, defBody sLastTold, defScope sLastTold, [], []⟩
def d_sRunsOf : He.DefD := ⟨("runs_of", none), "runs_of", "runs_of", defArgs sRunsOf, defBody sRunsOf, defScope sRunsOf, [], []⟩
def d_sTurns : He.DefD := ⟨("turns", none), "turns", "turns", defArgs sTurns, defBody sTurns, defScope sTurns, [.non], []⟩
def d_sSpellsOf : He.DefD := ⟨("spells_of", none), "spells_of", "spells_of", defArgs sSpellsOf, defBody sSpellsOf, defScope sSpellsOf, [], []⟩
def d_sWantSpells : He.DefD := ⟨("want_spells", none), "want_spells", "want_spells", defArgs sWantSpells, defBody sWantSpells, defScope sWantSpells, [], []⟩
def d_sLotsOf : He.DefD := ⟨("lots_of", none), "lots_of", "lots_of", defArgs sLotsOf, defBody sLotsOf, defScope sLotsOf, [], []⟩
def d_sGiveBack : He.DefD := ⟨("give_back", none), "give_back", "give_back", defArgs sGiveBack, defBody sGiveBack, defScope sGiveBack, [], []⟩
def d_sSettledLots : He.DefD := ⟨("settled_lots", none), "settled_lots", "settled_lots", defArgs sSettledLots, defBody sSettledLots, defScope sSettledLots, [], []⟩
def d_sDaysOver : He.DefD := ⟨("days_over", none), "days_over", "days_over", defArgs sDaysOver, defBody sDaysOver, defScope sDaysOver, [.non], []⟩
def d_sDaysOwed : He.DefD := ⟨("days_owed", none), "days_owed", "days_owed", defArgs sDaysOwed, defBody sDaysOwed, defScope sDaysOwed, [.int 0, .non], []⟩
def d_sDaysGiven : He.DefD := ⟨("days_given", none), "days_given", "days_given", defArgs sDaysGiven, defBody sDaysGiven, defScope sDaysGiven, [.int 0, .non], []⟩
def d_sLawCell : He.DefD := ⟨("_law_cell", none), "_law_cell", "_law_cell", defArgs sLawCell, defBody sLawCell, defScope sLawCell, [], []⟩
def d_sLawPot : He.DefD := ⟨("_law_pot", none), "_law_pot", "_law_pot", defArgs sLawPot, defBody sLawPot, defScope sLawPot, [], []⟩
def d_sLawTake : He.DefD := ⟨("_law_take", none), "_law_take", "_law_take", defArgs sLawTake, defBody sLawTake, defScope sLawTake, [], []⟩
def d_sLawNames : He.DefD := ⟨("_law_names", none), "_law_names", "_law_names", defArgs sLawNames, defBody sLawNames, defScope sLawNames, [], []⟩
def d_sLawMoves : He.DefD := ⟨("_law_moves", none), "_law_moves", "_law_moves", defArgs sLawMoves, defBody sLawMoves, defScope sLawMoves, [], []⟩
def d_sLawFar : He.DefD := ⟨("_law_far", none), "_law_far", "_law_far", defArgs sLawFar, defBody sLawFar, defScope sLawFar, [], []⟩
def d_sLawCase : He.DefD := ⟨("_law_case", none), "_law_case", "_law_case", defArgs sLawCase, defBody sLawCase, defScope sLawCase, [], []⟩
def d_sLawBook : He.DefD := ⟨("_law_book", none), "_law_book", "_law_book", defArgs sLawBook, defBody sLawBook, defScope sLawBook, [], []⟩
def d_sLawSomeDays : He.DefD := ⟨("_law_some_days", none), "_law_some_days", "_law_some_days", defArgs sLawSomeDays, defBody sLawSomeDays, defScope sLawSomeDays, [], []⟩
def d_sLawThree : He.DefD := ⟨("_law_three", none), "_law_three", "_law_three", defArgs sLawThree, defBody sLawThree, defScope sLawThree, [], []⟩
def d_sLawHeld : He.DefD := ⟨("_law_held", none), "_law_held", "_law_held", defArgs sLawHeld, defBody sLawHeld, defScope sLawHeld, [], []⟩
def d_sLawByThenRight : He.DefD := ⟨("_law_by_then_right", none), "_law_by_then_right", "_law_by_then_right", defArgs sLawByThenRight, defBody sLawByThenRight, defScope sLawByThenRight, [], []⟩
def d_sLawLightsRight : He.DefD := ⟨("_law_lights_right", none), "_law_lights_right", "_law_lights_right", defArgs sLawLightsRight, defBody sLawLightsRight, defScope sLawLightsRight, [], []⟩
def d_sLawLateRight : He.DefD := ⟨("_law_late_right", none), "_law_late_right", "_law_late_right", defArgs sLawLateRight, defBody sLawLateRight, defScope sLawLateRight, [], []⟩
def d_sLaw : He.DefD := ⟨("law", none), "law", "law", defArgs sLaw, defBody sLaw, defScope sLaw, [], []⟩
def d_sBookInit : He.DefD := ⟨("Book", some "__init__"), "__init__", "Book.__init__", defArgs sBookInit, defBody sBookInit, defScope sBookInit, [], []⟩
def d_sBookWantKeeper : He.DefD := ⟨("Book", some "want_keeper"), "want_keeper", "Book.want_keeper", defArgs sBookWantKeeper, defBody sBookWantKeeper, defScope sBookWantKeeper, [], []⟩
def d_sBookWantNotEarly : He.DefD := ⟨("Book", some "want_not_early"), "want_not_early", "Book.want_not_early", defArgs sBookWantNotEarly, defBody sBookWantNotEarly, defScope sBookWantNotEarly, [], []⟩
def d_sBookTell : He.DefD := ⟨("Book", some "tell"), "tell", "Book.tell", defArgs sBookTell, defBody sBookTell, defScope sBookTell, [], []⟩
def d_sBookLand : He.DefD := ⟨("Book", some "land"), "land", "Book.land", defArgs sBookLand, defBody sBookLand, defScope sBookLand, [], []⟩
def d_sBookHeldMoves : He.DefD := ⟨("Book", some "held_moves"), "held_moves", "Book.held_moves", defArgs sBookHeldMoves, defBody sBookHeldMoves, defScope sBookHeldMoves, [], []⟩
def d_sStretchInit : He.DefD := ⟨("Stretch", some "__init__"), "__init__", "Stretch.__init__", defArgs sStretchInit, defBody sStretchInit, defScope sStretchInit, [.non], []⟩
def d_sStretchFirst : He.DefD := ⟨("Stretch", some "first"), "first", "Stretch.first", defArgs sStretchFirst, defBody sStretchFirst, defScope sStretchFirst, [], []⟩
def d_sStretchLast : He.DefD := ⟨("Stretch", some "last"), "last", "Stretch.last", defArgs sStretchLast, defBody sStretchLast, defScope sStretchLast, [], []⟩
def d_sStretchRepr : He.DefD := ⟨("Stretch", some "__repr__"), "__repr__", "Stretch.__repr__", defArgs sStretchRepr, defBody sStretchRepr, defScope sStretchRepr, [], []⟩
def fn : List He.DefD := [d_sIsName, d_sIsWhole, d_sIsRank, d_sIsPlace, d_sWantRanks, d_sWantDay, d_sWantKnown, d_sPutDown, d_sLastTold, d_sRunsOf, d_sTurns, d_sSpellsOf, d_sWantSpells, d_sLotsOf, d_sGiveBack, d_sSettledLots, d_sDaysOver, d_sDaysOwed, d_sDaysGiven, d_sLawCell, d_sLawPot, d_sLawTake, d_sLawNames, d_sLawMoves, d_sLawFar, d_sLawCase, d_sLawBook, d_sLawSomeDays, d_sLawThree, d_sLawHeld, d_sLawByThenRight, d_sLawLightsRight, d_sLawLateRight, d_sLaw, d_sBookInit, d_sBookWantKeeper, d_sBookWantNotEarly, d_sBookTell, d_sBookLand, d_sBookHeldMoves, d_sStretchInit, d_sStretchFirst, d_sStretchLast, d_sStretchRepr]
def fa1 : List He.Fa := [.glo "is_name", .glo "is_whole", .glo "is_rank", .glo "is_place", .glo "want_ranks", .glo "want_day", .glo "want_known", .glo "put_down", .glo "last_told", .glo "runs_of", .glo "turns", .glo "spells_of", .glo "want_spells", .glo "lots_of", .glo "give_back", .glo "settled_lots", .glo "days_over", .glo "days_owed", .glo "days_given", .glo "_law_cell", .glo "_law_pot", .glo "_law_take", .glo "_law_names", .glo "_law_moves", .glo "_law_far", .glo "_law_case", .glo "_law_book", .glo "_law_some_days", .glo "_law_three", .glo "_law_held"]
def fa2 : List He.Fa := [.glo "_law_by_then_right", .glo "_law_lights_right", .glo "_law_late_right", .glo "law", .glo "Book", .glo "Stretch", .free "isinstance", .free "len", .free "all", .free "sorted", .free "enumerate", .free "min", .free "max", .free "list", .free "dict", .free "str", .free "int", .free "bool", .free "tuple", .free "divmod", .free "abs", .free "range", .free "repr", .free "zip", .int "MOST_LETTERS" 8, .int "LOWEST_RANK" 9, .int "MOST_KEEPERS" 30, .str "LETTERS" "abcdefghijklmnopqrstuvwxyz", .str "ASHORE" "", .cls "Book"]
def fa3 : List He.Fa := [.mkr "Book", .cls "Stretch", .mkr "Stretch", .noat "Book" "own_ranks", .noat "Book" "moves_told", .noat "Book" "landings_told", .noat "Book" "told_last", .noat "Stretch" "begin", .noat "Stretch" "end", .meth "Book" "want_keeper", .meth "Book" "want_not_early", .meth "Book" "tell", .meth "Book" "land", .meth "Book" "held_moves", .meth "Stretch" "first", .meth "Stretch" "last", .meth "Stretch" "__repr__"]
def fa : List He.Fa := fa1 ++ (fa2 ++ fa3)
/-- the text's facts over the written part K -/
structure TX (K : PySem.W.Frag) (mg : Str → Option Value) : Prop where
  says : He.SaysD fa fn K
  at_ : ∃ h : Heap, K.In h ∧ h.Ns mainGlobals mg
section
variable {K : PySem.W.Frag} {mg : Str → Option Value}
theorem TX.gIsName (T : TX K mg) : mg "is_name" = some (.ref (He.ga K "is_name")) := let ⟨_, X, G⟩ := T.at_; He.glo_ok X G (T.says.fact 0)
theorem TX.gIsWhole (T : TX K mg) : mg "is_whole" = some (.ref (He.ga K "is_whole")) := let ⟨_, X, G⟩ := T.at_; He.glo_ok X G (T.says.fact 1)
theorem TX.gIsRank (T : TX K mg) : mg "is_rank" = some (.ref (He.ga K "is_rank")) := let ⟨_, X, G⟩ := T.at_; He.glo_ok X G (T.says.fact 2)
theorem TX.gIsPlace (T : TX K mg) : mg "is_place" = some (.ref (He.ga K "is_place")) := let ⟨_, X, G⟩ := T.at_; He.glo_ok X G (T.says.fact 3)
theorem TX.gWantRanks (T : TX K mg) : mg "want_ranks" = some (.ref (He.ga K "want_ranks")) := let ⟨_, X, G⟩ := T.at_; He.glo_ok X G (T.says.fact 4)
theorem TX.gWantDay (T : TX K mg) : mg "want_day" = some (.ref (He.ga K "want_day")) := let ⟨_, X, G⟩ := T.at_; He.glo_ok X G (T.says.fact 5)
theorem TX.gWantKnown (T : TX K mg) : mg "want_known" = some (.ref (He.ga K "want_known")) := let ⟨_, X, G⟩ := T.at_; He.glo_ok X G (T.says.fact 6)
theorem TX.gPutDown (T : TX K mg) : mg "put_down" = some (.ref (He.ga K "put_down")) := let ⟨_, X, G⟩ := T.at_; He.glo_ok X G (T.says.fact 7)
theorem TX.gLastTold (T : TX K mg) : mg "last_told" = some (.ref (He.ga K "last_told")) := let ⟨_, X, G⟩ := T.at_; He.glo_ok X G (T.says.fact 8)
theorem TX.gRunsOf (T : TX K mg) : mg "runs_of" = some (.ref (He.ga K "runs_of")) := let ⟨_, X, G⟩ := T.at_; He.glo_ok X G (T.says.fact 9)
theorem TX.gTurns (T : TX K mg) : mg "turns" = some (.ref (He.ga K "turns")) := let ⟨_, X, G⟩ := T.at_; He.glo_ok X G (T.says.fact 10)
theorem TX.gSpellsOf (T : TX K mg) : mg "spells_of" = some (.ref (He.ga K "spells_of")) := let ⟨_, X, G⟩ := T.at_; He.glo_ok X G (T.says.fact 11)
theorem TX.gWantSpells (T : TX K mg) : mg "want_spells" = some (.ref (He.ga K "want_spells")) := let ⟨_, X, G⟩ := T.at_; He.glo_ok X G (T.says.fact 12)
theorem TX.gLotsOf (T : TX K mg) : mg "lots_of" = some (.ref (He.ga K "lots_of")) := let ⟨_, X, G⟩ := T.at_; He.glo_ok X G (T.says.fact 13)
theorem TX.gGiveBack (T : TX K mg) : mg "give_back" = some (.ref (He.ga K "give_back")) := let ⟨_, X, G⟩ := T.at_; He.glo_ok X G (T.says.fact 14)
theorem TX.gSettledLots (T : TX K mg) : mg "settled_lots" = some (.ref (He.ga K "settled_lots")) := let ⟨_, X, G⟩ := T.at_; He.glo_ok X G (T.says.fact 15)
theorem TX.gDaysOver (T : TX K mg) : mg "days_over" = some (.ref (He.ga K "days_over")) := let ⟨_, X, G⟩ := T.at_; He.glo_ok X G (T.says.fact 16)
theorem TX.gDaysOwed (T : TX K mg) : mg "days_owed" = some (.ref (He.ga K "days_owed")) := let ⟨_, X, G⟩ := T.at_; He.glo_ok X G (T.says.fact 17)
theorem TX.gDaysGiven (T : TX K mg) : mg "days_given" = some (.ref (He.ga K "days_given")) := let ⟨_, X, G⟩ := T.at_; He.glo_ok X G (T.says.fact 18)
theorem TX.gLawCell (T : TX K mg) : mg "_law_cell" = some (.ref (He.ga K "_law_cell")) := let ⟨_, X, G⟩ := T.at_; He.glo_ok X G (T.says.fact 19)
theorem TX.gLawPot (T : TX K mg) : mg "_law_pot" = some (.ref (He.ga K "_law_pot")) := let ⟨_, X, G⟩ := T.at_; He.glo_ok X G (T.says.fact 20)
theorem TX.gLawTake (T : TX K mg) : mg "_law_take" = some (.ref (He.ga K "_law_take")) := let ⟨_, X, G⟩ := T.at_; He.glo_ok X G (T.says.fact 21)
theorem TX.gLawNames (T : TX K mg) : mg "_law_names" = some (.ref (He.ga K "_law_names")) := let ⟨_, X, G⟩ := T.at_; He.glo_ok X G (T.says.fact 22)
theorem TX.gLawMoves (T : TX K mg) : mg "_law_moves" = some (.ref (He.ga K "_law_moves")) := let ⟨_, X, G⟩ := T.at_; He.glo_ok X G (T.says.fact 23)
theorem TX.gLawFar (T : TX K mg) : mg "_law_far" = some (.ref (He.ga K "_law_far")) := let ⟨_, X, G⟩ := T.at_; He.glo_ok X G (T.says.fact 24)
theorem TX.gLawCase (T : TX K mg) : mg "_law_case" = some (.ref (He.ga K "_law_case")) := let ⟨_, X, G⟩ := T.at_; He.glo_ok X G (T.says.fact 25)
theorem TX.gLawBook (T : TX K mg) : mg "_law_book" = some (.ref (He.ga K "_law_book")) := let ⟨_, X, G⟩ := T.at_; He.glo_ok X G (T.says.fact 26)
theorem TX.gLawSomeDays (T : TX K mg) : mg "_law_some_days" = some (.ref (He.ga K "_law_some_days")) := let ⟨_, X, G⟩ := T.at_; He.glo_ok X G (T.says.fact 27)
theorem TX.gLawThree (T : TX K mg) : mg "_law_three" = some (.ref (He.ga K "_law_three")) := let ⟨_, X, G⟩ := T.at_; He.glo_ok X G (T.says.fact 28)
theorem TX.gLawHeld (T : TX K mg) : mg "_law_held" = some (.ref (He.ga K "_law_held")) := let ⟨_, X, G⟩ := T.at_; He.glo_ok X G (T.says.fact 29)
theorem TX.gLawByThenRight (T : TX K mg) : mg "_law_by_then_right" = some (.ref (He.ga K "_law_by_then_right")) := let ⟨_, X, G⟩ := T.at_; He.glo_ok X G (T.says.fact 30)
theorem TX.gLawLightsRight (T : TX K mg) : mg "_law_lights_right" = some (.ref (He.ga K "_law_lights_right")) := let ⟨_, X, G⟩ := T.at_; He.glo_ok X G (T.says.fact 31)
theorem TX.gLawLateRight (T : TX K mg) : mg "_law_late_right" = some (.ref (He.ga K "_law_late_right")) := let ⟨_, X, G⟩ := T.at_; He.glo_ok X G (T.says.fact 32)
theorem TX.gLaw (T : TX K mg) : mg "law" = some (.ref (He.ga K "law")) := let ⟨_, X, G⟩ := T.at_; He.glo_ok X G (T.says.fact 33)
theorem TX.gBook (T : TX K mg) : mg "Book" = some (.ref (He.ga K "Book")) := let ⟨_, X, G⟩ := T.at_; He.glo_ok X G (T.says.fact 34)
theorem TX.gStretch (T : TX K mg) : mg "Stretch" = some (.ref (He.ga K "Stretch")) := let ⟨_, X, G⟩ := T.at_; He.glo_ok X G (T.says.fact 35)
theorem TX.f_isinstance (T : TX K mg) : mg "isinstance" = none := let ⟨_, X, G⟩ := T.at_; He.free_ok X G (T.says.fact 36)
theorem TX.f_len (T : TX K mg) : mg "len" = none := let ⟨_, X, G⟩ := T.at_; He.free_ok X G (T.says.fact 37)
theorem TX.f_all (T : TX K mg) : mg "all" = none := let ⟨_, X, G⟩ := T.at_; He.free_ok X G (T.says.fact 38)
theorem TX.f_sorted (T : TX K mg) : mg "sorted" = none := let ⟨_, X, G⟩ := T.at_; He.free_ok X G (T.says.fact 39)
theorem TX.f_enumerate (T : TX K mg) : mg "enumerate" = none := let ⟨_, X, G⟩ := T.at_; He.free_ok X G (T.says.fact 40)
theorem TX.f_min (T : TX K mg) : mg "min" = none := let ⟨_, X, G⟩ := T.at_; He.free_ok X G (T.says.fact 41)
theorem TX.f_max (T : TX K mg) : mg "max" = none := let ⟨_, X, G⟩ := T.at_; He.free_ok X G (T.says.fact 42)
theorem TX.f_list (T : TX K mg) : mg "list" = none := let ⟨_, X, G⟩ := T.at_; He.free_ok X G (T.says.fact 43)
theorem TX.f_dict (T : TX K mg) : mg "dict" = none := let ⟨_, X, G⟩ := T.at_; He.free_ok X G (T.says.fact 44)
theorem TX.f_str (T : TX K mg) : mg "str" = none := let ⟨_, X, G⟩ := T.at_; He.free_ok X G (T.says.fact 45)
theorem TX.f_int (T : TX K mg) : mg "int" = none := let ⟨_, X, G⟩ := T.at_; He.free_ok X G (T.says.fact 46)
theorem TX.f_bool (T : TX K mg) : mg "bool" = none := let ⟨_, X, G⟩ := T.at_; He.free_ok X G (T.says.fact 47)
theorem TX.f_tuple (T : TX K mg) : mg "tuple" = none := let ⟨_, X, G⟩ := T.at_; He.free_ok X G (T.says.fact 48)
theorem TX.f_divmod (T : TX K mg) : mg "divmod" = none := let ⟨_, X, G⟩ := T.at_; He.free_ok X G (T.says.fact 49)
theorem TX.f_abs (T : TX K mg) : mg "abs" = none := let ⟨_, X, G⟩ := T.at_; He.free_ok X G (T.says.fact 50)
theorem TX.f_range (T : TX K mg) : mg "range" = none := let ⟨_, X, G⟩ := T.at_; He.free_ok X G (T.says.fact 51)
theorem TX.f_repr (T : TX K mg) : mg "repr" = none := let ⟨_, X, G⟩ := T.at_; He.free_ok X G (T.says.fact 52)
theorem TX.f_zip (T : TX K mg) : mg "zip" = none := let ⟨_, X, G⟩ := T.at_; He.free_ok X G (T.says.fact 53)
theorem TX.cMostLetters (T : TX K mg) : ∃ t, mg "MOST_LETTERS" = some (.int 8 t) := let ⟨_, X, G⟩ := T.at_; He.int_ok X G (T.says.fact 54)
theorem TX.cLowestRank (T : TX K mg) : ∃ t, mg "LOWEST_RANK" = some (.int 9 t) := let ⟨_, X, G⟩ := T.at_; He.int_ok X G (T.says.fact 55)
theorem TX.cMostKeepers (T : TX K mg) : ∃ t, mg "MOST_KEEPERS" = some (.int 30 t) := let ⟨_, X, G⟩ := T.at_; He.int_ok X G (T.says.fact 56)
theorem TX.cLetters (T : TX K mg) : ∃ t, mg "LETTERS" = some (.str "abcdefghijklmnopqrstuvwxyz" t) := let ⟨_, X, G⟩ := T.at_; He.str_ok X G (T.says.fact 57)
theorem TX.cAshore (T : TX K mg) : ∃ t, mg "ASHORE" = some (.str "" t) := let ⟨_, X, G⟩ := T.at_; He.str_ok X G (T.says.fact 58)
theorem TX.clBook (T : TX K mg) : Cls K (He.ga K "Book") := He.cls_ok (T.says.fact 59)
theorem TX.mkBook (T : TX K mg) : Mk K (He.ga K "Book") (He.ma K (He.ga K "Book") "__init__") := He.mkr_ok (T.says.fact 60)
theorem TX.clStretch (T : TX K mg) : Cls K (He.ga K "Stretch") := He.cls_ok (T.says.fact 61)
theorem TX.mkStretch (T : TX K mg) : Mk K (He.ga K "Stretch") (He.ma K (He.ga K "Stretch") "__init__") := He.mkr_ok (T.says.fact 62)
theorem TX.nBookOwnRanks (T : TX K mg) : NoAttr K (He.ga K "Book") "own_ranks" := He.noat_ok (T.says.fact 63)
theorem TX.nBookMovesTold (T : TX K mg) : NoAttr K (He.ga K "Book") "moves_told" := He.noat_ok (T.says.fact 64)
theorem TX.nBookLandingsTold (T : TX K mg) : NoAttr K (He.ga K "Book") "landings_told" := He.noat_ok (T.says.fact 65)
theorem TX.nBookToldLast (T : TX K mg) : NoAttr K (He.ga K "Book") "told_last" := He.noat_ok (T.says.fact 66)
theorem TX.nStretchBegin (T : TX K mg) : NoAttr K (He.ga K "Stretch") "begin" := He.noat_ok (T.says.fact 67)
theorem TX.nStretchEnd (T : TX K mg) : NoAttr K (He.ga K "Stretch") "end" := He.noat_ok (T.says.fact 68)
theorem TX.mBookWantKeeper (T : TX K mg) : Meth K (He.ga K "Book") "want_keeper" (He.ma K (He.ga K "Book") "want_keeper") := He.meth_ok (T.says.fact 69)
theorem TX.mBookWantNotEarly (T : TX K mg) : Meth K (He.ga K "Book") "want_not_early" (He.ma K (He.ga K "Book") "want_not_early") := He.meth_ok (T.says.fact 70)
theorem TX.mBookTell (T : TX K mg) : Meth K (He.ga K "Book") "tell" (He.ma K (He.ga K "Book") "tell") := He.meth_ok (T.says.fact 71)
theorem TX.mBookLand (T : TX K mg) : Meth K (He.ga K "Book") "land" (He.ma K (He.ga K "Book") "land") := He.meth_ok (T.says.fact 72)
theorem TX.mBookHeldMoves (T : TX K mg) : Meth K (He.ga K "Book") "held_moves" (He.ma K (He.ga K "Book") "held_moves") := He.meth_ok (T.says.fact 73)
theorem TX.mStretchFirst (T : TX K mg) : Meth K (He.ga K "Stretch") "first" (He.ma K (He.ga K "Stretch") "first") := He.meth_ok (T.says.fact 74)
theorem TX.mStretchLast (T : TX K mg) : Meth K (He.ga K "Stretch") "last" (He.ma K (He.ga K "Stretch") "last") := He.meth_ok (T.says.fact 75)
theorem TX.mStretchRepr (T : TX K mg) : Meth K (He.ga K "Stretch") "__repr__" (He.ma K (He.ga K "Stretch") "__repr__") := He.meth_ok (T.says.fact 76)
theorem TX.dIsName (T : TX K mg) : ∃ fd, FunD K "is_name" "is_name" (defArgs sIsName) (defBody sIsName) (defScope sIsName) [] [] (He.ga K "is_name") fd := T.says.def_ 0 rfl
theorem TX.dIsWhole (T : TX K mg) : ∃ fd, FunD K "is_whole" "is_whole" (defArgs sIsWhole) (defBody sIsWhole) (defScope sIsWhole) [.int 0] [] (He.ga K "is_whole") fd := T.says.def_ 1 rfl
theorem TX.dIsRank (T : TX K mg) : ∃ fd, FunD K "is_rank" "is_rank" (defArgs sIsRank) (defBody sIsRank) (defScope sIsRank) [] [] (He.ga K "is_rank") fd := T.says.def_ 2 rfl
theorem TX.dIsPlace (T : TX K mg) : ∃ fd, FunD K "is_place" "is_place" (defArgs sIsPlace) (defBody sIsPlace) (defScope sIsPlace) [] [] (He.ga K "is_place") fd := T.says.def_ 3 rfl
theorem TX.dWantRanks (T : TX K mg) : ∃ fd, FunD K "want_ranks" "want_ranks" (defArgs sWantRanks) (defBody sWantRanks) (defScope sWantRanks) [] [] (He.ga K "want_ranks") fd := T.says.def_ 4 rfl
theorem TX.dWantDay (T : TX K mg) : ∃ fd, FunD K "want_day" "want_day" (defArgs sWantDay) (defBody sWantDay) (defScope sWantDay) [] [] (He.ga K "want_day") fd := T.says.def_ 5 rfl
theorem TX.dWantKnown (T : TX K mg) : ∃ fd, FunD K "want_known" "want_known" (defArgs sWantKnown) (defBody sWantKnown) (defScope sWantKnown) [] [] (He.ga K "want_known") fd := T.says.def_ 6 rfl
theorem TX.dPutDown (T : TX K mg) : ∃ fd, FunD K "put_down" "put_down" (defArgs sPutDown) (defBody sPutDown) (defScope sPutDown) [] [] (He.ga K "put_down") fd := T.says.def_ 7 rfl
theorem TX.dLastTold (T : TX K mg) : ∃ fd, FunD K "last_told" "last_told" (defArgs sLastTold) (defBody sLastTold) (defScope sLastTold) [] [] (He.ga K "last_told") fd := T.says.def_ 8 rfl
theorem TX.dRunsOf (T : TX K mg) : ∃ fd, FunD K "runs_of" "runs_of" (defArgs sRunsOf) (defBody sRunsOf) (defScope sRunsOf) [] [] (He.ga K "runs_of") fd := T.says.def_ 9 rfl
theorem TX.dTurns (T : TX K mg) : ∃ fd, FunD K "turns" "turns" (defArgs sTurns) (defBody sTurns) (defScope sTurns) [.non] [] (He.ga K "turns") fd := T.says.def_ 10 rfl
theorem TX.dSpellsOf (T : TX K mg) : ∃ fd, FunD K "spells_of" "spells_of" (defArgs sSpellsOf) (defBody sSpellsOf) (defScope sSpellsOf) [] [] (He.ga K "spells_of") fd := T.says.def_ 11 rfl
theorem TX.dWantSpells (T : TX K mg) : ∃ fd, FunD K "want_spells" "want_spells" (defArgs sWantSpells) (defBody sWantSpells) (defScope sWantSpells) [] [] (He.ga K "want_spells") fd := T.says.def_ 12 rfl
theorem TX.dLotsOf (T : TX K mg) : ∃ fd, FunD K "lots_of" "lots_of" (defArgs sLotsOf) (defBody sLotsOf) (defScope sLotsOf) [] [] (He.ga K "lots_of") fd := T.says.def_ 13 rfl
theorem TX.dGiveBack (T : TX K mg) : ∃ fd, FunD K "give_back" "give_back" (defArgs sGiveBack) (defBody sGiveBack) (defScope sGiveBack) [] [] (He.ga K "give_back") fd := T.says.def_ 14 rfl
theorem TX.dSettledLots (T : TX K mg) : ∃ fd, FunD K "settled_lots" "settled_lots" (defArgs sSettledLots) (defBody sSettledLots) (defScope sSettledLots) [] [] (He.ga K "settled_lots") fd := T.says.def_ 15 rfl
theorem TX.dDaysOver (T : TX K mg) : ∃ fd, FunD K "days_over" "days_over" (defArgs sDaysOver) (defBody sDaysOver) (defScope sDaysOver) [.non] [] (He.ga K "days_over") fd := T.says.def_ 16 rfl
theorem TX.dDaysOwed (T : TX K mg) : ∃ fd, FunD K "days_owed" "days_owed" (defArgs sDaysOwed) (defBody sDaysOwed) (defScope sDaysOwed) [.int 0, .non] [] (He.ga K "days_owed") fd := T.says.def_ 17 rfl
theorem TX.dDaysGiven (T : TX K mg) : ∃ fd, FunD K "days_given" "days_given" (defArgs sDaysGiven) (defBody sDaysGiven) (defScope sDaysGiven) [.int 0, .non] [] (He.ga K "days_given") fd := T.says.def_ 18 rfl
theorem TX.dLawCell (T : TX K mg) : ∃ fd, FunD K "_law_cell" "_law_cell" (defArgs sLawCell) (defBody sLawCell) (defScope sLawCell) [] [] (He.ga K "_law_cell") fd := T.says.def_ 19 rfl
theorem TX.dLawPot (T : TX K mg) : ∃ fd, FunD K "_law_pot" "_law_pot" (defArgs sLawPot) (defBody sLawPot) (defScope sLawPot) [] [] (He.ga K "_law_pot") fd := T.says.def_ 20 rfl
theorem TX.dLawTake (T : TX K mg) : ∃ fd, FunD K "_law_take" "_law_take" (defArgs sLawTake) (defBody sLawTake) (defScope sLawTake) [] [] (He.ga K "_law_take") fd := T.says.def_ 21 rfl
theorem TX.dLawNames (T : TX K mg) : ∃ fd, FunD K "_law_names" "_law_names" (defArgs sLawNames) (defBody sLawNames) (defScope sLawNames) [] [] (He.ga K "_law_names") fd := T.says.def_ 22 rfl
theorem TX.dLawMoves (T : TX K mg) : ∃ fd, FunD K "_law_moves" "_law_moves" (defArgs sLawMoves) (defBody sLawMoves) (defScope sLawMoves) [] [] (He.ga K "_law_moves") fd := T.says.def_ 23 rfl
theorem TX.dLawFar (T : TX K mg) : ∃ fd, FunD K "_law_far" "_law_far" (defArgs sLawFar) (defBody sLawFar) (defScope sLawFar) [] [] (He.ga K "_law_far") fd := T.says.def_ 24 rfl
theorem TX.dLawCase (T : TX K mg) : ∃ fd, FunD K "_law_case" "_law_case" (defArgs sLawCase) (defBody sLawCase) (defScope sLawCase) [] [] (He.ga K "_law_case") fd := T.says.def_ 25 rfl
theorem TX.dLawBook (T : TX K mg) : ∃ fd, FunD K "_law_book" "_law_book" (defArgs sLawBook) (defBody sLawBook) (defScope sLawBook) [] [] (He.ga K "_law_book") fd := T.says.def_ 26 rfl
theorem TX.dLawSomeDays (T : TX K mg) : ∃ fd, FunD K "_law_some_days" "_law_some_days" (defArgs sLawSomeDays) (defBody sLawSomeDays) (defScope sLawSomeDays) [] [] (He.ga K "_law_some_days") fd := T.says.def_ 27 rfl
theorem TX.dLawThree (T : TX K mg) : ∃ fd, FunD K "_law_three" "_law_three" (defArgs sLawThree) (defBody sLawThree) (defScope sLawThree) [] [] (He.ga K "_law_three") fd := T.says.def_ 28 rfl
theorem TX.dLawHeld (T : TX K mg) : ∃ fd, FunD K "_law_held" "_law_held" (defArgs sLawHeld) (defBody sLawHeld) (defScope sLawHeld) [] [] (He.ga K "_law_held") fd := T.says.def_ 29 rfl
theorem TX.dLawByThenRight (T : TX K mg) : ∃ fd, FunD K "_law_by_then_right" "_law_by_then_right" (defArgs sLawByThenRight) (defBody sLawByThenRight) (defScope sLawByThenRight) [] [] (He.ga K "_law_by_then_right") fd := T.says.def_ 30 rfl
theorem TX.dLawLightsRight (T : TX K mg) : ∃ fd, FunD K "_law_lights_right" "_law_lights_right" (defArgs sLawLightsRight) (defBody sLawLightsRight) (defScope sLawLightsRight) [] [] (He.ga K "_law_lights_right") fd := T.says.def_ 31 rfl
theorem TX.dLawLateRight (T : TX K mg) : ∃ fd, FunD K "_law_late_right" "_law_late_right" (defArgs sLawLateRight) (defBody sLawLateRight) (defScope sLawLateRight) [] [] (He.ga K "_law_late_right") fd := T.says.def_ 32 rfl
theorem TX.dLaw (T : TX K mg) : ∃ fd, FunD K "law" "law" (defArgs sLaw) (defBody sLaw) (defScope sLaw) [] [] (He.ga K "law") fd := T.says.def_ 33 rfl
theorem TX.dBookInit (T : TX K mg) : ∃ fd, FunD K "__init__" "Book.__init__" (defArgs sBookInit) (defBody sBookInit) (defScope sBookInit) [] [] (He.ma K (He.ga K "Book") "__init__") fd := T.says.def_ 34 rfl
theorem TX.dBookWantKeeper (T : TX K mg) : ∃ fd, FunD K "want_keeper" "Book.want_keeper" (defArgs sBookWantKeeper) (defBody sBookWantKeeper) (defScope sBookWantKeeper) [] [] (He.ma K (He.ga K "Book") "want_keeper") fd := T.says.def_ 35 rfl
theorem TX.dBookWantNotEarly (T : TX K mg) : ∃ fd, FunD K "want_not_early" "Book.want_not_early" (defArgs sBookWantNotEarly) (defBody sBookWantNotEarly) (defScope sBookWantNotEarly) [] [] (He.ma K (He.ga K "Book") "want_not_early") fd := T.says.def_ 36 rfl
theorem TX.dBookTell (T : TX K mg) : ∃ fd, FunD K "tell" "Book.tell" (defArgs sBookTell) (defBody sBookTell) (defScope sBookTell) [] [] (He.ma K (He.ga K "Book") "tell") fd := T.says.def_ 37 rfl
theorem TX.dBookLand (T : TX K mg) : ∃ fd, FunD K "land" "Book.land" (defArgs sBookLand) (defBody sBookLand) (defScope sBookLand) [] [] (He.ma K (He.ga K "Book") "land") fd := T.says.def_ 38 rfl
theorem TX.dBookHeldMoves (T : TX K mg) : ∃ fd, FunD K "held_moves" "Book.held_moves" (defArgs sBookHeldMoves) (defBody sBookHeldMoves) (defScope sBookHeldMoves) [] [] (He.ma K (He.ga K "Book") "held_moves") fd := T.says.def_ 39 rfl
theorem TX.dStretchInit (T : TX K mg) : ∃ fd, FunD K "__init__" "Stretch.__init__" (defArgs sStretchInit) (defBody sStretchInit) (defScope sStretchInit) [.non] [] (He.ma K (He.ga K "Stretch") "__init__") fd := T.says.def_ 40 rfl
theorem TX.dStretchFirst (T : TX K mg) : ∃ fd, FunD K "first" "Stretch.first" (defArgs sStretchFirst) (defBody sStretchFirst) (defScope sStretchFirst) [] [] (He.ma K (He.ga K "Stretch") "first") fd := T.says.def_ 41 rfl
theorem TX.dStretchLast (T : TX K mg) : ∃ fd, FunD K "last" "Stretch.last" (defArgs sStretchLast) (defBody sStretchLast) (defScope sStretchLast) [] [] (He.ma K (He.ga K "Stretch") "last") fd := T.says.def_ 42 rfl
theorem TX.dStretchRepr (T : TX K mg) : ∃ fd, FunD K "__repr__" "Stretch.__repr__" (defArgs sStretchRepr) (defBody sStretchRepr) (defScope sStretchRepr) [] [] (He.ma K (He.ga K "Stretch") "__repr__") fd := T.says.def_ 43 rfl
end
end K76
namespace K76
open PySem PySem.Spec PyProof.Rows L2

/-! ### a def of the text, as its callers have it -/
structure Cal (P : Program) (w : World) (K : PySem.W.Frag) (mg : Str → Option Value) (base : Heap) (k : Nat) (x : Str) (ps : List Str) (dvs : List V) (sp : Sp) : Prop where
  ex : ∃ fd ds, FnOk P w K mg base CX0 k (He.ga K x) fd ps sp ∧ Binds K fd ps ds ∧ Vals dvs ds
  gl : mg x = some (.ref (He.ga K x))
  kp : PySem.W.keepIn K (.ref (He.ga K x)) = true
structure Mal (P : Program) (w : World) (K : PySem.W.Frag) (mg : Str → Option Value) (base : Heap) (k : Nat) (C m : Str) (ps : List Str) (dvs : List V) (sp : Sp) : Prop where
  ex : ∃ fd ds, FnOk P w K mg base CX0 k (He.ma K (He.ga K C) m) fd ps sp ∧ Binds K fd ps ds ∧ Vals dvs ds
  me : Meth K (He.ga K C) m (He.ma K (He.ga K C) m)
  cl : Cls K (He.ga K C)
structure Mak (P : Program) (w : World) (K : PySem.W.Frag) (mg : Str → Option Value) (base : Heap) (k : Nat) (C : Str) (ps : List Str) (dvs : List V) (sp : Sp) : Prop where
  ex : ∃ fd ds, FnOk P w K mg base CX0 k (He.ma K (He.ga K C) "__init__") fd ps sp ∧ Binds K fd ps ds ∧ Vals dvs ds
  mak : Mk K (He.ga K C) (He.ma K (He.ga K C) "__init__")
  gl : mg C = some (.ref (He.ga K C))
structure CalG (P : Program) (w : World) (K : PySem.W.Frag) (mg : Str → Option Value) (base : Heap) (k : Nat) (x : Str) (ps : List Str) (sp : Sp) : Prop where
  ex : ∃ fd, FnG P w K mg base k (He.ga K x) fd ps sp ∧ Binds K fd ps []
  gl : mg x = some (.ref (He.ga K x))
  kp : PySem.W.keepIn K (.ref (He.ga K x)) = true
section
variable {X : Cx} {k j : Nat} {ps : List Str} {dvs : List V} {sp : Sp} {x C m : Str} {p pos apos : Pos} {e o : Expr} {es : List Expr} {t : TA} {ta : TE}
theorem pe_cal (c : Cal X.prog X.w X.K X.mg X.base k x ps dvs sp) (hr : Room j X.A) (ha : PA X (e :: es) t) (hj : k ≤ j := by decide) (hg : Gl X x := by rfl) (hdb : (x == ("__debug__" : Str)) = false := by decide)
    (he : starEach (e :: es) X.env = (false, eval e X.env) :: starEach es X.env := by rfl) (hpl : (backTo pos (starEach es X.env)).any (·.1) = false := by rfl) : PE X (.Call (.Name x p) (e :: es) [] pos) (tCall sp dvs E0 t) := by
  obtain ⟨fd, ds, F, b, d⟩ := c.ex
  exact pe_call F (hr.mono hj) hg c.gl c.kp b d pass0 ha hdb he hpl
theorem pe_calG (c : CalG X.prog X.w X.K X.mg X.base k x ps sp) (hgd : X.A.guards = some []) (hr : Room j X.A) (ha : PA X (e :: es) t) (hj : k ≤ j := by decide) (hg : Gl X x := by rfl) (hdb : (x == ("__debug__" : Str)) = false := by decide)
    (he : starEach (e :: es) X.env = (false, eval e X.env) :: starEach es X.env := by rfl) (hpl : (backTo pos (starEach es X.env)).any (·.1) = false := by rfl) : PE X (.Call (.Name x p) (e :: es) [] pos) (tCall sp [] E0 t) := by
  obtain ⟨fd, F, b⟩ := c.ex
  exact pe_callG F hgd (hr.mono hj) hg c.gl c.kp b ha hdb he hpl
theorem pe_mak (c : Mak X.prog X.w X.K X.mg X.base k C ps dvs sp) (hr : Room j X.A) (ha : PA X (e :: es) t) (hj : k + 1 ≤ j := by decide) (hg : Gl X C := by rfl) (hdb : (C == ("__debug__" : Str)) = false := by decide)
    (he : starEach (e :: es) X.env = (false, eval e X.env) :: starEach es X.env := by rfl) (hpl : (backTo pos (starEach es X.env)).any (·.1) = false := by rfl) : PE X (.Call (.Name C p) (e :: es) [] pos) (tMake (He.ga X.K C) sp dvs E0 t) := by
  obtain ⟨fd, ds, F, b, d⟩ := c.ex
  exact pe_make c.mak F (hr.mono hj) hg c.gl b d pass0 ha hdb he hpl
end
theorem Cal.of {P : Program} {w : World} {K : PySem.W.Frag} {mg : Str → Option Value} {base : Heap} {k : Nat} {x : Str} {ps : List Str} {dvs : List V} {ds : List Value} {sp : Sp} {qual : Str} {params : Arguments} {body : List Stmt} {scope : Scope} {dv : List V} {fd : FuncData}
    (F : FunD K x qual params body scope dv [] (He.ga K x) fd) (gl : mg x = some (.ref (He.ga K x))) (hb : Binds K fd ps ds) (hd : Vals dvs ds) (G : FnOk P w K mg base CX0 k (He.ga K x) fd ps sp) : Cal P w K mg base k x ps dvs sp :=
  ⟨⟨fd, ds, G, hb, hd⟩, gl, F.kp⟩

/-! ### heaps -/
theorem Same.new {H : Hp} {p : Addr} {o : HO} (h : H p = none) : Same H (upd H p o) := fun a u e => by
  rw [upd_ne (ne_of_none e h)]
  exact e
theorem Same.mut {H H' : Hp} {p : Addr} {o : HO} (e : Same H H') (h : H p = none) : Same H (upd H' p o) := fun a u ha => by
  rw [upd_ne (ne_of_none ha h)]
  exact e a u ha
theorem Same.none {H H' : Hp} (e : Same H H') {p : Addr} (h : H' p = Option.none) : H p = Option.none := e.free h
theorem Same.ext {H H' : Hp} (e : Same H H') : L2.Ext H H' := e
/-- all but one address is kept -/
def But (a : Addr) (H H' : Hp) : Prop := ∀ b o, b ≠ a → H b = some o → H' b = some o
theorem But.refl (a : Addr) (H : Hp) : But a H H := fun _ _ _ h => h
theorem But.trans {a : Addr} {H H1 H2 : Hp} (x : But a H H1) (y : But a H1 H2) : But a H H2 := fun b o n h => y b o n (x b o n h)
theorem But.of {a : Addr} {H H' : Hp} (h : Same H H') : But a H H' := fun b o _ e => h b o e
theorem But.same {a : Addr} {D H H' : Hp} (x : But a H H') (s : Same D H) (n : D a = none) : Same D H' := fun b o e => x b o (ne_of_none e n) (s b o e)
theorem But.upd {a : Addr} {H : Hp} {o : HO} : But a H (upd H a o) := fun b u n e => by
  rw [upd_ne n]
  exact e
/-- the heap without an address -/
def del (H : Hp) (a : Addr) : Hp := fun b => if b = a then none else H b
theorem del_same (H : Hp) (a : Addr) : Same (del H a) H := fun b o e => by
  unfold del at e
  by_cases h : b = a
  · rw [if_pos h] at e
    cases e
  · rw [if_neg h] at e
    exact e
theorem del_at (H : Hp) (a : Addr) : del H a a = none := by
  unfold del
  rw [if_pos rfl]
theorem del_ne {H : Hp} {a b : Addr} (h : b ≠ a) : del H a b = H b := by
  unfold del
  rw [if_neg h]
theorem But.of_del {a : Addr} {H H' : Hp} (h : Same (del H a) H') : But a H H' := fun b o n e => h b o (by rw [del_ne n]; exact e)

/-! ### lists of tuples -/
/-- at a stands a list of tuples of these -/
def Tups (H : Hp) (a : Addr) (vs : List (List V)) : Prop := ∃ ts : List (Addr × List V), H a = some (.lst (ts.map fun t => V.ref t.1)) ∧ (∀ t ∈ ts, H t.1 = some (.tup t.2)) ∧ ts.map (·.2) = vs
theorem Tups.mono {H H' : Hp} (s : Same H H') {a : Addr} {vs : List (List V)} (h : Tups H a vs) : Tups H' a vs := by
  obtain ⟨ts, h1, h2, h3⟩ := h
  exact ⟨ts, s _ _ h1, fun t ht => s _ _ (h2 t ht), h3⟩
theorem Tups.nil {H : Hp} {a : Addr} (h : H a = some (.lst [])) : Tups H a [] := ⟨[], h, (fun _ z => nomatch z), rfl⟩
/-- a new tuple at the end -/
theorem Tups.snoc {H : Hp} {a p : Addr} {ts : List (Addr × List V)} {v : List V} (h1 : H a = some (.lst (ts.map fun t => V.ref t.1))) (h2 : ∀ t ∈ ts, H t.1 = some (.tup t.2)) (hp : H p = none) :
    Tups (upd (upd H p (.tup v)) a (.lst (ts.map (fun t => V.ref t.1) ++ [.ref p]))) a (ts.map (·.2) ++ [v]) := by
  have nap : a ≠ p := ne_of_none h1 hp
  refine ⟨ts ++ [(p, v)], ?_, fun t ht => ?_, ?_⟩
  · rw [upd_same, List.map_append]
    rfl
  · rcases List.mem_append.mp ht with q | q
    · have q1 := h2 t q
      rw [upd_ne (ne_of q1 h1 (fun z => nomatch z)), upd_ne (ne_of_none q1 hp)]
      exact q1
    · have e : t = (p, v) := by simpa using q
      rw [e, upd_ne nap.symm, upd_same]
  · rw [List.map_append]
    rfl
/-- the i-th -/
theorem Tups.at_ {ts : List (Addr × List V)} {i : Nat} {x : V} (h : (ts.map fun t => V.ref t.1)[i]? = some x) : ∃ t, ts[i]? = some t ∧ x = .ref t.1 ∧ t ∈ ts := by
  rw [List.getElem?_map] at h
  cases e : ts[i]? with
  | none =>
    rw [e] at h
    cases h
  | some t =>
    rw [e] at h
    exact ⟨t, rfl, (Option.some.inj h).symm, List.mem_of_getElem? e⟩
/-! ### tests whose answer is known -/
theorem ifd {c A B : Prop} [Decidable c] (h : c) (a : A) : if decide c = true then A else B := by
  rw [if_pos (decide_eq_true h)]
  exact a
theorem ifn {c A B : Prop} [Decidable c] (h : ¬ c) (b : B) : if decide c = true then A else B := by
  rw [if_neg (by rw [decide_eq_false h]; exact Bool.false_ne_true)]
  exact b
theorem ifnd {c A B : Prop} [Decidable c] (h : c) (b : B) : if (!decide c) = true then A else B := by
  rw [decide_eq_true h]
  exact b
theorem ifnn {c A B : Prop} [Decidable c] (h : ¬ c) (a : A) : if (!decide c) = true then A else B := by
  rw [decide_eq_false h]
  exact a
theorem ifb {b : Bool} {A B : Prop} (h : b = true) (x : A) : if b = true then A else B := by
  rw [if_pos h]
  exact x
theorem ifb0 {b : Bool} {A B : Prop} (h : b = false) (x : B) : if b = true then A else B := by
  rw [h]
  exact x
theorem sz {n : Nat} (h : n ≤ 1000000) : n ≤ sizeLine := Nat.le_trans h (by rw [sizeLine_eq]; decide)
theorem sz' {n : Nat} (h : n ≤ 1000000) : n < sizeLine := Nat.lt_of_le_of_lt h (by rw [sizeLine_eq]; decide)

/-! ### xs != [] -/
def flatB : V → Bool
  | .non => true
  | .bl _ => true
  | .int _ => true
  | .str x => PyData.strOk x
  | _ => false
def datV : V → PyData
  | .non => .none
  | .bl b => .bool b
  | .int i => .int i
  | .str x => .str x
  | _ => .none
theorem dp_flat {K : PySem.W.Frag} {H : Hp} : ∀ {v : V}, flatB v = true → Dp K H v (datV v)
  | .non, _ => .non
  | .bl b, _ => .bl b
  | .int i, _ => .int i
  | .str x, _ => .str x
theorem lay_flat : ∀ {v : V}, flatB v = true → (datV v).canLay0 = true ∧ (datV v).depth = 0
  | .non, _ => ⟨rfl, rfl⟩
  | .bl b, _ => ⟨by simp [datV, PyData.canLay0], by simp [datV, PyData.depth]⟩
  | .int i, _ => ⟨by simp [datV, PyData.canLay0], by simp [datV, PyData.depth]⟩
  | .str x, h => ⟨by simp only [datV, PyData.canLay0]; exact h, by simp [datV, PyData.depth]⟩
theorem dps_flat {K : PySem.W.Frag} {H : Hp} : ∀ {vs : List V}, vs.all flatB = true → DpAll K H vs (vs.map datV)
  | [], _ => .nil
  | v :: vs, h => by
    rw [List.all_cons, Bool.and_eq_true] at h
    exact .cons (dp_flat h.1) (dps_flat h.2)
theorem lays_flat : ∀ {vs : List V}, vs.all flatB = true → PyData.canLayAll0 (vs.map datV) = true ∧ PyData.depthAll (vs.map datV) = 0
  | [], _ => ⟨by simp [PyData.canLayAll0], by simp [PyData.depthAll]⟩
  | v :: vs, h => by
    rw [List.all_cons, Bool.and_eq_true] at h
    obtain ⟨a, b⟩ := lay_flat h.1
    obtain ⟨c, d⟩ := lays_flat h.2
    rw [List.map_cons]
    exact ⟨by rw [PyData.canLayAll0, a, c]; rfl, by rw [PyData.depthAll, b, d]; rfl⟩
/-- the items are data, one deep -/
def Shal (K : PySem.W.Frag) (H : Hp) (xs : List V) : Prop := ∃ ds, DpAll K H xs ds ∧ PyData.canLayAll0 ds = true ∧ PyData.depthAll ds ≤ 1
theorem Shal.flat {K : PySem.W.Frag} {H : Hp} {xs : List V} (h : xs.all flatB = true) : Shal K H xs := ⟨_, dps_flat h, (lays_flat h).1, by rw [(lays_flat h).2]; exact Nat.zero_le 1⟩
theorem Shal.tups {K : PySem.W.Frag} {H : Hp} : ∀ {ts : List (Addr × List V)}, (∀ t ∈ ts, H t.1 = some (.tup t.2) ∧ t.2.all flatB = true) → Shal K H (ts.map fun t => V.ref t.1)
  | [], _ => ⟨[], .nil, by simp [PyData.canLayAll0], by simp [PyData.depthAll]⟩
  | t :: ts, h => by
    obtain ⟨ds, h1, h2, h3⟩ := Shal.tups (K := K) fun x hx => h x (List.mem_cons_of_mem _ hx)
    obtain ⟨a, b⟩ := h t List.mem_cons_self
    obtain ⟨c, d⟩ := lays_flat b
    refine ⟨.tuple (t.2.map datV) :: ds, .cons (.tup (SqT.of a) (dps_flat b)) h1, ?_, ?_⟩
    · rw [PyData.canLayAll0, PyData.canLay0, c, h2]
      rfl
    · rw [PyData.depthAll, PyData.depth, d]
      omega
def rNeNil (K : PySem.W.Frag) : R2 := fun x y H Q => ∃ a p xs, x = .ref a ∧ y = .ref p ∧ SqL K H a xs ∧ H p = some (.lst []) ∧ Shal K H xs ∧ Q (.bl (!xs.isEmpty)) H
theorem op_neNil {X : Cx} (hu : X.A.units + 64 < cLine) : OpR X (compareOp .NotEq) (rNeNil X.K) := by
  intro pins s σ H x y v u Q I rx ry h
  obtain ⟨a, p, xs, rfl, rfl, ha, hp, ⟨ds, d1, d2, d3⟩, q⟩ := h
  refine op_neD hu pins s σ H _ _ v u Q I rx ry ⟨.list ds, .list [], .lst ha d1, .lst (SqL.of hp) .nil, ?_, ?_, ?_⟩
  · unfold SeqAt.shaped
    rw [PyData.canLay0, d2, PyData.depth, decide_eq_true (by omega)]
    rfl
  · decide
  · have e : PyData.eqv (.list ds) (.list []) = xs.isEmpty := by
      cases d1 with
      | nil => rfl
      | cons _ _ => rfl
    rw [e]
    exact q
end K76
namespace K76
open PySem PySem.Spec PyProof.Rows L2
section
variable {P : Program} {w : World} {K : PySem.W.Frag} {mg : Str → Option Value} {base : Heap}
def spIsName : Sp := fun vs H Q _ => ∃ x : Str, vs = [.str x] ∧ IsName x ∧ ∀ H', Same H H' → Q (.bl true) H'
theorem scIsName : FnScope ["thing", "sign"] ["thing"] (defScope sIsName) :=
  ⟨rfl, rfl, rfl, by decide +kernel, rfl, by decide +kernel, by decide +kernel⟩
theorem low_in {c : Nat} (h : 97 ≤ c ∧ c ≤ 122) : c ∈ ("abcdefghijklmnopqrstuvwxyz" : Str).cps.toList := by
  have e : ∀ k : _root_.Fin 26, 97 + k.val ∈ ("abcdefghijklmnopqrstuvwxyz" : Str).cps.toList := by decide +kernel
  have := e ⟨c - 97, by omega⟩
  rw [show 97 + (c - 97) = c by omega] at this
  exact this
theorem cal_isName (T : TX K mg) : Cal P w K mg base 1 "is_name" ["thing"] [] spIsName := by
  obtain ⟨fd, F⟩ := T.dIsName
  obtain ⟨t8, c8⟩ := T.cMostLetters
  obtain ⟨tL, cL⟩ := T.cLetters
  refine Cal.of F T.gIsName (FunD.bindsN F fun _ _ _ _ _ _ us hl => match us, hl with | [_], _ => rfl) .nil ?_
  refine F.ok scIsName (fun vs H Q E h => ?_) (fun cdv A outer s H vs Q E hr h => ?_)
  · obtain ⟨x, rfl, _⟩ := h
    rfl
  · obtain ⟨x, rfl, hx, k⟩ := h
    refine ⟨_, PSs.nox (pss_cons (ps_if (PW.pt (pw_or (pt_not (pt_val (pe_callB call_isi (by rfl) T.f_isinstance (by decide +kernel) (pa_cons (pv 0) (pa_cons (pe_bltn (v := .ty "str") (u := .type "str") (by rfl) T.f_str (by decide +kernel) rfl) pa_nil))))) (pw_or1 (pt_not (pt_chain op_le op_le pe_int (pe_callB call_len_str (by rfl) T.f_len (by decide +kernel) (pa_cons (pv 0) pa_nil)) (pe_glob (v := .int 8) rfl c8 ⟨_, rfl⟩)))))) (pss_one (ps_ret pe_bl)) pss_nil)
    (pss_one (ps_ret (pe_callB (cr_all rfl) (by rfl) T.f_all (by decide +kernel) (pa_cons (pe_lc (own := [("sign", 1)]) rfl scIsName.nd (pi_str (pv 0)) (blkOk_by (own := [("sign", 1)]) (N := ["thing", "sign"]) (sc := defScope sIsName) (by decide +kernel)) (fun _ _ _ _ _ => (pg_name (i := 1) scIsName.nd rfl (by first | exact Or.inl rfl | exact Or.inr rfl))) (fun _ _ _ _ _ => pts_nil) (fun _ _ _ _ _ => (pe_cmpR op_in_sign (pv 1) (pe_glob (v := .str "abcdefghijklmnopqrstuvwxyz") rfl cL ⟨_, rfl⟩) rfl))) pa_nil))))), ?_⟩
    refine ⟨_, rfl, _, _, _, _, true, rfl, .ty "str", .base (.str x), kit_ty (by decide +kernel), true, rfl, ?_⟩
    have hp := hx.pos
    have hl := hx.len
    refine ⟨_, rfl, x, rfl, sz (by omega), 1, _, rfl, rfl, _, rfl, ifd (by omega) ?_⟩
    refine ⟨_, 8, rfl, rfl, _, rfl, ifnd (by omega) ?_⟩
    refine ⟨_, rfl, x, rfl, fun D hD => lc_it walk_str (fun i H1 => Same H H1 ∧ H1 D = some (.lst ((List.replicate i true).map V.bl))) ⟨Same.new hD, upd_same⟩ (fun _ _ _ _ => trivial) ?_ ?_⟩
    · rintro i v H1 H2 hi ⟨S, hl⟩ ⟨rfl, c, hc, rfl⟩
      have hc2 : c ∈ x.cps.toList := by
        rw [← Array.getElem?_toList] at hc
        exact List.mem_of_getElem? hc
      have hin := low_in (hx.low c hc2)
      have hs : x.cps.size ≤ 8 := hx.len
      refine ⟨rfl, _, rfl, c, _, rfl, rfl, _, hl, ?_, Same.mut S hD, ?_⟩
      · rw [List.length_map, List.length_replicate]
        exact sz' (by omega)
      · rw [upd_same, decide_eq_true hin, List.replicate_succ', List.map_append]
        rfl
    · rintro H1 ⟨S, hl⟩
      refine ⟨D, List.replicate x.cps.size true, rfl, SqL.of hl, ?_⟩
      have e : (List.replicate x.cps.size true).all id = true := by simp
      rw [e]
      exact k H1 S

def spIsWhole : Sp := fun vs H Q _ => ∃ n l : Int, vs = [.int n, .int l] ∧ l ≤ n ∧ ∀ H', Same H H' → Q (.bl true) H'
theorem scIsWhole : FnScope ["thing", "least"] ["thing", "least"] (defScope sIsWhole) :=
  ⟨rfl, rfl, rfl, by decide +kernel, rfl, by decide +kernel, by decide +kernel⟩
theorem ok_isWhole (T : TX K mg) {fd : FuncData} (F : FunD K "is_whole" "is_whole" (defArgs sIsWhole) (defBody sIsWhole) (defScope sIsWhole) [.int 0] [] (He.ga K "is_whole") fd) : FnOk P w K mg base CX0 1 (He.ga K "is_whole") fd ["thing", "least"] spIsWhole := by
  refine F.ok scIsWhole (fun vs H Q E h => ?_) (fun cdv A outer s H vs Q E hr h => ?_)
  · obtain ⟨n, l, rfl, _⟩ := h
    rfl
  · obtain ⟨n, l, rfl, hx, k⟩ := h
    refine ⟨_, PSs.nox (pss_one (ps_ret (pe_and (pe_callB call_isi (by rfl) T.f_isinstance (by decide +kernel) (pa_cons (pv 0) (pa_cons (pe_bltn (v := .ty "int") (u := .type "int") (by rfl) T.f_int (by decide +kernel) rfl) pa_nil)))
      (pe_and (pe_not (pe_callB call_isi (by rfl) T.f_isinstance (by decide +kernel) (pa_cons (pv 0) (pa_cons (pe_bltn (v := .ty "bool") (u := .type "bool") (by rfl) T.f_bool (by decide +kernel) rfl) pa_nil)))) (pe_one (pe_cmpR op_ge (pv 0) (pv 1) (nomark _))))))), ?_⟩
    refine ⟨_, rfl, _, _, _, _, true, rfl, .ty "int", .base (.int n), kit_ty (by decide +kernel), true, rfl, ?_⟩
    refine ⟨_, rfl, _, _, _, _, false, rfl, .ty "bool", .base (.int n), kit_ty (by decide +kernel), false, rfl, true, rfl, ?_⟩
    refine ⟨_, rfl, _, rfl, _, _, rfl, rfl, ?_⟩
    show Q (.bl (decide (l ≤ n))) H
    rw [decide_eq_true hx]
    exact k H (Same.refl H)
theorem cal_isWhole2 (T : TX K mg) : Cal P w K mg base 1 "is_whole" ["thing", "least"] [] spIsWhole := by
  obtain ⟨fd, F⟩ := T.dIsWhole
  obtain ⟨ds, hd, hb⟩ := F.binds1 (ps := ["thing", "least"]) 2 1 (List.cons_ne_nil _ _) rfl (fun T kV doc pm an cdv ct us its h1 h2 => match us, its, h1, h2 with | [_, _], [_], _, _ => ⟨_, rfl, rfl⟩)
  exact Cal.of F T.gIsWhole hb hd (ok_isWhole T F)
theorem cal_isWhole1 (T : TX K mg) : Cal P w K mg base 1 "is_whole" ["thing", "least"] [.int 0] spIsWhole := by
  obtain ⟨fd, F⟩ := T.dIsWhole
  obtain ⟨ds, hd, hb⟩ := F.binds1 (ps := ["thing", "least"]) 1 0 (List.cons_ne_nil _ _) rfl (fun T kV doc pm an cdv ct us its h1 h2 => match us, its, h1, h2 with | [_], [_], _, _ => ⟨_, rfl, rfl⟩)
  exact Cal.of F T.gIsWhole hb hd (ok_isWhole T F)

def spIsRank : Sp := fun vs H Q _ => ∃ n : Int, vs = [.int n] ∧ 1 ≤ n ∧ n ≤ 9 ∧ ∀ H', Same H H' → Q (.bl true) H'
theorem scIsRank : FnScope ["thing"] ["thing"] (defScope sIsRank) :=
  ⟨rfl, rfl, rfl, by decide +kernel, rfl, by decide +kernel, by decide +kernel⟩
theorem cal_isRank (T : TX K mg) : Cal P w K mg base 2 "is_rank" ["thing"] [] spIsRank := by
  obtain ⟨fd, F⟩ := T.dIsRank
  obtain ⟨t9, c9⟩ := T.cLowestRank
  have c1 : Cal P w K mg base 1 "is_whole" ["thing", "least"] [] spIsWhole := cal_isWhole2 T
  refine Cal.of F T.gIsRank (FunD.bindsN F fun _ _ _ _ _ _ us hl => match us, hl with | [_], _ => rfl) .nil ?_
  refine F.ok scIsRank (fun vs H Q E h => ?_) (fun cdv A outer s H vs Q E hr h => ?_)
  · obtain ⟨n, rfl, _⟩ := h
    rfl
  · obtain ⟨n, rfl, h1, h9, k⟩ := h
    refine ⟨_, PSs.nox (pss_one (ps_ret (pe_and (pe_cal c1 hr (pa_cons (pv 0) (pa_cons pe_int pa_nil))) (pe_one (pe_cmpR op_le (pv 0) (pe_glob (v := .int 9) rfl c9 ⟨_, rfl⟩) (nomark _)))))), ?_⟩
    refine ⟨_, rfl, n, 1, rfl, h1, fun H1 S => ⟨true, rfl, _, rfl, _, _, rfl, rfl, ?_⟩⟩
    show Q (.bl (decide (n ≤ 9))) H1
    rw [decide_eq_true h9]
    exact k H1 S
def spIsPlace : Sp := fun vs H Q _ => ∃ x : Str, vs = [.str x] ∧ (x = ash ∨ IsName x) ∧ ∀ H', Same H H' → Q (.bl true) H'
theorem scIsPlace : FnScope ["thing"] ["thing"] (defScope sIsPlace) :=
  ⟨rfl, rfl, rfl, by decide +kernel, rfl, by decide +kernel, by decide +kernel⟩
theorem cal_isPlace (T : TX K mg) : Cal P w K mg base 2 "is_place" ["thing"] [] spIsPlace := by
  obtain ⟨fd, F⟩ := T.dIsPlace
  obtain ⟨tA, cA⟩ := T.cAshore
  have c1 : Cal P w K mg base 1 "is_name" ["thing"] [] spIsName := cal_isName T
  refine Cal.of F T.gIsPlace (FunD.bindsN F fun _ _ _ _ _ _ us hl => match us, hl with | [_], _ => rfl) .nil ?_
  refine F.ok scIsPlace (fun vs H Q E h => ?_) (fun cdv A outer s H vs Q E hr h => ?_)
  · obtain ⟨n, rfl, _⟩ := h
    rfl
  · obtain ⟨x, rfl, hx, k⟩ := h
    refine ⟨_, PSs.nox (pss_one (ps_ret (pe_or (pe_cmpR op_eq (pv 0) (pe_glob (v := .str "") rfl cA ⟨_, rfl⟩) (nomark _)) (pe_one (pe_cal c1 hr (pa_cons (pv 0) pa_nil)))))), ?_⟩
    refine ⟨_, rfl, rfl, _, rfl, ?_⟩
    by_cases e : V.str x = V.str ""
    · refine ifd e ?_
      exact k H (Same.refl H)
    · refine ifn e ?_
      refine ⟨_, rfl, x, rfl, ?_, k⟩
      rcases hx with q | q
      · rw [q] at e
        exact absurd rfl e
      · exact q
def spWantDay : Sp := fun vs H Q _ => ∃ n : Int, vs = [.int n] ∧ 0 ≤ n ∧ ∀ H', Same H H' → Q .non H'
theorem scWantDay : FnScope ["thing"] ["thing"] (defScope sWantDay) :=
  ⟨rfl, rfl, rfl, by decide +kernel, rfl, by decide +kernel, by decide +kernel⟩
theorem cal_wantDay (T : TX K mg) : Cal P w K mg base 2 "want_day" ["thing"] [] spWantDay := by
  obtain ⟨fd, F⟩ := T.dWantDay
  have c1 : Cal P w K mg base 1 "is_whole" ["thing", "least"] [.int 0] spIsWhole := cal_isWhole1 T
  refine Cal.of F T.gWantDay (FunD.bindsN F fun _ _ _ _ _ _ us hl => match us, hl with | [_], _ => rfl) .nil ?_
  refine F.ok scWantDay (fun vs H Q E h => ?_) (fun cdv A outer s H vs Q E hr h => ?_)
  · obtain ⟨n, rfl, _⟩ := h
    rfl
  · obtain ⟨n, rfl, h1, k⟩ := h
    refine ⟨_, PSs.nox (pss_one (ps_if (pt_not (pt_val (pe_cal c1 hr (pa_cons (pv 0) pa_nil)))) (pss_one ps_never) pss_nil)), ?_⟩
    exact ⟨_, rfl, n, 0, rfl, h1, fun H1 S => ⟨true, rfl, k H1 S⟩⟩
/-- a known day, or none -/
def knV : Option Int → V
  | none => .non
  | some n => .int n
def KnOk (kn : Option Int) : Prop := ∀ n, kn = some n → 0 ≤ n
def spWantKnown : Sp := fun vs H Q _ => ∃ kn : Option Int, vs = [knV kn] ∧ KnOk kn ∧ ∀ H', Same H H' → Q .non H'
theorem scWantKnown : FnScope ["thing"] ["thing"] (defScope sWantKnown) :=
  ⟨rfl, rfl, rfl, by decide +kernel, rfl, by decide +kernel, by decide +kernel⟩
theorem cal_wantKnown (T : TX K mg) : Cal P w K mg base 3 "want_known" ["thing"] [] spWantKnown := by
  obtain ⟨fd, F⟩ := T.dWantKnown
  have c1 : Cal P w K mg base 2 "want_day" ["thing"] [] spWantDay := cal_wantDay T
  refine Cal.of F T.gWantKnown (FunD.bindsN F fun _ _ _ _ _ _ us hl => match us, hl with | [_], _ => rfl) .nil ?_
  refine F.ok scWantKnown (fun vs H Q E h => ?_) (fun cdv A outer s H vs Q E hr h => ?_)
  · obtain ⟨n, rfl, _⟩ := h
    rfl
  · obtain ⟨kn, rfl, h1, k⟩ := h
    refine ⟨_, PSs.nox (pss_one (ps_if (pt_cmpR op_notN (pv 0) pe_non (nomark _)) (pss_one (ps_expr (pe_cal c1 hr (pa_cons (pv 0) pa_nil)))) pss_nil)), ?_⟩
    cases kn with
    | none => exact ⟨_, rfl, rfl, _, rfl, k H (Same.refl H)⟩
    | some n => exact ⟨_, rfl, rfl, _, rfl, _, rfl, n, rfl, h1 n rfl, fun H1 S => k H1 S⟩
end
end K76
namespace K76
open PySem PySem.Spec PyProof.Rows L2
section
variable {P : Program} {w : World} {K : PySem.W.Frag} {mg : Str → Option Value} {base : Heap}
/-- a told thing: its known day, its worth -/
def prV (r : Int × V) : List V := [.int r.1, r.2]
theorem prV_flat {r : Int × V} (h : flatB r.2 = true) : (prV r).all flatB = true := by
  unfold prV
  rw [List.all_cons, List.all_cons, h]
  rfl
def spPutDown : Sp := fun vs H Q _ => ∃ (a : Addr) (k : Int) (v : V) (rows : List (Int × V)), vs = [.ref a, .int k, v] ∧ Tups H a (rows.map prV) ∧ rows.length ≤ 1000 ∧ (∀ r ∈ rows, flatB r.2 = true) ∧
  ∀ H', But a H H' → Tups H' a ((putDown rows k v).map prV) → Q .non H'
theorem scPutDown : FnScope ["rows", "known", "worth"] ["rows", "known", "worth"] (defScope sPutDown) :=
  ⟨rfl, rfl, rfl, by decide +kernel, rfl, by decide +kernel, by decide +kernel⟩
theorem put_fin {H0 H : Hp} {a p : Addr} {k : Int} {v : V} {ts : List (Addr × List V)} {rows : List (Int × V)} (hb : But a H0 H) (h1 : H a = some (.lst (ts.map fun t => V.ref t.1))) (h2 : ∀ t ∈ ts, H t.1 = some (.tup t.2)) (h3 : ts.map (·.2) = rows.map prV) (hp : H p = none) :
    But a H0 (upd (upd H p (.tup [.int k, v])) a (.lst (ts.map (fun t => V.ref t.1) ++ [.ref p]))) ∧ Tups (upd (upd H p (.tup [.int k, v])) a (.lst (ts.map (fun t => V.ref t.1) ++ [.ref p]))) a ((rows ++ [(k, v)]).map prV) := by
  refine ⟨(hb.trans (But.of (Same.new hp))).trans But.upd, ?_⟩
  have := Tups.snoc (v := [.int k, v]) h1 h2 hp
  rw [h3] at this
  rw [List.map_append]
  exact this
theorem cal_putDown (T : TX K mg) : Cal P w K mg base 1 "put_down" ["rows", "known", "worth"] [] spPutDown := by
  obtain ⟨fd, F⟩ := T.dPutDown
  refine Cal.of F T.gPutDown (FunD.bindsN F fun _ _ _ _ _ _ us hl => match us, hl with | [_, _, _], _ => rfl) .nil ?_
  refine F.ok scPutDown (fun vs H Q E h => ?_) (fun cdv A outer s H vs Q E hr h => ?_)
  · obtain ⟨a, n, v, r, rfl, _⟩ := h
    rfl
  · obtain ⟨a, n, v, rows, rfl, ⟨ts, h1, h2, h3⟩, hlen, hfl, k⟩ := h
    refine ⟨_, PSs.nox (pss_cons (ps_if (PW.pt (pw_and (pt_cmpR (op_neNil hr.units) (pv 0) (pe_lst pa_nil) (nomark _)) (pw_and1 (pt_cmpR op_eq (pe_ix ix_tup (pe_ix ix_list (pv 0) (pe_un un_neg pe_int) (fun _ _ => rfl)) pe_int (fun _ _ => rfl)) (pv 1) (nomark _))))) (pss_one (ps_expr (pe_bm0 PySem.F.plainAttrs_list PySem.F.slot_list_pop PySem.F.type_list_pop mt_pop (pv 0)))) pss_nil)
      (pss_one (ps_expr (pe_bm PySem.F.plainAttrs_list PySem.F.slot_list_append PySem.F.type_list_append mt_append (pv 0) (pa_cons (pe_tup (pa_cons (pv 1) (pa_cons (pv 2) pa_nil))) pa_nil))))), ?_⟩
    have hts : ts.length = rows.length := by
      have := congrArg List.length h3
      rwa [List.length_map, List.length_map] at this
    refine ⟨_, rfl, Nat.zero_le _, fun p hp => ?_⟩
    have S0 : Same H (upd H p (.lst [])) := Same.new hp
    have hsh : Shal K (upd H p (.lst [])) (ts.map fun t => V.ref t.1) := Shal.tups fun t ht => ⟨S0 _ _ (h2 t ht), by
      have : t.2 ∈ rows.map prV := by
        rw [← h3]
        exact List.mem_map.mpr ⟨t, ht, rfl⟩
      obtain ⟨r, hr1, hr2⟩ := List.mem_map.mp this
      rw [← hr2]
      exact prV_flat (hfl r hr1)⟩
    refine ⟨a, p, _, rfl, rfl, SqL.of (S0 _ _ h1), upd_same, hsh, _, rfl, ?_⟩
    cases e : ts.getLast? with
    | none =>
      have et : ts = [] := List.getLast?_eq_none_iff.mp e
      subst et
      have er : rows = [] := by
        cases rows with
        | nil => rfl
        | cons _ _ => cases hts
      subst er
      refine ⟨_, rfl, .inl ⟨rfl, _, SqL.of (S0 _ _ h1)⟩, _, rfl, _, rfl, by show 2 ≤ sizeLine; decide, fun q hq => ?_⟩
      have S1 := Same.new (o := .tup [.int n, v]) hq
      obtain ⟨b1, b2⟩ := put_fin (k := n) (v := v) (rows := []) (But.of S0) (S0 _ _ h1) (fun t ht => S0 _ _ (h2 t ht)) h3 hq
      exact ⟨a, _, _, rfl, rfl, S1 _ _ (S0 _ _ h1), sz' (by simp), k _ b1 b2⟩
    | some t =>
      have et := snoc_of e
      have hm : t ∈ ts := List.mem_of_getLast? e
      have hemp : (ts.map fun t => V.ref t.1).isEmpty = false := by
        rw [et, List.map_append]
        simp
      rw [hemp]
      -- the last row
      have hl0 : rows.getLast?.map prV = some t.2 := by
        rw [← List.getLast?_map, ← h3, List.getLast?_map, e]
        rfl
      cases er : rows.getLast? with
      | none =>
        rw [er] at hl0
        cases hl0
      | some r =>
        rw [er] at hl0
        have hr2 : prV r = t.2 := Option.some.inj hl0
        have hrows := snoc_of er
        refine ⟨_, rfl, 1, rfl, a, _, _, _, rfl, rfl, SqL.of (S0 _ _ h1), by rw [et, List.map_append]; exact atI_last _ _, ?_⟩
        refine ⟨t.1, t.2, 0, .int r.1, rfl, rfl, SqT.of (S0 _ _ (h2 t hm)), by rw [← hr2]; rfl, ?_⟩
        refine ⟨_, rfl, rfl, _, rfl, ?_⟩
        by_cases c : V.int r.1 = V.int n
        · refine ifd c ?_
          have c2 : r.1 = n := by injection c
          refine ⟨_, rfl, .inl ⟨rfl, _, SqL.of (S0 _ _ h1)⟩, a, _, .ref t.1, rfl, rfl, S0 _ _ h1, ?_, ?_⟩
          · have z : (ts.map fun t => V.ref t.1).getLast? = some (V.ref t.1) := by
              rw [List.getLast?_map, e]
              rfl
            rwa [List.getLast?_eq_getElem?] at z
          · have hd : (ts.map fun t => V.ref t.1).dropLast = ts.dropLast.map fun t => V.ref t.1 := by rw [List.map_dropLast]
            rw [hd]
            generalize hH1 : upd (upd H p (.lst [])) a (.lst (ts.dropLast.map fun t => V.ref t.1)) = H1
            have a1 : H1 a = some (.lst (ts.dropLast.map fun t => V.ref t.1)) := by rw [← hH1, upd_same]
            have b1 : But a H H1 := by
              rw [← hH1]
              exact (But.of S0).trans But.upd
            have t1 : ∀ t ∈ ts.dropLast, H1 t.1 = some (.tup t.2) := fun t ht => b1 _ _ (ne_of (h2 t ((List.dropLast_sublist _).subset ht)) h1 (fun z => nomatch z)) (h2 t ((List.dropLast_sublist _).subset ht))
            refine ⟨_, rfl, .inl ⟨rfl, _, SqL.of a1⟩, _, rfl, _, rfl, by show 2 ≤ sizeLine; decide, fun q hq => ?_⟩
            have S1 := Same.new (o := .tup [.int n, v]) hq
            have h3' : ts.dropLast.map (·.2) = rows.dropLast.map prV := by
              rw [List.map_dropLast, h3, ← List.map_dropLast]
            obtain ⟨b2, b3⟩ := put_fin (k := n) (v := v) b1 a1 t1 h3' hq
            refine ⟨a, _, _, rfl, rfl, S1 _ _ a1, sz' (by rw [List.length_map, List.length_dropLast]; omega), k _ b2 ?_⟩
            have ep : putDown rows n v = rows.dropLast ++ [(n, v)] := by
              unfold putDown
              rw [er, if_pos (show (some r).map (·.1) = some n from congrArg some c2)]
            rw [ep]
            exact b3
        · refine ifn c ?_
          have c2 : r.1 ≠ n := fun z => c (by rw [z])
          refine ⟨_, rfl, .inl ⟨rfl, _, SqL.of (S0 _ _ h1)⟩, _, rfl, _, rfl, by show 2 ≤ sizeLine; decide, fun q hq => ?_⟩
          have S1 := Same.new (o := .tup [.int n, v]) hq
          obtain ⟨b2, b3⟩ := put_fin (k := n) (v := v) (But.of S0) (S0 _ _ h1) (fun t ht => S0 _ _ (h2 t ht)) h3 hq
          refine ⟨a, _, _, rfl, rfl, S1 _ _ (S0 _ _ h1), sz' (by rw [List.length_map]; omega), k _ b2 ?_⟩
          have ep : putDown rows n v = rows ++ [(n, v)] := by
            unfold putDown
            rw [er, if_neg (show ¬ (some r).map (·.1) = some n from fun z => c2 (Option.some.inj z))]
          rw [ep]
          exact b3

def spLastTold : Sp := fun vs H Q _ => ∃ (a : Addr) (kn : Option Int) (rows : List (Int × V)), vs = [.ref a, knV kn] ∧ Tups H a (rows.map prV) ∧ ∀ H', Same H H' → Q (lastTold .non rows kn) H'
theorem scLastTold : FnScope ["rows", "known", "found", "told_on", "worth"] ["rows", "known"] (defScope sLastTold) :=
  ⟨rfl, rfl, rfl, by decide +kernel, rfl, by decide +kernel, by decide +kernel⟩
theorem lastTold_take {α : Type} (d : α) (rows : List (Int × α)) (kn : Option Int) {i : Nat} {r : Int × α} (h : rows[i]? = some r) : lastTold d (rows.take (i + 1)) kn = if okK kn r.1 = true then r.2 else lastTold d (rows.take i) kn := by
  rw [List.take_add_one, h]
  exact lastTold_snoc d (rows.take i) r.1 r.2 kn
theorem cal_lastTold (T : TX K mg) : Cal P w K mg base 1 "last_told" ["rows", "known"] [] spLastTold := by
  obtain ⟨fd, F⟩ := T.dLastTold
  refine Cal.of F T.gLastTold (FunD.bindsN F fun _ _ _ _ _ _ us hl => match us, hl with | [_, _], _ => rfl) .nil ?_
  refine F.ok scLastTold (fun vs H Q E h => ?_) (fun cdv A outer s H vs Q E hr h => ?_)
  · obtain ⟨a, n, r, rfl, _⟩ := h
    rfl
  · obtain ⟨a, kn, rows, rfl, ⟨ts, h1, h2, h3⟩, k⟩ := h
    refine ⟨_, PSs.nox (pss_cons (ps_set (i := 2) scLastTold.nd rfl (by first | exact Or.inl rfl | exact Or.inr rfl) pe_non)
      (pss_cons (ps_for PassesOwn.never rfl (pi_list (pv 0)) (pg_tup (by rfl) (pgs_cons (pg_name (i := 3) scLastTold.nd rfl (by first | exact Or.inl rfl | exact Or.inr rfl)) (pgs_cons (pg_name (i := 4) scLastTold.nd rfl (by first | exact Or.inl rfl | exact Or.inr rfl)) pgs_nil)))
        (pss_one (ps_if (PW.pt (pw_or (pt_cmpR op_isN (pv 1) pe_non (nomark _)) (pw_or1 (pt_cmpR op_le (pv 3) (pv 1) (nomark _))))) (pss_one (ps_set (i := 2) scLastTold.nd rfl (by first | exact Or.inl rfl | exact Or.inr rfl) (pv 4))) pss_nil)))
      (pss_one (ps_ret (pv 2))))), ?_⟩
    have hts : ts.length = rows.length := by
      have := congrArg List.length h3
      rwa [List.length_map, List.length_map] at this
    refine ⟨_, rfl, a, rfl, ⟨_, SqL.of h1⟩, for_it (walk_list (K := K) (a := a) (xs := ts.map fun t => V.ref t.1)) (fun i σ H1 => Same H H1 ∧ ∃ v3 v4, σ = [some (.ref a), some (knV kn), some (lastTold .non (rows.take i) kn), v3, v4])
      ⟨Same.refl H, none, none, rfl⟩ (fun i σ H1 _ p => SqL.of (p.1 _ _ h1)) ?_ ?_⟩
    · rintro i x σ H1 H2 hi ⟨S, v3, v4, rfl⟩ ⟨rfl, hx⟩
      obtain ⟨t, ht, rfl, hm⟩ := Tups.at_ hx
      have hlt : i < rows.length := by rw [List.length_map] at hi; omega
      have er : rows[i]? = some rows[i] := List.getElem?_eq_getElem hlt
      have e2 : prV rows[i] = t.2 := by
        have z : (ts.map (·.2))[i]? = some t.2 := by
          rw [List.getElem?_map, ht]
          rfl
        rw [h3, List.getElem?_map, er] at z
        exact Option.some.inj z
      refine ⟨t.1, _, rfl, SqT.of (S _ _ (h2 t hm)), by rw [← e2]; rfl, _, _, e2.symm, _, _, rfl, rfl, ?_⟩
      have el := lastTold_take V.non rows kn er
      cases kn with
      | none =>
        refine ⟨_, rfl, rfl, _, rfl, ?_⟩
        refine ⟨_, rfl, S, some (.int rows[i].1), some rows[i].2, ?_⟩
        rw [el]
        rfl
      | some n =>
        refine ⟨_, rfl, rfl, _, rfl, ?_⟩
        refine ⟨_, rfl, _, rfl, _, _, rfl, rfl, _, rfl, ?_⟩
        by_cases c : rows[i].1 ≤ n
        · refine ifd c ⟨_, rfl, S, some (.int rows[i].1), some rows[i].2, ?_⟩
          rw [el, if_pos (show okK (some n) rows[i].1 = true from decide_eq_true c)]
          rfl
        · refine ifn c ⟨S, some (.int rows[i].1), some rows[i].2, ?_⟩
          rw [el, if_neg (show ¬ okK (some n) rows[i].1 = true from fun z => c (of_decide_eq_true z))]
          rfl
    · rintro σ H1 ⟨S, v3, v4, rfl⟩
      refine ⟨_, rfl, ?_⟩
      rw [List.length_map, hts, List.take_length]
      exact k H1 S
end
end K76
namespace K76
open PySem PySem.Spec PyProof.Rows L2
/-! ### a book in the heap -/
def bfs (r m l : Addr) (t : Option Int) : List (Str × V) := putF "told_last" (knV t) (putF "landings_told" (.ref l) (putF "moves_told" (.ref m) (putF "own_ranks" (.ref r) [])))
theorem ne_om : ¬ ("own_ranks" : Str) = "moves_told" := by decide +kernel
theorem ne_ol : ¬ ("own_ranks" : Str) = "landings_told" := by decide +kernel
theorem ne_ot : ¬ ("own_ranks" : Str) = "told_last" := by decide +kernel
theorem ne_ml : ¬ ("moves_told" : Str) = "landings_told" := by decide +kernel
theorem ne_mt : ¬ ("moves_told" : Str) = "told_last" := by decide +kernel
theorem ne_lt : ¬ ("landings_told" : Str) = "told_last" := by decide +kernel
theorem bfs_own (r m l : Addr) (t : Option Int) : (bfs r m l t).lookup ("own_ranks" : Str) = some (V.ref r) := by
  unfold bfs
  rw [lookup_putF, if_neg ne_ot, lookup_putF, if_neg ne_ol, lookup_putF, if_neg ne_om, lookup_putF, if_pos rfl]
theorem bfs_moves (r m l : Addr) (t : Option Int) : (bfs r m l t).lookup ("moves_told" : Str) = some (V.ref m) := by
  unfold bfs
  rw [lookup_putF, if_neg ne_mt, lookup_putF, if_neg ne_ml, lookup_putF, if_pos rfl]
theorem bfs_land (r m l : Addr) (t : Option Int) : (bfs r m l t).lookup ("landings_told" : Str) = some (V.ref l) := by
  unfold bfs
  rw [lookup_putF, if_neg ne_lt, lookup_putF, if_pos rfl]
theorem bfs_last (r m l : Addr) (t : Option Int) : (bfs r m l t).lookup ("told_last" : Str) = some (knV t) := by
  unfold bfs
  rw [lookup_putF, if_pos rfl]
theorem bfs_no (r m l : Addr) (t : Option Int) {x : Str} (h1 : ¬ x = "told_last") (h2 : ¬ x = "landings_told") (h3 : ¬ x = "moves_told") (h4 : ¬ x = "own_ranks") : (bfs r m l t).lookup x = none := by
  unfold bfs
  rw [lookup_putF, if_neg h1, lookup_putF, if_neg h2, lookup_putF, if_neg h3, lookup_putF, if_neg h4]
  rfl
theorem putF_putF (f : Str) (u v : V) : ∀ fs : List (Str × V), putF f v (putF f u fs) = putF f v fs
  | [] => by
    show (if f = f then [(f, v)] else _) = _
    rw [if_pos rfl]
    rfl
  | (g, x) :: r => by
    show putF f v (if g = f then (g, u) :: r else (g, x) :: putF f u r) = (if g = f then (g, v) :: r else (g, x) :: putF f v r)
    by_cases h : g = f
    · rw [if_pos h, if_pos h]
      show (if g = f then (g, v) :: r else _) = _
      rw [if_pos h]
    · rw [if_neg h, if_neg h]
      show (if g = f then _ else (g, x) :: putF f v (putF f u r)) = _
      rw [if_neg h, putF_putF f u v r]
theorem bfs_put (r m l : Addr) (t t2 : Option Int) : putF "told_last" (knV t2) (bfs r m l t) = bfs r m l t2 := putF_putF _ _ _ _
theorem bfs_len (r m l : Addr) (t : Option Int) : (bfs r m l t).length < 1000 := by
  unfold bfs
  have h1 := length_putF "own_ranks" (.ref r) []
  have h2 := length_putF "moves_told" (.ref m) (putF "own_ranks" (.ref r) [])
  have h3 := length_putF "landings_told" (.ref l) (putF "moves_told" (.ref m) (putF "own_ranks" (.ref r) []))
  have h4 := length_putF "told_last" (knV t) (putF "landings_told" (.ref l) (putF "moves_told" (.ref m) (putF "own_ranks" (.ref r) [])))
  simp only [List.length_nil] at h1
  omega
def mvV : Option Str → V
  | none => .non
  | some x => .str x
theorem mv_flat {p : Option Str} (h : PlaceOk p) : flatB (mvV p) = true := by
  cases p with
  | none => rfl
  | some x =>
    show PyData.strOk x = true
    rcases h x rfl with q | q
    · rw [q]
      decide +kernel
    · unfold PyData.strOk
      rw [Array.all_eq_true_iff_forall_mem]
      intro c hc
      have := q.low c (by simpa using hc)
      exact decide_eq_true (by omega)
abbrev keyK (k : Str × Int) : List L2.Key := [.inr k.1, .inl k.2]
theorem keyK_inj {a b : Str × Int} (h : keyK a = keyK b) : a = b := by
  obtain ⟨a1, a2⟩ := a
  obtain ⟨b1, b2⟩ := b
  injection h with h1 h2
  injection h1 with h1
  injection h2 with h2 _
  injection h2 with h2
  exact Prod.ext h1 h2
abbrev Ent := (Str × Int) × Addr × List (Int × Option Str)
abbrev entV (e : Ent) : List L2.Key × V := (keyK e.1, .ref e.2.1)
def mvP (r : Int × Option Str) : Int × V := (r.1, mvV r.2)
structure BookP (H : Hp) (CB b dx r m l : Addr) (kvs : List (L2.Key × V)) (es : List Ent) (t : Option Int) : Prop where
  ins : H b = some (.ins CB dx (bfs r m l t))
  rk : H r = some (.dK kvs)
  mv : H m = some (.dT (es.map entV))
  rows : ∀ e ∈ es, Tups H e.2.1 ((e.2.2.map mvP).map prV)
  nd : (es.map (·.2.1)).Nodup
  ml : m ≠ l
  ld : ∃ ls, H l = some (.dT ls)
def entM (e : Ent) : (Str × Int) × List (Int × Option Str) := (e.1, e.2.2)
/-- a book stands at b: for who reads it -/
def BookS (H : Hp) (CB b : Addr) (kvs : List (L2.Key × V)) (M : MT) (t : Option Int) : Prop := ∃ dx r m l es, BookP H CB b dx r m l kvs es t ∧ M = es.map entM
/-- .. and its own things are none of H0's; e: no landing is told -/
def BookO (H0 H : Hp) (CB b : Addr) (kvs : List (L2.Key × V)) (M : MT) (t : Option Int) (e : Bool) : Prop := Same H0 H ∧ ∃ dx r m l es, BookP H CB b dx r m l kvs es t ∧ M = es.map entM ∧
  (H0 b = none ∧ H0 m = none ∧ H0 l = none ∧ H0 r = none ∧ ∀ x ∈ es, H0 x.2.1 = none) ∧ (e = true → H l = some (.dT []))
theorem BookO.s {H0 H : Hp} {CB b : Addr} {kvs : List (L2.Key × V)} {M : MT} {t : Option Int} {e : Bool} (h : BookO H0 H CB b kvs M t e) : BookS H CB b kvs M t := by
  obtain ⟨_, dx, r, m, l, es, h1, h2, _⟩ := h
  exact ⟨dx, r, m, l, es, h1, h2⟩
theorem BookP.mono {H H' : Hp} (s : Same H H') {CB b dx r m l : Addr} {kvs : List (L2.Key × V)} {es : List Ent} {t : Option Int} (h : BookP H CB b dx r m l kvs es t) : BookP H' CB b dx r m l kvs es t :=
  ⟨s _ _ h.ins, s _ _ h.rk, s _ _ h.mv, fun e he => (h.rows e he).mono s, h.nd, h.ml, h.ld.elim fun ls q => ⟨ls, s _ _ q⟩⟩
theorem BookS.mono {H H' : Hp} (s : Same H H') {CB b : Addr} {kvs : List (L2.Key × V)} {M : MT} {t : Option Int} (h : BookS H CB b kvs M t) : BookS H' CB b kvs M t := by
  obtain ⟨dx, r, m, l, es, h1, h2⟩ := h
  exact ⟨dx, r, m, l, es, h1.mono s, h2⟩
theorem find_ent (key : Str × Int) : ∀ es : List Ent, valV (es.map entV) (keyK key) = (es.find? fun e => decide (e.1 = key)).map fun e => V.ref e.2.1
  | [] => rfl
  | e :: es => by
    rw [List.map_cons, List.find?_cons]
    by_cases h : e.1 = key
    · rw [valV_pos (by show keyK e.1 = keyK key; rw [h]), decide_eq_true h]
      rfl
    · rw [valV_neg (fun q => h (keyK_inj q)), decide_eq_false h]
      exact find_ent key es
theorem find_entM (key : Str × Int) : ∀ es : List Ent, valM (es.map entM) key = (es.find? fun e => decide (e.1 = key)).map fun e => e.2.2
  | [] => rfl
  | e :: es => by
    rw [List.map_cons, List.find?_cons, valM_cons]
    by_cases h : e.1 = key
    · rw [if_pos (show (entM e).1 = key from h), decide_eq_true h]
      rfl
    · rw [if_neg (show ¬ (entM e).1 = key from h), decide_eq_false h]
      exact find_entM key es
section
variable {P : Program} {w : World} {K : PySem.W.Frag} {mg : Str → Option Value} {base : Heap}
/-- names with ranks -/
def RanksOk (kvs : List (L2.Key × V)) : Prop := kvs.length ≤ 30 ∧ ∀ kv ∈ kvs, ∃ (x : Str) (n : Int), kv = (.inr x, .int n) ∧ IsName x ∧ 1 ≤ n ∧ n ≤ 9
def spWantRanks : Sp := fun vs H Q _ => ∃ (d : Addr) (kvs : List (L2.Key × V)), vs = [.ref d] ∧ H d = some (.dK kvs) ∧ RanksOk kvs ∧ ∀ H', Same H H' → Q .non H'
theorem scWantRanks : FnScope ["thing", "name", "rank"] ["thing"] (defScope sWantRanks) :=
  ⟨rfl, rfl, rfl, by decide +kernel, rfl, by decide +kernel, by decide +kernel⟩
theorem cal_wantRanks (T : TX K mg) : Cal P w K mg base 3 "want_ranks" ["thing"] [] spWantRanks := by
  obtain ⟨fd, F⟩ := T.dWantRanks
  obtain ⟨t30, c30⟩ := T.cMostKeepers
  have c1 : Cal P w K mg base 1 "is_name" ["thing"] [] spIsName := cal_isName T
  have c2 : Cal P w K mg base 2 "is_rank" ["thing"] [] spIsRank := cal_isRank T
  refine Cal.of F T.gWantRanks (FunD.bindsN F fun _ _ _ _ _ _ us hl => match us, hl with | [_], _ => rfl) .nil ?_
  refine F.ok scWantRanks (fun vs H Q E h => ?_) (fun cdv A outer s H vs Q E hr h => ?_)
  · obtain ⟨a, n, rfl, _⟩ := h
    rfl
  · obtain ⟨d, kvs, rfl, hd, ⟨hlen, hall⟩, k⟩ := h
    refine ⟨_, PSs.nox (pss_cons (ps_if (PW.pt (pw_or (pt_not (pt_val (pe_callB call_isi (by rfl) T.f_isinstance (by decide +kernel) (pa_cons (pv 0) (pa_cons (pe_bltn (v := .ty "dict") (u := .type "dict") (by rfl) T.f_dict (by decide +kernel) rfl) pa_nil))))) (pw_or1 (pt_cmpR op_gt (pe_callB call_lenD (by rfl) T.f_len (by decide +kernel) (pa_cons (pv 0) pa_nil)) (pe_glob (v := .int 30) rfl c30 ⟨_, rfl⟩) (nomark _))))) (pss_one ps_never) pss_nil)
      (pss_one (ps_if (pt_not (pt_val (pe_callB (cr_all rfl) (by rfl) T.f_all (by decide +kernel) (pa_cons (pe_lock (pe_lc (g := gTup K 2 (gCons (gName 1) (gCons (gName 2) gNil))) (own := [("name", 1), ("rank", 2)]) rfl scWantRanks.nd (pi_items (pv 0)) (blkOk_by (own := [("name", 1), ("rank", 2)]) (N := ["thing", "name", "rank"]) (sc := defScope sWantRanks) (by decide +kernel)) (fun _ _ _ _ _ => (pg_tup (by rfl) (pgs_cons (pg_name (i := 1) scWantRanks.nd rfl (by first | exact Or.inl rfl | exact Or.inr rfl)) (pgs_cons (pg_name (i := 2) scWantRanks.nd rfl (by first | exact Or.inl rfl | exact Or.inr rfl)) pgs_nil)))) (fun _ _ _ _ _ => pts_nil) (fun _ _ _ _ _ => (pe_and (pe_cal c1 hr (pa_cons (pv 1) pa_nil)) (pe_one (pe_cal c2 hr (pa_cons (pv 2) pa_nil))))))) pa_nil)))) (pss_one ps_never) pss_nil))), ?_⟩
    refine ⟨_, rfl, _, _, _, _, true, rfl, .ty "dict", .base (.dK hd), kit_ty (by decide +kernel), true, rfl, ?_⟩
    refine ⟨_, rfl, d, kvs, rfl, hd, _, _, rfl, rfl, _, rfl, ifn (by omega) ?_⟩
    refine ⟨d, _, hd, trivial, fun od => ?_⟩
    have hdl : upd H d (.frz od (.dK kvs)) d = some (.frz od (.dK kvs)) := upd_same
    refine ⟨_, rfl, d, od, kvs, rfl, hdl, fun D hD => lc_it walk_items (fun i H1 => Same (upd H d (.frz od (.dK kvs))) H1 ∧ H1 D = some (.lst ((List.replicate i true).map V.bl))) ⟨Same.new hD, upd_same⟩ (fun i H1 _ p => p.1 _ _ hdl) ?_ ?_⟩
    · rintro i v H1 H2 hi ⟨S, hl⟩ ⟨t, x, y, rfl, ht, rfl, hx, hy⟩
      have er : kvs[i]? = some kvs[i] := List.getElem?_eq_getElem hi
      replace hx : Option.map (fun kv : L2.Key × V => kV kv.1) kvs[i]? = some x := hx
      replace hy : Option.map (fun kv : L2.Key × V => kv.2) kvs[i]? = some y := hy
      rw [er] at hx hy
      obtain ⟨nm, n, e, h1, h2, h3⟩ := hall kvs[i] (List.getElem_mem hi)
      rw [e] at hx hy
      obtain rfl : V.str nm = x := Option.some.inj hx
      obtain rfl : V.int n = y := Option.some.inj hy
      refine ⟨t, _, rfl, SqT.of upd_same, rfl, _, _, rfl, _, _, rfl, rfl, ?_⟩
      refine ⟨rfl, _, rfl, nm, rfl, h1, fun H3 S3 => ⟨true, rfl, ?_⟩⟩
      refine ⟨_, rfl, n, rfl, h2, h3, fun H4 S4 => ?_⟩
      have S5 : Same H1 H4 := ((Same.new ht).trans S3).trans S4
      refine ⟨_, S5 _ _ hl, by rw [List.length_map, List.length_replicate]; exact sz' (by omega), Same.mut (S.trans S5) hD, ?_⟩
      rw [upd_same, List.replicate_succ', List.map_append]
      rfl
    · rintro H1 ⟨S, hl⟩
      refine ⟨S _ _ hdl, ?_⟩
      have hDd : D ≠ d := fun e => by
        rw [e, upd_same] at hD
        cases hD
      refine ⟨D, List.replicate kvs.length true, rfl, SqL.of (by rw [upd_ne hDd]; exact hl), ?_⟩
      have e : (List.replicate kvs.length true).all id = true := by simp
      rw [e]
      refine ⟨true, rfl, k _ fun b o hb => ?_⟩
      by_cases hbd : b = d
      · rw [hbd] at hb ⊢
        rw [hd] at hb
        rw [upd_same]
        exact hb
      · rw [upd_ne hbd]
        exact S _ _ (by rw [upd_ne hbd]; exact hb)
end
end K76
namespace K76
open PySem PySem.Spec PyProof.Rows L2
theorem Mal.of {P : Program} {w : World} {K : PySem.W.Frag} {mg : Str → Option Value} {base : Heap} {k : Nat} {C m : Str} {ps : List Str} {dvs : List V} {ds : List Value} {sp : Sp} {fd : FuncData}
    (me : Meth K (He.ga K C) m (He.ma K (He.ga K C) m)) (cl : Cls K (He.ga K C)) (hb : Binds K fd ps ds) (hd : Vals dvs ds) (G : FnOk P w K mg base CX0 k (He.ma K (He.ga K C) m) fd ps sp) : Mal P w K mg base k C m ps dvs sp :=
  ⟨⟨fd, ds, G, hb, hd⟩, me, cl⟩
theorem Mak.of {P : Program} {w : World} {K : PySem.W.Frag} {mg : Str → Option Value} {base : Heap} {k : Nat} {C : Str} {ps : List Str} {dvs : List V} {ds : List Value} {sp : Sp} {fd : FuncData}
    (mk : Mk K (He.ga K C) (He.ma K (He.ga K C) "__init__")) (gl : mg C = some (.ref (He.ga K C))) (hb : Binds K fd ps ds) (hd : Vals dvs ds) (G : FnOk P w K mg base CX0 k (He.ma K (He.ga K C) "__init__") fd ps sp) : Mak P w K mg base k C ps dvs sp :=
  ⟨⟨fd, ds, G, hb, hd⟩, mk, gl⟩
theorem hu1 {k : Nat} {A : Around} (hr : Room k A) : A.units + 1 < cLine := by
  have := hr.units
  omega
/-- dict(d) -/
theorem call_dcp {X : Cx} : CallR X (.type "dict") (fun xs H Q => ∃ (a : Addr) (kvs : List (L2.Key × V)), xs = [.ref a] ∧ H a = some (.dK kvs) ∧ ∀ p, H p = none → Q (.ref p) (upd H p (.dK kvs))) := by
  intro pins s σ H xs us Q I r q
  obtain ⟨a, kvs, rfl, e, q⟩ := q
  cases r with
  | cons h t =>
    cases t
    cases h
    exact d_copyOf I (.inl e) fun p s' hp I' => ⟨.ref p, _, I', rfl, q p hp⟩

/-! ### what telling does to the heap -/
theorem Tups.but {H H' : Hp} {a b : Addr} {vs : List (List V)} {xs : List V} (s : But a H H') (ha : H a = some (.lst xs)) (n : b ≠ a) (h : Tups H b vs) : Tups H' b vs := by
  obtain ⟨ts, h1, h2, h3⟩ := h
  exact ⟨ts, s _ _ n h1, fun t ht => s _ _ (ne_of (h2 t ht) ha (fun z => nomatch z)) (h2 t ht), h3⟩
theorem Tups.at_lst {H : Hp} {b : Addr} {vs : List (List V)} (h : Tups H b vs) : ∃ xs, H b = some (.lst xs) := by
  obtain ⟨ts, h1, _⟩ := h
  exact ⟨_, h1⟩
theorem putDown_mv (rows : List (Int × Option Str)) (k : Int) (p : Option Str) : putDown (rows.map mvP) k (mvV p) = (putDown rows k p).map mvP := by
  unfold putDown
  have e : ((rows.map mvP).getLast?.map (·.1)) = rows.getLast?.map (·.1) := by
    rw [List.getLast?_map, Option.map_map]
    rfl
  rw [e]
  by_cases c : rows.getLast?.map (·.1) = some k
  · rw [if_pos c, if_pos c, List.map_append, List.map_dropLast]
    rfl
  · rw [if_neg c, if_neg c, List.map_append]
    rfl
def putE (key : Str × Int) (k : Int) (p : Option Str) (e : Ent) : Ent := if e.1 = key then (e.1, e.2.1, putDown e.2.2 k p) else e
theorem putE_key (key : Str × Int) (k : Int) (p : Option Str) (e : Ent) : (putE key k p e).1 = e.1 ∧ (putE key k p e).2.1 = e.2.1 := by
  unfold putE
  by_cases c : e.1 = key
  · rw [if_pos c]
    exact ⟨rfl, rfl⟩
  · rw [if_neg c]
    exact ⟨rfl, rfl⟩
theorem putE_entV (key : Str × Int) (k : Int) (p : Option Str) (es : List Ent) : (es.map (putE key k p)).map entV = es.map entV := by
  rw [List.map_map]
  apply List.map_congr_left
  intro e _
  obtain ⟨h1, h2⟩ := putE_key key k p e
  show (keyK (putE key k p e).1, V.ref (putE key k p e).2.1) = _
  rw [h1, h2]
theorem putE_adr (key : Str × Int) (k : Int) (p : Option Str) (es : List Ent) : (es.map (putE key k p)).map (·.2.1) = es.map (·.2.1) := by
  rw [List.map_map]
  apply List.map_congr_left
  intro e _
  exact (putE_key key k p e).2
theorem nd_eq {α β : Type} {f : α → β} : ∀ {l : List α}, (l.map f).Nodup → ∀ {x y : α}, x ∈ l → y ∈ l → f x = f y → x = y
  | [], _, _, _, h, _, _ => nomatch h
  | a :: l, nd, x, y, hx, hy, e => by
    rw [List.map_cons, List.nodup_cons] at nd
    rcases List.mem_cons.mp hx with q | q <;> rcases List.mem_cons.mp hy with r | r
    · rw [q, r]
    · exact absurd (List.mem_map.mpr ⟨y, r, by rw [← e, q]⟩) nd.1
    · exact absurd (List.mem_map.mpr ⟨x, q, by rw [e, r]⟩) nd.1
    · exact nd_eq nd.2 q r e
theorem BookP.put {H H' : Hp} {CB b dx r m l : Addr} {kvs : List (L2.Key × V)} {es : List Ent} {t : Option Int} (h : BookP H CB b dx r m l kvs es t) (nk : (es.map (·.1)).Nodup) {e : Ent} (he : e ∈ es) {k : Int} {p : Option Str} (s : But e.2.1 H H')
    (hn : Tups H' e.2.1 ((putDown (e.2.2.map mvP) k (mvV p)).map prV)) : BookP H' CB b dx r m l kvs (es.map (putE e.1 k p)) t := by
  obtain ⟨xs, hxs⟩ := (h.rows e he).at_lst
  refine ⟨s _ _ (ne_of h.ins hxs (fun z => nomatch z)) h.ins, s _ _ (ne_of h.rk hxs (fun z => nomatch z)) h.rk, ?_, fun f hf => ?_, ?_, h.ml, h.ld.elim fun ls q => ⟨ls, s _ _ (ne_of q hxs (fun z => nomatch z)) q⟩⟩
  · rw [putE_entV]
    exact s _ _ (ne_of h.mv hxs (fun z => nomatch z)) h.mv
  · obtain ⟨g, hg, rfl⟩ := List.mem_map.mp hf
    by_cases c : g.1 = e.1
    · have ge : g = e := nd_eq nk hg he c
      unfold putE
      rw [if_pos c, ge]
      show Tups H' e.2.1 (((putDown e.2.2 k p).map mvP).map prV)
      rw [← putDown_mv]
      exact hn
    · unfold putE
      rw [if_neg c]
      exact (h.rows g hg).but s hxs fun z => c (by rw [nd_eq h.nd hg he z])
  · rw [putE_adr]
    exact h.nd
theorem BookP.add {H : Hp} {CB b dx r m l p : Addr} {kvs : List (L2.Key × V)} {es : List Ent} {t : Option Int} {key : Str × Int} (h : BookP H CB b dx r m l kvs es t) (hp : H p = some (.lst [])) (np : ∀ e ∈ es, e.2.1 ≠ p) :
    BookP (upd H m (.dT ((es ++ [(key, p, [])]).map entV))) CB b dx r m l kvs (es ++ [(key, p, [])]) t := by
  have s : But m H (upd H m (.dT ((es ++ [(key, p, [])]).map entV))) := But.upd
  refine ⟨s _ _ (ne_of h.ins h.mv (fun z => nomatch z)) h.ins, s _ _ (ne_of h.rk h.mv (fun z => nomatch z)) h.rk, upd_same, fun f hf => ?_, ?_, h.ml, h.ld.elim fun ls q => ⟨ls, s _ _ h.ml.symm q⟩⟩
  · rcases List.mem_append.mp hf with q | q
    · obtain ⟨ts, h1, h2, h3⟩ := h.rows f q
      exact ⟨ts, s _ _ (ne_of h1 h.mv (fun z => nomatch z)) h1, fun t ht => s _ _ (ne_of (h2 t ht) h.mv (fun z => nomatch z)) (h2 t ht), h3⟩
    · have ef : f = (key, p, []) := by simpa using q
      rw [ef]
      exact Tups.nil (s _ _ (ne_of hp h.mv (fun z => nomatch z)) hp)
  · rw [List.map_append, List.nodup_append]
    refine ⟨h.nd, by simp, fun a ha c hc => ?_⟩
    obtain ⟨e, he, rfl⟩ := List.mem_map.mp ha
    have ec : c = p := by simpa using hc
    rw [ec]
    exact np e he
theorem BookP.last {H : Hp} {CB b dx r m l : Addr} {kvs : List (L2.Key × V)} {es : List Ent} {t : Option Int} (h : BookP H CB b dx r m l kvs es t) (t2 : Option Int) :
    BookP (upd H b (.ins CB dx (putF "told_last" (knV t2) (bfs r m l t)))) CB b dx r m l kvs es t2 := by
  have s : But b H (upd H b (.ins CB dx (putF "told_last" (knV t2) (bfs r m l t)))) := But.upd
  refine ⟨by rw [upd_same, bfs_put], s _ _ (ne_of h.rk h.ins (fun z => nomatch z)) h.rk, s _ _ (ne_of h.mv h.ins (fun z => nomatch z)) h.mv, fun f hf => ?_, h.nd, h.ml, h.ld.elim fun ls q => ⟨ls, s _ _ (ne_of q h.ins (fun z => nomatch z)) q⟩⟩
  obtain ⟨ts, h1, h2, h3⟩ := h.rows f hf
  exact ⟨ts, s _ _ (ne_of h1 h.ins (fun z => nomatch z)) h1, fun t ht => s _ _ (ne_of (h2 t ht) h.ins (fun z => nomatch z)) (h2 t ht), h3⟩
/-- the places in a book -/
def MPl (M : MT) : Prop := ∀ e ∈ M, ∀ r ∈ e.2, PlaceOk r.2
theorem MPl.tell {M : MT} (h : MPl M) {key : Str × Int} {k : Int} {x : Option Str} (hx : PlaceOk x) : MPl (tellM M key k x) := by
  intro e he r hr
  rcases tellM_mem he with q | ⟨q, l, q1, q2⟩
  · exact h e q r hr
  · rw [q2] at hr
    have hr2 : r ∈ l ∨ r = (k, x) := by
      unfold putDown at hr
      by_cases c : l.getLast?.map (·.1) = some k
      · rw [if_pos c] at hr
        rcases List.mem_append.mp hr with z | z
        · exact .inl ((List.dropLast_sublist _).subset z)
        · exact .inr (by simpa using z)
      · rw [if_neg c] at hr
        rcases List.mem_append.mp hr with z | z
        · exact .inl z
        · exact .inr (by simpa using z)
    rcases hr2 with z | z
    · rcases q1 with y | y
      · rw [y] at z
        cases z
      · exact h _ y r z
    · rw [z]
      exact hx
section
variable {P : Program} {w : World} {K : PySem.W.Frag} {mg : Str → Option Value} {base : Heap}
def spBookInit (CB : Addr) : Sp := fun vs H Q _ => ∃ (x dx d : Addr) (kvs : List (L2.Key × V)) (H0 : Hp), vs = [.ref x, .ref d] ∧ H x = some (.ins CB dx []) ∧ H d = some (.dK kvs) ∧ RanksOk kvs ∧ Same H0 H ∧ H0 x = none ∧ ∀ H', BookO H0 H' CB x kvs [] none true → Q .non H'
theorem scBookInit : FnScope ["self", "ranks"] ["self", "ranks"] (defScope sBookInit) :=
  ⟨rfl, rfl, rfl, by decide +kernel, rfl, by decide +kernel, by decide +kernel⟩
theorem mak_book (T : TX K mg) : Mak P w K mg base 4 "Book" ["self", "ranks"] [] (spBookInit (He.ga K "Book")) := by
  obtain ⟨fd, F⟩ := T.dBookInit
  have c1 : Cal P w K mg base 3 "want_ranks" ["thing"] [] spWantRanks := cal_wantRanks T
  refine Mak.of T.mkBook T.gBook (FunD.bindsN F fun _ _ _ _ _ _ us hl => match us, hl with | [_, _], _ => rfl) .nil ?_
  refine F.ok scBookInit (fun vs H Q E h => ?_) (fun cdv A outer s H vs Q E hr h => ?_)
  · obtain ⟨x, dx, d, kvs, H0, rfl, _⟩ := h
    rfl
  · obtain ⟨x, dx, d, kvs, H0, rfl, hx, hd, hk, S0, nx, k⟩ := h
    refine ⟨_, PSs.nox (pss_cons (ps_expr (pe_cal c1 hr (pa_cons (pv 1) pa_nil)))
      (pss_cons (ps_fld (pv 0) (pe_callTy call_dcp (by rfl) T.f_dict (by decide +kernel) (pa_cons (pv 1) pa_nil)) rfl)
      (pss_cons (ps_fld (pv 0) pe_dnewT rfl)
      (pss_cons (ps_fld (pv 0) pe_dnewT rfl)
      (pss_one (ps_fld (pv 0) pe_non rfl)))))), ?_⟩
    refine ⟨_, rfl, d, kvs, rfl, hd, hk, fun H1 S1 => ?_⟩
    refine ⟨_, rfl, d, kvs, rfl, S1 _ _ hd, fun r hr => ?_⟩
    have x1 : H1 x = some (.ins (He.ga K "Book") dx []) := S1 _ _ hx
    have nxr : x ≠ r := ne_of_none x1 hr
    refine ⟨_, rfl, x, _, dx, [], rfl, by rw [upd_ne nxr]; exact x1, T.clBook, T.nBookOwnRanks, by decide, ?_⟩
    intro m hm
    have nmx : m ≠ x := fun z => by
      rw [z, upd_same] at hm
      cases hm
    rw [upd_ne nmx] at hm
    have nmr : m ≠ r := fun z => by
      rw [z, upd_same] at hm
      cases hm
    rw [upd_ne nmr] at hm
    refine ⟨_, rfl, x, _, dx, _, rfl, by rw [upd_ne nmx.symm, upd_same], T.clBook, T.nBookMovesTold, by have := length_putF "own_ranks" (.ref r) []; simp only [List.length_nil] at this; omega, ?_⟩
    intro l hl
    have nlx : l ≠ x := fun z => by
      rw [z, upd_same] at hl
      cases hl
    rw [upd_ne nlx] at hl
    have nlm : l ≠ m := fun z => by
      rw [z, upd_same] at hl
      cases hl
    rw [upd_ne nlm, upd_ne nlx] at hl
    have nlr : l ≠ r := fun z => by
      rw [z, upd_same] at hl
      cases hl
    rw [upd_ne nlr] at hl
    refine ⟨_, rfl, x, _, dx, _, rfl, by rw [upd_ne nlx.symm, upd_same], T.clBook, T.nBookLandingsTold, by
      have h1 := length_putF "own_ranks" (.ref r) []
      have h2 := length_putF "moves_told" (.ref m) (putF "own_ranks" (.ref r) [])
      simp only [List.length_nil] at h1
      omega, ?_⟩
    refine ⟨_, rfl, x, _, dx, _, rfl, by rw [upd_same], T.clBook, T.nBookToldLast, by
      have h1 := length_putF "own_ranks" (.ref r) []
      have h2 := length_putF "moves_told" (.ref m) (putF "own_ranks" (.ref r) [])
      have h3 := length_putF "landings_told" (.ref l) (putF "moves_told" (.ref m) (putF "own_ranks" (.ref r) []))
      simp only [List.length_nil] at h1
      omega, ?_⟩
    have SH1 : Same H0 H1 := S0.trans S1
    refine k _ ⟨fun a o ha => ?_, dx, r, m, l, [], ⟨?_, ?_, ?_, (fun _ z => nomatch z), List.nodup_nil, nlm.symm, ⟨[], ?_⟩⟩, rfl, ⟨nx, Same.none SH1 hm, Same.none SH1 hl, Same.none SH1 hr, (fun _ z => nomatch z)⟩, fun _ => ?_⟩
    · have a1 := SH1 _ _ ha
      have nax : a ≠ x := ne_of_none ha nx
      rw [upd_ne nax, upd_ne nax, upd_ne (ne_of_none a1 hl), upd_ne nax, upd_ne (ne_of_none a1 hm), upd_ne nax, upd_ne (ne_of_none a1 hr)]
      exact a1
    · rw [upd_same]
      rfl
    · rw [upd_ne nxr.symm, upd_ne nxr.symm, upd_ne nlr.symm, upd_ne nxr.symm, upd_ne nmr.symm, upd_ne nxr.symm, upd_same]
    · rw [upd_ne nmx, upd_ne nmx, upd_ne nlm.symm, upd_ne nmx, upd_same]
      rfl
    · rw [upd_ne nlx, upd_ne nlx, upd_same]
    · rw [upd_ne nlx, upd_ne nlx, upd_same]
def spWantKeeper (CB : Addr) : Sp := fun vs H Q _ => ∃ (b : Addr) (x : Str) (kvs : List (L2.Key × V)) (M : MT) (t : Option Int), vs = [.ref b, .str x] ∧ BookS H CB b kvs M t ∧ (valV kvs (.inr x)).isSome = true ∧ ∀ H', Same H H' → Q .non H'
theorem scBookWantKeeper : FnScope ["self", "thing"] ["self", "thing"] (defScope sBookWantKeeper) :=
  ⟨rfl, rfl, rfl, by decide +kernel, rfl, by decide +kernel, by decide +kernel⟩
theorem mal_wantKeeper (T : TX K mg) : Mal P w K mg base 1 "Book" "want_keeper" ["self", "thing"] [] (spWantKeeper (He.ga K "Book")) := by
  obtain ⟨fd, F⟩ := T.dBookWantKeeper
  refine Mal.of T.mBookWantKeeper T.clBook (FunD.bindsN F fun _ _ _ _ _ _ us hl => match us, hl with | [_, _], _ => rfl) .nil ?_
  refine F.ok scBookWantKeeper (fun vs H Q E h => ?_) (fun cdv A outer s H vs Q E hr h => ?_)
  · obtain ⟨b, x, kvs, M, t, rfl, _⟩ := h
    rfl
  · obtain ⟨b, x, kvs, M, t, rfl, ⟨dx, r, m, l, es, hb, _⟩, hs, k⟩ := h
    refine ⟨_, PSs.nox (pss_one (ps_if (PW.pt (pw_or (pt_not (pt_val (pe_callB call_isi (by rfl) T.f_isinstance (by decide +kernel) (pa_cons (pv 1) (pa_cons (pe_bltn (v := .ty "str") (u := .type "str") (by rfl) T.f_str (by decide +kernel) rfl) pa_nil))))) (pw_or1 (pt_cmp (pc_dnotin (hu1 hr) (pv 1) (pe_fld (pv 0) rfl)))))) (pss_one ps_never) pss_nil)), ?_⟩
    refine ⟨_, rfl, _, _, _, _, true, rfl, .ty "str", .base (.str x), kit_ty (by decide +kernel), true, rfl, ?_⟩
    refine ⟨_, rfl, _, rfl, b, _, dx, _, _, rfl, hb.ins, T.clBook, T.nBookOwnRanks, bfs_own r m l t, r, _, rfl, .inl ⟨kvs, .inr x, .inl hb.rk, rfl, rfl⟩, ?_⟩
    rw [hs]
    exact ⟨_, rfl, k H (Same.refl H)⟩
def spWantNotEarly (CB : Addr) : Sp := fun vs H Q _ => ∃ (b : Addr) (kn : Int) (kvs : List (L2.Key × V)) (M : MT) (t : Option Int), vs = [.ref b, .int kn] ∧ BookS H CB b kvs M t ∧ (∀ u, t = some u → u ≤ kn) ∧ ∀ H', Same H H' → Q .non H'
theorem scBookWantNotEarly : FnScope ["self", "known"] ["self", "known"] (defScope sBookWantNotEarly) :=
  ⟨rfl, rfl, rfl, by decide +kernel, rfl, by decide +kernel, by decide +kernel⟩
theorem mal_wantNotEarly (T : TX K mg) : Mal P w K mg base 1 "Book" "want_not_early" ["self", "known"] [] (spWantNotEarly (He.ga K "Book")) := by
  obtain ⟨fd, F⟩ := T.dBookWantNotEarly
  refine Mal.of T.mBookWantNotEarly T.clBook (FunD.bindsN F fun _ _ _ _ _ _ us hl => match us, hl with | [_, _], _ => rfl) .nil ?_
  refine F.ok scBookWantNotEarly (fun vs H Q E h => ?_) (fun cdv A outer s H vs Q E hr h => ?_)
  · obtain ⟨b, x, kvs, M, t, rfl, _⟩ := h
    rfl
  · obtain ⟨b, kn, kvs, M, t, rfl, ⟨dx, r, m, l, es, hb, _⟩, hs, k⟩ := h
    refine ⟨_, PSs.nox (pss_one (ps_if (PW.pt (pw_and (pt_cmpR op_notN (pe_fld (pv 0) rfl) pe_non (nomark _)) (pw_and1 (pt_cmpR op_lt (pv 1) (pe_fld (pv 0) rfl) (nomark _))))) (pss_one ps_never) pss_nil)), ?_⟩
    refine ⟨_, rfl, b, _, dx, _, _, rfl, hb.ins, T.clBook, T.nBookToldLast, bfs_last r m l t, ?_⟩
    cases t with
    | none => exact ⟨rfl, _, rfl, k H (Same.refl H)⟩
    | some u =>
      refine ⟨rfl, _, rfl, _, rfl, _, rfl, b, _, dx, _, _, rfl, hb.ins, T.clBook, T.nBookToldLast, bfs_last r m l _, _, _, rfl, rfl, _, rfl, ?_⟩
      have := hs u rfl
      exact ifn (by omega) (k H (Same.refl H))
end
end K76
namespace K76
open PySem PySem.Spec PyProof.Rows L2
theorem pe_by {X : Cx} {e : Expr} {t t2 : TE} (h : PE X e t) (i : ∀ σ H Q, t2 σ H Q → t σ H Q) : PE X e t2 := ⟨fun pins s σ H Q I q => h.run pins s σ H Q I (i σ H Q q)⟩
theorem pt_by {X : Cx} {e : Expr} {t t2 : TT} (h : PT X e t) (i : ∀ σ H Q, t2 σ H Q → t σ H Q) : PT X e t2 := ⟨fun pins s σ H Q I q => h.run pins s σ H Q I (i σ H Q q)⟩
theorem ps_by {X : Cx} {e : Stmt} {t t2 : TS} (h : PS X e t) (i : ∀ D σ H, t2 D σ H → t D σ H) : PS X e t2 := ⟨fun pins s σ H D I q => h.run pins s σ H D I (i D σ H q)⟩
theorem pss_by {X : Cx} {e : List Stmt} {t t2 : TS} (h : PSs X e t) (i : ∀ D σ H, t2 D σ H → t D σ H) : PSs X e t2 := ⟨fun pins s σ H D I q => h.run pins s σ H D I (i D σ H q)⟩
theorem lf_wk (r m l : Addr) (t : Option Int) : (bfs r m l t).lookup ("want_keeper" : Str) = none := bfs_no r m l t (by decide +kernel) (by decide +kernel) (by decide +kernel) (by decide +kernel)
theorem lf_wne (r m l : Addr) (t : Option Int) : (bfs r m l t).lookup ("want_not_early" : Str) = none := bfs_no r m l t (by decide +kernel) (by decide +kernel) (by decide +kernel) (by decide +kernel)
theorem lf_hm (r m l : Addr) (t : Option Int) : (bfs r m l t).lookup ("held_moves" : Str) = none := bfs_no r m l t (by decide +kernel) (by decide +kernel) (by decide +kernel) (by decide +kernel)
theorem lf_tell (r m l : Addr) (t : Option Int) : (bfs r m l t).lookup ("tell" : Str) = none := bfs_no r m l t (by decide +kernel) (by decide +kernel) (by decide +kernel) (by decide +kernel)
theorem lf_land (r m l : Addr) (t : Option Int) : (bfs r m l t).lookup ("land" : Str) = none := bfs_no r m l t (by decide +kernel) (by decide +kernel) (by decide +kernel) (by decide +kernel)
/-- the last: told_last is set -/
theorem BookO.fin {H0 H : Hp} {CB b dx r m l : Addr} {kvs : List (L2.Key × V)} {es : List Ent} {t : Option Int} {M : MT} {e : Bool} (s : Same H0 H) (h : BookP H CB b dx r m l kvs es t) (hM : M = es.map entM)
    (f : H0 b = none ∧ H0 m = none ∧ H0 l = none ∧ H0 r = none ∧ ∀ x ∈ es, H0 x.2.1 = none) (he : e = true → H l = some (.dT [])) (t2 : Option Int) :
    BookO H0 (upd H b (.ins CB dx (putF "told_last" (knV t2) (bfs r m l t)))) CB b kvs M t2 e :=
  ⟨Same.mut s f.1, dx, r, m, l, es, h.last t2, hM, f, fun q => by rw [upd_ne (ne_of (he q) h.ins (fun z => nomatch z))]; exact he q⟩
section
variable {P : Program} {w : World} {K : PySem.W.Frag} {mg : Str → Option Value} {base : Heap}
def spTell (CB : Addr) : Sp := fun vs H Q _ => ∃ (b : Addr) (kn : Int) (name : Str) (day : Int) (place : Option Str) (H0 : Hp) (kvs : List (L2.Key × V)) (M : MT) (t : Option Int) (e : Bool),
  vs = [.ref b, .int kn, .str name, .int day, mvV place] ∧ BookO H0 H CB b kvs M t e ∧ 0 ≤ kn ∧ 0 ≤ day ∧ (valV kvs (.inr name)).isSome = true ∧ PlaceOk place ∧ (∀ u, t = some u → u ≤ kn) ∧ MOk M 900 ∧ MPl M ∧
  ∀ H', BookO H0 H' CB b kvs (tellM M (name, day) kn place) (some kn) e → Q .non H'
theorem scBookTell : FnScope ["self", "known", "keeper", "day", "place"] ["self", "known", "keeper", "day", "place"] (defScope sBookTell) :=
  ⟨rfl, rfl, rfl, by decide +kernel, rfl, by decide +kernel, by decide +kernel⟩
/-- the test of a place -/
def tPlaceBad (i : Nat) : TT := fun σ H Q => ∃ p, σ[i]? = some (some (mvV p)) ∧ PlaceOk p ∧ ∀ H', Same H H' → Q false H'
theorem mal_tell (T : TX K mg) : Mal P w K mg base 3 "Book" "tell" ["self", "known", "keeper", "day", "place"] [] (spTell (He.ga K "Book")) := by
  obtain ⟨fd, F⟩ := T.dBookTell
  have c1 : Cal P w K mg base 2 "want_day" ["thing"] [] spWantDay := cal_wantDay T
  have c2 : Cal P w K mg base 2 "is_place" ["thing"] [] spIsPlace := cal_isPlace T
  have c3 : Cal P w K mg base 1 "put_down" ["rows", "known", "worth"] [] spPutDown := cal_putDown T
  obtain ⟨⟨fd4, ds4, G4, b4, d4⟩, me4, cl4⟩ : Mal P w K mg base 1 "Book" "want_keeper" ["self", "thing"] [] (spWantKeeper (He.ga K "Book")) := mal_wantKeeper T
  obtain ⟨⟨fd5, ds5, G5, b5, d5⟩, me5, cl5⟩ : Mal P w K mg base 1 "Book" "want_not_early" ["self", "known"] [] (spWantNotEarly (He.ga K "Book")) := mal_wantNotEarly T
  refine Mal.of T.mBookTell T.clBook (FunD.bindsN F fun _ _ _ _ _ _ us hl => match us, hl with | [_, _, _, _, _], _ => rfl) .nil ?_
  refine F.ok scBookTell (fun vs H Q E h => ?_) (fun cdv A outer s H vs Q E hr h => ?_)
  · obtain ⟨b, kn, name, day, place, H0, kvs, M, t, e, rfl, _⟩ := h
    rfl
  · obtain ⟨b, kn, name, day, place, H0, kvs, M, t, e, rfl, ⟨S0, dx, r, m, l, es, hb, rfl, fr, hl⟩, hkn, hday, hname, hplace, ht, hM, hP, k⟩ := h
    refine ⟨_, PSs.nox (pss_cons (ps_expr (pe_cal c1 hr (pa_cons (pv 1) pa_nil)))
      (pss_cons (ps_expr (pe_cal c1 hr (pa_cons (pv 3) pa_nil)))
      (pss_cons (ps_expr (pe_meth (pv 0) cl4 me4 G4 (hr.mono (by decide)) b4 d4 pass0 (pa_cons (pv 2) pa_nil)))
      (pss_cons (ps_if (pt_by (t2 := tPlaceBad 4) (PW.pt (pw_and (pt_cmpR op_notN (pv 4) pe_non (nomark _)) (pw_and1 (pt_not (pt_val (pe_cal c2 hr (pa_cons (pv 4) pa_nil))))))) (fun σ H Q q => by
          obtain ⟨p, hp, hok, q⟩ := q
          cases p with
          | none => exact ⟨_, hp, rfl, _, rfl, q _ (Same.refl _)⟩
          | some x => exact ⟨_, hp, rfl, _, rfl, _, hp, x, rfl, hok x rfl, fun H1 S1 => ⟨true, rfl, q _ S1⟩⟩)) (pss_one ps_never) pss_nil)
      (pss_cons (ps_expr (pe_meth (pv 0) cl5 me5 G5 (hr.mono (by decide)) b5 d5 pass0 (pa_cons (pv 1) pa_nil)))
      (pss_cons (ps_expr (pe_cal c3 hr (pa_cons (pe_dsetdT (hu1 hr) (pe_fld (pv 0) rfl) (pe_tup (pa_cons (pv 2) (pa_cons (pv 3) pa_nil))) (pe_lst pa_nil) ⟨rfl, rfl, rfl, rfl⟩) (pa_cons (pv 1) (pa_cons (pv 4) pa_nil)))))
      (pss_one (ps_fld (pv 0) (pv 1) rfl)))))))), ?_⟩
    refine ⟨_, rfl, kn, rfl, hkn, fun H1 S1 => ⟨_, rfl, day, rfl, hday, fun H2 S2 => ?_⟩⟩
    have S2' : Same H H2 := S1.trans S2
    have hb2 := hb.mono S2'
    refine ⟨_, rfl, b, dx, _, rfl, hb2.ins, lf_wk r m l t, _, rfl, b, name, kvs, _, t, rfl, ⟨dx, r, m, l, es, hb2, rfl⟩, hname, fun H3 S3 => ?_⟩
    refine ⟨place, rfl, hplace, fun H4 S4 => ?_⟩
    have S4' : Same H H4 := S2'.trans (S3.trans S4)
    have hb4 := hb.mono S4'
    refine ⟨_, rfl, b, dx, _, rfl, hb4.ins, lf_wne r m l t, _, rfl, b, kn, kvs, _, t, rfl, ⟨dx, r, m, l, es, hb4, rfl⟩, ht, fun H5 S5 => ?_⟩
    have S5' : Same H H5 := S4'.trans S5
    have hb5 := hb.mono S5'
    have sl2 : 2 ≤ sizeLine := by decide
    refine ⟨_, rfl, b, _, dx, _, _, rfl, hb5.ins, T.clBook, T.nBookMovesTold, bfs_moves r m l t, m, rfl, .inr ⟨_, .inl hb5.mv⟩, _, rfl, _, rfl, sl2, fun q hq => ?_⟩
    refine ⟨Nat.zero_le _, fun p hp => ?_⟩
    have S6 : Same H5 (upd (upd H5 q (.tup [.str name, .int day])) p (.lst [])) := (Same.new hq).trans (Same.new hp)
    have hp5 : H5 p = none := Same.none (Same.new hq) hp
    generalize hH6 : upd (upd H5 q (.tup [.str name, .int day])) p (.lst []) = H6 at S6
    have p6 : H6 p = some (.lst []) := by rw [← hH6, upd_same]
    have q6 : H6 q = some (.tup [.str name, .int day]) := by
      rw [← hH6, upd_ne (fun z => by rw [← z, upd_same] at hp; cases hp), upd_same]
    have S6' : Same H0 H6 := S0.trans (S5'.trans S6)
    have hb6 := hb5.mono S6
    have hlen : es.length ≤ 900 := by have := hM.len; rwa [List.length_map] at this
    have nk : (es.map (·.1)).Nodup := by
      have := hM.nd
      rw [List.map_map] at this
      exact this
    refine ⟨_, keyK (name, day), q, hb6.mv, rfl, q6, by rw [List.length_map]; exact sz' (by omega), fun v hv => ?_, fun hv => ?_⟩
    · -- told before
      rw [find_ent] at hv
      cases ef : es.find? fun e => decide (e.1 = (name, day)) with
      | none =>
        rw [ef] at hv
        cases hv
      | some f =>
        rw [ef] at hv
        obtain rfl : V.ref f.2.1 = v := Option.some.inj hv
        have hf : f ∈ es := List.mem_of_find?_eq_some ef
        have hk1 : f.1 = (name, day) := of_decide_eq_true (List.find?_some (p := fun e : Ent => decide (e.1 = (name, day))) ef)
        have hfl : f.2.2.length ≤ 900 := hM.rows (entM f) (List.mem_map.mpr ⟨f, hf, rfl⟩)
        refine ⟨_, rfl, _, rfl, f.2.1, kn, mvV place, f.2.2.map mvP, rfl, hb6.rows f hf, by rw [List.length_map]; omega, fun r hr => ?_, fun H7 B7 T7 => ?_⟩
        · obtain ⟨g, hg, rfl⟩ := List.mem_map.mp hr
          exact mv_flat (hP (entM f) (List.mem_map.mpr ⟨f, hf, rfl⟩) g hg)
        · have hb7 := hb6.put nk hf (p := place) B7 T7
          obtain ⟨xs, hxs⟩ := (hb6.rows f hf).at_lst
          refine ⟨_, rfl, _, rfl, b, _, dx, _, rfl, hb7.ins, T.clBook, T.nBookToldLast, bfs_len r m l t, ?_⟩
          refine k _ (BookO.fin (B7.same S6' (fr.2.2.2.2 f hf)) hb7 ?_ ⟨fr.1, fr.2.1, fr.2.2.1, fr.2.2.2.1, fun x hx => ?_⟩ (fun he => ?_) (some kn))
          · unfold tellM
            rw [if_pos (by rw [find_entM, ef]; rfl), List.map_map, List.map_map]
            apply List.map_congr_left
            intro g _
            show (if (entM g).1 = (name, day) then ((entM g).1, putDown (entM g).2 kn place) else entM g) = entM (putE f.1 kn place g)
            unfold putE
            rw [hk1]
            by_cases c : g.1 = (name, day)
            · rw [if_pos c, if_pos (show (entM g).1 = (name, day) from c)]
              rfl
            · rw [if_neg c, if_neg (show ¬ (entM g).1 = (name, day) from c)]
          · obtain ⟨g, hg, rfl⟩ := List.mem_map.mp hx
            rw [(putE_key _ _ _ _).2]
            exact fr.2.2.2.2 g hg
          · have := S6 _ _ (S5' _ _ (hl he))
            exact B7 _ _ (ne_of this hxs (fun z => nomatch z)) this
    · -- a new key
      have ef : (es.find? fun e => decide (e.1 = (name, day))) = none := by
        rw [find_ent] at hv
        cases z : es.find? fun e => decide (e.1 = (name, day)) with
        | none => rfl
        | some f =>
          rw [z] at hv
          cases hv
      have hno : ∀ e ∈ es, e.1 ≠ (name, day) := fun e he z => by
        have := List.find?_eq_none.mp ef e he
        exact this (decide_eq_true z)
      rw [putK_new _ hv]
      have e7 : es.map entV ++ [(keyK (name, day), V.ref p)] = (es ++ [((name, day), p, [])]).map entV := by rw [List.map_append]; rfl
      rw [e7]
      have np : ∀ e ∈ es, e.2.1 ≠ p := fun e he z => by
        obtain ⟨xs, hxs⟩ := (hb5.rows e he).at_lst
        rw [z, hp5] at hxs
        cases hxs
      have hb7 := hb6.add (key := (name, day)) p6 np
      generalize hH7 : upd H6 m (.dT ((es ++ [((name, day), p, [])]).map entV)) = H7 at hb7
      have S7 : Same H0 H7 := by
        rw [← hH7]
        exact Same.mut S6' fr.2.1
      have hf : (((name, day), p, []) : Ent) ∈ es ++ [((name, day), p, [])] := List.mem_append_right _ List.mem_cons_self
      have nk7 : ((es ++ [(((name, day), p, []) : Ent)]).map (·.1)).Nodup := by
        rw [List.map_append, List.nodup_append]
        refine ⟨nk, by simp, fun a ha c hc => ?_⟩
        obtain ⟨g, hg, rfl⟩ := List.mem_map.mp ha
        have ec : c = (name, day) := by simpa using hc
        rw [ec]
        exact hno g hg
      have hp0 : H0 p = none := Same.none (S0.trans S5') hp5
      refine ⟨_, rfl, _, rfl, p, kn, mvV place, [], rfl, hb7.rows _ hf, Nat.zero_le _, (fun _ z => nomatch z), fun H8 B8 T8 => ?_⟩
      have hb8 := hb7.put nk7 hf (p := place) B8 T8
      obtain ⟨xs, hxs⟩ := (hb7.rows _ hf).at_lst
      refine ⟨_, rfl, _, rfl, b, _, dx, _, rfl, hb8.ins, T.clBook, T.nBookToldLast, bfs_len r m l t, ?_⟩
      refine k _ (BookO.fin (B8.same S7 hp0) hb8 ?_ ⟨fr.1, fr.2.1, fr.2.2.1, fr.2.2.2.1, fun x hx => ?_⟩ (fun he => ?_) (some kn))
      · unfold tellM
        rw [if_neg (by rw [find_entM, ef]; exact Bool.false_ne_true), List.map_append, List.map_append]
        have e1 : (es.map (putE (name, day) kn place)) = es := by
          refine (List.map_congr_left fun g hg => ?_).trans (List.map_id es)
          unfold putE
          rw [if_neg (hno g hg)]
          rfl
        show _ = (es.map (putE (name, day) kn place)).map entM ++ _
        rw [e1]
        congr 1
        show _ = [entM (putE (name, day) kn place ((name, day), p, []))]
        unfold putE
        rw [if_pos rfl]
        rfl
      · obtain ⟨g, hg, rfl⟩ := List.mem_map.mp hx
        rw [(putE_key _ _ _ _).2]
        rcases List.mem_append.mp hg with z | z
        · exact fr.2.2.2.2 g z
        · have eg : g = ((name, day), p, []) := by simpa using z
          rw [eg]
          exact hp0
      · have h6 := S6 _ _ (S5' _ _ (hl he))
        have h7 : H7 l = some (.dT []) := by
          rw [← hH7, upd_ne hb.ml.symm]
          exact h6
        exact B8 _ _ (ne_of h7 hxs (fun z => nomatch z)) h7
end
end K76
namespace K76
open PySem PySem.Spec PyProof.Rows L2
section
variable {P : Program} {w : World} {K : PySem.W.Frag} {mg : Str → Option Value} {base : Heap}
def spLand (CB : Addr) : Sp := fun vs H Q _ => ∃ (b : Addr) (kn : Int) (name : Str) (day wt : Int) (H0 : Hp) (kvs : List (L2.Key × V)) (M : MT) (t : Option Int),
  vs = [.ref b, .int kn, .str name, .int day, .int wt] ∧ BookO H0 H CB b kvs M t true ∧ 0 ≤ kn ∧ 0 ≤ day ∧ IsName name ∧ 0 ≤ wt ∧ (∀ u, t = some u → u ≤ kn) ∧
  ∀ H', BookO H0 H' CB b kvs M (some kn) false → Q .non H'
theorem scBookLand : FnScope ["self", "known", "light", "day", "weight"] ["self", "known", "light", "day", "weight"] (defScope sBookLand) :=
  ⟨rfl, rfl, rfl, by decide +kernel, rfl, by decide +kernel, by decide +kernel⟩
theorem mal_land (T : TX K mg) : Mal P w K mg base 3 "Book" "land" ["self", "known", "light", "day", "weight"] [] (spLand (He.ga K "Book")) := by
  obtain ⟨fd, F⟩ := T.dBookLand
  have c1 : Cal P w K mg base 2 "want_day" ["thing"] [] spWantDay := cal_wantDay T
  have c2 : Cal P w K mg base 1 "is_name" ["thing"] [] spIsName := cal_isName T
  have c4 : Cal P w K mg base 1 "is_whole" ["thing", "least"] [.int 0] spIsWhole := cal_isWhole1 T
  have c3 : Cal P w K mg base 1 "put_down" ["rows", "known", "worth"] [] spPutDown := cal_putDown T
  obtain ⟨⟨fd5, ds5, G5, b5, d5⟩, me5, cl5⟩ : Mal P w K mg base 1 "Book" "want_not_early" ["self", "known"] [] (spWantNotEarly (He.ga K "Book")) := mal_wantNotEarly T
  refine Mal.of T.mBookLand T.clBook (FunD.bindsN F fun _ _ _ _ _ _ us hl => match us, hl with | [_, _, _, _, _], _ => rfl) .nil ?_
  refine F.ok scBookLand (fun vs H Q E h => ?_) (fun cdv A outer s H vs Q E hr h => ?_)
  · obtain ⟨b, kn, name, day, wt, H0, kvs, M, t, rfl, _⟩ := h
    rfl
  · obtain ⟨b, kn, name, day, wt, H0, kvs, M, t, rfl, ⟨S0, dx, r, m, l, es, hb, rfl, fr, hl⟩, hkn, hday, hname, hwt, ht, k⟩ := h
    refine ⟨_, PSs.nox (pss_cons (ps_expr (pe_cal c1 hr (pa_cons (pv 1) pa_nil)))
      (pss_cons (ps_expr (pe_cal c1 hr (pa_cons (pv 3) pa_nil)))
      (pss_cons (ps_if (pt_not (pt_val (pe_cal c2 hr (pa_cons (pv 2) pa_nil)))) (pss_one ps_never) pss_nil)
      (pss_cons (ps_if (pt_not (pt_val (pe_cal c4 hr (pa_cons (pv 4) pa_nil)))) (pss_one ps_never) pss_nil)
      (pss_cons (ps_expr (pe_meth (pv 0) cl5 me5 G5 (hr.mono (by decide)) b5 d5 pass0 (pa_cons (pv 1) pa_nil)))
      (pss_cons (ps_expr (pe_cal c3 hr (pa_cons (pe_dsetdT (hu1 hr) (pe_fld (pv 0) rfl) (pe_tup (pa_cons (pv 2) (pa_cons (pv 3) pa_nil))) (pe_lst pa_nil) ⟨rfl, rfl, rfl, rfl⟩) (pa_cons (pv 1) (pa_cons (pv 4) pa_nil)))))
      (pss_one (ps_fld (pv 0) (pv 1) rfl)))))))), ?_⟩
    refine ⟨_, rfl, kn, rfl, hkn, fun H1 S1 => ⟨_, rfl, day, rfl, hday, fun H2 S2 => ?_⟩⟩
    refine ⟨_, rfl, name, rfl, hname, fun H3 S3 => ⟨true, rfl, ?_⟩⟩
    refine ⟨_, rfl, wt, 0, rfl, hwt, fun H4 S4 => ⟨true, rfl, ?_⟩⟩
    have S4' : Same H H4 := (S1.trans S2).trans (S3.trans S4)
    have hb4 := hb.mono S4'
    refine ⟨_, rfl, b, dx, _, rfl, hb4.ins, lf_wne r m l t, _, rfl, b, kn, kvs, _, t, rfl, ⟨dx, r, m, l, es, hb4, rfl⟩, ht, fun H5 S5 => ?_⟩
    have S5' : Same H H5 := S4'.trans S5
    have hb5 := hb.mono S5'
    have l5 : H5 l = some (.dT []) := S5' _ _ (hl rfl)
    have sl2 : 2 ≤ sizeLine := by decide
    refine ⟨_, rfl, b, _, dx, _, _, rfl, hb5.ins, T.clBook, T.nBookLandingsTold, bfs_land r m l t, l, rfl, .inr ⟨_, .inl l5⟩, _, rfl, _, rfl, sl2, fun q hq => ?_⟩
    refine ⟨Nat.zero_le _, fun p hp => ?_⟩
    have S6 : Same H5 (upd (upd H5 q (.tup [.str name, .int day])) p (.lst [])) := (Same.new hq).trans (Same.new hp)
    have hp5 : H5 p = none := Same.none (Same.new hq) hp
    generalize hH6 : upd (upd H5 q (.tup [.str name, .int day])) p (.lst []) = H6 at S6
    have p6 : H6 p = some (.lst []) := by rw [← hH6, upd_same]
    have q6 : H6 q = some (.tup [.str name, .int day]) := by
      rw [← hH6, upd_ne (fun z => by rw [← z, upd_same] at hp; cases hp), upd_same]
    have S6' : Same H0 H6 := S0.trans (S5'.trans S6)
    have hb6 := hb5.mono S6
    refine ⟨_, [.inr name, .inl day], q, S6 _ _ l5, rfl, q6, Nat.lt_of_lt_of_le (by decide : 0 < 2) sl2, fun v hv => ?_, fun hv => ?_⟩
    · cases hv
    · have l6 := S6 _ _ l5
      generalize hH7 : upd H6 l (.dT (putK [] [.inr name, .inl day] (V.ref p))) = H7
      have B7 : But l H6 H7 := by
        rw [← hH7]
        exact But.upd
      have hb7 : BookP H7 (He.ga K "Book") b dx r m l kvs es t := by
        refine ⟨B7 _ _ (ne_of hb6.ins l6 (fun z => nomatch z)) hb6.ins, B7 _ _ (ne_of hb6.rk l6 (fun z => nomatch z)) hb6.rk, B7 _ _ hb.ml hb6.mv, fun f hf => ?_, hb6.nd, hb6.ml, ⟨_, by rw [← hH7, upd_same]⟩⟩
        obtain ⟨ts, h1, h2, h3⟩ := hb6.rows f hf
        exact ⟨ts, B7 _ _ (ne_of h1 l6 (fun z => nomatch z)) h1, fun t ht => B7 _ _ (ne_of (h2 t ht) l6 (fun z => nomatch z)) (h2 t ht), h3⟩
      have p7 : H7 p = some (.lst []) := B7 _ _ (ne_of p6 l6 (fun z => nomatch z)) p6
      have np : ∀ e ∈ es, e.2.1 ≠ p := fun e he z => by
        obtain ⟨xs, hxs⟩ := (hb5.rows e he).at_lst
        rw [z, hp5] at hxs
        cases hxs
      have hp0 : H0 p = none := Same.none (S0.trans S5') hp5
      refine ⟨_, rfl, _, rfl, p, kn, .int wt, [], rfl, Tups.nil p7, Nat.zero_le _, (fun _ z => nomatch z), fun H8 B8 T8 => ?_⟩
      have hb8 : BookP H8 (He.ga K "Book") b dx r m l kvs es t := by
        refine ⟨B8 _ _ (ne_of hb7.ins p7 (fun z => nomatch z)) hb7.ins, B8 _ _ (ne_of hb7.rk p7 (fun z => nomatch z)) hb7.rk, B8 _ _ (ne_of hb7.mv p7 (fun z => nomatch z)) hb7.mv, fun f hf => (hb7.rows f hf).but B8 p7 (np f hf), hb7.nd, hb7.ml, hb7.ld.elim fun ls q => ⟨ls, B8 _ _ (ne_of q p7 (fun z => nomatch z)) q⟩⟩
      refine ⟨_, rfl, _, rfl, b, _, dx, _, rfl, hb8.ins, T.clBook, T.nBookToldLast, bfs_len r m l t, ?_⟩
      exact k _ (BookO.fin (B8.same (B7.same S6' fr.2.2.1) hp0) hb8 rfl fr (e := false) (fun z => absurd z (by decide)) (some kn))
/-- a held day and its place -/
def hdV (p : Int × Str) : List V := [.int p.1, .str p.2]
theorem last_mv (rows : List (Int × Option Str)) (kn : Option Int) : lastTold .non (rows.map mvP) kn = mvV (lastTold none rows kn) := by
  unfold lastTold
  rw [List.foldl_map]
  have : ∀ (rows : List (Int × Option Str)) (f : Option Str), rows.foldl (fun x y => if okK kn (mvP y).1 = true then (mvP y).2 else x) (mvV f) = mvV (rows.foldl (fun f r => if okK kn r.1 = true then r.2 else f) f) := by
    intro rows
    induction rows with
    | nil => intro f; rfl
    | cons r rows ih =>
      intro f
      rw [List.foldl_cons, List.foldl_cons, ← ih]
      by_cases c : okK kn r.1 = true
      · rw [if_pos c, if_pos (show okK kn (mvP r).1 = true from c)]
        rfl
      · rw [if_neg c, if_neg (show ¬ okK kn (mvP r).1 = true from c)]
  exact this rows none
theorem heldL_snoc (M : MT) (e : (Str × Int) × List (Int × Option Str)) (keeper : Str) (kn : Option Int) : heldL (M ++ [e]) keeper kn = heldL M keeper kn ++ (if e.1.1 = keeper then ((lastTold none e.2 kn).map fun p => (e.1.2, p)).toList else []) := by
  unfold heldL
  rw [List.filterMap_append]
  congr 1
  rw [List.filterMap_cons, List.filterMap_nil]
  by_cases c : e.1.1 = keeper
  · rw [if_pos c, if_pos c]
    cases lastTold none e.2 kn <;> rfl
  · rw [if_neg c, if_neg c]
def spHeld (CB : Addr) : Sp := fun vs H Q _ => ∃ (b : Addr) (keeper : Str) (kn : Option Int) (kvs : List (L2.Key × V)) (M : MT) (t : Option Int), vs = [.ref b, .str keeper, knV kn] ∧ BookS H CB b kvs M t ∧ MOk M 900 ∧
  ∀ H' a, Same H H' → Tups H' a ((heldS M keeper kn).map hdV) → Q (.ref a) H'
theorem scBookHeldMoves : FnScope ["self", "keeper", "known", "found", "name", "day", "rows", "place"] ["self", "keeper", "known"] (defScope sBookHeldMoves) :=
  ⟨rfl, rfl, rfl, by decide +kernel, rfl, by decide +kernel, by decide +kernel⟩
theorem mal_held (T : TX K mg) : Mal P w K mg base 2 "Book" "held_moves" ["self", "keeper", "known"] [] (spHeld (He.ga K "Book")) := by
  obtain ⟨fd, F⟩ := T.dBookHeldMoves
  have c1 : Cal P w K mg base 1 "last_told" ["rows", "known"] [] spLastTold := cal_lastTold T
  refine Mal.of T.mBookHeldMoves T.clBook (FunD.bindsN F fun _ _ _ _ _ _ us hl => match us, hl with | [_, _, _], _ => rfl) .nil ?_
  refine F.ok scBookHeldMoves (fun vs H Q E h => ?_) (fun cdv A outer s H vs Q E hr h => ?_)
  · obtain ⟨b, keeper, kn, kvs, M, t, rfl, _⟩ := h
    rfl
  · obtain ⟨b, keeper, kn, kvs, M, t, rfl, ⟨dx, r, m, l, es, hb, rfl⟩, hM, k⟩ := h
    refine ⟨_, PSs.nox (pss_cons (ps_set (i := 3) scBookHeldMoves.nd rfl (by first | exact Or.inl rfl | exact Or.inr rfl) (pe_lst pa_nil))
      (pss_cons (ps_lock (ps_for PassesOwn.never rfl (pi_itemsT (pe_fld (pv 0) rfl)) (pg_tup (by rfl) (pgs_cons (pg_tup (by rfl) (pgs_cons (pg_name (i := 4) scBookHeldMoves.nd rfl (by first | exact Or.inl rfl | exact Or.inr rfl)) (pgs_cons (pg_name (i := 5) scBookHeldMoves.nd rfl (by first | exact Or.inl rfl | exact Or.inr rfl)) pgs_nil))) (pgs_cons (pg_name (i := 6) scBookHeldMoves.nd rfl (by first | exact Or.inl rfl | exact Or.inr rfl)) pgs_nil)))
        (pss_cons (ps_set (i := 7) scBookHeldMoves.nd rfl (by first | exact Or.inl rfl | exact Or.inr rfl) (pe_cal c1 hr (pa_cons (pv 6) (pa_cons (pv 2) pa_nil))))
        (pss_one (ps_if (PW.pt (pw_and (pt_cmpR op_eq (pv 4) (pv 1) (nomark _)) (pw_and1 (pt_cmpR op_notN (pv 7) pe_non (nomark _))))) (pss_one (ps_expr (pe_bm PySem.F.plainAttrs_list PySem.F.slot_list_append PySem.F.type_list_append mt_append (pv 3) (pa_cons (pe_tup (pa_cons (pv 5) (pa_cons (pv 7) pa_nil))) pa_nil)))) pss_nil)))))
      (pss_one (ps_ret (pe_callB (cr_sortedDP hr.units) (by rfl) T.f_sorted (by decide +kernel) (pa_cons (pv 3) pa_nil)))))), ?_⟩
    refine ⟨Nat.zero_le _, fun a ha => ?_⟩
    have S1 : Same H (upd H a (.lst [])) := Same.new ha
    refine ⟨m, _, S1 _ _ hb.mv, trivial, fun od => ?_⟩
    have hlen : es.length ≤ 900 := by have := hM.len; rwa [List.length_map] at this
    have nam : a ≠ m := fun z => by rw [z, hb.mv] at ha; cases ha
    generalize hH1 : upd (upd H a (.lst [])) m (.frz od (.dT (es.map entV))) = H1
    have m1 : H1 m = some (.frz od (.dT (es.map entV))) := by rw [← hH1, upd_same]
    have a1 : H1 a = some (.lst []) := by rw [← hH1, upd_ne nam, upd_same]
    have B1 : But m H H1 := by
      rw [← hH1]
      exact (But.of S1).trans But.upd
    have n1 : ∀ p, H1 p = none → H p = none := fun p hp => by
      cases e : H p with
      | none => rfl
      | some o =>
        by_cases c : p = m
        · rw [c, m1] at hp
          cases hp
        · rw [B1 _ _ c e] at hp
          cases hp
    refine ⟨_, rfl, b, _, dx, _, _, rfl, B1 _ _ (ne_of hb.ins hb.mv (fun z => nomatch z)) hb.ins, T.clBook, T.nBookMovesTold, bfs_moves r m l t, m, od, _, rfl, m1, ?_⟩
    refine for_it walk_itemsT (fun i σ H2 => H2 m = some (.frz od (.dT (es.map entV))) ∧ But m H H2 ∧ (∃ bs : List DP, H2 a = some (.lst (bs.map fun t => V.ref t.1)) ∧ (∀ b ∈ bs, H2 b.1 = some (.tup (dpV b))) ∧ bs.map (·.2) = heldL ((es.map entM).take i) keeper kn) ∧
      ∃ v4 v5 v6 v7, σ = [some (.ref b), some (.str keeper), some (knV kn), some (.ref a), v4, v5, v6, v7]) ⟨m1, B1, ⟨[], a1, (fun _ z => nomatch z), rfl⟩, none, none, none, none, rfl⟩ (fun i σ H2 _ p => p.1) ?_ ?_
    · rintro i x σ H2 H3 hi ⟨m2, B2, ⟨bs, ba, bt, be⟩, v4, v5, v6, v7, rfl⟩ ⟨TT, q, key, v, hkv, rfl, hT, hq, rfl⟩
      rw [List.length_map] at hi
      have ei : es[i]? = some es[i] := List.getElem?_eq_getElem hi
      have hm := List.getElem_mem hi
      generalize es[i] = e at ei hm
      rw [List.getElem?_map, ei] at hkv
      obtain ⟨rfl, rfl⟩ : keyK e.1 = key ∧ V.ref e.2.1 = v := by
        injection hkv with z
        injection z with z1 z2
        exact ⟨z1, z2⟩
      have S3 : Same H2 (upd H2 TT (.tup [.ref q, .ref e.2.1])) := Same.new hT
      generalize hH3 : upd H2 TT (.tup [.ref q, .ref e.2.1]) = H3 at S3
      have t3 : H3 TT = some (.tup [.ref q, .ref e.2.1]) := by rw [← hH3, upd_same]
      have hrw : Tups H3 e.2.1 ((e.2.2.map mvP).map prV) := by
        have z := hb.rows e hm
        obtain ⟨ts, h1, h2, h3⟩ := z
        exact ⟨ts, S3 _ _ (B2 _ _ (ne_of h1 hb.mv (fun z => nomatch z)) h1), fun t ht => S3 _ _ (B2 _ _ (ne_of (h2 t ht) hb.mv (fun z => nomatch z)) (h2 t ht)), h3⟩
      refine ⟨TT, _, rfl, SqT.of t3, rfl, _, _, rfl, ⟨q, _, rfl, SqT.of (S3 _ _ hq), rfl, _, _, rfl, _, _, rfl, rfl, ?_⟩⟩
      refine ⟨_, _, rfl, rfl, ?_⟩
      refine ⟨_, rfl, _, rfl, e.2.1, kn, e.2.2.map mvP, rfl, hrw, fun H4 S4 => ?_⟩
      rw [last_mv]
      have m4 : H4 m = some (.frz od (.dT (es.map entV))) := S4 _ _ (S3 _ _ m2)
      have B4 : But m H H4 := B2.trans (But.of (S3.trans S4))
      have ba4 := S4 _ _ (S3 _ _ ba)
      have bt4 : ∀ b ∈ bs, H4 b.1 = some (.tup (dpV b)) := fun b hb => S4 _ _ (S3 _ _ (bt b hb))
      have et : (es.map entM).take (i + 1) = (es.map entM).take i ++ [entM e] := by
        rw [List.take_add_one, List.getElem?_map, ei]
        rfl
      have bl : bs.length ≤ 900 := by
        have h1 := congrArg List.length be
        have h2 := heldL_len ((es.map entM).take i) keeper kn
        rw [List.length_map] at h1
        rw [List.length_take, List.length_map] at h2
        omega
      refine ⟨_, rfl, _, rfl, rfl, _, rfl, ?_⟩
      by_cases c : V.str e.1.1 = V.str keeper
      · refine ifd c ?_
        have c2 : e.1.1 = keeper := by injection c
        refine ⟨_, rfl, ?_⟩
        cases ep : lastTold none e.2.2 kn with
        | none =>
          refine ⟨rfl, _, rfl, ?_⟩
          refine ⟨m4, B4, ⟨bs, ba4, bt4, ?_⟩, _, _, _, _, rfl⟩
          rw [et, heldL_snoc, if_pos (show (entM e).1.1 = keeper from c2), show lastTold none (entM e).2 kn = none from ep, be]
          simp
        | some p =>
          refine ⟨rfl, _, rfl, ?_⟩
          refine ⟨_, rfl, .inl ⟨rfl, _, SqL.of ba4⟩, _, rfl, _, rfl, by show 2 ≤ sizeLine; decide, fun z hz => ?_⟩
          have S5 := Same.new (o := .tup [.int e.1.2, .str p]) hz
          have nza : z ≠ a := fun y => by rw [y, ba4] at hz; cases hz
          refine ⟨a, _, _, rfl, rfl, S5 _ _ ba4, sz' (by rw [List.length_map]; omega), ?_⟩
          refine ⟨?_, ?_, ⟨bs ++ [(z, e.1.2, p)], ?_, fun b' hb' => ?_, ?_⟩, _, _, _, _, rfl⟩
          · rw [upd_ne nam.symm]
            exact S5 _ _ m4
          · intro y o ny hy
            have nya : y ≠ a := fun z => by rw [z, ha] at hy; cases hy
            rw [upd_ne nya]
            exact S5 _ _ (B4 y o ny hy)
          · rw [upd_same, List.map_append]
            rfl
          · rcases List.mem_append.mp hb' with y | y
            · have y1 := S5 _ _ (bt4 b' y)
              rw [upd_ne (ne_of y1 (S5 _ _ ba4) (fun z => nomatch z))]
              exact y1
            · have eb : b' = (z, e.1.2, p) := by simpa using y
              rw [eb, upd_ne nza, upd_same]
              rfl
          · rw [et, heldL_snoc, if_pos (show (entM e).1.1 = keeper from c2), show lastTold none (entM e).2 kn = some p from ep, List.map_append, be]
            rfl
      · refine ifn c ?_
        have c2 : e.1.1 ≠ keeper := fun z => c (by rw [z])
        refine ⟨m4, B4, ⟨bs, ba4, bt4, ?_⟩, _, _, _, _, rfl⟩
        rw [et, heldL_snoc, if_neg (show ¬ (entM e).1.1 = keeper from c2), be]
        simp
    · rintro σ H2 ⟨m2, B2, ⟨bs, ba, bt, be⟩, v4, v5, v6, v7, rfl⟩
      refine ⟨m2, ?_⟩
      generalize hH3 : upd H2 m (.dT (es.map entV)) = H3
      have a3 : H3 a = some (.lst (bs.map fun t => V.ref t.1)) := by rw [← hH3, upd_ne nam]; exact ba
      have t3 : ∀ b ∈ bs, H3 b.1 = some (.tup (dpV b)) := fun b hb => by
        rw [← hH3, upd_ne (ne_of (bt b hb) m2 (fun z => nomatch z))]
        exact bt b hb
      have S3 : Same H H3 := fun y o hy => by
        by_cases c : y = m
        · rw [c] at hy ⊢
          rw [hb.mv] at hy
          rw [← hH3, upd_same]
          exact hy
        · rw [← hH3, upd_ne c]
          exact B2 y o c hy
      refine ⟨_, rfl, a, bs, rfl, SqL.of a3, t3, fun bs' p hp1 hp2 hp => ?_⟩
      have S4 := Same.new (o := .lst (bs'.map fun b => V.ref b.1)) hp
      refine k _ p (S3.trans S4) ⟨bs'.map fun b => (b.1, dpV b), ?_, fun t ht => ?_, ?_⟩
      · rw [upd_same, List.map_map]
        rfl
      · obtain ⟨b', hb', rfl⟩ := List.mem_map.mp ht
        exact S4 _ _ (t3 b' (hp1.mem_iff.mp hb'))
      · have e1 : bs'.map (·.2) = heldS (es.map entM) keeper kn := by
          refine heldS_of hM.nd ?_ ?_
          · have := hp1.map (fun b : DP => b.2)
            rw [be] at this
            rw [List.length_map, ← List.length_map (as := es) (f := entM), List.take_length] at this
            exact this
          · rw [List.pairwise_map]
            exact hp2
        rw [← e1, List.map_map, List.map_map]
        rfl
end
end K76
namespace K76
open PySem PySem.Spec PyProof.Rows L2
/-! ### lists of things -/
/-- what is no list is kept -/
def KeepN (H H' : Hp) : Prop := ∀ b o, H b = some o → (∀ xs, o ≠ .lst xs) → H' b = some o
theorem KeepN.of {H H' : Hp} (s : Same H H') : KeepN H H' := fun b o h _ => s b o h
theorem KeepN.but {H H' : Hp} {a : Addr} {xs : List V} (s : But a H H') (h : H a = some (.lst xs)) : KeepN H H' := fun b o e n => s b o (fun z => by rw [z, h] at e; exact n xs (Option.some.inj e).symm) e
def Stay {α : Type} (D : Hp → Addr → α → Prop) : Prop := ∀ H H' q x, KeepN H H' → D H q x → D H' q x
def Lof {α : Type} (D : Hp → Addr → α → Prop) (H : Hp) (a : Addr) (xs : List α) : Prop := ∃ qs : List (Addr × α), H a = some (.lst (qs.map fun q => V.ref q.1)) ∧ (∀ q ∈ qs, D H q.1 q.2) ∧ qs.map (·.2) = xs
theorem Lof.mono {α : Type} {D : Hp → Addr → α → Prop} (hD : Stay D) {H H' : Hp} (s : Same H H') {a : Addr} {xs : List α} (h : Lof D H a xs) : Lof D H' a xs := by
  obtain ⟨qs, h1, h2, h3⟩ := h
  exact ⟨qs, s _ _ h1, fun q hq => hD _ _ _ _ (KeepN.of s) (h2 q hq), h3⟩
theorem Lof.nil {α : Type} {D : Hp → Addr → α → Prop} {H : Hp} {a : Addr} (h : H a = some (.lst [])) : Lof D H a [] := ⟨[], h, (fun _ z => nomatch z), rfl⟩
theorem Lof.len {α : Type} {D : Hp → Addr → α → Prop} {H : Hp} {a : Addr} {xs : List α} (h : Lof D H a xs) : ∃ vs, H a = some (.lst vs) ∧ vs.length = xs.length := by
  obtain ⟨qs, h1, h2, h3⟩ := h
  exact ⟨_, h1, by rw [← h3, List.length_map, List.length_map]⟩
/-- a new one at the end -/
theorem Lof.snoc {α : Type} {D : Hp → Addr → α → Prop} (hD : Stay D) {H H1 : Hp} {a q : Addr} {xs : List α} {x : α} {vs : List V} (h : Lof D H a xs) (s : Same H H1) (hv : H1 a = some (.lst vs)) (hq : D H1 q x) :
    Lof D (upd H1 a (.lst (vs ++ [.ref q]))) a (xs ++ [x]) := by
  obtain ⟨qs, h1, h2, h3⟩ := h
  have e : vs = qs.map fun q => V.ref q.1 := by
    have := s _ _ h1
    rw [hv] at this
    injection this with z
    injection z
  have kn : KeepN H1 (upd H1 a (.lst (vs ++ [.ref q]))) := KeepN.but But.upd hv
  refine ⟨qs ++ [(q, x)], by rw [upd_same, e, List.map_append]; rfl, fun y hy => ?_, by rw [List.map_append, h3]; rfl⟩
  rcases List.mem_append.mp hy with z | z
  · exact hD _ _ _ _ kn (hD _ _ _ _ (KeepN.of s) (h2 y z))
  · have ey : y = (q, x) := by simpa using z
    rw [ey]
    exact hD _ _ _ _ kn hq
theorem Lof.at_ {α : Type} {D : Hp → Addr → α → Prop} {H : Hp} {a : Addr} {xs : List α} {vs : List V} (h : Lof D H a xs) (hv : H a = some (.lst vs)) {i : Nat} {x : V} (hx : vs[i]? = some x) : ∃ q y, x = .ref q ∧ xs[i]? = some y ∧ D H q y := by
  obtain ⟨qs, h1, h2, h3⟩ := h
  have e : vs = qs.map fun q => V.ref q.1 := by
    rw [hv] at h1
    injection h1 with z
    injection z
  rw [e, List.getElem?_map] at hx
  cases eq : qs[i]? with
  | none =>
    rw [eq] at hx
    cases hx
  | some p =>
    rw [eq] at hx
    refine ⟨p.1, p.2, (Option.some.inj hx).symm, ?_, h2 p (List.mem_of_getElem? eq)⟩
    rw [← h3, List.getElem?_map, eq]
    rfl
/-- the other way -/
theorem Lof.get {α : Type} {D : Hp → Addr → α → Prop} {H : Hp} {a : Addr} {xs : List α} {vs : List V} (h : Lof D H a xs) (hv : H a = some (.lst vs)) {i : Nat} {y : α} (hy : xs[i]? = some y) : ∃ q, vs[i]? = some (.ref q) ∧ D H q y := by
  obtain ⟨ws, h1, h2⟩ := h.len
  have e : ws = vs := by
    rw [hv] at h1
    injection h1 with z
    injection z with z
    exact z.symm
  rw [e] at h2
  have hlt : i < vs.length := by
    rw [h2]
    exact (List.getElem?_eq_some_iff.mp hy).1
  obtain ⟨q, y', e1, e2, e3⟩ := h.at_ hv (List.getElem?_eq_getElem hlt)
  rw [hy] at e2
  refine ⟨q, by rw [List.getElem?_eq_getElem hlt, e1], ?_⟩
  rw [Option.some.inj e2]
  exact e3
theorem Lof.last {α : Type} {D : Hp → Addr → α → Prop} {H : Hp} {a : Addr} {xs : List α} {vs : List V} (h : Lof D H a xs) (hv : H a = some (.lst vs)) {y : α} (hy : xs.getLast? = some y) : ∃ q, atI vs (-1) = some (.ref q) ∧ D H q y := by
  obtain ⟨qs, h1, h2, h3⟩ := h
  have e : vs = qs.map fun q => V.ref q.1 := by
    rw [hv] at h1
    injection h1 with z
    injection z
  rw [← h3, List.getLast?_map] at hy
  cases eq : qs.getLast? with
  | none =>
    rw [eq] at hy
    cases hy
  | some p =>
    rw [eq] at hy
    obtain rfl : p.2 = y := Option.some.inj hy
    refine ⟨p.1, ?_, h2 p (List.mem_of_getLast? eq)⟩
    rw [e, snoc_of eq, List.map_append]
    exact atI_last _ _
/-- a tuple -/
def DTup {α : Type} (f : α → List V) (H : Hp) (q : Addr) (x : α) : Prop := H q = some (.tup (f x))
theorem stay_tup {α : Type} (f : α → List V) : Stay (DTup f) := fun _ _ _ _ k h => k _ _ h (fun _ z => nomatch z)
theorem Lof.tups {α : Type} {f : α → List V} {H : Hp} {a : Addr} {xs : List α} (h : Lof (DTup f) H a xs) : Tups H a (xs.map f) := by
  obtain ⟨qs, h1, h2, h3⟩ := h
  refine ⟨qs.map fun q => (q.1, f q.2), by rw [List.map_map]; exact h1, fun t ht => ?_, by rw [List.map_map, ← h3, List.map_map]; rfl⟩
  obtain ⟨q, hq, rfl⟩ := List.mem_map.mp ht
  exact h2 q hq
theorem Tups.lof {α : Type} {f : α → List V} {H : Hp} {a : Addr} : ∀ {xs : List α}, Tups H a (xs.map f) → Lof (DTup f) H a xs := by
  intro xs h
  obtain ⟨ts, h1, h2, h3⟩ := h
  have hl : ts.length = xs.length := by
    have := congrArg List.length h3
    rwa [List.length_map, List.length_map] at this
  refine ⟨(ts.map (·.1)).zip xs, ?_, fun q hq => ?_, ?_⟩
  · rw [h1]
    congr 2
    have : ((ts.map (·.1)).zip xs).map (·.1) = ts.map (·.1) := List.map_fst_zip (by rw [List.length_map]; omega)
    have e2 : ((ts.map (·.1)).zip xs).map (fun q => V.ref q.1) = (((ts.map (·.1)).zip xs).map (·.1)).map V.ref := by rw [List.map_map]; rfl
    rw [e2, this, List.map_map]
    rfl
  · obtain ⟨i, hi, e⟩ := List.mem_iff_getElem.mp hq
    rw [List.getElem_zip, List.getElem_map] at e
    rw [← e]
    have hi2 : i < ts.length := by rw [List.length_zip, List.length_map] at hi; omega
    have hi3 : i < xs.length := by omega
    have hm := h2 ts[i] (List.getElem_mem hi2)
    have e3 : ts[i].2 = f xs[i] := by
      have z : (ts.map (·.2))[i]? = (xs.map f)[i]? := by rw [h3]
      rw [List.getElem?_map, List.getElem?_map, List.getElem?_eq_getElem hi2, List.getElem?_eq_getElem hi3] at z
      exact Option.some.inj z
    show H ts[i].1 = some (.tup (f xs[i]))
    rw [← e3]
    exact hm
  · exact List.map_snd_zip (by rw [List.length_map]; omega)
theorem Lof.shal {α : Type} {K : PySem.W.Frag} {f : α → List V} {H : Hp} {a : Addr} {xs : List α} {vs : List V} (h : Lof (DTup f) H a xs) (hv : H a = some (.lst vs)) (hf : ∀ x ∈ xs, (f x).all flatB = true) : Shal K H vs := by
  obtain ⟨qs, h1, h2, h3⟩ := h
  have e : vs = qs.map fun q => V.ref q.1 := by
    rw [hv] at h1
    injection h1 with z
    injection z
  have := Shal.tups (K := K) (H := H) (ts := qs.map fun q => (q.1, f q.2)) fun t ht => by
    obtain ⟨q, hq, rfl⟩ := List.mem_map.mp ht
    refine ⟨h2 q hq, hf q.2 ?_⟩
    rw [← h3]
    exact List.mem_map.mpr ⟨q, hq, rfl⟩
  rw [List.map_map] at this
  rw [e]
  exact this

/-! ### stretches in the heap -/
def sfs (f : Int) (l : Option Int) : List (Str × V) := putF "end" (knV l) (putF "begin" (.int f) [])
theorem ne_be : ¬ ("begin" : Str) = "end" := by decide +kernel
theorem sfs_b (f : Int) (l : Option Int) : (sfs f l).lookup ("begin" : Str) = some (V.int f) := by
  unfold sfs
  rw [lookup_putF, if_neg ne_be, lookup_putF, if_pos rfl]
theorem sfs_e (f : Int) (l : Option Int) : (sfs f l).lookup ("end" : Str) = some (knV l) := by
  unfold sfs
  rw [lookup_putF, if_pos rfl]
theorem sfs_no (f : Int) (l : Option Int) {x : Str} (h1 : ¬ x = "end") (h2 : ¬ x = "begin") : (sfs f l).lookup x = none := by
  unfold sfs
  rw [lookup_putF, if_neg h1, lookup_putF, if_neg h2]
  rfl
def StrP (CS : Addr) (H : Hp) (a : Addr) (f : Int) (l : Option Int) : Prop := ∃ dx, H a = some (.ins CS dx (sfs f l))
section
variable {P : Program} {w : World} {K : PySem.W.Frag} {mg : Str → Option Value} {base : Heap}
def spStretchInit (CS : Addr) : Sp := fun vs H Q _ => ∃ (x dx : Addr) (f : Int) (l : Option Int), vs = [.ref x, .int f, knV l] ∧ H x = some (.ins CS dx []) ∧ 0 ≤ f ∧ (∀ z, l = some z → f ≤ z) ∧
  ∀ H', But x H H' → H' x = some (.ins CS dx (sfs f l)) → Q .non H'
theorem scStretchInit : FnScope ["self", "first", "last"] ["self", "first", "last"] (defScope sStretchInit) :=
  ⟨rfl, rfl, rfl, by decide +kernel, rfl, by decide +kernel, by decide +kernel⟩
/-- the test of a last day -/
def tLastBad : TT := fun σ H Q => ∃ l f, σ[2]? = some (some (knV l)) ∧ σ[1]? = some (some (.int f)) ∧ (∀ z, l = some z → f ≤ z) ∧ ∀ H', Same H H' → Q false H'
theorem mak_stretch (T : TX K mg) : Mak P w K mg base 2 "Stretch" ["self", "first", "last"] [] (spStretchInit (He.ga K "Stretch")) := by
  obtain ⟨fd, F⟩ := T.dStretchInit
  have c1 : Cal P w K mg base 1 "is_whole" ["thing", "least"] [.int 0] spIsWhole := cal_isWhole1 T
  have c2 : Cal P w K mg base 1 "is_whole" ["thing", "least"] [] spIsWhole := cal_isWhole2 T
  obtain ⟨ds, hd, hb⟩ := F.binds1 (ps := ["self", "first", "last"]) 3 1 (List.cons_ne_nil _ _) rfl (fun T kV doc pm an cdv ct us its h1 h2 => match us, its, h1, h2 with | [_, _, _], [_], _, _ => ⟨_, rfl, rfl⟩)
  refine Mak.of T.mkStretch T.gStretch hb hd ?_
  refine F.ok scStretchInit (fun vs H Q E h => ?_) (fun cdv A outer s H vs Q E hr h => ?_)
  · obtain ⟨x, dx, f, l, rfl, _⟩ := h
    rfl
  · obtain ⟨x, dx, f, l, rfl, hx, hf, hl, k⟩ := h
    refine ⟨_, PSs.nox (pss_cons (ps_if (pt_not (pt_val (pe_cal c1 hr (pa_cons (pv 1) pa_nil)))) (pss_one ps_never) pss_nil)
      (pss_cons (ps_if (pt_by (t2 := tLastBad) (PW.pt (pw_and (pt_cmpR op_notN (pv 2) pe_non (nomark _)) (pw_and1 (pt_not (pt_val (pe_cal c2 hr (pa_cons (pv 2) (pa_cons (pv 1) pa_nil)))))))) (fun σ H Q q => by
          obtain ⟨l, f, h1, h2, hok, q⟩ := q
          cases l with
          | none => exact ⟨_, h1, rfl, _, rfl, q _ (Same.refl _)⟩
          | some z => exact ⟨_, h1, rfl, _, rfl, _, h1, _, h2, z, f, rfl, hok z rfl, fun H1 S1 => ⟨true, rfl, q _ S1⟩⟩)) (pss_one ps_never) pss_nil)
      (pss_cons (ps_fld (pv 0) (pv 1) rfl)
      (pss_one (ps_fld (pv 0) (pv 2) rfl))))), ?_⟩
    refine ⟨_, rfl, f, 0, rfl, hf, fun H1 S1 => ⟨true, rfl, ?_⟩⟩
    refine ⟨l, f, rfl, rfl, hl, fun H2 S2 => ?_⟩
    have S := S1.trans S2
    refine ⟨_, rfl, _, rfl, x, _, dx, _, rfl, S _ _ hx, T.clStretch, T.nStretchBegin, by decide, ?_⟩
    refine ⟨_, rfl, _, rfl, x, _, dx, _, rfl, upd_same, T.clStretch, T.nStretchEnd, by have := length_putF "begin" (.int f) []; simp only [List.length_nil] at this; omega, ?_⟩
    exact k _ (((But.of S).trans But.upd).trans But.upd) upd_same
def spStretchFirst (CS : Addr) : Sp := fun vs H Q _ => ∃ (a : Addr) (f : Int) (l : Option Int), vs = [.ref a] ∧ StrP CS H a f l ∧ Q (.int f) H
theorem scStretchFirst : FnScope ["self"] ["self"] (defScope sStretchFirst) :=
  ⟨rfl, rfl, rfl, by decide +kernel, rfl, by decide +kernel, by decide +kernel⟩
theorem mal_first (T : TX K mg) : Mal P w K mg base 1 "Stretch" "first" ["self"] [] (spStretchFirst (He.ga K "Stretch")) := by
  obtain ⟨fd, F⟩ := T.dStretchFirst
  refine Mal.of T.mStretchFirst T.clStretch (FunD.bindsN F fun _ _ _ _ _ _ us hl => match us, hl with | [_], _ => rfl) .nil ?_
  refine F.ok scStretchFirst (fun vs H Q E h => ?_) (fun cdv A outer s H vs Q E hr h => ?_)
  · obtain ⟨x, f, l, rfl, _⟩ := h
    rfl
  · obtain ⟨x, f, l, rfl, ⟨dx, hx⟩, k⟩ := h
    refine ⟨_, PSs.nox (pss_one (ps_ret (pe_fld (pv 0) rfl))), ?_⟩
    exact ⟨_, rfl, x, _, dx, _, _, rfl, hx, T.clStretch, T.nStretchBegin, sfs_b f l, k⟩
def spStretchLast (CS : Addr) : Sp := fun vs H Q _ => ∃ (a : Addr) (f : Int) (l : Option Int), vs = [.ref a] ∧ StrP CS H a f l ∧ Q (knV l) H
theorem scStretchLast : FnScope ["self"] ["self"] (defScope sStretchLast) :=
  ⟨rfl, rfl, rfl, by decide +kernel, rfl, by decide +kernel, by decide +kernel⟩
theorem mal_last (T : TX K mg) : Mal P w K mg base 1 "Stretch" "last" ["self"] [] (spStretchLast (He.ga K "Stretch")) := by
  obtain ⟨fd, F⟩ := T.dStretchLast
  refine Mal.of T.mStretchLast T.clStretch (FunD.bindsN F fun _ _ _ _ _ _ us hl => match us, hl with | [_], _ => rfl) .nil ?_
  refine F.ok scStretchLast (fun vs H Q E h => ?_) (fun cdv A outer s H vs Q E hr h => ?_)
  · obtain ⟨x, f, l, rfl, _⟩ := h
    rfl
  · obtain ⟨x, f, l, rfl, ⟨dx, hx⟩, k⟩ := h
    refine ⟨_, PSs.nox (pss_one (ps_ret (pe_fld (pv 0) rfl))), ?_⟩
    exact ⟨_, rfl, x, _, dx, _, _, rfl, hx, T.clStretch, T.nStretchEnd, sfs_e f l, k⟩
/-- a day that has a text -/
def NumOk (n : Int) : Prop := 0 ≤ n ∧ n < 10 ^ 60
theorem NumOk.log {n : Int} (h : NumOk n) : n.natAbs.log2 < 1920 := by
  obtain ⟨h0, h1⟩ := h
  have h2 : n.natAbs < 2 ^ 1920 := by
    have : (10 : Int) ^ 60 = ((10 ^ 60 : Nat) : Int) := by decide
    rw [this] at h1
    have h3 : n.natAbs < 10 ^ 60 := by omega
    exact Nat.lt_of_lt_of_le h3 (Nat.le_trans (by decide : 10 ^ 60 ≤ 2 ^ 200) (Nat.pow_le_pow_right (by decide) (by decide)))
  by_cases c : n.natAbs = 0
  · rw [c]
    decide
  · exact (Nat.log2_lt c).mpr h2
theorem NumOk.len {n : Int} (h : NumOk n) : (numT n).length ≤ 60 := toString_length_le h.1 (by decide) h.2
theorem strT_len {x : Int × Int} (h1 : NumOk x.1) (h2 : NumOk x.2) : (strT x).length ≤ 132 := by
  have a := h1.len
  have b := h2.len
  have e1 : ("Stretch(" : Str).length = 8 := by decide +kernel
  have e2 : (", " : Str).length = 2 := by decide +kernel
  have e3 : (")" : Str).length = 1 := by decide +kernel
  unfold strT
  rw [Str.length_append, Str.length_append, Str.length_append, Str.length_append, e1, e2, e3]
  omega
/-- a stretch with both days, and its text -/
def RStr (CS : Addr) (a : Addr) (t : Str) (H : Hp) : Prop := ∃ f l, StrP CS H a f (some l) ∧ NumOk f ∧ NumOk l ∧ t = strT (f, l)
theorem scStretchRepr : FnScope ["self"] ["self"] (defScope sStretchRepr) :=
  ⟨rfl, rfl, rfl, by decide +kernel, rfl, by decide +kernel, by decide +kernel⟩
theorem mal_repr (T : TX K mg) : Mal P w K mg base 1 "Stretch" "__repr__" ["self"] [] (spRep (RStr (He.ga K "Stretch"))) := by
  obtain ⟨fd, F⟩ := T.dStretchRepr
  refine Mal.of T.mStretchRepr T.clStretch (FunD.bindsN F fun _ _ _ _ _ _ us hl => match us, hl with | [_], _ => rfl) .nil ?_
  refine F.ok scStretchRepr (fun vs H Q E h => ?_) (fun cdv A outer s H vs Q E hr h => ?_)
  · obtain ⟨x, t, rfl, _⟩ := h
    rfl
  · obtain ⟨x, t, rfl, ⟨f, l, ⟨dx, hx⟩, hf, hl, rfl⟩, k⟩ := h
    refine ⟨_, PSs.nox (pss_cons (ps_if (pt_cmpR op_isN (pe_fld (pv 0) rfl) pe_non (nomark _)) (pss_one ps_never) pss_nil)
      (pss_one (ps_ret (pe_joined (.cons pe_str (.cons (pe_fmt (pe_fld (pv 0) rfl)) (.cons pe_str (.cons (pe_fmt (pe_fld (pv 0) rfl)) (.cons pe_str .nil))))))))), ?_⟩
    refine ⟨_, rfl, x, _, dx, _, _, rfl, hx, T.clStretch, T.nStretchEnd, sfs_e f (some l), rfl, _, rfl, ?_⟩
    have a := hf.len
    have b := hl.len
    have e1 : ("Stretch(" : Str).length = 8 := by decide +kernel
    have e2 : (", " : Str).length = 2 := by decide +kernel
    have e3 : (")" : Str).length = 1 := by decide +kernel
    have e0 : Str.empty ++ ("Stretch(" : Str) = "Stretch(" := by decide +kernel
    refine ⟨"Stretch(", rfl, by rw [e0, e1]; exact sz (by omega), ?_⟩
    rw [e0]
    refine ⟨_, rfl, x, _, dx, _, _, rfl, hx, T.clStretch, T.nStretchBegin, sfs_b f (some l), .inr ⟨f, rfl, hf.log, ?_⟩⟩
    refine ⟨numT f, rfl, by rw [Str.length_append, e1]; exact sz (by omega), ?_⟩
    refine ⟨", ", rfl, by rw [Str.length_append, Str.length_append, e1, e2]; exact sz (by omega), ?_⟩
    refine ⟨_, rfl, x, _, dx, _, _, rfl, hx, T.clStretch, T.nStretchEnd, sfs_e f (some l), .inr ⟨l, rfl, hl.log, ?_⟩⟩
    refine ⟨numT l, rfl, by rw [Str.length_append, Str.length_append, Str.length_append, e1, e2]; exact sz (by omega), ?_⟩
    refine ⟨")", rfl, by rw [Str.length_append, Str.length_append, Str.length_append, Str.length_append, e1, e2, e3]; exact sz (by omega), ?_⟩
    exact k H (Same.refl H)
end
end K76
namespace K76
open PySem PySem.Spec PyProof.Rows L2
/-- a run: its place and its first day -/
def rnV (r : Str × Int) : List V := [.str r.1, .int r.2]
def DTurn (CS : Addr) (H : Hp) (q : Addr) (t : Str × Int × Option Int) : Prop := ∃ st, H q = some (.tup [.str t.1, .ref st]) ∧ StrP CS H st t.2.1 t.2.2
theorem stay_turn (CS : Addr) : Stay (DTurn CS) := fun H H' q x k h => by
  obtain ⟨st, h1, dx, h2⟩ := h
  exact ⟨st, k _ _ h1 (fun _ z => nomatch z), dx, k _ _ h2 (fun _ z => nomatch z)⟩
theorem runStep_ne (f : List (Str × Int)) (m : Int × Str) (h : f ≠ []) : runStep f m ≠ [] := by
  unfold runStep
  by_cases c : m.1 = 0
  · rw [if_pos c]
    exact List.cons_ne_nil _ _
  · rw [if_neg c]
    by_cases d : f.getLast?.map (·.1) = some m.2
    · rw [if_pos d]
      exact h
    · rw [if_neg d]
      simp
theorem runsOf_ne (L : List (Int × Str)) : runsOf L ≠ [] := by
  induction L using snoc_ind with
  | h0 => exact List.cons_ne_nil _ _
  | h1 l x ih =>
    rw [runsOf_snoc]
    exact runStep_ne _ _ ih
theorem runStep_len (f : List (Str × Int)) (m : Int × Str) (h : f ≠ []) : (runStep f m).length ≤ f.length + 1 := by
  unfold runStep
  by_cases c : m.1 = 0
  · rw [if_pos c]
    show 1 ≤ _
    omega
  · rw [if_neg c]
    by_cases d : f.getLast?.map (·.1) = some m.2
    · rw [if_pos d]
      omega
    · rw [if_neg d, List.length_append]
      exact Nat.le_refl _
theorem runsOf_len (L : List (Int × Str)) : (runsOf L).length ≤ L.length + 1 := by
  induction L using snoc_ind with
  | h0 => exact Nat.le_refl _
  | h1 l x ih =>
    rw [runsOf_snoc, List.length_append]
    have := runStep_len (runsOf l) x (runsOf_ne l)
    simp only [List.length_cons, List.length_nil]
    omega
theorem take_snoc {α : Type} {l : List α} {i : Nat} {x : α} (h : l[i]? = some x) : l.take (i + 1) = l.take i ++ [x] := by
  rw [List.take_add_one, h]
  rfl
theorem turnsOf_at : ∀ (R : List (Str × Int)) (i : Nat), (turnsOf R)[i]? = R[i]?.map fun r => (r.1, r.2, R[i + 1]?.map fun q => q.2 - 1)
  | [], i => by simp [turnsOf]
  | [r], 0 => rfl
  | [r], i + 1 => by simp [turnsOf]
  | r :: q :: l, 0 => rfl
  | r :: q :: l, i + 1 => by
    show ((r.1, r.2, some (q.2 - 1)) :: turnsOf (q :: l))[i + 1]? = _
    rw [List.getElem?_cons_succ, turnsOf_at (q :: l) i]
    rfl
section
variable {P : Program} {w : World} {K : PySem.W.Frag} {mg : Str → Option Value} {base : Heap}
def spRunsOf : Sp := fun vs H Q _ => ∃ (a : Addr) (L : List (Int × Str)), vs = [.ref a] ∧ Lof (DTup hdV) H a L ∧ L.length ≤ 900 ∧ ∀ H' p, Same H H' → Lof (DTup rnV) H' p (runsOf L) → Q (.ref p) H'
theorem scRunsOf : FnScope ["moves", "found", "day", "place"] ["moves"] (defScope sRunsOf) :=
  ⟨rfl, rfl, rfl, by decide +kernel, rfl, by decide +kernel, by decide +kernel⟩
theorem one_tup {α : Type} {f : α → List V} {H : Hp} {q p : Addr} {x : α} (hq : H q = none) (hp : upd H q (.tup (f x)) p = none) : Lof (DTup f) (upd (upd H q (.tup (f x))) p (.lst [.ref q])) p [x] := by
  have n : q ≠ p := fun z => by rw [← z, upd_same] at hp; cases hp
  exact ⟨[(q, x)], upd_same, fun y hy => by
    have e : y = (q, x) := by simpa using hy
    rw [e]
    show upd _ _ _ q = _
    rw [upd_ne n, upd_same], rfl⟩
theorem cal_runsOf (T : TX K mg) : Cal P w K mg base 1 "runs_of" ["moves"] [] spRunsOf := by
  obtain ⟨fd, F⟩ := T.dRunsOf
  obtain ⟨tA, cA⟩ := T.cAshore
  refine Cal.of F T.gRunsOf (FunD.bindsN F fun _ _ _ _ _ _ us hl => match us, hl with | [_], _ => rfl) .nil ?_
  refine F.ok scRunsOf (fun vs H Q E h => ?_) (fun cdv A outer s H vs Q E hr h => ?_)
  · obtain ⟨x, f, rfl, _⟩ := h
    rfl
  · obtain ⟨a, L, rfl, hL, hlen, k⟩ := h
    refine ⟨_, PSs.nox (pss_cons (ps_set (i := 1) scRunsOf.nd rfl (by first | exact Or.inl rfl | exact Or.inr rfl) (pe_lst (pa_cons (pe_tup (pa_cons (pe_glob (v := .str "") rfl cA ⟨_, rfl⟩) (pa_cons pe_int pa_nil))) pa_nil)))
      (pss_cons (ps_for PassesOwn.never rfl (pi_list (pv 0)) (pg_tup (by rfl) (pgs_cons (pg_name (i := 2) scRunsOf.nd rfl (by first | exact Or.inl rfl | exact Or.inr rfl)) (pgs_cons (pg_name (i := 3) scRunsOf.nd rfl (by first | exact Or.inl rfl | exact Or.inr rfl)) pgs_nil)))
        (pss_one (ps_if (pt_cmpR op_eq (pv 2) pe_int (nomark _)) (pss_one (ps_set (i := 1) scRunsOf.nd rfl (by first | exact Or.inl rfl | exact Or.inr rfl) (pe_lst (pa_cons (pe_tup (pa_cons (pv 3) (pa_cons pe_int pa_nil))) pa_nil)))) (pss_one (ps_if (pt_cmpR op_ne (pv 3) (pe_ix ix_tup (pe_ix ix_list (pv 1) (pe_un un_neg pe_int) (fun _ _ => rfl)) pe_int (fun _ _ => rfl)) (nomark _)) (pss_one (ps_expr (pe_bm PySem.F.plainAttrs_list PySem.F.slot_list_append PySem.F.type_list_append mt_append (pv 1) (pa_cons (pe_tup (pa_cons (pv 3) (pa_cons (pv 2) pa_nil))) pa_nil)))) pss_nil)))))
      (pss_one (ps_ret (pv 1))))), ?_⟩
    have sl2 : 2 ≤ sizeLine := by decide
    have sl1 : 1 ≤ sizeLine := by decide
    refine ⟨sl2, fun q hq => ⟨sl1, fun p hp => ?_⟩⟩
    obtain ⟨vs, hv, hvl⟩ := hL.len
    have S1 : Same H (upd (upd H q (.tup [.str "", .int 0])) p (.lst [.ref q])) := (Same.new hq).trans (Same.new hp)
    refine ⟨_, rfl, a, rfl, ⟨_, SqL.of (S1 _ _ hv)⟩, for_it (walk_list (K := K) (a := a) (xs := vs)) (fun i σ H1 => Same H H1 ∧ ∃ p v2 v3, H p = none ∧ Lof (DTup rnV) H1 p (runsOf (L.take i)) ∧ σ = [some (.ref a), some (.ref p), v2, v3])
      ⟨S1, p, none, none, Same.none (Same.new hq) hp, one_tup (f := rnV) (x := (ash, 0)) hq hp, rfl⟩ (fun i σ H1 _ p => SqL.of (p.1 _ _ hv)) ?_ ?_⟩
    · rintro i x σ H1 H2 hi ⟨S, p, v2, v3, hp0, hR, rfl⟩ ⟨rfl, hx⟩
      have hL1 := hL.mono (stay_tup _) S
      obtain ⟨q, m, rfl, hm, hq⟩ := hL1.at_ (S _ _ hv) hx
      have et : runsOf (L.take (i + 1)) = runStep (runsOf (L.take i)) m := by rw [take_snoc hm, runsOf_snoc]
      rw [hvl] at hi
      refine ⟨q, _, rfl, SqT.of hq, rfl, _, _, rfl, _, _, rfl, rfl, ?_⟩
      refine ⟨_, rfl, rfl, _, rfl, ?_⟩
      by_cases c : V.int m.1 = V.int 0
      · refine ifd c ?_
        have c2 : m.1 = 0 := by injection c
        refine ⟨_, rfl, sl2, fun q' hq' => ⟨sl1, fun p' hp' => ?_⟩⟩
        have S2 : Same H2 (upd (upd H2 q' (.tup [.str m.2, .int 0])) p' (.lst [.ref q'])) := (Same.new hq').trans (Same.new hp')
        refine ⟨S.trans S2, p', _, _, Same.none (S.trans (Same.new hq')) hp', ?_, rfl⟩
        rw [et]
        unfold runStep
        rw [if_pos c2]
        exact one_tup (f := rnV) (x := (m.2, 0)) hq' hp'
      · refine ifn c ?_
        have c2 : m.1 ≠ 0 := fun z => c (by rw [z])
        obtain ⟨ws, hw, hwl⟩ := hR.len
        cases el : (runsOf (L.take i)).getLast? with
        | none => exact absurd (List.getLast?_eq_none_iff.mp el) (runsOf_ne _)
        | some r =>
          obtain ⟨ql, al, hl⟩ := hR.last hw el
          refine ⟨_, rfl, _, rfl, 1, rfl, p, _, _, _, rfl, rfl, SqL.of hw, al, ?_⟩
          refine ⟨ql, _, 0, .str r.1, rfl, rfl, SqT.of hl, rfl, ?_⟩
          refine ⟨rfl, _, rfl, ?_⟩
          by_cases d : V.str m.2 = V.str r.1
          · refine ifnd d ?_
            have d2 : m.2 = r.1 := by injection d
            refine ⟨S, p, _, _, hp0, ?_, rfl⟩
            rw [et]
            unfold runStep
            rw [if_neg c2, el, if_pos (by rw [d2]; rfl)]
            exact hR
          · refine ifnn d ?_
            have d2 : m.2 ≠ r.1 := fun z => d (by rw [z])
            refine ⟨_, rfl, .inl ⟨rfl, _, SqL.of hw⟩, _, rfl, _, rfl, sl2, fun z hz => ?_⟩
            have S3 := Same.new (o := .tup [.str m.2, .int m.1]) hz
            have hlr := runsOf_len (L.take i)
            rw [List.length_take] at hlr
            refine ⟨p, _, _, rfl, rfl, S3 _ _ hw, sz' (by omega), Same.mut (S.trans S3) hp0, p, _, _, hp0, ?_, rfl⟩
            rw [et]
            unfold runStep
            rw [if_neg c2, el, if_neg (show ¬ (some r).map (·.1) = some m.2 from fun z => d2 (Option.some.inj z).symm)]
            exact hR.snoc (stay_tup _) S3 (S3 _ _ hw) (show DTup rnV _ z (m.2, m.1) from upd_same)
    · rintro σ H1 ⟨S, p, v2, v3, hp0, hR, rfl⟩
      rw [hvl, List.take_length] at hR
      exact ⟨_, rfl, k _ p S hR⟩

def spTurns (CB CS : Addr) : Sp := fun vs H Q _ => ∃ (b : Addr) (keeper : Str) (kn : Option Int) (kvs : List (L2.Key × V)) (M : MT) (t : Option Int), vs = [.ref b, .str keeper, knV kn] ∧ BookS H CB b kvs M t ∧ MOk M 900 ∧ (valV kvs (.inr keeper)).isSome = true ∧ KnOk kn ∧
  ∀ H' p, Same H H' → Lof (DTurn CS) H' p (turnsOf (runsOf (heldS M keeper kn))) → Q (.ref p) H'
theorem scTurns : FnScope ["book", "keeper", "known", "runs", "found", "k", "place", "first", "last"] ["book", "keeper", "known"] (defScope sTurns) :=
  ⟨rfl, rfl, rfl, by decide +kernel, rfl, by decide +kernel, by decide +kernel⟩
theorem runs_rise {M : MT} (hM : MOk M 900) (keeper : Str) (kn : Option Int) {i : Nat} {r : Str × Int} (hr : (runsOf (heldS M keeper kn))[i]? = some r) : 0 ≤ r.2 ∧ ∀ q, (runsOf (heldS M keeper kn))[i + 1]? = some q → r.2 ≤ q.2 - 1 := by
  have inv := runs_inv (heldS M keeper kn) (heldS_srt hM.nd keeper kn) (fun m hm => heldS_day hM m hm)
  refine ⟨?_, fun q hq => ?_⟩
  · rcases inv.below r (List.mem_of_getElem? hr) with z | ⟨m, hm, e⟩
    · omega
    · have := heldS_day hM m hm
      omega
  · have hp := inv.ok.rise
    obtain ⟨hi, e1⟩ := List.getElem?_eq_some_iff.mp hr
    obtain ⟨hj, e2⟩ := List.getElem?_eq_some_iff.mp hq
    have := List.pairwise_iff_getElem.mp hp i (i + 1) hi hj (by omega)
    rw [e1, e2] at this
    omega
theorem cal_turns (T : TX K mg) : Cal P w K mg base 4 "turns" ["book", "keeper", "known"] [] (spTurns (He.ga K "Book") (He.ga K "Stretch")) := by
  obtain ⟨fd, F⟩ := T.dTurns
  have c1 : Cal P w K mg base 3 "want_known" ["thing"] [] spWantKnown := cal_wantKnown T
  have c2 : Cal P w K mg base 1 "runs_of" ["moves"] [] spRunsOf := cal_runsOf T
  have c3 : Mak P w K mg base 2 "Stretch" ["self", "first", "last"] [] (spStretchInit (He.ga K "Stretch")) := mak_stretch T
  obtain ⟨⟨fd4, ds4, G4, b4, d4⟩, me4, cl4⟩ : Mal P w K mg base 1 "Book" "want_keeper" ["self", "thing"] [] (spWantKeeper (He.ga K "Book")) := mal_wantKeeper T
  obtain ⟨⟨fd5, ds5, G5, b5, d5⟩, me5, cl5⟩ : Mal P w K mg base 2 "Book" "held_moves" ["self", "keeper", "known"] [] (spHeld (He.ga K "Book")) := mal_held T
  obtain ⟨ds, hd, hb⟩ := F.binds1 (ps := ["book", "keeper", "known"]) 3 1 (List.cons_ne_nil _ _) rfl (fun T kV doc pm an cdv ct us its h1 h2 => match us, its, h1, h2 with | [_, _, _], [_], _, _ => ⟨_, rfl, rfl⟩)
  refine Cal.of F T.gTurns hb hd ?_
  refine F.ok scTurns (fun vs H Q E h => ?_) (fun cdv A outer s H vs Q E hr h => ?_)
  · obtain ⟨b, keeper, kn, kvs, M, t, rfl, _⟩ := h
    rfl
  · obtain ⟨b, keeper, kn, kvs, M, t, rfl, hB, hM, hkp, hkn, k⟩ := h
    refine ⟨_, PSs.nox (pss_cons (ps_expr (pe_meth (pv 0) cl4 me4 G4 (hr.mono (by decide)) b4 d4 pass0 (pa_cons (pv 1) pa_nil)))
      (pss_cons (ps_expr (pe_cal c1 hr (pa_cons (pv 2) pa_nil)))
      (pss_cons (ps_set (i := 3) scTurns.nd rfl (by first | exact Or.inl rfl | exact Or.inr rfl) (pe_cal c2 hr (pa_cons (pe_meth (pv 0) cl5 me5 G5 (hr.mono (by decide)) b5 d5 pass0 (pa_cons (pv 1) (pa_cons (pv 2) pa_nil))) pa_nil)))
      (pss_cons (ps_set (i := 4) scTurns.nd rfl (by first | exact Or.inl rfl | exact Or.inr rfl) (pe_lst pa_nil))
      (pss_cons (ps_for PassesOwn.never rfl (pi_enum (by rfl) T.f_enumerate (pa_cons (pv 3) pa_nil)) (pg_tup (by rfl) (pgs_cons (pg_name (i := 5) scTurns.nd rfl (by first | exact Or.inl rfl | exact Or.inr rfl)) (pgs_cons (pg_tup (by rfl) (pgs_cons (pg_name (i := 6) scTurns.nd rfl (by first | exact Or.inl rfl | exact Or.inr rfl)) (pgs_cons (pg_name (i := 7) scTurns.nd rfl (by first | exact Or.inl rfl | exact Or.inr rfl)) pgs_nil))) pgs_nil)))
        (pss_cons (ps_set (i := 8) scTurns.nd rfl (by first | exact Or.inl rfl | exact Or.inr rfl) pe_non)
        (pss_cons (ps_if (pt_cmpR op_lt (pe_op op_add (pv 5) pe_int) (pe_callB call_len_seq (by rfl) T.f_len (by decide +kernel) (pa_cons (pv 3) pa_nil)) (nomark _)) (pss_one (ps_set (i := 8) scTurns.nd rfl (by first | exact Or.inl rfl | exact Or.inr rfl) (pe_op op_sub (pe_ix ix_tup (pe_ix ix_list (pv 3) (pe_op op_add (pv 5) pe_int) (fun _ _ => rfl)) pe_int (fun _ _ => rfl)) pe_int))) pss_nil)
        (pss_one (ps_expr (pe_bm PySem.F.plainAttrs_list PySem.F.slot_list_append PySem.F.type_list_append mt_append (pv 4) (pa_cons (pe_tup (pa_cons (pv 6) (pa_cons (pe_mak c3 hr (pa_cons (pv 7) (pa_cons (pv 8) pa_nil))) pa_nil))) pa_nil)))))))
      (pss_one (ps_ret (pv 4)))))))), ?_⟩
    obtain ⟨dx, rr, mm, ll, es, hbp, eM⟩ := id hB
    have sl2 : 2 ≤ sizeLine := by decide
    refine ⟨_, rfl, b, dx, _, rfl, hbp.ins, lf_wk rr mm ll t, _, rfl, b, keeper, kvs, M, t, rfl, hB, hkp, fun H1 S1 => ?_⟩
    refine ⟨_, rfl, kn, rfl, hkn, fun H2 S2 => ?_⟩
    have S2' := S1.trans S2
    refine ⟨_, rfl, b, dx, _, rfl, (hbp.mono S2').ins, lf_hm rr mm ll t, _, rfl, _, rfl, b, keeper, kn, kvs, M, t, rfl, hB.mono S2', hM, fun H3 hm S3 hh => ?_⟩
    have hlen : (heldS M keeper kn).length ≤ 900 := heldS_len hM keeper kn
    refine ⟨hm, _, rfl, hh.lof, hlen, fun H4 p4 S4 hR => ?_⟩
    refine ⟨Nat.zero_le _, fun f hf => ?_⟩
    have S4' : Same H H4 := (S2'.trans S3).trans S4
    have S5 := Same.new (o := .lst []) hf
    generalize hRR : runsOf (heldS M keeper kn) = R at *
    have hRl : R.length ≤ 901 := by
      have := runsOf_len (heldS M keeper kn)
      rw [hRR] at this
      omega
    have hrise := fun {i : Nat} {r : Str × Int} (h : R[i]? = some r) => runs_rise hM keeper kn (i := i) (r := r) (by rw [hRR]; exact h)
    rw [hRR] at hrise
    obtain ⟨vs, hv, hvl⟩ := hR.len
    have hf0 : H f = none := Same.none S4' hf
    generalize hH5 : upd H4 f (.lst []) = H5 at S5
    have f5 : H5 f = some (.lst []) := by rw [← hH5, upd_same]
    refine ⟨_, rfl, p4, vs, rfl, SqL.of (S5 _ _ hv), for_it (walk_enum (K := K) (a := p4) (xs := vs)) (fun i σ H6 => Same H4 H6 ∧ Lof (DTurn (He.ga K "Stretch")) H6 f ((turnsOf R).take i) ∧ ∃ v5 v6 v7 v8, σ = [some (.ref b), some (.str keeper), some (knV kn), some (.ref p4), some (.ref f), v5, v6, v7, v8])
      ⟨S5, Lof.nil f5, none, none, none, none, rfl⟩ (fun i σ H6 _ p => SqL.of (p.1 _ _ hv)) ?_ ?_⟩
    · rintro i x σ H6 H7 hi ⟨S6, hF, v5, v6, v7, v8, rfl⟩ ⟨T7, x, y, rfl, hT7, rfl, hx, hy⟩
      obtain rfl : V.int (i : Nat) = x := Option.some.inj hx
      obtain ⟨q, r, rfl, hr6, hq6⟩ := (hR.mono (stay_tup _) S6).at_ (S6 _ _ hv) hy
      have S7 := Same.new (o := .tup [.int (i : Nat), .ref q]) hT7
      generalize hH7 : upd H6 T7 (.tup [.int (i : Nat), .ref q]) = H7 at S7
      have t7 : H7 T7 = some (.tup [.int (i : Nat), .ref q]) := by rw [← hH7, upd_same]
      have S7' : Same H4 H7 := S6.trans S7
      obtain ⟨hr0, hr1⟩ := hrise hr6
      refine ⟨T7, _, rfl, SqT.of t7, rfl, _, _, rfl, _, _, rfl, ⟨q, _, rfl, SqT.of (S7 _ _ hq6), rfl, _, _, rfl, _, _, rfl, rfl, rfl, ?_⟩⟩
      refine ⟨_, rfl, (i : Nat), 1, rfl, rfl, _, rfl, p4, vs, rfl, .inl (SqL.of (S7' _ _ hv)), _, _, rfl, rfl, _, rfl, ?_⟩
      rw [hvl] at hi ⊢
      -- the rest, for the last day
      have fin : ∀ (l : Option Int), R[i + 1]?.map (fun q => q.2 - 1) = l → (∀ z, l = some z → r.2 ≤ z) → ∀ (x dx : Addr) (H8 : Hp), But x (upd (upd H7 dx (.own x)) x (.ins (He.ga K "Stretch") dx [])) H8 → H7 x = none → H7 dx = none → dx ≠ x →
          H8 x = some (.ins (He.ga K "Stretch") dx (sfs r.2 l)) → ∀ (z : Addr), H8 z = none → ∃ vs, H7 f = some (.lst vs) ∧ Same H4 (upd H8 z (.tup [.str r.1, .ref x])) ∧ upd H8 z (.tup [.str r.1, .ref x]) f = some (.lst vs) ∧ vs.length < sizeLine ∧
            Lof (DTurn (He.ga K "Stretch")) (upd (upd H8 z (.tup [.str r.1, .ref x])) f (.lst (vs ++ [.ref z]))) f ((turnsOf R).take (i + 1)) := by
        intro l el hl x dx H8 B8 hx hdx ndx h8 z hz
        have S8 : Same H7 H8 := fun y o hy => by
          have nyx : y ≠ x := ne_of_none hy hx
          have nyd : y ≠ dx := ne_of_none hy hdx
          exact B8 _ _ nyx (by rw [upd_ne nyx, upd_ne nyd]; exact hy)
        have S9 := Same.new (o := .tup [.str r.1, .ref x]) hz
        obtain ⟨ws, hw, hwl⟩ := (hF.mono (stay_turn _) S7).len
        have et : (turnsOf R).take (i + 1) = (turnsOf R).take i ++ [(r.1, r.2, l)] := take_snoc (by rw [turnsOf_at, hr6, ← el]; rfl)
        refine ⟨ws, hw, S7'.trans (S8.trans S9), S9 _ _ (S8 _ _ hw), by rw [hwl, List.length_take, turnsOf_len]; exact sz' (by omega), ?_⟩
        rw [et]
        exact hF.snoc (stay_turn _) (S7.trans (S8.trans S9)) (S9 _ _ (S8 _ _ hw)) ⟨x, upd_same, dx, S9 _ _ h8⟩
      by_cases c : (i : Int) + 1 < (R.length : Int)
      · refine ifd c ?_
        have hi1 : i + 1 < R.length := by omega
        have er1 : R[i + 1]? = some R[i + 1] := List.getElem?_eq_getElem hi1
        generalize R[i + 1] = r1 at er1
        obtain ⟨q1, hq1, hd1⟩ := (hR.mono (stay_tup _) S7').get (S7' _ _ hv) er1
        have ha1 : atI vs (((i + 1 : Nat) : Int)) = some (.ref q1) := atI_nat hq1
        have ei : ((i : Nat) : Int) + 1 = ((i + 1 : Nat) : Int) := by omega
        refine ⟨_, rfl, _, rfl, (i : Nat), 1, rfl, rfl, p4, vs, _, _, rfl, rfl, SqL.of (S7' _ _ hv), by rw [ei]; exact ha1, ?_⟩
        refine ⟨q1, _, 1, .int r1.2, rfl, rfl, SqT.of hd1, rfl, r1.2, 1, rfl, rfl, ?_⟩
        have hf1 := hr1 r1 er1
        refine ⟨_, rfl, .inl ⟨rfl, _, SqL.of (S7 _ _ hF.len.choose_spec.1)⟩, _, rfl, _, rfl, _, rfl, fun x dx hx hdx ndx => ⟨x, dx, r.2, some (r1.2 - 1), rfl, upd_same, hr0, fun z hz => by rw [← Option.some.inj hz]; exact hf1, fun H8 B8 h8 => ⟨rfl, ?_⟩⟩⟩
        refine ⟨sl2, fun z hz => ?_⟩
        obtain ⟨ws, hw, S9, h9, hsz, hL⟩ := fin (some (r1.2 - 1)) (by rw [er1]; rfl) (fun z hz => by rw [← Option.some.inj hz]; exact hf1) x dx H8 B8 hx hdx ndx h8 z hz
        exact ⟨f, _, _, rfl, rfl, h9, hsz, Same.mut S9 hf, hL, _, _, _, _, rfl⟩
      · refine ifn c ?_
        have er1 : R[i + 1]? = none := List.getElem?_eq_none (by omega)
        refine ⟨_, rfl, .inl ⟨rfl, _, SqL.of (S7 _ _ hF.len.choose_spec.1)⟩, _, rfl, _, rfl, _, rfl, fun x dx hx hdx ndx => ⟨x, dx, r.2, none, rfl, upd_same, hr0, (fun _ z => nomatch z), fun H8 B8 h8 => ⟨rfl, ?_⟩⟩⟩
        refine ⟨sl2, fun z hz => ?_⟩
        obtain ⟨ws, hw, S9, h9, hsz, hL⟩ := fin none (by rw [er1]; rfl) (fun _ z => nomatch z) x dx H8 B8 hx hdx ndx h8 z hz
        exact ⟨f, _, _, rfl, rfl, h9, hsz, Same.mut S9 hf, hL, _, _, _, _, rfl⟩
    · rintro σ H6 ⟨S6, hF, v5, v6, v7, v8, rfl⟩
      have e : (turnsOf R).take vs.length = turnsOf R := by rw [hvl, ← turnsOf_len R, List.take_length]
      rw [e] at hF
      exact ⟨_, rfl, k _ f (S4'.trans S6) hF⟩
end
end K76
namespace K76
open PySem PySem.Spec PyProof.Rows L2
def spV (s : Bool × Int × Int) : List V := [.bl s.1, .int s.2.1, .int s.2.2]
theorem dec_out (p : Str) : (!decide (V.str p = V.str "")) = isOut p := by
  unfold isOut
  by_cases c : p = ash
  · rw [decide_eq_true c, decide_eq_true (show V.str p = V.str "" by rw [c]; rfl)]
  · rw [decide_eq_false c, decide_eq_false (fun z => c (by injection z))]
theorem set_last {α : Type} {l : List α} {x : α} (h : l ≠ []) : l.set (l.length - 1) x = l.dropLast ++ [x] := by
  induction l with
  | nil => exact absurd rfl h
  | cons a l ih =>
    cases l with
    | nil => rfl
    | cons b l =>
      show a :: (b :: l).set ((b :: l).length - 1) x = a :: ((b :: l).dropLast ++ [x])
      rw [ih (List.cons_ne_nil _ _)]
theorem ixN_last {n : Nat} (h : n ≠ 0) : ixN n (-1) = some (n - 1) := by
  unfold ixN
  rw [if_neg (by decide), if_pos (by omega)]
  congr 1
  omega
/-- another one for the last -/
theorem Lof.setl {α : Type} {D : Hp → Addr → α → Prop} (hD : Stay D) {H H1 : Hp} {a q : Addr} {xs : List α} {x : α} {vs : List V} (h : Lof D H a xs) (s : Same H H1) (hv : H1 a = some (.lst vs)) (hq : D H1 q x) (hn : xs ≠ []) :
    ixN vs.length (-1) = some (vs.length - 1) ∧ Lof D (upd H1 a (.lst (vs.set (vs.length - 1) (.ref q)))) a (xs.dropLast ++ [x]) := by
  obtain ⟨qs, h1, h2, h3⟩ := h
  have e : vs = qs.map fun q => V.ref q.1 := by
    have := s _ _ h1
    rw [hv] at this
    injection this with z
    injection z
  have hvs : vs ≠ [] := by
    intro z
    rw [z] at e
    have : qs = [] := List.map_eq_nil_iff.mp e.symm
    rw [this] at h3
    exact hn h3.symm
  have kn : KeepN H1 (upd H1 a (.lst (vs.set (vs.length - 1) (.ref q)))) := KeepN.but But.upd hv
  refine ⟨ixN_last fun z => hvs (List.length_eq_zero_iff.mp z), qs.dropLast ++ [(q, x)], ?_, fun y hy => ?_, ?_⟩
  · rw [upd_same, set_last hvs, e, List.map_append, List.map_dropLast]
    rfl
  · rcases List.mem_append.mp hy with z | z
    · exact hD _ _ _ _ kn (hD _ _ _ _ (KeepN.of s) (h2 y ((List.dropLast_sublist _).subset z)))
    · have ey : y = (q, x) := by simpa using z
      rw [ey]
      exact hD _ _ _ _ kn hq
  · rw [List.map_append, List.map_dropLast, h3]
    rfl
theorem Lof.but {α : Type} {D : Hp → Addr → α → Prop} (hD : Stay D) {H H' : Hp} {a b : Addr} {xs : List α} {ys : List V} (s : But a H H') (ha : H a = some (.lst ys)) (n : b ≠ a) (h : Lof D H b xs) : Lof D H' b xs := by
  obtain ⟨qs, h1, h2, h3⟩ := h
  exact ⟨qs, s _ _ n h1, fun q hq => hD _ _ _ _ (KeepN.but s ha) (h2 q hq), h3⟩
section
variable {P : Program} {w : World} {K : PySem.W.Frag} {mg : Str → Option Value} {base : Heap}
def lastD (day : Int) : Option Int → Int
  | none => day
  | some z => if z < day then z else day
theorem spellStep_eq (day : Int) (S : List (Bool × Int × Int)) (t : Str × Int × Option Int) : spellStep day S t = if day < t.2.1 then S else match S.getLast? with
    | some x => if x.1 = isOut t.1 then S.dropLast ++ [(isOut t.1, x.2.1, lastD day t.2.2)] else S ++ [(isOut t.1, t.2.1, lastD day t.2.2)]
    | none => S ++ [(isOut t.1, t.2.1, lastD day t.2.2)] := by
  obtain ⟨p, f, l⟩ := t
  cases l <;> rfl
def tFirstOf (CS : Addr) : TE := fun σ H Q => ∃ st f l, σ[6]? = some (some (.ref st)) ∧ StrP CS H st f l ∧ Q (.int f) H
def tLastOf (CS : Addr) : TE := fun σ H Q => ∃ st f l day, σ[6]? = some (some (.ref st)) ∧ σ[2]? = some (some (.int day)) ∧ StrP CS H st f l ∧ Q (.int (lastD day l)) H
def spSpells (CB : Addr) : Sp := fun vs H Q _ => ∃ (b : Addr) (keeper : Str) (day : Int) (kn : Option Int) (kvs : List (L2.Key × V)) (M : MT) (t : Option Int), vs = [.ref b, .str keeper, .int day, knV kn] ∧ BookS H CB b kvs M t ∧ MOk M 900 ∧ (valV kvs (.inr keeper)).isSome = true ∧ KnOk kn ∧ 0 ≤ day ∧
  ∀ H' p, Same H H' → Lof (DTup spV) H' p (spells (heldS M keeper kn) day) → Q (.ref p) H'
theorem scSpellsOf : FnScope ["book", "keeper", "day", "known", "found", "place", "stretch", "first", "last", "is_out"] ["book", "keeper", "day", "known"] (defScope sSpellsOf) :=
  ⟨rfl, rfl, rfl, by decide +kernel, rfl, by decide +kernel, by decide +kernel⟩
theorem spells_take (T : List (Str × Int × Option Int)) (day : Int) {i : Nat} {t : Str × Int × Option Int} (h : T[i]? = some t) : spellsOf (T.take (i + 1)) day = spellStep day (spellsOf (T.take i) day) t := by
  rw [take_snoc h]
  unfold spellsOf
  rw [List.foldl_append]
  rfl
theorem cal_spells (T : TX K mg) : Cal P w K mg base 5 "spells_of" ["book", "keeper", "day", "known"] [] (spSpells (He.ga K "Book")) := by
  obtain ⟨fd, F⟩ := T.dSpellsOf
  obtain ⟨tA, cA⟩ := T.cAshore
  have c1 : Cal P w K mg base 4 "turns" ["book", "keeper", "known"] [] (spTurns (He.ga K "Book") (He.ga K "Stretch")) := cal_turns T
  obtain ⟨⟨fd4, ds4, G4, b4, d4⟩, me4, cl4⟩ : Mal P w K mg base 1 "Stretch" "first" ["self"] [] (spStretchFirst (He.ga K "Stretch")) := mal_first T
  obtain ⟨⟨fd5, ds5, G5, b5, d5⟩, me5, cl5⟩ : Mal P w K mg base 1 "Stretch" "last" ["self"] [] (spStretchLast (He.ga K "Stretch")) := mal_last T
  refine Cal.of F T.gSpellsOf (FunD.bindsN F fun _ _ _ _ _ _ us hl => match us, hl with | [_, _, _, _], _ => rfl) .nil ?_
  refine F.ok scSpellsOf (fun vs H Q E h => ?_) (fun cdv A outer s H vs Q E hr h => ?_)
  · obtain ⟨b, keeper, day, kn, kvs, M, t, rfl, _⟩ := h
    rfl
  · obtain ⟨b, keeper, day, kn, kvs, M, t, rfl, hB, hM, hkp, hkn, hday, k⟩ := h
    have lf : ∀ f l, (sfs f l).lookup ("first" : Str) = none := fun f l => sfs_no f l (by decide +kernel) (by decide +kernel)
    have ll : ∀ f l, (sfs f l).lookup ("last" : Str) = none := fun f l => sfs_no f l (by decide +kernel) (by decide +kernel)
    refine ⟨_, PSs.nox (pss_cons (ps_set (i := 4) scSpellsOf.nd rfl (by first | exact Or.inl rfl | exact Or.inr rfl) (pe_lst pa_nil))
      (pss_cons (ps_for PassesOwn.never rfl (pi_list (pe_cal c1 hr (pa_cons (pv 0) (pa_cons (pv 1) (pa_cons (pv 3) pa_nil))))) (pg_tup (by rfl) (pgs_cons (pg_name (i := 5) scSpellsOf.nd rfl (by first | exact Or.inl rfl | exact Or.inr rfl)) (pgs_cons (pg_name (i := 6) scSpellsOf.nd rfl (by first | exact Or.inl rfl | exact Or.inr rfl)) pgs_nil)))
        (pss_cons (ps_set (i := 7) scSpellsOf.nd rfl (by first | exact Or.inl rfl | exact Or.inr rfl) (pe_by (t2 := tFirstOf (He.ga K "Stretch")) (pe_meth0 (pv 6) cl4 me4 G4 (hr.mono (by decide)) b4 d4 pass0) (fun σ H Q q => by
            obtain ⟨st, f, l, h1, ⟨dx, h2⟩, q⟩ := q
            exact ⟨_, h1, st, dx, _, rfl, h2, lf f l, st, f, l, rfl, ⟨dx, h2⟩, q⟩)))
        (pss_cons (ps_set (i := 8) scSpellsOf.nd rfl (by first | exact Or.inl rfl | exact Or.inr rfl) (pe_by (t2 := tLastOf (He.ga K "Stretch")) (pe_ifExp (pt_cmpR op_isN (pe_meth0 (pv 6) cl5 me5 G5 (hr.mono (by decide)) b5 d5 pass0) pe_non (nomark _)) (pv 2) (pe_callB (call_min2 rfl) (by rfl) T.f_min (by decide +kernel) (pa_cons (pv 2) (pa_cons (pe_meth0 (pv 6) cl5 me5 G5 (hr.mono (by decide)) b5 d5 pass0) pa_nil)))) (fun σ H Q q => by
            obtain ⟨st, f, l, day, h1, h2, ⟨dx, h3⟩, q⟩ := q
            refine ⟨_, h1, st, dx, _, rfl, h3, ll f l, st, f, l, rfl, ⟨dx, h3⟩, ?_⟩
            cases l with
            | none => exact ⟨rfl, _, rfl, _, h2, q⟩
            | some z => exact ⟨rfl, _, rfl, _, h2, _, h1, st, dx, _, rfl, h3, ll f (some z), st, f, some z, rfl, ⟨dx, h3⟩, day, z, rfl, q⟩)))
        (pss_cons (ps_set (i := 9) scSpellsOf.nd rfl (by first | exact Or.inl rfl | exact Or.inr rfl) (pe_cmpR op_ne (pv 5) (pe_glob (v := .str "") rfl cA ⟨_, rfl⟩) (nomark _)))
        (pss_cons (ps_if (pt_cmpR op_gt (pv 7) (pv 2) (nomark _)) (pss_one ps_continue) pss_nil)
        (pss_one (ps_if (PW.pt (pw_and (pt_cmpR (op_neNil hr.units) (pv 4) (pe_lst pa_nil) (nomark _)) (pw_and1 (pt_cmpR op_eq (pe_ix ix_tup (pe_ix ix_list (pv 4) (pe_un un_neg pe_int) (fun _ _ => rfl)) pe_int (fun _ _ => rfl)) (pv 9) (nomark _))))) (pss_one (ps_asg (pe_tup (pa_cons (pv 9) (pa_cons (pe_ix ix_tup (pe_ix ix_list (pv 4) (pe_un un_neg pe_int) (fun _ _ => rfl)) pe_int (fun _ _ => rfl)) (pa_cons (pv 8) pa_nil)))) (pg_sub (pv 4) (pe_un un_neg pe_int) set_list (fun _ => rfl)))) (pss_one (ps_expr (pe_bm PySem.F.plainAttrs_list PySem.F.slot_list_append PySem.F.type_list_append mt_append (pv 4) (pa_cons (pe_tup (pa_cons (pv 9) (pa_cons (pv 7) (pa_cons (pv 8) pa_nil)))) pa_nil)))))))))))
      (pss_one (ps_ret (pv 4))))), ?_⟩
    refine ⟨Nat.zero_le _, fun f hf => ?_⟩
    have S1 := Same.new (o := .lst []) hf
    generalize hH1 : upd H f (.lst []) = H1 at S1
    have f1 : H1 f = some (.lst []) := by rw [← hH1, upd_same]
    refine ⟨_, rfl, _, rfl, _, rfl, b, keeper, kn, kvs, M, t, rfl, hB.mono S1, hM, hkp, hkn, fun H2 p S2 hT => ?_⟩
    have hTl : (turnsOf (runsOf (heldS M keeper kn))).length ≤ 901 := by
      rw [turnsOf_len]
      have h1 := runsOf_len (heldS M keeper kn)
      have h2 : (heldS M keeper kn).length ≤ 900 := heldS_len hM keeper kn
      omega
    have hTn : (turnsOf (runsOf (heldS M keeper kn))).length ≠ 0 := by
      rw [turnsOf_len]
      exact fun z => runsOf_ne _ (List.length_eq_zero_iff.mp z)
    have hres : spells (heldS M keeper kn) day = spellsOf (turnsOf (runsOf (heldS M keeper kn))) day := rfl
    rw [hres] at k
    generalize turnsOf (runsOf (heldS M keeper kn)) = TT at hT hTl hTn k
    obtain ⟨vs, hv, hvl⟩ := hT.len
    have f2 := S2 _ _ f1
    have npf : p ≠ f := fun z => by
      rw [z, f2] at hv
      injection hv with y
      injection y with y
      rw [← y] at hvl
      exact hTn hvl.symm
    have sl3 : 3 ≤ sizeLine := by decide
    refine ⟨p, rfl, ⟨_, SqL.of hv⟩, for_it (walk_list (K := K) (a := p) (xs := vs)) (fun i σ H3 => But f H2 H3 ∧ Lof (DTup spV) H3 f (spellsOf (TT.take i) day) ∧ ∃ v5 v6 v7 v8 v9, σ = [some (.ref b), some (.str keeper), some (.int day), some (knV kn), some (.ref f), v5, v6, v7, v8, v9])
      ⟨But.refl _ _, Lof.nil f2, none, none, none, none, none, rfl⟩ (fun i σ H3 _ q => SqL.of (q.1 _ _ npf hv)) ?_ ?_⟩
    · rintro i x σ H3 H4 hi ⟨B3, hS, v5, v6, v7, v8, v9, rfl⟩ ⟨rfl, hx⟩
      have hT3 := hT.but (stay_turn _) B3 f2 npf
      obtain ⟨q, tt, rfl, htt, st, hq, hst⟩ := hT3.at_ (B3 _ _ npf hv) hx
      have et := spells_take TT day htt
      refine ⟨q, _, rfl, SqT.of hq, rfl, _, _, rfl, _, _, rfl, rfl, ?_⟩
      refine ⟨st, _, _, rfl, hst, ?_⟩
      refine ⟨st, _, _, day, rfl, rfl, hst, ?_⟩
      refine ⟨_, rfl, rfl, ?_⟩
      rw [dec_out]
      refine ⟨_, rfl, _, rfl, _, _, rfl, rfl, _, rfl, ?_⟩
      generalize hS0 : spellsOf (TT.take i) day = S at hS et
      have hSl : S.length ≤ 901 := by
        rw [← hS0]
        have := foldl_len (spellStep_len day) (TT.take i) []
        rw [List.length_take] at this
        unfold spellsOf
        simp only [List.length_nil] at this
        omega
      by_cases c : day < tt.2.1
      · refine ifd c ?_
        refine ⟨B3, ?_, _, _, _, _, _, rfl⟩
        rw [et]
        unfold spellStep
        simp only
        rw [if_pos c]
        exact hS
      · refine ifn c ?_
        obtain ⟨ws, hw, hwl⟩ := hS.len
        refine ⟨_, rfl, Nat.zero_le _, fun z hz => ?_⟩
        have S5 := Same.new (o := .lst []) hz
        generalize hH5 : upd H4 z (.lst []) = H5 at S5
        have z5 : H5 z = some (.lst []) := by rw [← hH5, upd_same]
        have hS5 := hS.mono (stay_tup _) S5
        have w5 := S5 _ _ hw
        refine ⟨f, z, ws, rfl, rfl, SqL.of w5, z5, hS5.shal w5 (fun _ _ => rfl), _, rfl, ?_⟩
        -- a new spell
        have fin : spellStep day S tt = S ++ [(isOut tt.1, tt.2.1, lastD day tt.2.2)] → ∀ (z2 : Addr), H5 z2 = none → ∃ vs, upd H5 z2 (.tup [.bl (isOut tt.1), .int tt.2.1, .int (lastD day tt.2.2)]) f = some (.lst vs) ∧ vs.length < sizeLine ∧
            But f H2 (upd (upd H5 z2 (.tup [.bl (isOut tt.1), .int tt.2.1, .int (lastD day tt.2.2)])) f (.lst (vs ++ [.ref z2]))) ∧
            Lof (DTup spV) (upd (upd H5 z2 (.tup [.bl (isOut tt.1), .int tt.2.1, .int (lastD day tt.2.2)])) f (.lst (vs ++ [.ref z2]))) f (spellsOf (TT.take (i + 1)) day) := by
          intro e z2 hz2
          have S6 := Same.new (o := .tup [.bl (isOut tt.1), .int tt.2.1, .int (lastD day tt.2.2)]) hz2
          refine ⟨ws, S6 _ _ w5, by rw [hwl]; exact sz' (by omega), (B3.trans (But.of (S5.trans S6))).trans But.upd, ?_⟩
          rw [et, e]
          exact hS5.snoc (stay_tup _) S6 (S6 _ _ w5) (show DTup spV _ z2 (_, _, _) from upd_same)
        cases el : S.getLast? with
        | none =>
          have eS : S = [] := List.getLast?_eq_none_iff.mp el
          have ew : ws = [] := List.length_eq_zero_iff.mp (by rw [hwl, eS]; rfl)
          have es : spellStep day S tt = S ++ [(isOut tt.1, tt.2.1, lastD day tt.2.2)] := by
            rw [spellStep_eq, if_neg c, el, eS]
          rw [ew]
          refine ⟨_, rfl, .inl ⟨rfl, _, SqL.of w5⟩, _, rfl, _, rfl, _, rfl, sl3, fun z2 hz2 => ?_⟩
          obtain ⟨vs2, g1, g2, g3, g4⟩ := fin es z2 hz2
          exact ⟨f, _, _, rfl, rfl, g1, g2, g3, g4, _, _, _, _, _, rfl⟩
        | some y =>
          have eS : S ≠ [] := fun z => by
            rw [z] at el
            cases el
          have ew : ws.isEmpty = false := by
            cases ws with
            | nil => exact absurd (List.length_eq_zero_iff.mp hwl.symm) eS
            | cons _ _ => rfl
          rw [ew]
          obtain ⟨qy, ay, hy⟩ := hS5.last w5 el
          refine ⟨_, rfl, 1, rfl, f, _, _, _, rfl, rfl, SqL.of w5, ay, ?_⟩
          refine ⟨qy, _, 0, .bl y.1, rfl, rfl, SqT.of hy, rfl, ?_⟩
          refine ⟨_, rfl, rfl, _, rfl, ?_⟩
          by_cases d : V.bl y.1 = V.bl (isOut tt.1)
          · refine ifd d ?_
            have d2 : y.1 = isOut tt.1 := by injection d
            have es : spellStep day S tt = S.dropLast ++ [(isOut tt.1, y.2.1, lastD day tt.2.2)] := by
              rw [spellStep_eq, if_neg c, el]
              simp only
              rw [if_pos d2]
            refine ⟨_, rfl, _, rfl, 1, rfl, f, _, _, _, rfl, rfl, SqL.of w5, ay, ?_⟩
            refine ⟨qy, _, 1, .int y.2.1, rfl, rfl, SqT.of hy, rfl, _, rfl, sl3, fun z2 hz2 => ?_⟩
            have S6 := Same.new (o := .tup [.bl (isOut tt.1), .int y.2.1, .int (lastD day tt.2.2)]) hz2
            obtain ⟨g1, g2⟩ := hS5.setl (stay_tup _) S6 (S6 _ _ w5) (show DTup spV _ z2 (isOut tt.1, y.2.1, lastD day tt.2.2) from upd_same) eS
            refine ⟨_, rfl, 1, rfl, f, ws, _, _, rfl, rfl, S6 _ _ w5, g1, ?_⟩
            refine ⟨(B3.trans (But.of (S5.trans S6))).trans But.upd, ?_, _, _, _, _, _, rfl⟩
            rw [et, es]
            exact g2
          · refine ifn d ?_
            have d2 : y.1 ≠ isOut tt.1 := fun z => d (by rw [z])
            have es : spellStep day S tt = S ++ [(isOut tt.1, tt.2.1, lastD day tt.2.2)] := by
              rw [spellStep_eq, if_neg c, el]
              simp only
              rw [if_neg d2]
            refine ⟨_, rfl, .inl ⟨rfl, _, SqL.of w5⟩, _, rfl, _, rfl, _, rfl, sl3, fun z2 hz2 => ?_⟩
            obtain ⟨vs2, g1, g2, g3, g4⟩ := fin es z2 hz2
            exact ⟨f, _, _, rfl, rfl, g1, g2, g3, g4, _, _, _, _, _, rfl⟩
    · rintro σ H3 ⟨B3, hS, v5, v6, v7, v8, v9, rfl⟩
      rw [hvl, List.take_length] at hS
      exact ⟨_, rfl, k _ f (B3.same (S1.trans S2) hf) hS⟩
def spWantSpells (CB : Addr) : Sp := fun vs H Q _ => ∃ (b : Addr) (keeper : Str) (day : Int) (kn : Option Int) (term leave : Int) (kvs : List (L2.Key × V)) (M : MT) (t : Option Int), vs = [.ref b, .str keeper, .int day, knV kn, .int term, .int leave] ∧ BookS H CB b kvs M t ∧ MOk M 900 ∧ (valV kvs (.inr keeper)).isSome = true ∧ KnOk kn ∧ 0 ≤ day ∧ 0 ≤ term ∧ 0 ≤ leave ∧
  ∀ H' p, Same H H' → Lof (DTup spV) H' p (spells (heldS M keeper kn) day) → Q (.ref p) H'
theorem scWantSpells : FnScope ["book", "keeper", "day", "known", "term", "leave"] ["book", "keeper", "day", "known", "term", "leave"] (defScope sWantSpells) :=
  ⟨rfl, rfl, rfl, by decide +kernel, rfl, by decide +kernel, by decide +kernel⟩
theorem cal_wantSpells (T : TX K mg) : Cal P w K mg base 6 "want_spells" ["book", "keeper", "day", "known", "term", "leave"] [] (spWantSpells (He.ga K "Book")) := by
  obtain ⟨fd, F⟩ := T.dWantSpells
  have c1 : Cal P w K mg base 4 "turns" ["book", "keeper", "known"] [] (spTurns (He.ga K "Book") (He.ga K "Stretch")) := cal_turns T
  have c2 : Cal P w K mg base 2 "want_day" ["thing"] [] spWantDay := cal_wantDay T
  have c3 : Cal P w K mg base 1 "is_whole" ["thing", "least"] [.int 0] spIsWhole := cal_isWhole1 T
  have c4 : Cal P w K mg base 5 "spells_of" ["book", "keeper", "day", "known"] [] (spSpells (He.ga K "Book")) := cal_spells T
  refine Cal.of F T.gWantSpells (FunD.bindsN F fun _ _ _ _ _ _ us hl => match us, hl with | [_, _, _, _, _, _], _ => rfl) .nil ?_
  refine F.ok scWantSpells (fun vs H Q E h => ?_) (fun cdv A outer s H vs Q E hr h => ?_)
  · obtain ⟨b, keeper, day, kn, term, leave, kvs, M, t, rfl, _⟩ := h
    rfl
  · obtain ⟨b, keeper, day, kn, term, leave, kvs, M, t, rfl, hB, hM, hkp, hkn, hday, hterm, hleave, k⟩ := h
    refine ⟨_, PSs.nox (pss_cons (ps_expr (pe_cal c1 hr (pa_cons (pv 0) (pa_cons (pv 1) (pa_cons (pv 3) pa_nil)))))
      (pss_cons (ps_expr (pe_cal c2 hr (pa_cons (pv 2) pa_nil)))
      (pss_cons (ps_if (PW.pt (pw_or (pt_not (pt_val (pe_cal c3 hr (pa_cons (pv 4) pa_nil)))) (pw_or1 (pt_not (pt_val (pe_cal c3 hr (pa_cons (pv 5) pa_nil))))))) (pss_one ps_never) pss_nil)
      (pss_one (ps_ret (pe_cal c4 hr (pa_cons (pv 0) (pa_cons (pv 1) (pa_cons (pv 2) (pa_cons (pv 3) pa_nil)))))))))), ?_⟩
    refine ⟨_, rfl, _, rfl, _, rfl, b, keeper, kn, kvs, M, t, rfl, hB, hM, hkp, hkn, fun H1 p1 S1 _ => ?_⟩
    refine ⟨_, rfl, day, rfl, hday, fun H2 S2 => ?_⟩
    refine ⟨_, rfl, term, 0, rfl, hterm, fun H3 S3 => ⟨true, rfl, ?_⟩⟩
    refine ⟨_, rfl, leave, 0, rfl, hleave, fun H4 S4 => ⟨true, rfl, ?_⟩⟩
    have S : Same H H4 := (S1.trans S2).trans (S3.trans S4)
    exact ⟨_, rfl, _, rfl, _, rfl, _, rfl, b, keeper, day, kn, kvs, M, t, rfl, hB.mono S, hM, hkp, hkn, hday, fun H5 p S5 hS => k H5 p (S.trans S5) hS⟩
end
end K76
namespace K76
open PySem PySem.Spec PyProof.Rows L2
def ltV (x : Int × Int) : List V := [.int x.1, .int x.2]
def gvV (x : Int × Int × Int) : List V := [.int x.1, .int x.2.1, .int x.2.2]
theorem Lof.concat {α : Type} {D : Hp → Addr → α → Prop} (hD : Stay D) {H : Hp} {a b p : Addr} {xs ys : List α} {vs ws : List V} (h1 : Lof D H a xs) (h2 : Lof D H b ys) (ha : H a = some (.lst vs)) (hb : H b = some (.lst ws)) (hp : H p = none) :
    Lof D (upd H p (.lst (vs ++ ws))) p (xs ++ ys) := by
  obtain ⟨qs, a1, a2, a3⟩ := h1
  obtain ⟨rs, b1, b2, b3⟩ := h2
  have e1 : vs = qs.map fun q => V.ref q.1 := by
    rw [ha] at a1
    injection a1 with z
    injection z
  have e2 : ws = rs.map fun q => V.ref q.1 := by
    rw [hb] at b1
    injection b1 with z
    injection z
  have kn := KeepN.of (Same.new (o := .lst (vs ++ ws)) hp)
  refine ⟨qs ++ rs, by rw [upd_same, e1, e2, List.map_append], fun q hq => ?_, by rw [List.map_append, a3, b3]⟩
  rcases List.mem_append.mp hq with z | z
  · exact hD _ _ _ _ kn (a2 q z)
  · exact hD _ _ _ _ kn (b2 q z)
/-- the same things in a list of the same items -/
theorem Lof.copy {α : Type} {D : Hp → Addr → α → Prop} (hD : Stay D) {H : Hp} {a p : Addr} {xs : List α} {vs : List V} (h : Lof D H a xs) (ha : H a = some (.lst vs)) (hp : H p = none) : Lof D (upd H p (.lst vs)) p xs := by
  obtain ⟨qs, a1, a2, a3⟩ := h
  have e1 : vs = qs.map fun q => V.ref q.1 := by
    rw [ha] at a1
    injection a1 with z
    injection z
  exact ⟨qs, by rw [upd_same, e1], fun q hq => hD _ _ _ _ (KeepN.of (Same.new hp)) (a2 q hq), a3⟩
theorem Lof.tail {α : Type} {D : Hp → Addr → α → Prop} (hD : Stay D) {H : Hp} {a p : Addr} {x : α} {xs : List α} {vs : List V} (h : Lof D H a (x :: xs)) (ha : H a = some (.lst vs)) (hp : H p = none) : Lof D (upd H p (.lst (vs.drop 1))) p xs := by
  obtain ⟨qs, a1, a2, a3⟩ := h
  have e1 : vs = qs.map fun q => V.ref q.1 := by
    rw [ha] at a1
    injection a1 with z
    injection z
  refine ⟨qs.drop 1, by rw [upd_same, e1, List.map_drop], fun q hq => hD _ _ _ _ (KeepN.of (Same.new hp)) (a2 q ((List.drop_sublist _ _).subset hq)), ?_⟩
  rw [List.map_drop, a3]
  rfl
theorem cut1 (vs : List V) : cutV vs (some 1) none = vs.drop 1 := by
  cases vs with
  | nil => rfl
  | cons v vs =>
    have e1 : HT.sIx (v :: vs).length 0 (some 1) = 1 := by
      have := HT.sIx_nat (v :: vs).length 0 1
      rw [List.length_cons] at this ⊢
      exact this.trans (by omega)
    unfold cutV
    rw [e1]
    show ((v :: vs).drop 1).take ((v :: vs).length - 1) = (v :: vs).drop 1
    exact List.take_of_length_le (by rw [List.length_drop]; exact Nat.le_refl _)
theorem lots_snoc (S : List (Bool × Int × Int)) (s : Bool × Int × Int) (term : Int) : lotsOf (S ++ [s]) term = lotsOf S term ++ (if s.1 = true ∧ s.2.1 + term ≤ s.2.2 then [(s.2.1 + term, s.2.2)] else []) := by
  unfold lotsOf
  rw [List.filterMap_append]
  congr 1
  by_cases c : s.1 = true ∧ s.2.1 + term ≤ s.2.2
  · simp [c]
  · rw [List.filterMap_cons, if_neg c, if_neg c]
    rfl
section
variable {P : Program} {w : World} {K : PySem.W.Frag} {mg : Str → Option Value} {base : Heap}
def spLots : Sp := fun vs H Q _ => ∃ (a : Addr) (term : Int) (S : List (Bool × Int × Int)), vs = [.ref a, .int term] ∧ Lof (DTup spV) H a S ∧ S.length ≤ 1000 ∧
  ∀ H' p, Same H H' → H p = none → Lof (DTup ltV) H' p (lotsOf S term) → Q (.ref p) H'
theorem scLotsOf : FnScope ["spells", "term", "is_out", "first", "last"] ["spells", "term"] (defScope sLotsOf) :=
  ⟨rfl, rfl, rfl, by decide +kernel, rfl, by decide +kernel, by decide +kernel⟩
theorem cal_lots (T : TX K mg) : Cal P w K mg base 1 "lots_of" ["spells", "term"] [] spLots := by
  obtain ⟨fd, F⟩ := T.dLotsOf
  refine Cal.of F T.gLotsOf (FunD.bindsN F fun _ _ _ _ _ _ us hl => match us, hl with | [_, _], _ => rfl) .nil ?_
  refine F.ok scLotsOf (fun vs H Q E h => ?_) (fun cdv A outer s H vs Q E hr h => ?_)
  · obtain ⟨x, f, l, rfl, _⟩ := h
    rfl
  · obtain ⟨a, term, S, rfl, hS, hSl, k⟩ := h
    refine ⟨_, PSs.nox (pss_one (ps_ret (pe_lc (g := gTup K 3 (gCons (gName 2) (gCons (gName 3) (gCons (gName 4) gNil)))) (own := [("is_out", 2), ("first", 3), ("last", 4)]) rfl scLotsOf.nd (pi_list (pv 0)) (blkOk_by (own := [("is_out", 2), ("first", 3), ("last", 4)]) (N := ["spells", "term", "is_out", "first", "last"]) (sc := defScope sLotsOf) (by decide +kernel)) (fun _ _ _ _ _ => (pg_tup (by rfl) (pgs_cons (pg_name (i := 2) scLotsOf.nd rfl (by first | exact Or.inl rfl | exact Or.inr rfl)) (pgs_cons (pg_name (i := 3) scLotsOf.nd rfl (by first | exact Or.inl rfl | exact Or.inr rfl)) (pgs_cons (pg_name (i := 4) scLotsOf.nd rfl (by first | exact Or.inl rfl | exact Or.inr rfl)) pgs_nil))))) (fun _ _ _ _ _ => (pts_one (PW.pt (pw_and (pt_val (pv 2)) (pw_and1 (pt_cmpR op_le (pe_op op_add (pv 3) (pv 1)) (pv 4) (nomark _))))))) (fun _ _ _ _ _ => (pe_tup (pa_cons (pe_op op_add (pv 3) (pv 1)) (pa_cons (pv 4) pa_nil))))))), ?_⟩
    obtain ⟨vs, hv, hvl⟩ := hS.len
    have sl2 : 2 ≤ sizeLine := by decide
    refine ⟨_, rfl, a, rfl, ⟨_, SqL.of hv⟩, fun D hD => lc_it (walk_list (K := K) (a := a) (xs := vs)) (fun i H1 => Same H H1 ∧ Lof (DTup ltV) H1 D (lotsOf (S.take i) term)) ⟨Same.new hD, Lof.nil upd_same⟩ (fun i H1 _ p => SqL.of (p.1 _ _ hv)) ?_ ?_⟩
    · rintro i x H1 H2 hi ⟨S1, hL⟩ ⟨rfl, hx⟩
      obtain ⟨q, y, rfl, hy, hq⟩ := (hS.mono (stay_tup _) S1).at_ (S1 _ _ hv) hx
      have et : lotsOf (S.take (i + 1)) term = lotsOf (S.take i) term ++ (if y.1 = true ∧ y.2.1 + term ≤ y.2.2 then [(y.2.1 + term, y.2.2)] else []) := by rw [take_snoc hy, lots_snoc]
      refine ⟨q, _, rfl, SqT.of hq, rfl, _, _, rfl, _, _, rfl, _, _, rfl, rfl, rfl, ?_⟩
      refine ⟨_, rfl, y.1, rfl, ?_⟩
      cases hy1 : y.1 with
      | false =>
        refine ⟨S1, ?_⟩
        rw [et, if_neg (fun z => by rw [hy1] at z; cases z.1), List.append_nil]
        exact hL
      | true =>
        refine ⟨_, rfl, _, rfl, _, _, rfl, rfl, _, rfl, _, _, rfl, rfl, _, rfl, ?_⟩
        by_cases c : y.2.1 + term ≤ y.2.2
        · refine ifd c ?_
          refine ⟨_, rfl, _, rfl, _, _, rfl, rfl, _, rfl, sl2, fun z hz => ?_⟩
          obtain ⟨ws, hw, hwl⟩ := hL.len
          have S3 := Same.new (o := .tup [.int (y.2.1 + term), .int y.2.2]) hz
          have h5 := lotsOf_len (S.take i) term
          rw [List.length_take] at h5
          refine ⟨ws, S3 _ _ hw, by rw [hwl]; exact sz' (by omega), Same.mut (S1.trans S3) hD, ?_⟩
          rw [et, if_pos ⟨hy1, c⟩]
          exact hL.snoc (stay_tup _) S3 (S3 _ _ hw) (show DTup ltV _ z (_, _) from upd_same)
        · refine ifn c ⟨S1, ?_⟩
          rw [et, if_neg (fun z => c z.2), List.append_nil]
          exact hL
    · rintro H1 ⟨S1, hL⟩
      rw [hvl, List.take_length] at hL
      exact k H1 D S1 hD hL
def spGive : Sp := fun vs H Q _ => ∃ (a : Addr) (first last day : Int) (L : List (Int × Int)), vs = [.ref a, .int first, .int last] ∧ Lof (DTup ltV) H a L ∧ L.length ≤ 1000 ∧ LotsOk day L ∧ 0 ≤ first ∧ last ≤ day ∧
  ∀ H' q p1 p2, Same H H' → H p1 = none → H p2 = none → H' q = some (.tup [.ref p1, .ref p2]) → Lof (DTup gvV) H' p1 (giveBack L first last).1 → Lof (DTup ltV) H' p2 (giveBack L first last).2 → Q (.ref q) H'
theorem scGiveBack : FnScope ["lots", "first", "last", "found", "left", "day", "begin", "end", "many"] ["lots", "first", "last"] (defScope sGiveBack) :=
  ⟨rfl, rfl, rfl, by decide +kernel, rfl, by decide +kernel, by decide +kernel⟩
/-- something is left, and days to give it -/
def tLeft : TT := fun σ H Q => ∃ (lf : Addr) (d last : Int) (L : List (Int × Int)), σ[4]? = some (some (.ref lf)) ∧ σ[5]? = some (some (.int d)) ∧ σ[2]? = some (some (.int last)) ∧ Lof (DTup ltV) H lf L ∧ ∀ H', Same H H' → Q (!L.isEmpty && decide (d ≤ last)) H'
def muG (σ : L2.St) : Nat := match σ with
  | [_, _, some (.int last), _, _, some (.int d), _, _, _] => (last + 1 - d).toNat
  | _ => 0
theorem cal_give (T : TX K mg) : Cal P w K mg base 1 "give_back" ["lots", "first", "last"] [] spGive := by
  obtain ⟨fd, F⟩ := T.dGiveBack
  refine Cal.of F T.gGiveBack (FunD.bindsN F fun _ _ _ _ _ _ us hl => match us, hl with | [_, _, _], _ => rfl) .nil ?_
  refine F.ok scGiveBack (fun vs H Q E h => ?_) (fun cdv A outer s H vs Q E hr h => ?_)
  · obtain ⟨x, f, l, day, L, rfl, _⟩ := h
    rfl
  · obtain ⟨a, first, last, day, L, rfl, hL, hLl, hLo, h0, hd, k⟩ := h
    refine ⟨_, PSs.nox (pss_cons (ps_set (i := 3) scGiveBack.nd rfl (by first | exact Or.inl rfl | exact Or.inr rfl) (pe_lst pa_nil))
      (pss_cons (ps_set (i := 4) scGiveBack.nd rfl (by first | exact Or.inl rfl | exact Or.inr rfl) (pe_callTy call_list_of (by rfl) T.f_list (by decide +kernel) (pa_cons (pv 0) pa_nil)))
      (pss_cons (ps_set (i := 5) scGiveBack.nd rfl (by first | exact Or.inl rfl | exact Or.inr rfl) (pv 1))
      (pss_cons (ps_while PassesOwn.never (pt_by (t2 := tLeft) (PW.pt (pw_and (pt_cmpR (op_neNil hr.units) (pv 4) (pe_lst pa_nil) (nomark _)) (pw_and1 (pt_cmpR op_le (pv 5) (pv 2) (nomark _))))) (fun σ H Q q => by
          obtain ⟨lf, d, last, L, h1, h2, h3, hL, q⟩ := q
          obtain ⟨ws, hw, hwl⟩ := hL.len
          refine ⟨_, h1, Nat.zero_le _, fun z hz => ?_⟩
          have S5 := Same.new (o := .lst []) hz
          refine ⟨lf, z, ws, rfl, rfl, SqL.of (S5 _ _ hw), upd_same, (hL.mono (stay_tup _) S5).shal (S5 _ _ hw) (fun _ _ => rfl), _, rfl, ?_⟩
          have q2 := q _ S5
          cases L with
          | nil =>
            have ew : ws = [] := List.length_eq_zero_iff.mp hwl
            rw [ew]
            exact q2
          | cons x L =>
            have ew : ws.isEmpty = false := by
              cases ws with
              | nil => cases hwl
              | cons _ _ => rfl
            rw [ew]
            exact ⟨_, h2, _, h3, _, _, rfl, rfl, _, rfl, q2⟩))
        (pss_cons (ps_asg (pe_ix ix_list (pv 4) pe_int (fun _ _ => rfl)) (pg_tup (by rfl) (pgs_cons (pg_name (i := 6) scGiveBack.nd rfl (by first | exact Or.inl rfl | exact Or.inr rfl)) (pgs_cons (pg_name (i := 7) scGiveBack.nd rfl (by first | exact Or.inl rfl | exact Or.inr rfl)) pgs_nil))))
        (pss_cons (ps_set (i := 8) scGiveBack.nd rfl (by first | exact Or.inl rfl | exact Or.inr rfl) (pe_op op_add (pe_callB (call_min2 rfl) (by rfl) T.f_min (by decide +kernel) (pa_cons (pe_op op_sub (pv 7) (pv 6)) (pa_cons (pe_op op_sub (pv 2) (pv 5)) pa_nil))) pe_int))
        (pss_cons (ps_expr (pe_bm PySem.F.plainAttrs_list PySem.F.slot_list_append PySem.F.type_list_append mt_append (pv 3) (pa_cons (pe_tup (pa_cons (pv 6) (pa_cons (pv 5) (pa_cons (pv 8) pa_nil)))) pa_nil)))
        (pss_cons (ps_aug (i := 5) scGiveBack.nd rfl (by first | exact Or.inl rfl | exact Or.inr rfl) (pv 8) ip_add)
        (pss_cons (ps_set (i := 4) scGiveBack.nd rfl (by first | exact Or.inl rfl | exact Or.inr rfl) (pe_slice sl_list (pv 4) (po_some pe_int) po_none))
        (pss_one (ps_if (pt_cmpR op_le (pe_op op_add (pv 6) (pv 8)) (pv 7) (nomark _)) (pss_one (ps_set (i := 4) scGiveBack.nd rfl (by first | exact Or.inl rfl | exact Or.inr rfl) (pe_op op_cat (pe_lst (pa_cons (pe_tup (pa_cons (pe_op op_add (pv 6) (pv 8)) (pa_cons (pv 7) pa_nil))) pa_nil)) (pv 4)))) pss_nil))))))))
      (pss_one (ps_ret (pe_tup (pa_cons (pv 3) (pa_cons (pv 4) pa_nil))))))))), ?_⟩
    have sl1 : 1 ≤ sizeLine := by decide
    have sl2 : 2 ≤ sizeLine := by decide
    have sl3 : 3 ≤ sizeLine := by decide
    refine ⟨Nat.zero_le _, fun f hf => ?_⟩
    have S1 := Same.new (o := .lst []) hf
    generalize hH1 : upd H f (.lst []) = H1 at S1
    have f1 : H1 f = some (.lst []) := by rw [← hH1, upd_same]
    obtain ⟨vs, hv, hvl⟩ := hL.len
    refine ⟨_, rfl, a, vs, rfl, .inl (SqL.of (S1 _ _ hv)), fun lf hlf => ?_⟩
    have S2 := Same.new (o := .lst vs) hlf
    have hL2 := (hL.mono (stay_tup _) S1).copy (stay_tup _) (S1 _ _ hv) hlf
    generalize hH2 : upd H1 lf (.lst vs) = H2 at S2 hL2
    have nfl : f ≠ lf := fun z => by rw [← z, f1] at hlf; cases hlf
    refine ⟨_, rfl, ?_⟩
    refine while_by (fun σ H3 => ∃ lf d L2 done v6 v7 v8, Same H H3 ∧ σ = [some (.ref a), some (.int first), some (.int last), some (.ref f), some (.ref lf), some (.int d), v6, v7, v8] ∧ H lf = none ∧ f ≠ lf ∧
        Lof (DTup gvV) H3 f done ∧ Lof (DTup ltV) H3 lf L2 ∧ 0 ≤ d ∧ LotsOk day L2 ∧ giveBack L first last = (done ++ (giveBack L2 d last).1, (giveBack L2 d last).2)) (fun σ _ => muG σ)
      ⟨lf, first, L, [], none, none, none, S1.trans S2, rfl, Same.none S1 hlf, nfl, Lof.nil (S2 _ _ f1), hL2, h0, hLo, rfl⟩ ?_ ?_
    · rintro σ H3 ⟨lf, d, L2, done, v6, v7, v8, S3, rfl, hlf0, nfl, hD, hL3, hd0, hLo2, heq⟩
      refine ⟨lf, d, last, L2, rfl, rfl, rfl, hL3, fun H4 S4 => ?_⟩
      cases L2 with
      | nil =>
        refine ⟨_, rfl, _, rfl, by show 2 ≤ sizeLine; decide, fun q hq => ?_⟩
        have S5 := Same.new (o := .tup [.ref f, .ref lf]) hq
        have e1 : giveBack [] d last = ([], []) := by simp [giveBack]
        rw [e1] at heq
        refine k _ q f lf (S3.trans (S4.trans S5)) hf hlf0 upd_same ?_ ?_
        · rw [heq]
          simp only [List.append_nil]
          exact hD.mono (stay_tup _) (S4.trans S5)
        · rw [heq]
          exact hL3.mono (stay_tup _) (S4.trans S5)
      | cons x L2 =>
        obtain ⟨b, e⟩ := x
        by_cases c : d ≤ last
        · rw [decide_eq_true c]
          obtain ⟨ws, hw, hwl⟩ := hL3.len
          have w4 := S4 _ _ hw
          have hL4 := hL3.mono (stay_tup _) S4
          have hD4 := hD.mono (stay_tup _) S4
          obtain ⟨q0, hq0, t0⟩ := hL4.get w4 (i := 0) (y := (b, e)) rfl
          replace t0 : H4 q0 = some (.tup [.int b, .int e]) := t0
          have hbe : 0 ≤ b ∧ b ≤ e ∧ e ≤ day := hLo2 (b, e) List.mem_cons_self
          refine ⟨_, rfl, lf, ws, 0, .ref q0, rfl, rfl, SqL.of w4, atI_nat (j := 0) hq0, q0, _, rfl, SqT.of t0, rfl, _, _, rfl, _, _, rfl, rfl, ?_⟩
          refine ⟨_, rfl, _, rfl, _, _, rfl, rfl, _, rfl, _, rfl, _, _, rfl, rfl, _, _, rfl, _, _, rfl, rfl, ?_⟩
          have em : giveBack ((b, e) :: L2) d last = if b + ((if last - d < e - b then last - d else e - b) + 1) ≤ e then ([(b, d, (if last - d < e - b then last - d else e - b) + 1)], (b + ((if last - d < e - b then last - d else e - b) + 1), e) :: L2) else
              ((b, d, (if last - d < e - b then last - d else e - b) + 1) :: (giveBack L2 (d + ((if last - d < e - b then last - d else e - b) + 1)) last).1, (giveBack L2 (d + ((if last - d < e - b then last - d else e - b) + 1)) last).2) := by
            conv => lhs; unfold giveBack
            rw [if_pos c]
          have hm : 1 ≤ (if last - d < e - b then last - d else e - b) + 1 ∧ ((if last - d < e - b then last - d else e - b) + 1 = last - d + 1 ∨ (if last - d < e - b then last - d else e - b) + 1 = e - b + 1) := by
            split <;> omega
          dsimp only
          generalize (if last - d < e - b then last - d else e - b) + 1 = m at hm em ⊢
          obtain ⟨hm1, hm2⟩ := hm
          have hdl : done.length < L.length := by
            have h1 := (giveBack_ok (l := L) h0 hd hLo).2.2.1
            rw [heq] at h1
            simp only [List.length_append] at h1
            have h2 : 1 ≤ (giveBack ((b, e) :: L2) d last).1.length := by
              rw [em]
              split
              · exact Nat.le_refl _
              · simp
            omega
          obtain ⟨us, hu, hul⟩ := hD4.len
          refine ⟨_, rfl, .inl ⟨rfl, _, SqL.of hu⟩, _, rfl, _, rfl, _, rfl, sl3, fun z hz => ?_⟩
          have S5 := Same.new (o := .tup [.int b, .int d, .int m]) hz
          have B6 : But f _ (upd (upd H4 z (.tup [.int b, .int d, .int m])) f (.lst (us ++ [.ref z]))) := But.upd
          have hD6 := hD4.snoc (stay_tup _) S5 (S5 _ _ hu) (show DTup gvV _ z (b, d, m) from upd_same)
          have hL6 := (hL4.mono (stay_tup _) S5).but (stay_tup _) B6 (S5 _ _ hu) nfl.symm
          have S6 : Same H (upd (upd H4 z (.tup [.int b, .int d, .int m])) f (.lst (us ++ [.ref z]))) := B6.same ((S3.trans S4).trans S5) hf
          have w6 := B6 _ _ nfl.symm (S5 _ _ w4)
          refine ⟨f, us, _, rfl, rfl, S5 _ _ hu, sz' (by omega), ?_⟩
          generalize upd (upd H4 z (.tup [.int b, .int d, .int m])) f (.lst (us ++ [.ref z])) = H6 at hD6 hL6 S6 w6
          refine ⟨_, rfl, _, rfl, _, _, rfl, rfl, ?_⟩
          refine ⟨_, rfl, 1, rfl, lf, ws, rfl, SqL.of w6, fun p hp => ?_⟩
          rw [cut1]
          have S7 := Same.new (o := .lst (ws.drop 1)) hp
          have hL7 := hL6.tail (stay_tup _) w6 hp
          have hD7 := hD6.mono (stay_tup _) S7
          have hpf : f ≠ p := fun y => by
            obtain ⟨us2, hu2, _⟩ := hD6.len
            rw [← y, hu2] at hp
            cases hp
          have S7' : Same H _ := S6.trans S7
          have hp0 : H p = none := Same.none S6 hp
          have p7 : upd H6 p (.lst (ws.drop 1)) p = some (.lst (ws.drop 1)) := upd_same
          generalize upd H6 p (.lst (ws.drop 1)) = H7 at S7 hL7 hD7 S7' p7
          refine ⟨_, rfl, _, rfl, _, _, rfl, rfl, _, rfl, _, _, rfl, rfl, _, rfl, ?_⟩
          by_cases c2 : b + m ≤ e
          · refine ifd c2 ?_
            refine ⟨_, rfl, _, rfl, _, _, rfl, rfl, _, rfl, sl2, fun q hq => ⟨sl1, fun l hl => ?_⟩⟩
            have hone := one_tup (f := ltV) (x := (b + m, e)) hq hl
            have S8 : Same H7 (upd (upd H7 q (.tup (ltV (b + m, e)))) l (.lst [.ref q])) := (Same.new hq).trans (Same.new hl)
            have l8 : upd (upd H7 q (.tup (ltV (b + m, e)))) l (.lst [.ref q]) l = some (.lst [.ref q]) := upd_same
            refine ⟨_, rfl, l, p, _, _, rfl, rfl, l8, S8 _ _ p7, by rw [List.length_drop, List.length_cons, List.length_nil]; exact sz (by rw [hwl]; have := hLl; rw [List.length_cons]; have h1 := (giveBack_ok (l := L) h0 hd hLo).2.2.2; rw [heq, em, if_pos c2] at h1; simp only [List.length_cons] at h1; omega), fun r hr => ?_⟩
            have hL8 := Lof.concat (stay_tup _) hone (hL7.mono (stay_tup _) S8) l8 (S8 _ _ p7) hr
            have S9 := Same.new (o := .lst ([V.ref q] ++ ws.drop 1)) hr
            have hrf : f ≠ r := fun y => by
              obtain ⟨us2, hu2, _⟩ := (hD7.mono (stay_tup _) S8).len
              replace hr : upd (upd H7 q (.tup (ltV (b + m, e)))) l (.lst [.ref q]) r = none := hr
              rw [← y, hu2] at hr
              cases hr
            have hlt : last < d + m := by omega
            have eg : giveBack ((b + m, e) :: L2) (d + m) last = ([], (b + m, e) :: L2) := by
              unfold giveBack
              rw [if_neg (by omega)]
            refine ⟨⟨r, d + m, (b + m, e) :: L2, done ++ [(b, d, m)], _, _, _, S7'.trans (S8.trans S9), rfl, Same.none (S7'.trans S8) hr, hrf, hD7.mono (stay_tup _) (S8.trans S9), hL8, by omega, fun y hy => ?_, ?_⟩, ?_⟩
            · rcases List.mem_cons.mp hy with z | z
              · rw [z]
                exact ⟨by show 0 ≤ b + m; omega, c2, hbe.2.2⟩
              · exact hLo2 y (List.mem_cons_of_mem _ z)
            · rw [heq, em, if_pos c2, eg]
              simp
            · show (last + 1 - (d + m)).toNat < (last + 1 - d).toNat
              omega
          · refine ifn c2 ?_
            refine ⟨⟨p, d + m, L2, done ++ [(b, d, m)], _, _, _, S7', rfl, hp0, hpf, hD7, hL7, by omega, fun y hy => hLo2 y (List.mem_cons_of_mem _ hy), ?_⟩, ?_⟩
            · rw [heq, em, if_neg c2]
              simp
            · show (last + 1 - (d + m)).toNat < (last + 1 - d).toNat
              omega
        · rw [decide_eq_false c]
          refine ⟨_, rfl, _, rfl, by show 2 ≤ sizeLine; decide, fun q hq => ?_⟩
          have S5 := Same.new (o := .tup [.ref f, .ref lf]) hq
          have e1 : giveBack ((b, e) :: L2) d last = ([], (b, e) :: L2) := by
            unfold giveBack
            rw [if_neg c]
          rw [e1] at heq
          refine k _ q f lf (S3.trans (S4.trans S5)) hf hlf0 upd_same ?_ ?_
          · rw [heq]
            simp only [List.append_nil]
            exact hD.mono (stay_tup _) (S4.trans S5)
          · rw [heq]
            exact hL3.mono (stay_tup _) (S4.trans S5)
    · rintro σ H Q Q' i ⟨lf, d, last, L, h1, h2, h3, h4, q⟩
      exact ⟨lf, d, last, L, h1, h2, h3, h4, fun H' s => i _ _ (q H' s)⟩
end
end K76
namespace K76
open PySem PySem.Spec PyProof.Rows L2
def DStr (CS : Addr) (H : Hp) (q : Addr) (x : Int × Int) : Prop := StrP CS H q x.1 (some x.2)
theorem stay_str (CS : Addr) : Stay (DStr CS) := fun H H' q x k h => by
  obtain ⟨dx, h⟩ := h
  exact ⟨dx, k _ _ h (fun _ z => nomatch z)⟩
theorem SpOk.take {day : Int} {S : List (Bool × Int × Int)} (h : SpOk day S) (i : Nat) : SpOk day (S.take i) := fun s hs => h s ((List.take_sublist _ _).subset hs)
section
variable {P : Program} {w : World} {K : PySem.W.Frag} {mg : Str → Option Value} {base : Heap}
def spSettled : Sp := fun vs H Q _ => ∃ (a : Addr) (term leave day : Int) (S : List (Bool × Int × Int)), vs = [.ref a, .int term, .int leave] ∧ Lof (DTup spV) H a S ∧ S.length ≤ 900 ∧ SpOk day S ∧ 0 ≤ term ∧ 0 ≤ leave ∧
  ∀ H' q p1 p2, Same H H' → H' q = some (.tup [.ref p1, .ref p2]) → Lof (DTup gvV) H' p1 (settled S term leave).1 → Lof (DTup ltV) H' p2 (settled S term leave).2 → Q (.ref q) H'
theorem scSettledLots : FnScope ["spells", "term", "leave", "found", "lots", "is_out", "first", "last", "some"] ["spells", "term", "leave"] (defScope sSettledLots) :=
  ⟨rfl, rfl, rfl, by decide +kernel, rfl, by decide +kernel, by decide +kernel⟩
theorem cal_settled (T : TX K mg) : Cal P w K mg base 2 "settled_lots" ["spells", "term", "leave"] [] spSettled := by
  obtain ⟨fd, F⟩ := T.dSettledLots
  have c1 : Cal P w K mg base 1 "lots_of" ["spells", "term"] [] spLots := cal_lots T
  have c2 : Cal P w K mg base 1 "give_back" ["lots", "first", "last"] [] spGive := cal_give T
  refine Cal.of F T.gSettledLots (FunD.bindsN F fun _ _ _ _ _ _ us hl => match us, hl with | [_, _, _], _ => rfl) .nil ?_
  refine F.ok scSettledLots (fun vs H Q E h => ?_) (fun cdv A outer s H vs Q E hr h => ?_)
  · obtain ⟨x, f, l, day, S, rfl, _⟩ := h
    rfl
  · obtain ⟨a, term, leave, day, S, rfl, hS, hSl, hSo, ht, hlv, k⟩ := h
    refine ⟨_, PSs.nox (pss_cons (ps_set (i := 3) scSettledLots.nd rfl (by first | exact Or.inl rfl | exact Or.inr rfl) (pe_lst pa_nil))
      (pss_cons (ps_set (i := 4) scSettledLots.nd rfl (by first | exact Or.inl rfl | exact Or.inr rfl) (pe_lst pa_nil))
      (pss_cons (ps_for PassesOwn.never rfl (pi_list (pv 0)) (pg_tup (by rfl) (pgs_cons (pg_name (i := 5) scSettledLots.nd rfl (by first | exact Or.inl rfl | exact Or.inr rfl)) (pgs_cons (pg_name (i := 6) scSettledLots.nd rfl (by first | exact Or.inl rfl | exact Or.inr rfl)) (pgs_cons (pg_name (i := 7) scSettledLots.nd rfl (by first | exact Or.inl rfl | exact Or.inr rfl)) pgs_nil))))
        (pss_one (ps_if (pt_val (pv 5)) (pss_one (ps_set (i := 4) scSettledLots.nd rfl (by first | exact Or.inl rfl | exact Or.inr rfl) (pe_op op_cat (pv 4) (pe_cal c1 hr (pa_cons (pe_lst (pa_cons (pe_tup (pa_cons (pv 5) (pa_cons (pv 6) (pa_cons (pv 7) pa_nil)))) pa_nil)) (pa_cons (pv 1) pa_nil)))))) (pss_cons (ps_asg (pe_cal c2 hr (pa_cons (pv 4) (pa_cons (pe_op op_add (pv 6) (pv 2)) (pa_cons (pv 7) pa_nil)))) (pg_tup (by rfl) (pgs_cons (pg_name (i := 8) scSettledLots.nd rfl (by first | exact Or.inl rfl | exact Or.inr rfl)) (pgs_cons (pg_name (i := 4) scSettledLots.nd rfl (by first | exact Or.inl rfl | exact Or.inr rfl)) pgs_nil))))
          (pss_one (ps_expr (pe_bm PySem.F.plainAttrs_list PySem.F.slot_list_extend PySem.F.type_list_extend mt_extend (pv 3) (pa_cons (pv 8) pa_nil))))))))
      (pss_one (ps_ret (pe_tup (pa_cons (pv 3) (pa_cons (pv 4) pa_nil)))))))), ?_⟩
    have sl1 : 1 ≤ sizeLine := by decide
    have sl3 : 3 ≤ sizeLine := by decide
    refine ⟨Nat.zero_le _, fun f hf => ?_⟩
    have S1 := Same.new (o := .lst []) hf
    generalize hH1 : upd H f (.lst []) = H1 at S1
    have f1 : H1 f = some (.lst []) := by rw [← hH1, upd_same]
    refine ⟨Nat.zero_le _, fun l hl => ?_⟩
    have S2 := Same.new (o := .lst []) hl
    have nfl : f ≠ l := fun z => by rw [← z, f1] at hl; cases hl
    obtain ⟨vs, hv, hvl⟩ := hS.len
    refine ⟨_, rfl, a, rfl, ⟨_, SqL.of (S2 _ _ (S1 _ _ hv))⟩, for_it (walk_list (K := K) (a := a) (xs := vs)) (fun i σ H3 => Same H H3 ∧ ∃ l v5 v6 v7 v8, f ≠ l ∧ Lof (DTup gvV) H3 f (settled (S.take i) term leave).1 ∧ Lof (DTup ltV) H3 l (settled (S.take i) term leave).2 ∧
        σ = [some (.ref a), some (.int term), some (.int leave), some (.ref f), some (.ref l), v5, v6, v7, v8])
      ⟨S1.trans S2, l, none, none, none, none, nfl, Lof.nil (S2 _ _ f1), Lof.nil upd_same, rfl⟩ (fun i σ H3 _ q => SqL.of (q.1 _ _ hv)) ?_ ?_⟩
    · rintro i x σ H3 H4 hi ⟨S3, l, v5, v6, v7, v8, nfl, hG, hL, rfl⟩ ⟨rfl, hx⟩
      obtain ⟨q, y, rfl, hy, hq⟩ := (hS.mono (stay_tup _) S3).at_ (S3 _ _ hv) hx
      have hyo := hSo y (List.mem_of_getElem? hy)
      obtain ⟨g1, g2, g3, g4⟩ := settled_ok ht hlv (S.take i) (hSo.take i)
      have htl : (S.take i).length ≤ 900 := by rw [List.length_take]; omega
      have htl2 : (S.take (i + 1)).length ≤ 900 := by rw [List.length_take]; omega
      have g4' := (settled_ok ht hlv (S.take (i + 1)) (hSo.take (i + 1))).2.2.2
      have g3' := (settled_ok ht hlv (S.take (i + 1)) (hSo.take (i + 1))).2.2.1
      have et : settled (S.take (i + 1)) term leave = setStep term leave (settled (S.take i) term leave) y := by rw [take_snoc hy, settled_snoc]
      rw [et] at g4' g3'
      have b4 : (S.take (i + 1)).length * (S.take (i + 1)).length ≤ 900 * 900 := Nat.mul_le_mul htl2 htl2
      obtain ⟨gs, hgs, hgl⟩ := hG.len
      obtain ⟨ws, hws, hwl⟩ := hL.len
      refine ⟨q, _, rfl, SqT.of hq, rfl, _, _, rfl, _, _, rfl, _, _, rfl, rfl, ?_⟩
      refine ⟨_, rfl, y.1, rfl, ?_⟩
      cases hy1 : y.1 with
      | true =>
        refine ⟨_, rfl, _, rfl, _, rfl, _, rfl, sl3, fun z hz => ⟨sl1, fun p hp => ?_⟩⟩
        have hone := one_tup (f := spV) (x := (true, y.2.1, y.2.2)) (by exact hz) (by exact hp)
        have S5 : Same H4 (upd (upd H4 z (.tup (spV (true, y.2.1, y.2.2)))) p (.lst [.ref z])) := (Same.new hz).trans (Same.new hp)
        have e1 : setStep term leave (settled (S.take i) term leave) y = ((settled (S.take i) term leave).1, (settled (S.take i) term leave).2 ++ lotsOf [y] term) := by
          unfold setStep
          rw [if_pos hy1]
        have ey : (true, y.2.1, y.2.2) = y := by rw [← hy1]
        rw [ey] at hone
        refine ⟨_, rfl, p, term, [y], rfl, by rw [← ey] at hone ⊢; exact hone, by show 1 ≤ 1000; omega, fun H6 p6 S6 hp6 hL6 => ?_⟩
        have S6' : Same H4 H6 := S5.trans S6
        obtain ⟨us, hus, hul⟩ := hL6.len
        refine ⟨l, p6, ws, us, rfl, rfl, S6' _ _ hws, hus, ?_, fun r hr => ?_⟩
        · rw [hwl, hul]
          rw [e1] at g3'
          simp only [List.length_append] at g3'
          exact sz (by omega)
        · have S7 := Same.new (o := .lst (ws ++ us)) hr
          have hLr := Lof.concat (stay_tup _) (hL.mono (stay_tup _) S6') hL6 (S6' _ _ hws) hus hr
          have nfr : f ≠ r := fun z => by rw [← z, S6' _ _ hgs] at hr; cases hr
          refine ⟨S3.trans (S6'.trans S7), r, _, _, _, _, nfr, ?_, ?_, rfl⟩
          · rw [et, e1]
            exact hG.mono (stay_tup _) (S6'.trans S7)
          · rw [et, e1]
            exact hLr
      | false =>
        have e1 : setStep term leave (settled (S.take i) term leave) y = ((settled (S.take i) term leave).1 ++ (giveBack (settled (S.take i) term leave).2 (y.2.1 + leave) y.2.2).1, (giveBack (settled (S.take i) term leave).2 (y.2.1 + leave) y.2.2).2) := by
          unfold setStep
          rw [if_neg (by rw [hy1]; decide)]
        refine ⟨_, rfl, _, rfl, _, rfl, _, _, rfl, rfl, _, rfl, l, y.2.1 + leave, y.2.2, day, _, rfl, hL, by omega, g2, by omega, hyo.2.2, fun H5 q5 p1 p2 S5 hp1 hp2 hq5 hG5 hL5 => ?_⟩
        have np1 : p1 ≠ f := fun z => by rw [z, hgs] at hp1; cases hp1
        have np2 : p2 ≠ f := fun z => by rw [z, hgs] at hp2; cases hp2
        obtain ⟨us, hus, hul⟩ := hG5.len
        refine ⟨q5, _, rfl, SqT.of hq5, rfl, _, _, rfl, _, _, rfl, rfl, ?_⟩
        have g5 := S5 _ _ hgs
        refine ⟨_, rfl, .inl ⟨rfl, _, SqL.of g5⟩, _, rfl, f, p1, gs, us, rfl, rfl, g5, hus, ?_, ?_⟩
        · rw [hgl, hul]
          rw [e1] at g4'
          simp only [List.length_append] at g4'
          exact sz (by omega)
        · have B6 : But f H5 (upd H5 f (.lst (gs ++ us))) := But.upd
          have nff : ∀ o, H f = some o → False := fun o z => by rw [hf] at z; cases z
          refine ⟨B6.same (S3.trans S5) hf, p2, _, _, _, _, np2.symm, ?_, ?_, rfl⟩
          · rw [et, e1]
            obtain ⟨qa, a1, a2, a3⟩ := hG.mono (stay_tup _) S5
            obtain ⟨qb, c1, c2, c3⟩ := hG5
            have kn := KeepN.but B6 g5
            have ea : gs = qa.map fun q => V.ref q.1 := by
              rw [g5] at a1
              injection a1 with z
              injection z
            have eb : us = qb.map fun q => V.ref q.1 := by
              rw [hus] at c1
              injection c1 with z
              injection z
            refine ⟨qa ++ qb, by rw [upd_same, ea, eb, List.map_append], fun z hz => ?_, by rw [List.map_append, a3, c3]⟩
            rcases List.mem_append.mp hz with m | m
            · exact stay_tup _ _ _ _ _ kn (a2 z m)
            · exact stay_tup _ _ _ _ _ kn (c2 z m)
          · rw [et, e1]
            exact hL5.but (stay_tup _) B6 g5 np2
    · rintro σ H3 ⟨S3, l, v5, v6, v7, v8, nfl, hG, hL, rfl⟩
      rw [hvl, List.take_length] at hG hL
      refine ⟨_, rfl, _, rfl, by show 2 ≤ sizeLine; decide, fun q hq => ?_⟩
      have S4 := Same.new (o := .tup [.ref f, .ref l]) hq
      exact k _ q f l (S3.trans S4) upd_same (hG.mono (stay_tup _) S4) (hL.mono (stay_tup _) S4)
end
end K76
namespace K76
open PySem PySem.Spec PyProof.Rows L2
theorem held_facts {M : MT} (hM : MOk M 900) (keeper : Str) (kn : Option Int) {day : Int} (hd : 0 ≤ day) (hl : (heldS M keeper kn).length ≤ 899) : SpOk day (spells (heldS M keeper kn) day) ∧ (spells (heldS M keeper kn) day).length ≤ 900 := by
  have h1 := heldS_srt hM.nd keeper kn
  have h2 := fun m hm => heldS_day hM (keeper := keeper) (kn := kn) m hm
  refine ⟨spells_in h1 h2 hd, ?_⟩
  have := spells_len h1 h2 day
  omega
section
variable {P : Program} {w : World} {K : PySem.W.Frag} {mg : Str → Option Value} {base : Heap}
/-- what the questions need -/
structure Ask (H : Hp) (CB b : Addr) (keeper : Str) (day term leave : Int) (kn : Option Int) (kvs : List (L2.Key × V)) (M : MT) (t : Option Int) : Prop where
  book : BookS H CB b kvs M t
  ok : MOk M 800
  key : (valV kvs (.inr keeper)).isSome = true
  kn : KnOk kn
  day : 0 ≤ day
  term : 0 ≤ term
  leave : 0 ≤ leave
theorem MOk.up {M : MT} {m n : Nat} (h : MOk M m) (l : m ≤ n) : MOk M n := ⟨h.nd, Nat.le_trans h.len l, fun e he => Nat.le_trans (h.rows e he) l, h.day⟩
theorem Ask.facts {H : Hp} {CB b : Addr} {keeper : Str} {day term leave : Int} {kn : Option Int} {kvs : List (L2.Key × V)} {M : MT} {t : Option Int} (h : Ask H CB b keeper day term leave kn kvs M t) :
    SpOk day (spells (heldS M keeper kn) day) ∧ (spells (heldS M keeper kn) day).length ≤ 900 :=
  held_facts (h.ok.up (by decide)) keeper kn h.day (by have : (heldS M keeper kn).length ≤ 800 := heldS_len h.ok keeper kn; omega)
theorem Ask.mono {H H' : Hp} (s : Same H H') {CB b : Addr} {keeper : Str} {day term leave : Int} {kn : Option Int} {kvs : List (L2.Key × V)} {M : MT} {t : Option Int} (h : Ask H CB b keeper day term leave kn kvs M t) : Ask H' CB b keeper day term leave kn kvs M t :=
  ⟨h.book.mono s, h.ok, h.key, h.kn, h.day, h.term, h.leave⟩
def spOver (CB CS : Addr) : Sp := fun vs H Q _ => ∃ (b : Addr) (keeper : Str) (day term : Int) (kn : Option Int) (kvs : List (L2.Key × V)) (M : MT) (t : Option Int), vs = [.ref b, .str keeper, .int day, .int term, knV kn] ∧ Ask H CB b keeper day term 0 kn kvs M t ∧
  ∀ H' p, Same H H' → Lof (DStr CS) H' p (lotsOf (spells (heldS M keeper kn) day) term) → Q (.ref p) H'
/-- a stretch is made: what its maker promises, for a comprehension -/
theorem made {CS : Addr} {H H8 : Hp} {x dx : Addr} {f l : Int} (B8 : But x (upd (upd H dx (.own x)) x (.ins CS dx [])) H8) (hx : H x = none) (hdx : H dx = none) (h8 : H8 x = some (.ins CS dx (sfs f (some l)))) : Same H H8 ∧ DStr CS H8 x (f, l) := by
  refine ⟨fun y o hy => ?_, dx, h8⟩
  have nyx : y ≠ x := ne_of_none hy hx
  have nyd : y ≠ dx := ne_of_none hy hdx
  exact B8 _ _ nyx (by rw [upd_ne nyx, upd_ne nyd]; exact hy)
theorem scDaysOver : FnScope ["book", "keeper", "day", "term", "known", "spells", "first", "last"] ["book", "keeper", "day", "term", "known"] (defScope sDaysOver) :=
  ⟨rfl, rfl, rfl, by decide +kernel, rfl, by decide +kernel, by decide +kernel⟩
theorem cal_over (T : TX K mg) : Cal P w K mg base 7 "days_over" ["book", "keeper", "day", "term", "known"] [] (spOver (He.ga K "Book") (He.ga K "Stretch")) := by
  obtain ⟨fd, F⟩ := T.dDaysOver
  have c1 : Cal P w K mg base 6 "want_spells" ["book", "keeper", "day", "known", "term", "leave"] [] (spWantSpells (He.ga K "Book")) := cal_wantSpells T
  have c2 : Cal P w K mg base 1 "lots_of" ["spells", "term"] [] spLots := cal_lots T
  have c3 : Mak P w K mg base 2 "Stretch" ["self", "first", "last"] [] (spStretchInit (He.ga K "Stretch")) := mak_stretch T
  obtain ⟨ds, hd, hb⟩ := F.binds1 (ps := ["book", "keeper", "day", "term", "known"]) 5 1 (List.cons_ne_nil _ _) rfl (fun T kV doc pm an cdv ct us its h1 h2 => match us, its, h1, h2 with | [_, _, _, _, _], [_], _, _ => ⟨_, rfl, rfl⟩)
  refine Cal.of F T.gDaysOver hb hd ?_
  refine F.ok scDaysOver (fun vs H Q E h => ?_) (fun cdv A outer s H vs Q E hr h => ?_)
  · obtain ⟨x, f, l, day, S, kvs, M, t, rfl, _⟩ := h
    rfl
  · obtain ⟨b, keeper, day, term, kn, kvs, M, t, rfl, hA, k⟩ := h
    obtain ⟨hSo, hSl⟩ := hA.facts
    refine ⟨_, PSs.nox (pss_cons (ps_set (i := 5) scDaysOver.nd rfl (by first | exact Or.inl rfl | exact Or.inr rfl) (pe_cal c1 hr (pa_cons (pv 0) (pa_cons (pv 1) (pa_cons (pv 2) (pa_cons (pv 4) (pa_cons (pv 3) (pa_cons pe_int pa_nil))))))))
      (pss_one (ps_ret (pe_lc (g := gTup K 2 (gCons (gName 6) (gCons (gName 7) gNil))) (te := tMake (He.ga K "Stretch") (spStretchInit (He.ga K "Stretch")) [] E0 (tCons (tVar 6) (tCons (tVar 7) tNil))) (own := [("first", 6), ("last", 7)]) rfl scDaysOver.nd (pi_list (pe_cal c2 hr (pa_cons (pv 5) (pa_cons (pv 3) pa_nil)))) (blkOk_by (own := [("first", 6), ("last", 7)]) (N := ["book", "keeper", "day", "term", "known", "spells", "first", "last"]) (sc := defScope sDaysOver) (by decide +kernel)) (fun _ _ _ _ _ => (pg_tup (by rfl) (pgs_cons (pg_name (i := 6) scDaysOver.nd rfl (by first | exact Or.inl rfl | exact Or.inr rfl)) (pgs_cons (pg_name (i := 7) scDaysOver.nd rfl (by first | exact Or.inl rfl | exact Or.inr rfl)) pgs_nil)))) (fun _ _ _ _ _ => pts_nil) (fun _ _ _ _ _ => (pe_mak c3 hr (pa_cons (pv 6) (pa_cons (pv 7) pa_nil)))))))), ?_⟩
    refine ⟨_, rfl, _, rfl, _, rfl, _, rfl, _, rfl, b, keeper, day, kn, term, 0, kvs, M, t, rfl, hA.book, hA.ok.up (by decide), hA.key, hA.kn, hA.day, hA.term, Int.le_refl 0, fun H1 p1 S1 hS => ?_⟩
    refine ⟨_, rfl, _, rfl, p1, term, _, rfl, hS, by omega, fun H2 p2 S2 _ hL => ?_⟩
    have hlo := lotsOf_ok hSo hA.term
    have hll := lotsOf_len (spells (heldS M keeper kn) day) term
    generalize lotsOf (spells (heldS M keeper kn) day) term = L at *
    obtain ⟨vs, hv, hvl⟩ := hL.len
    refine ⟨p2, rfl, ⟨_, SqL.of hv⟩, fun D hD => lc_it (walk_list (K := K) (a := p2) (xs := vs)) (fun i H3 => Same H2 H3 ∧ Lof (DStr (He.ga K "Stretch")) H3 D (L.take i)) ⟨Same.new hD, Lof.nil upd_same⟩ (fun i H1 _ p => SqL.of (p.1 _ _ hv)) ?_ ?_⟩
    · rintro i x H3 H4 hi ⟨S3, hR⟩ ⟨rfl, hx⟩
      obtain ⟨q, y, rfl, hy, hq⟩ := (hL.mono (stay_tup _) S3).at_ (S3 _ _ hv) hx
      have hyo := hlo y (List.mem_of_getElem? hy)
      obtain ⟨ws, hw, hwl⟩ := hR.len
      refine ⟨q, _, rfl, SqT.of hq, rfl, _, _, rfl, _, _, rfl, rfl, rfl, ?_⟩
      refine ⟨_, rfl, _, rfl, fun x dx hx hdx ndx => ⟨x, dx, y.1, some y.2, rfl, upd_same, hyo.1, fun z hz => by rw [← Option.some.inj hz]; exact hyo.2.1, fun H8 B8 h8 => ⟨rfl, ?_⟩⟩⟩
      obtain ⟨S8, d8⟩ := made B8 hx hdx h8
      refine ⟨ws, S8 _ _ hw, by rw [hwl, List.length_take]; exact sz' (by omega), Same.mut (S3.trans S8) hD, ?_⟩
      rw [take_snoc hy]
      exact hR.snoc (stay_str _) S8 (S8 _ _ hw) d8
    · rintro H3 ⟨S3, hR⟩
      rw [hvl, List.take_length] at hR
      exact k H3 D (S1.trans (S2.trans S3)) hR
def spOwed (CB CS : Addr) : Sp := fun vs H Q _ => ∃ (b : Addr) (keeper : Str) (day term leave : Int) (kn : Option Int) (kvs : List (L2.Key × V)) (M : MT) (t : Option Int), vs = [.ref b, .str keeper, .int day, .int term, .int leave, knV kn] ∧ Ask H CB b keeper day term leave kn kvs M t ∧
  ∀ H' p, Same H H' → Lof (DStr CS) H' p (settled (spells (heldS M keeper kn) day) term leave).2 → Q (.ref p) H'
theorem scDaysOwed : FnScope ["book", "keeper", "day", "term", "leave", "known", "spells", "first", "last"] ["book", "keeper", "day", "term", "leave", "known"] (defScope sDaysOwed) :=
  ⟨rfl, rfl, rfl, by decide +kernel, rfl, by decide +kernel, by decide +kernel⟩
theorem cal_owed (T : TX K mg) : Cal P w K mg base 7 "days_owed" ["book", "keeper", "day", "term", "leave", "known"] [] (spOwed (He.ga K "Book") (He.ga K "Stretch")) := by
  obtain ⟨fd, F⟩ := T.dDaysOwed
  have c1 : Cal P w K mg base 6 "want_spells" ["book", "keeper", "day", "known", "term", "leave"] [] (spWantSpells (He.ga K "Book")) := cal_wantSpells T
  have c2 : Cal P w K mg base 2 "settled_lots" ["spells", "term", "leave"] [] spSettled := cal_settled T
  have c3 : Mak P w K mg base 2 "Stretch" ["self", "first", "last"] [] (spStretchInit (He.ga K "Stretch")) := mak_stretch T
  obtain ⟨ds, hd, hb⟩ := F.binds1 (ps := ["book", "keeper", "day", "term", "leave", "known"]) 6 2 (List.cons_ne_nil _ _) rfl (fun T kV doc pm an cdv ct us its h1 h2 => match us, its, h1, h2 with | [_, _, _, _, _, _], [_, _], _, _ => ⟨_, rfl, rfl⟩)
  refine Cal.of F T.gDaysOwed hb hd ?_
  refine F.ok scDaysOwed (fun vs H Q E h => ?_) (fun cdv A outer s H vs Q E hr h => ?_)
  · obtain ⟨x, f, l, day, S, lv, kvs, M, t, rfl, _⟩ := h
    rfl
  · obtain ⟨b, keeper, day, term, leave, kn, kvs, M, t, rfl, hA, k⟩ := h
    obtain ⟨hSo, hSl⟩ := hA.facts
    refine ⟨_, PSs.nox (pss_cons (ps_set (i := 6) scDaysOwed.nd rfl (by first | exact Or.inl rfl | exact Or.inr rfl) (pe_cal c1 hr (pa_cons (pv 0) (pa_cons (pv 1) (pa_cons (pv 2) (pa_cons (pv 5) (pa_cons (pv 3) (pa_cons (pv 4) pa_nil))))))))
      (pss_one (ps_ret (pe_lc (g := gTup K 2 (gCons (gName 7) (gCons (gName 8) gNil))) (te := tMake (He.ga K "Stretch") (spStretchInit (He.ga K "Stretch")) [] E0 (tCons (tVar 7) (tCons (tVar 8) tNil))) (own := [("first", 7), ("last", 8)]) rfl scDaysOwed.nd (pi_list (pe_ix ix_tup (pe_cal c2 hr (pa_cons (pv 6) (pa_cons (pv 3) (pa_cons (pv 4) pa_nil)))) pe_int (fun _ _ => rfl))) (blkOk_by (own := [("first", 7), ("last", 8)]) (N := ["book", "keeper", "day", "term", "leave", "known", "spells", "first", "last"]) (sc := defScope sDaysOwed) (by decide +kernel)) (fun _ _ _ _ _ => (pg_tup (by rfl) (pgs_cons (pg_name (i := 7) scDaysOwed.nd rfl (by first | exact Or.inl rfl | exact Or.inr rfl)) (pgs_cons (pg_name (i := 8) scDaysOwed.nd rfl (by first | exact Or.inl rfl | exact Or.inr rfl)) pgs_nil)))) (fun _ _ _ _ _ => pts_nil) (fun _ _ _ _ _ => (pe_mak c3 hr (pa_cons (pv 7) (pa_cons (pv 8) pa_nil)))))))), ?_⟩
    refine ⟨_, rfl, _, rfl, _, rfl, _, rfl, _, rfl, _, rfl, b, keeper, day, kn, term, leave, kvs, M, t, rfl, hA.book, hA.ok.up (by decide), hA.key, hA.kn, hA.day, hA.term, hA.leave, fun H1 p1 S1 hS => ?_⟩
    refine ⟨_, rfl, _, rfl, _, rfl, p1, term, leave, day, _, rfl, hS, hSl, hSo, hA.term, hA.leave, fun H2 q2 p0 p2 S2 hq2 _ hL => ?_⟩
    obtain ⟨_, hlo, hll, _⟩ := settled_ok hA.term hA.leave _ hSo
    generalize (settled (spells (heldS M keeper kn) day) term leave).2 = L at *
    obtain ⟨vs, hv, hvl⟩ := hL.len
    refine ⟨q2, _, 1, .ref p2, rfl, rfl, SqT.of hq2, rfl, p2, rfl, ⟨_, SqL.of hv⟩, fun D hD => lc_it (walk_list (K := K) (a := p2) (xs := vs)) (fun i H3 => Same H2 H3 ∧ Lof (DStr (He.ga K "Stretch")) H3 D (L.take i)) ⟨Same.new hD, Lof.nil upd_same⟩ (fun i H1 _ p => SqL.of (p.1 _ _ hv)) ?_ ?_⟩
    · rintro i x H3 H4 hi ⟨S3, hR⟩ ⟨rfl, hx⟩
      obtain ⟨q, y, rfl, hy, hq⟩ := (hL.mono (stay_tup _) S3).at_ (S3 _ _ hv) hx
      have hyo := hlo y (List.mem_of_getElem? hy)
      obtain ⟨ws, hw, hwl⟩ := hR.len
      refine ⟨q, _, rfl, SqT.of hq, rfl, _, _, rfl, _, _, rfl, rfl, rfl, ?_⟩
      refine ⟨_, rfl, _, rfl, fun x dx hx hdx ndx => ⟨x, dx, y.1, some y.2, rfl, upd_same, hyo.1, fun z hz => by rw [← Option.some.inj hz]; exact hyo.2.1, fun H8 B8 h8 => ⟨rfl, ?_⟩⟩⟩
      obtain ⟨S8, d8⟩ := made B8 hx hdx h8
      refine ⟨ws, S8 _ _ hw, by rw [hwl, List.length_take]; exact sz' (by omega), Same.mut (S3.trans S8) hD, ?_⟩
      rw [take_snoc hy]
      exact hR.snoc (stay_str _) S8 (S8 _ _ hw) d8
    · rintro H3 ⟨S3, hR⟩
      rw [hvl, List.take_length] at hR
      exact k H3 D (S1.trans (S2.trans S3)) hR
def spGiven (CB : Addr) : Sp := fun vs H Q _ => ∃ (b : Addr) (keeper : Str) (day term leave : Int) (kn : Option Int) (kvs : List (L2.Key × V)) (M : MT) (t : Option Int), vs = [.ref b, .str keeper, .int day, .int term, .int leave, knV kn] ∧ Ask H CB b keeper day term leave kn kvs M t ∧
  ∀ H' p, Same H H' → Lof (DTup gvV) H' p (settled (spells (heldS M keeper kn) day) term leave).1 → Q (.ref p) H'
theorem scDaysGiven : FnScope ["book", "keeper", "day", "term", "leave", "known"] ["book", "keeper", "day", "term", "leave", "known"] (defScope sDaysGiven) :=
  ⟨rfl, rfl, rfl, by decide +kernel, rfl, by decide +kernel, by decide +kernel⟩
theorem cal_given (T : TX K mg) : Cal P w K mg base 7 "days_given" ["book", "keeper", "day", "term", "leave", "known"] [] (spGiven (He.ga K "Book")) := by
  obtain ⟨fd, F⟩ := T.dDaysGiven
  have c1 : Cal P w K mg base 6 "want_spells" ["book", "keeper", "day", "known", "term", "leave"] [] (spWantSpells (He.ga K "Book")) := cal_wantSpells T
  have c2 : Cal P w K mg base 2 "settled_lots" ["spells", "term", "leave"] [] spSettled := cal_settled T
  obtain ⟨ds, hd, hb⟩ := F.binds1 (ps := ["book", "keeper", "day", "term", "leave", "known"]) 6 2 (List.cons_ne_nil _ _) rfl (fun T kV doc pm an cdv ct us its h1 h2 => match us, its, h1, h2 with | [_, _, _, _, _, _], [_, _], _, _ => ⟨_, rfl, rfl⟩)
  refine Cal.of F T.gDaysGiven hb hd ?_
  refine F.ok scDaysGiven (fun vs H Q E h => ?_) (fun cdv A outer s H vs Q E hr h => ?_)
  · obtain ⟨x, f, l, day, S, lv, kvs, M, t, rfl, _⟩ := h
    rfl
  · obtain ⟨b, keeper, day, term, leave, kn, kvs, M, t, rfl, hA, k⟩ := h
    obtain ⟨hSo, hSl⟩ := hA.facts
    refine ⟨_, PSs.nox (pss_one (ps_ret (pe_ix ix_tup (pe_cal c2 hr (pa_cons (pe_cal c1 hr (pa_cons (pv 0) (pa_cons (pv 1) (pa_cons (pv 2) (pa_cons (pv 5) (pa_cons (pv 3) (pa_cons (pv 4) pa_nil))))))) (pa_cons (pv 3) (pa_cons (pv 4) pa_nil)))) pe_int (fun _ _ => rfl)))), ?_⟩
    refine ⟨_, rfl, _, rfl, _, rfl, _, rfl, _, rfl, _, rfl, b, keeper, day, kn, term, leave, kvs, M, t, rfl, hA.book, hA.ok.up (by decide), hA.key, hA.kn, hA.day, hA.term, hA.leave, fun H1 p1 S1 hS => ?_⟩
    refine ⟨_, rfl, _, rfl, p1, term, leave, day, _, rfl, hS, hSl, hSo, hA.term, hA.leave, fun H2 q2 p0 p2 S2 hq2 hG _ => ?_⟩
    exact ⟨q2, _, 0, .ref p0, rfl, rfl, SqT.of hq2, rfl, k H2 p0 (S1.trans S2) hG⟩
end
end K76
namespace K76
open PySem PySem.Spec PyProof.Rows L2
/-! ### the three answers as a text -/
def ROr (D1 D2 : Rep) : Rep := fun x t as H => D1 x t as H ∨ D2 x t as H
theorem repG_or {X : Cx} {n : Nat} {D1 D2 : Rep} (h1 : RepG X n D1) (h2 : RepG X n D2) : RepG X n (ROr D1 D2) := by
  intro base A g pins s σ H x u t as sb hg hcl I rx d hz
  rcases d with d | d
  · exact h1 base A g pins s σ H x u t as sb hg hcl I rx d hz
  · exact h2 base A g pins s σ H x u t as sb hg hcl I rx d hz
theorem mon_or {D1 D2 : Rep} (h1 : MonR D1) (h2 : MonR D2) : MonR (ROr D1 D2) := fun x t as H H' e d => d.elim (fun d => .inl (h1 _ _ _ _ _ e d)) (fun d => .inr (h2 _ _ _ _ _ e d))
theorem mon_ins (CS : Addr) : MonR (DIns CS (RStr CS)) := fun x t as H H' e d => by
  obtain ⟨a, dx, fs, h1, h2, f, l, ⟨dx2, h3⟩, h4⟩ := d
  exact ⟨a, dx, fs, h1, e _ _ h2, f, l, ⟨dx2, e _ _ h3⟩, h4⟩
def DItem (CS : Addr) : Rep := ROr (DIns CS (RStr CS)) DInts
theorem listText_len : ∀ ts : List Str, (listText ts).length ≤ piled ts + 2
  | [] => by
    show (Str.length (listText [])) ≤ 0 + 2
    decide +kernel
  | t :: r => by
    have e : (listText (t :: r)).length = ("[" : Str).length + 0 + t.length + piled r + 1 := by
      unfold listText
      show Str.length (textFrom 1 (("[" : Str) ++ ("" : String) ++ t) r ++ ("]" : Str)) = _
      rw [strLen_append, textFrom_length_pos r 1 _ (Nat.succ_pos 0), strLen_append, strLen_append]
      rfl
    have e1 : ("[" : Str).length = 1 := rfl
    rw [e, e1, piled_cons]
    omega
theorem piled_le {B : Nat} : ∀ ts : List Str, (∀ t ∈ ts, t.length ≤ B) → piled ts ≤ ts.length * (B + 2)
  | [], _ => Nat.zero_le _
  | t :: r, h => by
    have h1 := piled_le r fun x hx => h x (List.mem_cons_of_mem _ hx)
    have h2 := h t List.mem_cons_self
    rw [piled_cons, List.length_cons, Nat.succ_mul]
    omega
theorem givT_len {x : Int × Int × Int} (h1 : NumOk x.1) (h2 : NumOk x.2.1) (h3 : NumOk x.2.2) : (givT x).length ≤ 200 := by
  have a := h1.len
  have b := h2.len
  have c := h3.len
  have e := join_length_add [numT x.1, numT x.2.1, numT x.2.2] (List.cons_ne_nil _ _)
  rw [piled_cons, piled_cons, piled_cons, piled_nil] at e
  unfold givT tupleText
  rw [strLen_append, strLen_append]
  have e1 : ((("(" : String) : Str)).length = 1 := rfl
  have e2 : (((if ([numT x.1, numT x.2.1, numT x.2.2].length == 1) = true then ",)" else ")" : String) : Str)).length = 1 := by
    exact (by decide : (((if ((3 : Nat) == 1) = true then ",)" else ")" : String) : Str)).length = 1)
  rw [e1, e2]
  omega
theorem numOk_of {n z : Int} (h0 : 0 ≤ n) (h : n ≤ z) (hz : z < 10 ^ 60) : NumOk n := ⟨h0, Int.lt_of_le_of_lt h hz⟩
section
variable {P : Program} {w : World} {K : PySem.W.Frag} {mg : Str → Option Value} {base : Heap}
theorem str_items {CS : Addr} {H : Hp} {a : Addr} {L : List (Int × Int)} {day : Int} (h : Lof (DStr CS) H a L) (hL : LotsOk day L) (hd : day < 10 ^ 60) (as : List Addr) (ha : a ∈ as) : DLst (DItem CS) (.ref a) (listText (L.map strT)) as H := by
  obtain ⟨vs, hv, hvl⟩ := h.len
  refine ⟨a, vs, L.map strT, [], rfl, hv, by rw [List.length_map, hvl], fun i y hy => ?_, rfl, ha, (fun z => nomatch z), (fun _ z => nomatch z)⟩
  obtain ⟨q, x, rfl, hx, dx, hq⟩ := h.at_ hv hy
  have hxo := hL x (List.mem_of_getElem? hx)
  refine ⟨strT x, by rw [List.getElem?_map, hx]; rfl, .inl ⟨q, dx, _, rfl, hq, x.1, x.2, ⟨dx, hq⟩, numOk_of hxo.1 (Int.le_trans hxo.2.1 hxo.2.2) hd, numOk_of (Int.le_trans hxo.1 hxo.2.1) hxo.2.2 hd, rfl⟩⟩
theorem giv_items {CS : Addr} {H : Hp} {a : Addr} {G : List (Int × Int × Int)} {day : Int} (h : Lof (DTup gvV) H a G) (hG : GivOk day G) (hd : day + 1 < 10 ^ 60) : ∃ as0 : List Addr, (∀ b ∈ as0, ∃ vs, H b = some (.tup vs)) ∧ ∀ as : List Addr, a ∈ as → (∀ b ∈ as0, b ∈ as) → DLst (DItem CS) (.ref a) (listText (G.map givT)) as H := by
  obtain ⟨qs, h1, h2, h3⟩ := h
  have hl : qs.length = G.length := by rw [← h3, List.length_map]
  refine ⟨qs.map (·.1), fun b hb => ?_, fun as ha hs => ?_⟩
  · obtain ⟨q, hq, rfl⟩ := List.mem_map.mp hb
    exact ⟨_, h2 q hq⟩
  · refine ⟨a, _, G.map givT, qs.map (·.1), rfl, h1, by rw [List.length_map, List.length_map, hl], fun i y hy => ?_, rfl, ha, fun z => ?_, hs⟩
    · rw [List.getElem?_map] at hy
      cases eq : qs[i]? with
      | none =>
        rw [eq] at hy
        cases hy
      | some q =>
        rw [eq] at hy
        obtain rfl : V.ref q.1 = y := Option.some.inj hy
        have hq := List.mem_of_getElem? eq
        have hx : G[i]? = some q.2 := by
          rw [← h3, List.getElem?_map, eq]
          rfl
        have ho := hG q.2 (List.mem_of_getElem? hx)
        have n1 : NumOk q.2.1 := numOk_of ho.1 (by omega) hd
        have n2 : NumOk q.2.2.1 := numOk_of ho.2.2.1 (by omega) hd
        have n3 : NumOk q.2.2.2 := numOk_of ho.2.2.2.2.1 ho.2.2.2.2.2 hd
        refine ⟨givT q.2, by rw [List.getElem?_map, hx]; rfl, .inr ⟨q.1, [q.2.1, q.2.2.1, q.2.2.2], rfl, h2 q hq, fun n hn => ?_, rfl, List.mem_map.mpr ⟨q, hq, rfl⟩⟩⟩
        simp only [List.mem_cons, List.not_mem_nil, or_false] at hn
        rcases hn with z | z | z <;> rw [z]
        · exact n1.log
        · exact n2.log
        · exact n3.log
    · obtain ⟨q, hq, e⟩ := List.mem_map.mp z
      have := h2 q hq
      unfold DTup at this
      rw [e, h1] at this
      cases this
def spThree (CB : Addr) : Sp := fun vs H Q _ => ∃ (b : Addr) (keeper : Str) (day : Int) (num : Addr) (term leave : Int) (kn : Option Int) (kvs : List (L2.Key × V)) (M : MT) (t : Option Int), vs = [.ref b, .str keeper, .int day, .ref num, knV kn] ∧ H num = some (.tup [.int term, .int leave]) ∧
  Ask H CB b keeper day term leave kn kvs M t ∧ MOk M 20 ∧ day + 1 < 10 ^ 60 ∧ ∀ H', Same H H' → Q (.str (threeM M keeper day term leave kn)) H'
theorem scLawThree : FnScope ["_law_book_here", "_law_name", "_law_day", "_law_numbers", "_law_known", "_law_term", "_law_leave"] ["_law_book_here", "_law_name", "_law_day", "_law_numbers", "_law_known"] (defScope sLawThree) :=
  ⟨rfl, rfl, rfl, by decide +kernel, rfl, by decide +kernel, by decide +kernel⟩
theorem CalG.of {k : Nat} {x : Str} {ps : List Str} {sp : Sp} {qual : Str} {params : Arguments} {body : List Stmt} {scope : Scope} {dv : List V} {fd : FuncData}
    (F : FunD K x qual params body scope dv [] (He.ga K x) fd) (gl : mg x = some (.ref (He.ga K x))) (hb : Binds K fd ps []) (G : FnG P w K mg base k (He.ga K x) fd ps sp) : CalG P w K mg base k x ps sp :=
  ⟨⟨fd, G, hb⟩, gl, F.kp⟩
theorem cal_three (T : TX K mg) : CalG P w K mg base 8 "_law_three" ["_law_book_here", "_law_name", "_law_day", "_law_numbers", "_law_known"] (spThree (He.ga K "Book")) := by
  obtain ⟨fd, F⟩ := T.dLawThree
  have c1 : Cal P w K mg base 7 "days_over" ["book", "keeper", "day", "term", "known"] [] (spOver (He.ga K "Book") (He.ga K "Stretch")) := cal_over T
  have c2 : Cal P w K mg base 7 "days_owed" ["book", "keeper", "day", "term", "leave", "known"] [] (spOwed (He.ga K "Book") (He.ga K "Stretch")) := cal_owed T
  have c3 : Cal P w K mg base 7 "days_given" ["book", "keeper", "day", "term", "leave", "known"] [] (spGiven (He.ga K "Book")) := cal_given T
  obtain ⟨⟨fdr, dsr, Gr, br, dr⟩, mer, clr⟩ : Mal P w K mg base 1 "Stretch" "__repr__" ["self"] [] (spRep (RStr (He.ga K "Stretch"))) := mal_repr T
  refine CalG.of F T.gLawThree (FunD.bindsN F fun _ _ _ _ _ _ us hl => match us, hl with | [_, _, _, _, _], _ => rfl) ?_
  refine fnG_of F scLawThree (fun vs H Q E h => ?_) (fun cdv A outer s H vs Q E hg hr h => ?_)
  · obtain ⟨b, keeper, day, num, term, leave, kn, kvs, M, t, rfl, _⟩ := h
    rfl
  · obtain ⟨b, keeper, day, num, term, leave, kn, kvs, M, t, rfl, hnum, hA, hM, hday, k⟩ := h
    cases dr
    have hrep : ∀ X : Cx, X.prog = P → X.w = w → X.K = K → X.mg = mg → X.base = base → RepG X 2 (DLst (DItem (He.ga K "Stretch"))) := by
      rintro X rfl rfl rfl rfl rfl
      exact repG_lst (repG_or (repG_ins (E := E0) Gr mer.at_ mer.fn br pass0) (repG_ints.mono (by decide))) (mon_or (mon_ins _) mon_ints)
    refine ⟨_, PSs.nox (pss_cons (ps_asg (pv 3) (pg_tup (by rfl) (pgs_cons (pg_name (i := 5) scLawThree.nd rfl (by first | exact Or.inl rfl | exact Or.inr rfl)) (pgs_cons (pg_name (i := 6) scLawThree.nd rfl (by first | exact Or.inl rfl | exact Or.inr rfl)) pgs_nil))))
      (pss_one (ps_ret (pe_callB (call_repG (hrep _ rfl rfl rfl rfl rfl) (mon_lst (mon_or (mon_ins _) mon_ints)) (hr.mono (by decide)) hg) (by rfl) T.f_repr (by decide +kernel) (pa_cons (pe_lst (pa_cons (pe_cal c1 hr (pa_cons (pv 0) (pa_cons (pv 1) (pa_cons (pv 2) (pa_cons (pv 5) (pa_cons (pv 4) pa_nil)))))) (pa_cons (pe_cal c2 hr (pa_cons (pv 0) (pa_cons (pv 1) (pa_cons (pv 2) (pa_cons (pv 5) (pa_cons (pv 6) (pa_cons (pv 4) pa_nil))))))) (pa_cons (pe_cal c3 hr (pa_cons (pv 0) (pa_cons (pv 1) (pa_cons (pv 2) (pa_cons (pv 5) (pa_cons (pv 6) (pa_cons (pv 4) pa_nil))))))) pa_nil)))) pa_nil))))), ?_⟩
    obtain ⟨hSo, _⟩ := hA.facts
    have hSl : (spells (heldS M keeper kn) day).length ≤ 21 := by
      have h1 := spells_len (heldS_srt hM.nd keeper kn) (fun m hm => heldS_day hM (keeper := keeper) (kn := kn) m hm) day
      have h2 : (heldS M keeper kn).length ≤ 20 := heldS_len hM keeper kn
      omega
    refine ⟨_, rfl, num, _, rfl, SqT.of hnum, rfl, _, _, rfl, _, _, rfl, rfl, ?_⟩
    refine ⟨_, rfl, _, rfl, _, rfl, _, rfl, _, rfl, b, keeper, day, term, kn, kvs, M, t, rfl, ⟨hA.book, hA.ok, hA.key, hA.kn, hA.day, hA.term, Int.le_refl 0⟩, fun H1 p1 S1 hL1 => ?_⟩
    refine ⟨_, rfl, _, rfl, _, rfl, _, rfl, _, rfl, _, rfl, b, keeper, day, term, leave, kn, kvs, M, t, rfl, hA.mono S1, fun H2 p2 S2 hL2 => ?_⟩
    refine ⟨_, rfl, _, rfl, _, rfl, _, rfl, _, rfl, _, rfl, b, keeper, day, term, leave, kn, kvs, M, t, rfl, hA.mono (S1.trans S2), fun H3 p3 S3 hL3 => ?_⟩
    refine ⟨by show 3 ≤ sizeLine; decide, fun p hp => ?_⟩
    have S4 := Same.new (o := .lst [.ref p1, .ref p2, .ref p3]) hp
    have hlo := lotsOf_ok hSo hA.term
    have hll := lotsOf_len (spells (heldS M keeper kn) day) term
    obtain ⟨hgo, hlo2, hll2, hgl⟩ := settled_ok hA.term hA.leave _ hSo
    have hb4 : (spells (heldS M keeper kn) day).length * (spells (heldS M keeper kn) day).length ≤ 21 * 21 := Nat.mul_le_mul hSl hSl
    have hth : threeM M keeper day term leave kn = listText [listText ((lotsOf (spells (heldS M keeper kn) day) term).map strT), listText ((settled (spells (heldS M keeper kn) day) term leave).2.map strT), listText ((settled (spells (heldS M keeper kn) day) term leave).1.map givT)] := rfl
    rw [hth] at k
    generalize lotsOf (spells (heldS M keeper kn) day) term = L at *
    generalize (settled (spells (heldS M keeper kn) day) term leave).2 = L2 at *
    generalize (settled (spells (heldS M keeper kn) day) term leave).1 = G at *
    have a1 := hL1.mono (stay_str _) ((S2.trans S3).trans S4)
    have a2 := hL2.mono (stay_str _) (S3.trans S4)
    have a3 := hL3.mono (stay_tup _) S4
    have hd : day < 10 ^ 60 := by omega
    obtain ⟨as0, has, hit⟩ := giv_items (CS := He.ga K "Stretch") a3 hgo hday
    have ex : ∀ {q : Addr} {vs : List V}, H3 q = some (.lst vs) → q ≠ p := fun h z => by
      rw [z, hp] at h
      cases h
    obtain ⟨_, e1, _⟩ := (hL1.mono (stay_str _) (S2.trans S3)).len
    obtain ⟨_, e2, _⟩ := (hL2.mono (stay_str _) S3).len
    obtain ⟨_, e3, _⟩ := hL3.len
    refine ⟨p, _, [listText (L.map strT), listText (L2.map strT), listText (G.map givT)], p1 :: p2 :: p3 :: as0, rfl, upd_same, List.cons_ne_nil _ _, rfl, fun i y hy => ?_, fun z => ?_, ?_, fun H5 S5 => ?_⟩
    · match i, hy with
      | 0, hy =>
        obtain rfl : V.ref p1 = y := Option.some.inj hy
        exact ⟨_, rfl, str_items a1 hlo hd _ List.mem_cons_self⟩
      | 1, hy =>
        obtain rfl : V.ref p2 = y := Option.some.inj hy
        exact ⟨_, rfl, str_items a2 hlo2 hd _ (List.mem_cons_of_mem _ List.mem_cons_self)⟩
      | 2, hy =>
        obtain rfl : V.ref p3 = y := Option.some.inj hy
        exact ⟨_, rfl, hit _ (List.mem_cons_of_mem _ (List.mem_cons_of_mem _ List.mem_cons_self)) fun b hb => List.mem_cons_of_mem _ (List.mem_cons_of_mem _ (List.mem_cons_of_mem _ hb))⟩
      | i + 3, hy => cases hy
    · rcases List.mem_cons.mp z with z | z
      · exact ex e1 z.symm
      rcases List.mem_cons.mp z with z | z
      · exact ex e2 z.symm
      rcases List.mem_cons.mp z with z | z
      · exact ex e3 z.symm
      obtain ⟨vs, hvs⟩ := has p z
      rw [upd_same] at hvs
      cases hvs
    · have l1 := listText_len (L.map strT)
      have l2 := listText_len (L2.map strT)
      have l3 := listText_len (G.map givT)
      have q1 := piled_le (B := 132) (L.map strT) fun t ht => by
        obtain ⟨x, hx, rfl⟩ := List.mem_map.mp ht
        have := hlo x hx
        exact strT_len (numOk_of this.1 (Int.le_trans this.2.1 this.2.2) hd) (numOk_of (Int.le_trans this.1 this.2.1) this.2.2 hd)
      have q2 := piled_le (B := 132) (L2.map strT) fun t ht => by
        obtain ⟨x, hx, rfl⟩ := List.mem_map.mp ht
        have := hlo2 x hx
        exact strT_len (numOk_of this.1 (Int.le_trans this.2.1 this.2.2) hd) (numOk_of (Int.le_trans this.1 this.2.1) this.2.2 hd)
      have q3 := piled_le (B := 200) (G.map givT) fun t ht => by
        obtain ⟨x, hx, rfl⟩ := List.mem_map.mp ht
        have ho := hgo x hx
        exact givT_len (numOk_of ho.1 (by omega) hday) (numOk_of ho.2.2.1 (by omega) hday) (numOk_of ho.2.2.2.2.1 ho.2.2.2.2.2 hday)
      rw [List.length_map] at q1 q2 q3
      have l4 := listText_len [listText (L.map strT), listText (L2.map strT), listText (G.map givT)]
      rw [piled_cons, piled_cons, piled_cons, piled_nil] at l4
      exact sz (by omega)
    · exact k H5 ((S1.trans S2).trans (S3.trans (S4.trans S5)))
end
end K76
namespace K76
open PySem PySem.Spec PyProof.Rows L2
/-! ### draws -/
def Pot (H : Hp) (p : Addr) : Prop := ∃ a b : Int, H p = some (.lst [.int a, .int b]) ∧ 0 ≤ a ∧ 0 ≤ b ∧ b < 2147483647
theorem Pot.mono {H H' : Hp} (s : Same H H') {p : Addr} (h : Pot H p) : Pot H' p := by
  obtain ⟨a, b, h1, h2⟩ := h
  exact ⟨a, b, s _ _ h1, h2⟩
theorem Pot.lst {H : Hp} {p : Addr} (h : Pot H p) : ∃ xs, H p = some (.lst xs) := by
  obtain ⟨a, b, h1, _⟩ := h
  exact ⟨_, h1⟩
section
variable {P : Program} {w : World} {K : PySem.W.Frag} {mg : Str → Option Value} {base : Heap}
def spCell (K : PySem.W.Frag) : Sp := fun vs H Q _ => ∃ (a : Addr) (ns : List Int) (k : Nat), vs = [.ref a, .int k] ∧ SqL K H a (ns.map V.int) ∧ ∀ n, Q (.int n) H
theorem scLawCell : FnScope ["_law_script", "_law_k"] ["_law_script", "_law_k"] (defScope sLawCell) :=
  ⟨rfl, rfl, rfl, by decide +kernel, rfl, by decide +kernel, by decide +kernel⟩
theorem cal_cell (T : TX K mg) : Cal P w K mg base 1 "_law_cell" ["_law_script", "_law_k"] [] (spCell K) := by
  obtain ⟨fd, F⟩ := T.dLawCell
  refine Cal.of F T.gLawCell (FunD.bindsN F fun _ _ _ _ _ _ us hl => match us, hl with | [_, _], _ => rfl) .nil ?_
  refine F.ok scLawCell (fun vs H Q E h => ?_) (fun cdv A outer s H vs Q E hr h => ?_)
  · obtain ⟨x, ns, k, rfl, _⟩ := h
    rfl
  · obtain ⟨a, ns, k, rfl, hs, q⟩ := h
    refine ⟨_, PSs.nox (pss_cons (ps_if (pt_cmpR op_lt (pv 1) (pe_callB call_len_seq (by rfl) T.f_len (by decide +kernel) (pa_cons (pv 0) pa_nil)) (nomark _)) (pss_one (ps_ret (pe_ix ix_list (pv 0) (pv 1) (fun _ _ => rfl)))) pss_nil)
      (pss_one (ps_ret pe_int))), ?_⟩
    refine ⟨_, rfl, _, rfl, a, _, rfl, .inl hs, _, _, rfl, rfl, _, rfl, ?_⟩
    rw [List.length_map]
    by_cases c : (k : Int) < (ns.length : Int)
    · refine ifd c ?_
      have hk : k < ns.length := by omega
      refine ⟨_, rfl, _, rfl, a, _, k, .int ns[k], rfl, rfl, hs, atI_nat (by rw [List.getElem?_map, List.getElem?_eq_getElem hk]; rfl), q _⟩
    · exact ifn c (q _)
def spPot (K : PySem.W.Frag) : Sp := fun vs H Q _ => ∃ (a : Addr) (ns : List Int) (k : Nat), vs = [.ref a, .int k] ∧ SqL K H a (ns.map V.int) ∧ ∀ H' p, Same H H' → H p = none → Pot H' p → Q (.ref p) H'
theorem scLawPot : FnScope ["_law_script", "_law_k", "_law_cell_here"] ["_law_script", "_law_k"] (defScope sLawPot) :=
  ⟨rfl, rfl, rfl, by decide +kernel, rfl, by decide +kernel, by decide +kernel⟩
theorem cal_pot (T : TX K mg) : Cal P w K mg base 2 "_law_pot" ["_law_script", "_law_k"] [] (spPot K) := by
  obtain ⟨fd, F⟩ := T.dLawPot
  have c1 : Cal P w K mg base 1 "_law_cell" ["_law_script", "_law_k"] [] (spCell K) := cal_cell T
  refine Cal.of F T.gLawPot (FunD.bindsN F fun _ _ _ _ _ _ us hl => match us, hl with | [_, _], _ => rfl) .nil ?_
  refine F.ok scLawPot (fun vs H Q E h => ?_) (fun cdv A outer s H vs Q E hr h => ?_)
  · obtain ⟨x, ns, k, rfl, _⟩ := h
    rfl
  · obtain ⟨a, ns, k, rfl, hs, q⟩ := h
    refine ⟨_, PSs.nox (pss_cons (ps_set (i := 2) scLawPot.nd rfl (by first | exact Or.inl rfl | exact Or.inr rfl) (pe_cal c1 hr (pa_cons (pv 0) (pa_cons (pv 1) pa_nil))))
      (pss_one (ps_ret (pe_lst (pa_cons (pe_callB (call_max2 rfl) (by rfl) T.f_max (by decide +kernel) (pa_cons pe_int (pa_cons (pe_op op_sub (pv 2) (pe_op op_pow pe_int pe_int)) pa_nil))) (pa_cons (pe_op op_mod (pe_op op_add (pe_op op_mod (pe_callB call_abs (by rfl) T.f_abs (by decide +kernel) (pa_cons (pv 2) pa_nil)) pe_int) (pe_op op_mul pe_int (pe_op op_add (pv 1) pe_int))) pe_int) pa_nil)))))), ?_⟩
    refine ⟨_, rfl, _, rfl, a, ns, k, rfl, hs, fun n => ?_⟩
    have cp : CPow 10 18 := ⟨by decide, by decide, by decide⟩
    refine ⟨_, rfl, 10, 18, rfl, rfl, cp, _, _, rfl, rfl, _, _, rfl, ?_⟩
    refine ⟨_, rfl, _, rfl, _, 2147483629, rfl, rfl, (show (0 : Int) < 2147483629 by decide), ?_⟩
    refine ⟨_, rfl, _, _, rfl, rfl, _, _, rfl, rfl, .inl ⟨by decide, by decide⟩, _, _, rfl, rfl, _, 2147483629, rfl, rfl, (show (0 : Int) < 2147483629 by decide), by show 2 ≤ sizeLine; decide, fun p hp => ?_⟩
    refine q _ p (Same.new hp) hp ⟨_, _, upd_same, ?_, ?_, ?_⟩
    · split <;> omega
    · exact Int.emod_nonneg _ (by decide)
    · have := Int.emod_lt_of_pos ((if n < 0 then -n else n) % 2147483629 + 48271 * ((k : Int) + 1)) (b := 2147483629) (by decide)
      omega
def spTake : Sp := fun vs H Q _ => ∃ (p : Addr) (many : Int), vs = [.ref p, .int many] ∧ Pot H p ∧ 0 < many ∧ many ≤ 10 ^ 50 ∧ ∀ d H', But p H H' → Pot H' p → 0 ≤ d → d < many → Q (.int d) H'
theorem scLawTake : FnScope ["_law_pot_here", "_law_many", "_law_digit"] ["_law_pot_here", "_law_many"] (defScope sLawTake) :=
  ⟨rfl, rfl, rfl, by decide +kernel, rfl, by decide +kernel, by decide +kernel⟩
theorem cal_take (T : TX K mg) : Cal P w K mg base 1 "_law_take" ["_law_pot_here", "_law_many"] [] spTake := by
  obtain ⟨fd, F⟩ := T.dLawTake
  refine Cal.of F T.gLawTake (FunD.bindsN F fun _ _ _ _ _ _ us hl => match us, hl with | [_, _], _ => rfl) .nil ?_
  refine F.ok scLawTake (fun vs H Q E h => ?_) (fun cdv A outer s H vs Q E hr h => ?_)
  · obtain ⟨x, k, rfl, _⟩ := h
    rfl
  · obtain ⟨p, many, rfl, ⟨a, b, hp, ha, hb, hb2⟩, hm, hm2, q⟩ := h
    refine ⟨_, PSs.nox (pss_cons (ps_if (pt_cmpR op_gt (pe_ix ix_list (pv 0) pe_int (fun _ _ => rfl)) pe_int (nomark _)) (pss_cons (ps_asg (pe_callB call_divmodW (by rfl) T.f_divmod (by decide +kernel) (pa_cons (pe_ix ix_list (pv 0) pe_int (fun _ _ => rfl)) (pa_cons (pv 1) pa_nil))) (pg_tup (by rfl) (pgs_cons (pg_sub (pv 0) pe_int set_list (fun _ => rfl)) (pgs_cons (pg_name (i := 2) scLawTake.nd rfl (by first | exact Or.inl rfl | exact Or.inr rfl)) pgs_nil))))
        (pss_one (ps_ret (pv 2)))) pss_nil)
      (pss_cons (ps_asg (pe_op op_mod (pe_op op_add (pe_op op_mul (pe_ix ix_list (pv 0) pe_int (fun _ _ => rfl)) pe_int) pe_int) pe_int) (pg_sub (pv 0) pe_int set_list (fun _ => rfl)))
      (pss_one (ps_ret (pe_op op_mod (pe_op op_fdiv (pe_op op_mod (pe_op op_mul (pe_ix ix_list (pv 0) pe_int (fun _ _ => rfl)) (pe_ix ix_list (pv 0) pe_int (fun _ _ => rfl))) pe_int) pe_int) (pv 1)))))), ?_⟩
    refine ⟨_, rfl, p, _, 0, .int a, rfl, rfl, SqL.of hp, rfl, _, _, rfl, rfl, _, rfl, ?_⟩
    by_cases c : a > 0
    · refine ifd c ?_
      have hl : many.natAbs.log2 < 9000 := by
        have h2 : many.natAbs < 2 ^ 200 := by
          have : (10 : Int) ^ 50 = ((10 ^ 50 : Nat) : Int) := by decide
          rw [this] at hm2
          have h3 : many.natAbs ≤ 10 ^ 50 := by omega
          exact Nat.lt_of_le_of_lt h3 (by decide)
        have := (Nat.log2_lt (show many.natAbs ≠ 0 by omega)).mpr h2
        omega
      refine ⟨_, rfl, p, _, 0, .int a, rfl, rfl, SqL.of hp, rfl, _, rfl, a, many, rfl, ⟨hm, PyProof.noPylong_of_log2 hl⟩, fun t ht => ?_⟩
      have S1 := Same.new (o := .tup [.int (a / many), .int (a % many)]) ht
      refine ⟨t, _, rfl, SqT.of upd_same, rfl, _, _, rfl, _, rfl, p, _, 0, 0, rfl, rfl, S1 _ _ hp, rfl, _, _, rfl, rfl, ?_⟩
      refine ⟨_, rfl, q _ _ ((But.of S1).trans But.upd) ⟨a / many, b, upd_same, Int.ediv_nonneg ha (by omega), hb, hb2⟩ (Int.emod_nonneg _ (by omega)) (Int.emod_lt_of_pos _ hm)⟩
    · refine ifn c ?_
      have n1 : 0 ≤ (b * 39373 + 10007) % 2147483647 := Int.emod_nonneg _ (by decide)
      have n2 : (b * 39373 + 10007) % 2147483647 < 2147483647 := Int.emod_lt_of_pos _ (by decide)
      refine ⟨_, rfl, p, _, 1, .int b, rfl, rfl, SqL.of hp, rfl, _, 39373, rfl, rfl, .inr ⟨by decide, by decide⟩, _, 10007, rfl, rfl, _, 2147483647, rfl, rfl, (show (0 : Int) < 2147483647 by decide), ?_⟩
      refine ⟨_, rfl, p, _, 1, 1, rfl, rfl, hp, rfl, ?_⟩
      dsimp only
      generalize (b * 39373 + 10007) % 2147483647 = b2 at n1 n2 ⊢
      have h2 : upd H p (.lst ([V.int a, V.int b].set 1 (.int b2))) p = some (.lst [.int a, .int b2]) := upd_same
      refine ⟨_, rfl, p, _, 1, .int b2, rfl, rfl, SqL.of h2, rfl, _, rfl, p, _, 1, .int b2, rfl, rfl, SqL.of h2, rfl, _, _, rfl, rfl, .inl ⟨by omega, by omega⟩, _, 2147483587, rfl, rfl, (show (0 : Int) < 2147483587 by decide), _, 17, rfl, rfl, ⟨by decide, by decide⟩, _, rfl, _, many, rfl, rfl, hm, ?_⟩
      exact q _ _ But.upd ⟨a, b2, h2, ha, n1, n2⟩ (Int.emod_nonneg _ (by omega)) (Int.emod_lt_of_pos _ hm)
def spFar : Sp := fun vs H Q _ => ∃ (p : Addr), vs = [.ref p] ∧ Pot H p ∧ ∀ d H', But p H H' → Pot H' p → 0 ≤ d → d < 10 ^ 50 → Q (.int d) H'
theorem scLawFar : FnScope ["_law_pot_here"] ["_law_pot_here"] (defScope sLawFar) :=
  ⟨rfl, rfl, rfl, by decide +kernel, rfl, by decide +kernel, by decide +kernel⟩
theorem cal_far (T : TX K mg) : Cal P w K mg base 2 "_law_far" ["_law_pot_here"] [] spFar := by
  obtain ⟨fd, F⟩ := T.dLawFar
  have c1 : Cal P w K mg base 1 "_law_take" ["_law_pot_here", "_law_many"] [] spTake := cal_take T
  refine Cal.of F T.gLawFar (FunD.bindsN F fun _ _ _ _ _ _ us hl => match us, hl with | [_], _ => rfl) .nil ?_
  refine F.ok scLawFar (fun vs H Q E h => ?_) (fun cdv A outer s H vs Q E hr h => ?_)
  · obtain ⟨x, rfl, _⟩ := h
    rfl
  · obtain ⟨p, rfl, hp, q⟩ := h
    refine ⟨_, PSs.nox (pss_cons (ps_if (pt_cmpR op_eq (pe_cal c1 hr (pa_cons (pv 0) (pa_cons pe_int pa_nil))) pe_int (nomark _)) (pss_one (ps_ret (pe_cal c1 hr (pa_cons (pv 0) (pa_cons (pe_op op_pow pe_int pe_int) pa_nil))))) pss_nil)
      (pss_one (ps_ret pe_int))), ?_⟩
    have cp : CPow 10 50 := ⟨by decide, by decide, by decide⟩
    have e50 : (10 : Int) ^ (50 : Int).toNat = 10 ^ 50 := rfl
    refine ⟨_, rfl, p, 3, rfl, hp, by decide, by decide, fun d H1 B1 p1 d0 d1 => ⟨rfl, _, rfl, ?_⟩⟩
    by_cases c : V.int d = V.int 0
    · refine ifd c ?_
      refine ⟨_, rfl, 10, 50, rfl, rfl, cp, p, _, rfl, p1, ?_, ?_, fun d2 H2 B2 p2 d20 d21 => ?_⟩
      · rw [e50]
        decide
      · rw [e50]
        exact Int.le_refl _
      · exact q d2 H2 (B1.trans B2) p2 d20 (by rw [e50] at d21; exact d21)
    · exact ifn c (q 0 H1 B1 p1 (Int.le_refl 0) (by decide))
def spSome : Sp := fun vs H Q _ => ∃ (p : Addr) (most : Int), vs = [.ref p, .int most] ∧ Pot H p ∧ 0 < most ∧ most ≤ 100 ∧ ∀ d H', But p H H' → Pot H' p → 0 ≤ d → d < 10 ^ 56 → Q (.int d) H'
theorem scLawSomeDays : FnScope ["_law_pot_here", "_law_most", "_law_way"] ["_law_pot_here", "_law_most"] (defScope sLawSomeDays) :=
  ⟨rfl, rfl, rfl, by decide +kernel, rfl, by decide +kernel, by decide +kernel⟩
theorem cal_some (T : TX K mg) : Cal P w K mg base 2 "_law_some_days" ["_law_pot_here", "_law_most"] [] spSome := by
  obtain ⟨fd, F⟩ := T.dLawSomeDays
  have c1 : Cal P w K mg base 1 "_law_take" ["_law_pot_here", "_law_many"] [] spTake := cal_take T
  refine Cal.of F T.gLawSomeDays (FunD.bindsN F fun _ _ _ _ _ _ us hl => match us, hl with | [_, _], _ => rfl) .nil ?_
  refine F.ok scLawSomeDays (fun vs H Q E h => ?_) (fun cdv A outer s H vs Q E hr h => ?_)
  · obtain ⟨x, m, rfl, _⟩ := h
    rfl
  · obtain ⟨p, most, rfl, hp, hm, hm2, q⟩ := h
    refine ⟨_, PSs.nox (pss_cons (ps_set (i := 2) scLawSomeDays.nd rfl (by first | exact Or.inl rfl | exact Or.inr rfl) (pe_cal c1 hr (pa_cons (pv 0) (pa_cons pe_int pa_nil))))
      (pss_cons (ps_if (pt_cmpR op_eq (pv 2) pe_int (nomark _)) (pss_one (ps_ret (pe_op op_add (pe_op op_pow pe_int pe_int) (pe_cal c1 hr (pa_cons (pv 0) (pa_cons (pe_op op_pow pe_int pe_int) pa_nil)))))) pss_nil)
      (pss_one (ps_ret (pe_ix ix_list (pe_lst (pa_cons pe_int (pa_cons pe_int (pa_cons (pe_cal c1 hr (pa_cons (pv 0) (pa_cons (pv 1) pa_nil))) (pa_cons (pe_cal c1 hr (pa_cons (pv 0) (pa_cons pe_int pa_nil))) (pa_cons (pe_cal c1 hr (pa_cons (pv 0) (pa_cons pe_int pa_nil))) pa_nil)))))) (pe_op op_sub (pv 2) pe_int) (fun _ _ => rfl)))))), ?_⟩
    have cp : CPow 10 50 := ⟨by decide, by decide, by decide⟩
    have cp5 : CPow 10 55 := ⟨by decide, by decide, by decide⟩
    have e50 : (10 : Int) ^ (50 : Int).toNat = 10 ^ 50 := rfl
    have e55 : (10 : Int) ^ (55 : Int).toNat = 10 ^ 55 := rfl
    have b50 : (100 : Int) ≤ 10 ^ 50 := by decide
    refine ⟨_, rfl, p, 6, rfl, hp, by decide, by decide, fun d H1 B1 p1 d0 d1 => ⟨_, rfl, rfl, _, rfl, ?_⟩⟩
    by_cases c : V.int d = V.int 0
    · refine ifd c ?_
      refine ⟨10, 55, rfl, rfl, cp5, _, rfl, 10, 50, rfl, rfl, cp, p, _, rfl, p1, ?_, ?_, fun d2 H2 B2 p2 d20 d21 => ?_⟩
      · rw [e50]
        decide
      · rw [e50]
        exact Int.le_refl _
      · refine ⟨_, _, rfl, rfl, ?_⟩
        rw [e50] at d21
        rw [e55]
        have h1 : (10 : Int) ^ 55 + 10 ^ 50 ≤ 10 ^ 56 := by decide
        have h2 : (0 : Int) ≤ 10 ^ 55 := by decide
        exact q _ H2 (B1.trans B2) p2 (by omega) (by omega)
    · refine ifn c ?_
      have c2 : d ≠ 0 := fun z => c (by rw [z])
      refine ⟨_, rfl, _, rfl, p, most, rfl, p1, hm, by omega, fun e1 H2 B2 p2 e10 e11 => ?_⟩
      refine ⟨_, rfl, p, 4, rfl, p2, by decide, by decide, fun e2 H3 B3 p3 e20 e21 => ?_⟩
      refine ⟨_, rfl, p, 4, rfl, p3, by decide, by decide, fun e3 H4 B4 p4 e30 e31 => ?_⟩
      refine ⟨by show 5 ≤ sizeLine; decide, fun z hz => ?_⟩
      have S5 := Same.new (o := .lst [.int 0, .int 1, .int e1, .int e2, .int e3]) hz
      have BB := ((B1.trans B2).trans (B3.trans B4)).trans (But.of S5)
      have pp := p4.mono S5
      have b56 : (100 : Int) ≤ 10 ^ 56 := by decide
      have : ∃ x : Int, atI [V.int 0, .int 1, .int e1, .int e2, .int e3] (d - 1) = some (.int x) ∧ 0 ≤ x ∧ x < 10 ^ 56 := by
        have : d = 1 ∨ d = 2 ∨ d = 3 ∨ d = 4 ∨ d = 5 := by omega
        rcases this with z | z | z | z | z <;> subst z
        · exact ⟨0, rfl, by omega, by omega⟩
        · exact ⟨1, rfl, by omega, by omega⟩
        · exact ⟨e1, rfl, e10, by omega⟩
        · exact ⟨e2, rfl, e20, by omega⟩
        · exact ⟨e3, rfl, e30, by omega⟩
      obtain ⟨x, hx, x0, x1⟩ := this
      exact ⟨_, rfl, _, _, rfl, rfl, z, _, _, _, rfl, rfl, SqL.of upd_same, hx, q x _ BB pp x0 x1⟩
end
end K76
namespace K76
open PySem PySem.Spec PyProof.Rows L2
/-! ### names -/
abbrev abc : Str := "abcdefghijklmnopqrstuvwxyz"
theorem abc_at {d : Int} (h0 : 0 ≤ d) (h1 : d < 26) : atI abc.cps.toList d = some (97 + d.toNat) := by
  have e : ∀ k : _root_.Fin 26, atI abc.cps.toList ((k.val : Nat) : Int) = some (97 + k.val) := by decide +kernel
  have := e ⟨d.toNat, by omega⟩
  rw [show ((d.toNat : Nat) : Int) = d by omega] at this
  exact this
theorem cps_add (a b : Str) : (a ++ b).cps.toList = a.cps.toList ++ b.cps.toList := by
  show (a.cps ++ b.cps).toList = _
  simp
theorem join_chars : ∀ cs : List Nat, (Str.join "" (cs.map fun c => (⟨#[c]⟩ : Str))).cps.toList = cs
  | [] => rfl
  | [c] => rfl
  | c :: d :: cs => by
    have ih := join_chars (d :: cs)
    show ((⟨#[c]⟩ : Str) ++ "" ++ Str.join "" ((d :: cs).map fun c => (⟨#[c]⟩ : Str))).cps.toList = _
    rw [cps_add, cps_add, ih]
    rfl
theorem len_list (x : Str) : x.length = x.cps.toList.length := by
  show x.cps.size = _
  simp
theorem name_chars {cs : List Nat} (h1 : 1 ≤ cs.length) (h2 : cs.length ≤ 8) (h : ∀ c ∈ cs, 97 ≤ c ∧ c ≤ 122) : IsName (Str.join "" (cs.map fun c => (⟨#[c]⟩ : Str))) := by
  have e := join_chars cs
  exact ⟨by rw [len_list, e]; exact h1, by rw [len_list, e]; exact h2, by rw [e]; exact h⟩
theorem name_cut {x : Str} (h : IsName x) {c : Nat} (hc : 97 ≤ c ∧ c ≤ 122) : IsName (cutS x none (some 7) ++ (⟨#[c]⟩ : Str)) := by
  have hs : HT.sIx x.length x.length (some 7) = min 7 x.length := HT.sIx_nat x.length x.length 7
  have e : (cutS x none (some 7)).cps.toList = x.cps.toList.take (min 7 x.length) := by
    unfold cutS
    rw [hs]
    show ((x.cps.toList.drop 0).take (min 7 x.length - 0)).toArray.toList = _
    simp
  have e2 : (cutS x none (some 7) ++ (⟨#[c]⟩ : Str)).cps.toList = x.cps.toList.take (min 7 x.length) ++ [c] := by
    rw [cps_add, e]
  have hl := len_list x
  have h1 := h.pos
  have h2 := h.len
  refine ⟨?_, ?_, ?_⟩
  · rw [len_list, e2, List.length_append]
    simp
  · rw [len_list, e2, List.length_append, List.length_take]
    simp only [List.length_cons, List.length_nil]
    omega
  · rw [e2]
    intro d hd
    rcases List.mem_append.mp hd with z | z
    · exact h.low d ((List.take_sublist _ _).subset z)
    · have : d = c := by simpa using z
      rw [this]
      exact hc
theorem xyx_low : ∀ c ∈ ("xyx" : Str).cps.toList, 97 ≤ c ∧ c ≤ 122 := by decide +kernel
theorem name_xyx {c : Nat} (hc : 97 ≤ c ∧ c ≤ 122) : IsName ((⟨#[c]⟩ : Str) ++ "xyx") := by
  have e : ((⟨#[c]⟩ : Str) ++ "xyx").cps.toList = c :: ("xyx" : Str).cps.toList := by
    rw [cps_add]
    rfl
  have hl : ("xyx" : Str).cps.toList.length = 3 := by decide +kernel
  refine ⟨by rw [len_list, e, List.length_cons]; omega, by rw [len_list, e, List.length_cons, hl]; omega, ?_⟩
  rw [e]
  intro d hd
  rcases List.mem_cons.mp hd with z | z
  · rw [z]
    exact hc
  · exact xyx_low d z
theorem nodup_le {α : Type} [DecidableEq α] : ∀ {l m : List α}, l.Nodup → (∀ x ∈ l, x ∈ m) → l.length ≤ m.length
  | [], _, _, _ => Nat.zero_le _
  | x :: l, m, nd, h => by
    rw [List.nodup_cons] at nd
    have hx := h x List.mem_cons_self
    have h1 := nodup_le (l := l) (m := m.erase x) nd.2 fun y hy => (List.mem_erase_of_ne (fun z => nd.1 (by rw [← z]; exact hy))).mpr (h y (List.mem_cons_of_mem _ hy))
    have h2 := List.length_erase_of_mem hx
    have h3 := List.length_pos_of_mem hx
    rw [List.length_cons]
    omega
theorem xyx_new {ns : List Str} (h : ns.length ≤ 3) : ∃ c ∈ [97, 98, 99, 100], ((⟨#[c]⟩ : Str) ++ "xyx") ∉ ns := by
  apply Classical.byContradiction
  intro hn
  have ha : ∀ c ∈ [97, 98, 99, 100], ((⟨#[c]⟩ : Str) ++ "xyx") ∈ ns := fun c hc => Classical.byContradiction fun z => hn ⟨c, hc, z⟩
  have nd : ([97, 98, 99, 100].map fun c : Nat => ((⟨#[c]⟩ : Str) ++ "xyx")).Nodup := by decide +kernel
  have := nodup_le nd fun x hx => by
    obtain ⟨c, hc, rfl⟩ := List.mem_map.mp hx
    exact ha c hc
  rw [List.length_map] at this
  simp only [List.length_cons, List.length_nil] at this
  omega
theorem name_ok {x : Str} (h : IsName x) : PyData.strOk x = true := mv_flat (p := some x) (fun y e => .inr (by rw [← Option.some.inj e]; exact h))
theorem inV_str (x : Str) : ∀ ns : List Str, inV (.str x) (ns.map V.str) = decide (x ∈ ns)
  | [] => rfl
  | n :: ns => by
    have ih := inV_str x ns
    show (eqV (.str n) (.str x) || inV (.str x) (ns.map V.str)) = _
    rw [ih]
    show ((n == x) || _) = _
    by_cases c : n = x
    · rw [c, decide_eq_true (List.mem_cons_self : x ∈ x :: ns)]
      simp
    · have : (n == x) = false := by simpa using c
      rw [this, Bool.false_or]
      by_cases d : x ∈ ns
      · rw [decide_eq_true d, decide_eq_true (List.mem_cons_of_mem n d)]
      · rw [decide_eq_false d, decide_eq_false (fun z => by
          rcases List.mem_cons.mp z with y | y
          · exact c y.symm
          · exact d y)]
theorem all_flatV : ∀ ns : List Str, (ns.map V.str).all flatV = true
  | [] => rfl
  | n :: ns => all_flatV ns
theorem names_shal {K : PySem.W.Frag} {H : Hp} : ∀ {ns : List Str}, (∀ n ∈ ns, IsName n) → Shal K H (ns.map V.str) := fun {ns} h => Shal.flat (by
  rw [List.all_map, List.all_eq_true]
  exact fun n hn => name_ok (h n hn))
section
variable {P : Program} {w : World} {K : PySem.W.Frag} {mg : Str → Option Value} {base : Heap}
/-- a step on the name: what it promises -/
def tNm : TS := fun D σ H => ∃ (pot p : Addr) (many way : Int) (ns : List Str) (nm : Str) (v4 v7 v8 : Option V), σ = [some (.ref pot), some (.int many), some (.str abc), some (.ref p), v4, some (.int way), some (.str nm), v7, v8] ∧
  Pot H pot ∧ H p = some (.lst (ns.map V.str)) ∧ (∀ n ∈ ns, IsName n) ∧ ns.length ≤ 3 ∧ IsName nm ∧
  ∀ H' nm', But pot H H' → Pot H' pot → IsName nm' → D.nx [some (.ref pot), some (.int many), some (.str abc), some (.ref p), v4, some (.int way), some (.str nm'), v7, v8] H'
def spNames : Sp := fun vs H Q _ => ∃ (pot : Addr) (many : Int), vs = [.ref pot, .int many] ∧ Pot H pot ∧ 1 ≤ many ∧ many ≤ 4 ∧
  ∀ H' p (ns : List Str), But pot H H' → H p = none → Pot H' pot → H' p = some (.lst (ns.map V.str)) → (∀ n ∈ ns, IsName n) → ns.length = many.toNat → Q (.ref p) H'
theorem scLawNames : FnScope ["_law_pot_here", "_law_many", "_law_letters", "_law_names_here", "_law_k", "_law_way", "_law_name", "_law_j", "_law_letter"] ["_law_pot_here", "_law_many"] (defScope sLawNames) :=
  ⟨rfl, rfl, rfl, by decide +kernel, rfl, by decide +kernel, by decide +kernel⟩
theorem cal_names (T : TX K mg) : Cal P w K mg base 2 "_law_names" ["_law_pot_here", "_law_many"] [] spNames := by
  obtain ⟨fd, F⟩ := T.dLawNames
  have c1 : Cal P w K mg base 1 "_law_take" ["_law_pot_here", "_law_many"] [] spTake := cal_take T
  refine Cal.of F T.gLawNames (FunD.bindsN F fun _ _ _ _ _ _ us hl => match us, hl with | [_, _], _ => rfl) .nil ?_
  refine F.ok scLawNames (fun vs H Q E h => ?_) (fun cdv A outer s H vs Q E hr h => ?_)
  · obtain ⟨x, m, rfl, _⟩ := h
    rfl
  · obtain ⟨pot, many, rfl, hpot, hm1, hm4, k⟩ := h
    have sl2 : 2 ≤ sizeLine := by decide
    have b50 : (100 : Int) ≤ 10 ^ 50 := by decide
    have labc : abc.length ≤ sizeLine := sz (by decide +kernel)
    refine ⟨_, PSs.nox (pss_cons (ps_set (i := 2) scLawNames.nd rfl (by first | exact Or.inl rfl | exact Or.inr rfl) pe_str)
      (pss_cons (ps_set (i := 3) scLawNames.nd rfl (by first | exact Or.inl rfl | exact Or.inr rfl) (pe_lst pa_nil))
      (pss_cons (ps_for PassesOwn.never rfl (pi_range1 rfl T.f_range (pa_cons (pv 1) pa_nil)) (pg_name (i := 4) scLawNames.nd rfl (by first | exact Or.inl rfl | exact Or.inr rfl))
        (pss_cons (ps_set (i := 5) scLawNames.nd rfl (by first | exact Or.inl rfl | exact Or.inr rfl) (pe_cal c1 hr (pa_cons (pv 0) (pa_cons pe_int pa_nil))))
        (pss_cons (ps_set (i := 6) scLawNames.nd rfl (by first | exact Or.inl rfl | exact Or.inr rfl) (pe_join pe_str (pe_lc (own := [("_law_j", 7)]) rfl scLawNames.nd (pi_range1 rfl T.f_range (pa_cons (pe_op op_add pe_int (pe_cal c1 hr (pa_cons (pv 0) (pa_cons (pe_ix ix_list (pe_lst (pa_cons pe_int (pa_cons pe_int pa_nil))) (pe_cal c1 hr (pa_cons (pv 0) (pa_cons pe_int pa_nil))) (fun _ _ => rfl)) pa_nil)))) pa_nil)) (blkOk_by (own := [("_law_j", 7)]) (N := ["_law_pot_here", "_law_many", "_law_letters", "_law_names_here", "_law_k", "_law_way", "_law_name", "_law_j", "_law_letter"]) (sc := defScope sLawNames) (by decide +kernel)) (fun _ _ _ _ _ => (pg_name (i := 7) scLawNames.nd rfl (by first | exact Or.inl rfl | exact Or.inr rfl))) (fun _ _ _ _ _ => pts_nil) (fun _ _ _ _ _ => (pe_ix ix_str (pv 2) (pe_cal c1 hr (pa_cons (pv 0) (pa_cons pe_int pa_nil))) (fun _ _ => rfl))))))
        (pss_cons (ps_by (t2 := tNm) (ps_if (PW.pt (pw_and (pt_cmpR op_eq (pv 5) pe_int (nomark _)) (pw_and1 (pt_cmpR (op_neNil hr.units) (pv 3) (pe_lst pa_nil) (nomark _))))) (pss_one (ps_set (i := 6) scLawNames.nd rfl (by first | exact Or.inl rfl | exact Or.inr rfl) (pe_op op_add_str (pe_slice sl_str (pe_ix ix_list (pv 3) pe_int (fun _ _ => rfl)) po_none (po_some pe_int)) (pe_ix ix_str (pv 2) (pe_cal c1 hr (pa_cons (pv 0) (pa_cons pe_int pa_nil))) (fun _ _ => rfl))))) pss_nil) (fun D σ H q => ?_))
        (pss_cons (ps_by (t2 := tNm) (ps_if (pt_cmpR op_in_seq (pv 6) (pv 3) (by rfl)) (pss_one (ps_set (i := 6) scLawNames.nd rfl (by first | exact Or.inl rfl | exact Or.inr rfl) (pe_ix ix_list (pe_lc (tt := tTest (tOp (rIn K true) (tOp (fun x y H Q => ∃ i j, x = .str i ∧ y = .str j ∧ i.length + j.length ≤ sizeLine ∧ Q (.str (i ++ j)) H) (tVar 8) (tC (.str "xyx"))) (tVar 3))) (own := [("_law_letter", 8)]) rfl scLawNames.nd (pi_str (pv 2)) (blkOk_by (own := [("_law_letter", 8)]) (N := ["_law_pot_here", "_law_many", "_law_letters", "_law_names_here", "_law_k", "_law_way", "_law_name", "_law_j", "_law_letter"]) (sc := defScope sLawNames) (by decide +kernel)) (fun _ _ _ _ _ => (pg_name (i := 8) scLawNames.nd rfl (by first | exact Or.inl rfl | exact Or.inr rfl))) (fun _ _ _ _ _ => (pts_one (pt_cmpR op_notIn_seq (pe_op op_add_str (pv 8) pe_str) (pv 3) (by rfl)))) (fun _ _ _ _ _ => (pe_op op_add_str (pv 8) pe_str))) pe_int (fun _ _ => rfl)))) pss_nil) (fun D σ H q => ?_))
        (pss_one (ps_expr (pe_bm PySem.F.plainAttrs_list PySem.F.slot_list_append PySem.F.type_list_append mt_append (pv 3) (pa_cons (pv 6) pa_nil)))))))))
      (pss_one (ps_ret (pv 3)))))), ?_⟩
    · obtain ⟨pot, p, many, way, ns, nm, v4, v7, v8, rfl, hpot, hp, hns, hl, hnm, q⟩ := q
      refine ⟨_, rfl, rfl, _, rfl, ?_⟩
      by_cases c : V.int way = V.int 0
      · refine ifd c ?_
        refine ⟨_, rfl, Nat.zero_le _, fun z hz => ?_⟩
        have S1 := Same.new (o := .lst []) hz
        refine ⟨p, z, _, rfl, rfl, SqL.of (S1 _ _ hp), upd_same, names_shal hns, _, rfl, ?_⟩
        cases ns with
        | nil => exact q _ nm (But.of S1) (hpot.mono S1) hnm
        | cons n ns =>
          have hn := hns n List.mem_cons_self
          refine ⟨_, rfl, p, _, 0, .str n, rfl, rfl, SqL.of (S1 _ _ hp), atI_nat (j := 0) rfl, 7, rfl, n, rfl, sz (by have := hn.len; omega), ?_⟩
          refine ⟨_, rfl, _, rfl, pot, 26, rfl, hpot.mono S1, by decide, by omega, fun d H2 B2 P2 d0 d1 => ?_⟩
          refine ⟨abc, d, 97 + d.toNat, rfl, rfl, labc, abc_at d0 d1, _, _, rfl, rfl, ?_, ?_⟩
          · have h1 := cutS_length n none (some 7)
            have h2 := hn.len
            have h3 : (⟨#[97 + d.toNat]⟩ : Str).length = 1 := rfl
            rw [h3]
            exact sz (by omega)
          · exact q H2 _ ((But.of S1).trans B2) P2 (name_cut hn (by omega))
      · exact ifn c (q H nm (But.refl _ _) hpot hnm)
    · obtain ⟨pot, p, many, way, ns, nm, v4, v7, v8, rfl, hpot, hp, hns, hl, hnm, q⟩ := q
      refine ⟨_, rfl, _, rfl, p, _, rfl, .inl (SqL.of hp), rfl, all_flatV ns, _, rfl, ?_⟩
      cases hb : inV (V.str nm) (ns.map V.str) with
      | false => exact q H nm (But.refl _ _) hpot hnm
      | true =>
        have s4 : ∀ c : Nat, (⟨#[c]⟩ : Str).length + ("xyx" : Str).length ≤ sizeLine := fun c => by
          have h1 : (⟨#[c]⟩ : Str).length = 1 := rfl
          have h2 : ("xyx" : Str).length = 3 := by decide +kernel
          rw [h1, h2]
          exact sz (by omega)
        have habc : abc.cps.size = 26 := by decide +kernel
        refine ⟨_, rfl, abc, rfl, fun D' hD => lc_it walk_str (fun i H1 => Same H H1 ∧ ∃ ws : List Str, H1 D' = some (.lst (ws.map V.str)) ∧ (∀ w ∈ ws, IsName w) ∧ ws.length ≤ i ∧ ((∃ j, j < i ∧ ∃ c, abc.cps[j]? = some c ∧ ((⟨#[c]⟩ : Str) ++ "xyx") ∉ ns) → ws ≠ []))
          ⟨Same.new hD, [], upd_same, (fun _ z => nomatch z), Nat.le_refl _, fun ⟨j, hj, _⟩ => absurd hj (Nat.not_lt_zero _)⟩ (fun _ _ _ _ => trivial) ?_ ?_⟩
        · rintro i v H1 H2 hi ⟨S1, ws, hw, hwn, hwl, hwe⟩ ⟨rfl, c, hc, rfl⟩
          have hc2 : c ∈ abc.cps.toList := by
            rw [← Array.getElem?_toList] at hc
            exact List.mem_of_getElem? hc
          have hlow : 97 ≤ c ∧ c ≤ 122 := by
            have : ∀ c ∈ abc.cps.toList, 97 ≤ c ∧ c ≤ 122 := by decide +kernel
            exact this c hc2
          refine ⟨rfl, _, rfl, _, _, rfl, rfl, s4 c, _, rfl, p, _, rfl, .inl (SqL.of (S1 _ _ hp)), rfl, all_flatV ns, _, rfl, ?_⟩
          have hin := inV_str ((⟨#[c]⟩ : Str) ++ "xyx") ns
          by_cases d : ((⟨#[c]⟩ : Str) ++ "xyx") ∈ ns
          · rw [decide_eq_true d] at hin
            rw [hin]
            refine ⟨S1, ws, hw, hwn, by omega, fun ⟨j, hj, c', hc', hn'⟩ => hwe ⟨j, ?_, c', hc', hn'⟩⟩
            rcases Nat.lt_or_ge j i with y | y
            · exact y
            · have : j = i := by omega
              rw [this, hc] at hc'
              rw [Option.some.inj hc'] at d
              exact absurd d hn'
          · rw [decide_eq_false d] at hin
            rw [hin]
            refine ⟨_, rfl, _, _, rfl, rfl, s4 c, _, hw, by rw [List.length_map]; exact sz' (by omega), Same.mut S1 hD, ws ++ [(⟨#[c]⟩ : Str) ++ "xyx"], by rw [upd_same, List.map_append]; rfl, fun y hy => ?_, by rw [List.length_append]; exact Nat.succ_le_succ hwl, fun _ => by simp⟩
            rcases List.mem_append.mp hy with z | z
            · exact hwn y z
            · have : y = (⟨#[c]⟩ : Str) ++ "xyx" := by simpa using z
              rw [this]
              exact name_xyx hlow
        · rintro H1 ⟨S1, ws, hw, hwn, hwl, hwe⟩
          have hne : ws ≠ [] := hwe (by
            obtain ⟨c, hc, hn⟩ := xyx_new hl
            have : ∀ c ∈ [97, 98, 99, 100], ∃ j, j < abc.cps.size ∧ abc.cps[j]? = some c := by
              intro c hc
              simp only [List.mem_cons, List.not_mem_nil, or_false] at hc
              rcases hc with z | z | z | z <;> subst z
              · exact ⟨0, by rw [habc]; decide, by decide +kernel⟩
              · exact ⟨1, by rw [habc]; decide, by decide +kernel⟩
              · exact ⟨2, by rw [habc]; decide, by decide +kernel⟩
              · exact ⟨3, by rw [habc]; decide, by decide +kernel⟩
            obtain ⟨j, hj, hj2⟩ := this c hc
            exact ⟨j, hj, c, hj2, hn⟩)
          cases ws with
          | nil => exact absurd rfl hne
          | cons x ws => exact ⟨D', _, 0, .str x, rfl, rfl, SqL.of hw, atI_nat (j := 0) rfl, q H1 x (But.of S1) (hpot.mono S1) (hwn x List.mem_cons_self)⟩
    · refine ⟨Nat.zero_le _, fun p hp => ?_⟩
      have S1 := Same.new (o := .lst []) hp
      have npp : p ≠ pot := fun z => by
        obtain ⟨xs, hx⟩ := hpot.lst
        rw [z, hx] at hp
        cases hp
      refine ⟨_, rfl, many, rfl, by omega, by omega, for_it walk_range (fun i σ H1 => But pot H H1 ∧ Pot H1 pot ∧ ∃ ns : List Str, H1 p = some (.lst (ns.map V.str)) ∧ (∀ n ∈ ns, IsName n) ∧ ns.length = i ∧ ∃ v4 v5 v6 v7 v8, σ = [some (.ref pot), some (.int many), some (.str abc), some (.ref p), v4, v5, v6, v7, v8])
        ⟨But.of S1, hpot.mono S1, [], upd_same, (fun _ z => nomatch z), rfl, none, none, none, none, none, rfl⟩ (fun _ _ _ _ _ => trivial) ?_ ?_⟩
      · rintro i x σ H1 H2 hi ⟨B1, hP, ns, hp1, hns, hnl, v4, v5, v6, v7, v8, rfl⟩ ⟨rfl, rfl⟩
        refine ⟨_, rfl, pot, 4, rfl, hP, by decide, by omega, fun way H3 B3 P3 w0 w1 => ?_⟩
        have p3 := B3 _ _ npp hp1
        refine ⟨⟨_, rfl⟩, _, rfl, sl2, fun l hl => ?_⟩
        have S4 := Same.new (o := .lst [.int 3, .int 8]) hl
        have l4 : upd H3 l (.lst [.int 3, .int 8]) l = some (.lst [.int 3, .int 8]) := upd_same
        generalize upd H3 l (.lst [.int 3, .int 8]) = H4 at S4 l4
        have P4 := P3.mono S4
        have nlp : l ≠ pot := fun z => by
          obtain ⟨xs, hx⟩ := P3.lst
          rw [z, hx] at hl
          cases hl
        refine ⟨_, rfl, pot, 2, rfl, P4, by decide, by omega, fun d H5 B5 P5 d0 d1 => ?_⟩
        have : ∃ x : Int, atI [V.int 3, .int 8] d = some (.int x) ∧ 3 ≤ x ∧ x ≤ 8 := by
          have : d = 0 ∨ d = 1 := by omega
          rcases this with z | z <;> subst z
          · exact ⟨3, rfl, by omega, by omega⟩
          · exact ⟨8, rfl, by omega, by omega⟩
        obtain ⟨m, hm, m3, m8⟩ := this
        refine ⟨l, _, d, .int m, rfl, rfl, SqL.of (B5 _ _ nlp l4), hm, pot, m, rfl, P5, by omega, by omega, fun d2 H6 B6 P6 d20 d21 => ?_⟩
        refine ⟨1, d2, rfl, rfl, 1 + d2, rfl, by omega, by omega, fun D hD => ?_⟩
        have p6 := B6 _ _ npp (B5 _ _ npp (S4 _ _ p3))
        have nDp : D ≠ pot := fun z => by
          obtain ⟨xs, hx⟩ := P6.lst
          rw [z, hx] at hD
          cases hD
        refine lc_it walk_range (fun i H7 => But pot H6 H7 ∧ Pot H7 pot ∧ ∃ cs : List Nat, H7 D = some (.lst ((cs.map fun c => (⟨#[c]⟩ : Str)).map V.str)) ∧ (∀ c ∈ cs, 97 ≤ c ∧ c ≤ 122) ∧ cs.length = i) ⟨But.of (Same.new hD), P6.mono (Same.new hD), [], upd_same, (fun _ z => nomatch z), rfl⟩ (fun _ _ _ _ => trivial) ?_ ?_
        · rintro i2 x H7 H8 hi2 ⟨B7, P7, cs, hcs, hcl, hcn⟩ ⟨rfl, rfl⟩
          refine ⟨rfl, _, rfl, _, rfl, pot, 26, rfl, P7, by decide, by omega, fun e H9 B9 P9 e0 e1 => ?_⟩
          refine ⟨abc, e, 97 + e.toNat, rfl, rfl, labc, abc_at e0 e1, _, B9 _ _ nDp hcs, by rw [List.length_map, List.length_map, hcn]; exact sz' (by omega), ?_⟩
          refine ⟨fun b o nb hb => ?_, ?_, cs ++ [97 + e.toNat], by rw [upd_same, List.map_append, List.map_append]; rfl, fun c hc => ?_, by rw [List.length_append, hcn]; rfl⟩
          · have hbD : b ≠ D := ne_of_none hb hD
            rw [upd_ne hbD]
            exact B9 _ _ nb (B7 _ _ nb hb)
          · obtain ⟨a, b, h1, h2⟩ := P9
            exact ⟨a, b, by rw [upd_ne nDp.symm]; exact h1, h2⟩
          · rcases List.mem_append.mp hc with z | z
            · exact hcl c z
            · have : c = 97 + e.toNat := by simpa using z
              omega
        · rintro H7 ⟨B7, P7, cs, hcs, hcl, hcn⟩
          have hcn2 : cs.length = (1 + d2).toNat := hcn
          have hj : (((cs.map fun c => (⟨#[c]⟩ : Str)).map (·.length)).sum + (cs.map fun c => (⟨#[c]⟩ : Str)).length * ("" : Str).length ≤ 16777216) := by
            have e1 : ∀ cs : List Nat, ((cs.map fun c => (⟨#[c]⟩ : Str)).map (·.length)).sum = cs.length := by
              intro cs
              induction cs with
              | nil => rfl
              | cons c cs ih =>
                rw [List.map_cons, List.map_cons, List.sum_cons, ih, List.length_cons]
                show 1 + _ = _
                omega
            have e2 : ("" : Str).length = 0 := rfl
            rw [e1, e2]
            omega
          refine ⟨"", D, _, rfl, rfl, .inl (SqL.of hcs), hj, ?_⟩
          rw [show Txt.join "" (cs.map fun c => (⟨#[c]⟩ : Str)) = Str.join "" (cs.map fun c => (⟨#[c]⟩ : Str)) from TL.join_eq _ _]
          have hnm := name_chars (cs := cs) (by omega) (by omega) hcl
          have p7 := B7 _ _ npp p6
          have hnl3 : ns.length ≤ 3 := by omega
          refine ⟨pot, p, many, way, ns, _, _, _, _, rfl, P7, p7, hns, hnl3, hnm, fun H8 nm1 B8 P8 hnm1 => ?_⟩
          refine ⟨pot, p, many, way, ns, nm1, _, _, _, rfl, P8, B8 _ _ npp p7, hns, hnl3, hnm1, fun H9 nm2 B9 P9 hnm2 => ?_⟩
          have p9 := B9 _ _ npp (B8 _ _ npp p7)
          have BB : But pot H H9 := (((B1.trans B3).trans ((But.of S4).trans B5)).trans ((B6.trans B7).trans (B8.trans B9)))
          refine ⟨_, rfl, .inl ⟨rfl, _, SqL.of p9⟩, _, rfl, p, _, _, rfl, rfl, p9, by rw [List.length_map]; exact sz' (by omega), ?_⟩
          refine ⟨fun b o nb hb => ?_, ?_, ns ++ [nm2], by rw [upd_same, List.map_append]; rfl, fun n hn => ?_, by rw [List.length_append, hnl]; rfl, _, _, _, _, _, rfl⟩
          · rw [upd_ne (ne_of_none hb hp)]
            exact BB _ _ nb hb
          · obtain ⟨a, b, h1, h2⟩ := P9
            exact ⟨a, b, by rw [upd_ne npp.symm]; exact h1, h2⟩
          · rcases List.mem_append.mp hn with z | z
            · exact hns n z
            · have : n = nm2 := by simpa using z
              rw [this]
              exact hnm2
      · rintro σ H1 ⟨B1, hP, ns, hp1, hns, hnl, v4, v5, v6, v7, v8, rfl⟩
        exact ⟨_, rfl, k H1 p ns B1 hp hP hp1 hns hnl⟩
end
end K76
namespace K76
open PySem PySem.Spec PyProof.Rows L2
def rowV (r : Row) : List V := [.int r.1, .str r.2.1, .int r.2.2.1, mvV r.2.2.2]
theorem row_flat {r : Row} (h1 : IsName r.2.1) (h2 : PlaceOk r.2.2.2) : (rowV r).all flatB = true := by
  unfold rowV
  rw [List.all_cons, List.all_cons, List.all_cons, List.all_cons, mv_flat h2, show flatB (.str r.2.1) = true from name_ok h1]
  rfl
theorem atI_strs {ns : List Str} {d : Int} (h0 : 0 ≤ d) (h1 : d < (ns.length : Int)) : ∃ x ∈ ns, atI (ns.map V.str) d = some (.str x) := by
  have hk : d.toNat < ns.length := by omega
  refine ⟨ns[d.toNat], List.getElem_mem hk, ?_⟩
  have := atI_nat (xs := ns.map V.str) (j := d.toNat) (v := .str ns[d.toNat]) (by rw [List.getElem?_map, List.getElem?_eq_getElem hk]; rfl)
  rw [show ((d.toNat : Nat) : Int) = d by omega] at this
  exact this
theorem Lof.atD {α : Type} {D : Hp → Addr → α → Prop} {H : Hp} {a : Addr} {xs : List α} {vs : List V} (h : Lof D H a xs) (hv : H a = some (.lst vs)) {d : Int} (h0 : 0 ≤ d) (h1 : d < (vs.length : Int)) : ∃ q y, atI vs d = some (.ref q) ∧ y ∈ xs ∧ D H q y := by
  have hk : d.toNat < vs.length := by omega
  obtain ⟨q, y, e1, e2, e3⟩ := h.at_ hv (List.getElem?_eq_getElem hk)
  refine ⟨q, y, ?_, List.mem_of_getElem? e2, e3⟩
  have := atI_nat (xs := vs) (j := d.toNat) (v := .ref q) (by rw [List.getElem?_eq_getElem hk, e1])
  rw [show ((d.toNat : Nat) : Int) = d by omega] at this
  exact this
section
variable {P : Program} {w : World} {K : PySem.W.Frag} {mg : Str → Option Value} {base : Heap}
def tMv1 : TS := fun D σ H => ∃ (pot na la p : Addr) (kn way day : Int) (nm : Str) (ns : List Str) (R : List Row) (v5 v6 v10 : Option V), σ = [some (.ref pot), some (.ref na), some (.ref la), some (.ref p), some (.int kn), v5, v6, some (.int way), some (.str nm), some (.int day), v10] ∧
  Pot H pot ∧ p ≠ pot ∧ Lof (DTup rowV) H p R ∧ RowsOk ns R ∧ (∀ n ∈ ns, IsName n) ∧ nm ∈ ns ∧ 0 ≤ day ∧ day ≤ 40 ∧
  ∀ H' nm' day', But pot H H' → Pot H' pot → nm' ∈ ns → 0 ≤ day' → day' ≤ 40 → D.nx [some (.ref pot), some (.ref na), some (.ref la), some (.ref p), some (.int kn), v5, v6, some (.int way), some (.str nm'), some (.int day'), v10] H'
def tMv2 : TS := fun D σ H => ∃ (pot : Addr) (v1 v2 v3 v4 v5 v6 v8 v9 : Option V) (way : Int) (pl : Option Str), σ = [some (.ref pot), v1, v2, v3, v4, v5, v6, some (.int way), v8, v9, some (mvV pl)] ∧
  Pot H pot ∧ PlaceOk pl ∧ ∀ H' pl', But pot H H' → Pot H' pot → PlaceOk pl' → D.nx [some (.ref pot), v1, v2, v3, v4, v5, v6, some (.int way), v8, v9, some (mvV pl')] H'
def spMoves : Sp := fun vs H Q _ => ∃ (pot na la : Addr) (ns ls : List Str), vs = [.ref pot, .ref na, .ref la] ∧ Pot H pot ∧ na ≠ pot ∧ la ≠ pot ∧ H na = some (.lst (ns.map V.str)) ∧ H la = some (.lst (ls.map V.str)) ∧ (∀ n ∈ ns, IsName n) ∧ (∀ n ∈ ls, IsName n) ∧
  1 ≤ ns.length ∧ ns.length ≤ 100 ∧ 1 ≤ ls.length ∧ ls.length ≤ 100 ∧
  ∀ H' p R, But pot H H' → H p = none → Pot H' pot → Lof (DTup rowV) H' p R → RowsOk ns R → R ≠ [] → R.length ≤ 14 → (∀ r ∈ R, r.1 ≤ 1000) → Q (.ref p) H'
theorem scLawMoves : FnScope ["_law_pot_here", "_law_names_here", "_law_lights", "_law_rows", "_law_known", "_law_k", "_law_step", "_law_way", "_law_name", "_law_day", "_law_place"] ["_law_pot_here", "_law_names_here", "_law_lights"] (defScope sLawMoves) :=
  ⟨rfl, rfl, rfl, by decide +kernel, rfl, by decide +kernel, by decide +kernel⟩
theorem cal_moves (T : TX K mg) : Cal P w K mg base 2 "_law_moves" ["_law_pot_here", "_law_names_here", "_law_lights"] [] spMoves := by
  obtain ⟨fd, F⟩ := T.dLawMoves
  have c1 : Cal P w K mg base 1 "_law_take" ["_law_pot_here", "_law_many"] [] spTake := cal_take T
  refine Cal.of F T.gLawMoves (FunD.bindsN F fun _ _ _ _ _ _ us hl => match us, hl with | [_, _, _], _ => rfl) .nil ?_
  refine F.ok scLawMoves (fun vs H Q E h => ?_) (fun cdv A outer s H vs Q E hr h => ?_)
  · obtain ⟨x, m, z, ns, ls, rfl, _⟩ := h
    rfl
  · obtain ⟨pot, na, la, ns, ls, rfl, hpot, nna, nla, hna, hla, hns, hls, hn1, hn2, hl1, hl2, k⟩ := h
    have sl4 : 4 ≤ sizeLine := by decide
    have b50 : (100 : Int) ≤ 10 ^ 50 := by decide
    refine ⟨_, PSs.nox (pss_cons (ps_set (i := 3) scLawMoves.nd rfl (by first | exact Or.inl rfl | exact Or.inr rfl) (pe_lst pa_nil))
      (pss_cons (ps_set (i := 4) scLawMoves.nd rfl (by first | exact Or.inl rfl | exact Or.inr rfl) (pe_cal c1 hr (pa_cons (pv 0) (pa_cons pe_int pa_nil))))
      (pss_cons (ps_for PassesOwn.never rfl (pi_range1 rfl T.f_range (pa_cons (pe_op op_add pe_int (pe_cal c1 hr (pa_cons (pv 0) (pa_cons pe_int pa_nil)))) pa_nil)) (pg_name (i := 5) scLawMoves.nd rfl (by first | exact Or.inl rfl | exact Or.inr rfl))
        (pss_cons (ps_set (i := 6) scLawMoves.nd rfl (by first | exact Or.inl rfl | exact Or.inr rfl) (pe_cal c1 hr (pa_cons (pv 0) (pa_cons pe_int pa_nil))))
        (pss_cons (ps_set (i := 4) scLawMoves.nd rfl (by first | exact Or.inl rfl | exact Or.inr rfl) (pe_op op_add (pv 4) (pe_ix ix_list (pe_lst (pa_cons pe_int (pa_cons pe_int (pa_cons pe_int (pa_cons (pe_op op_add pe_int (pe_cal c1 hr (pa_cons (pv 0) (pa_cons pe_int pa_nil)))) pa_nil))))) (pv 6) (fun _ _ => rfl))))
        (pss_cons (ps_set (i := 7) scLawMoves.nd rfl (by first | exact Or.inl rfl | exact Or.inr rfl) (pe_cal c1 hr (pa_cons (pv 0) (pa_cons pe_int pa_nil))))
        (pss_cons (ps_set (i := 8) scLawMoves.nd rfl (by first | exact Or.inl rfl | exact Or.inr rfl) (pe_ix ix_list (pv 1) (pe_cal c1 hr (pa_cons (pv 0) (pa_cons (pe_callB call_len_seq (by rfl) T.f_len (by decide +kernel) (pa_cons (pv 1) pa_nil)) pa_nil))) (fun _ _ => rfl)))
        (pss_cons (ps_set (i := 9) scLawMoves.nd rfl (by first | exact Or.inl rfl | exact Or.inr rfl) (pe_cal c1 hr (pa_cons (pv 0) (pa_cons pe_int pa_nil))))
        (pss_cons (ps_by (t2 := tMv1) (ps_if (PW.pt (pw_and (pt_cmpR op_eq (pv 7) pe_int (nomark _)) (pw_and1 (pt_cmpR (op_neNil hr.units) (pv 3) (pe_lst pa_nil) (nomark _))))) (pss_one (ps_asg (pe_slice sl_tup (pe_ix ix_list (pv 3) (pe_cal c1 hr (pa_cons (pv 0) (pa_cons (pe_callB call_len_seq (by rfl) T.f_len (by decide +kernel) (pa_cons (pv 3) pa_nil)) pa_nil))) (fun _ _ => rfl)) (po_some pe_int) (po_some pe_int)) (pg_tup (by rfl) (pgs_cons (pg_name (i := 8) scLawMoves.nd rfl (by first | exact Or.inl rfl | exact Or.inr rfl)) (pgs_cons (pg_name (i := 9) scLawMoves.nd rfl (by first | exact Or.inl rfl | exact Or.inr rfl)) pgs_nil))))) pss_nil) (fun D σ H q => ?_))
        (pss_cons (ps_set (i := 10) scLawMoves.nd rfl (by first | exact Or.inl rfl | exact Or.inr rfl) (pe_ix ix_list (pv 2) (pe_cal c1 hr (pa_cons (pv 0) (pa_cons (pe_callB call_len_seq (by rfl) T.f_len (by decide +kernel) (pa_cons (pv 2) pa_nil)) pa_nil))) (fun _ _ => rfl)))
        (pss_cons (ps_by (t2 := tMv2) (ps_if (pt_cmpR op_gt (pv 7) pe_int (nomark _)) (pss_one (ps_set (i := 10) scLawMoves.nd rfl (by first | exact Or.inl rfl | exact Or.inr rfl) pe_str)) pss_nil) (fun D σ H q => ?_))
        (pss_cons (ps_by (t2 := tMv2) (ps_if (PW.pt (pw_or (pt_cmpR op_eq (pv 7) pe_int (nomark _)) (pw_or1 (PW.pt (pw_and (pt_cmpR op_eq (pv 7) pe_int (nomark _)) (pw_and1 (pt_cmpR op_eq (pe_cal c1 hr (pa_cons (pv 0) (pa_cons pe_int pa_nil))) pe_int (nomark _)))))))) (pss_one (ps_set (i := 10) scLawMoves.nd rfl (by first | exact Or.inl rfl | exact Or.inr rfl) pe_non)) pss_nil) (fun D σ H q => ?_))
        (pss_one (ps_expr (pe_bm PySem.F.plainAttrs_list PySem.F.slot_list_append PySem.F.type_list_append mt_append (pv 3) (pa_cons (pe_tup (pa_cons (pv 4) (pa_cons (pv 8) (pa_cons (pv 9) (pa_cons (pv 10) pa_nil))))) pa_nil))))))))))))))
      (pss_one (ps_ret (pv 3)))))), ?_⟩
    · obtain ⟨pot, na, la, p, kn, way, day, nm, ns, R, v5, v6, v10, rfl, hpot, npp, hR, hRo, hns, hnm, d0, d1, q⟩ := q
      refine ⟨_, rfl, rfl, _, rfl, ?_⟩
      by_cases c : V.int way = V.int 0
      · refine ifd c ?_
        refine ⟨_, rfl, Nat.zero_le _, fun z hz => ?_⟩
        have S1 := Same.new (o := .lst []) hz
        obtain ⟨vs, hv, hvl⟩ := hR.len
        have hR1 := hR.mono (stay_tup _) S1
        refine ⟨p, z, vs, rfl, rfl, SqL.of (S1 _ _ hv), upd_same, hR1.shal (S1 _ _ hv) (fun r hr => row_flat (hns _ (hRo.name r hr)) (hRo.place r hr)), _, rfl, ?_⟩
        cases R with
        | nil =>
          have ev : vs = [] := List.length_eq_zero_iff.mp hvl
          rw [ev]
          exact q _ nm day (But.of S1) (hpot.mono S1) hnm d0 d1
        | cons r R =>
          have ev : vs.isEmpty = false := by
            cases vs with
            | nil => cases hvl
            | cons _ _ => rfl
          rw [ev]
          have hl20 := hRo.len
          have v0 : 0 < vs.length := by rw [hvl, List.length_cons]; omega
          obtain ⟨xs, hxs⟩ := (hpot.mono S1).lst
          refine ⟨_, rfl, _, rfl, _, rfl, p, _, rfl, .inl (SqL.of (S1 _ _ hv)), pot, _, rfl, hpot.mono S1, by omega, by omega, fun d H2 B2 P2 e0 e1 => ?_⟩
          have v2 := B2 _ _ npp (S1 _ _ hv)
          obtain ⟨qa, y, a1, ym, hy⟩ := (hR1.but (stay_tup _) B2 hxs npp).atD v2 e0 e1
          refine ⟨p, vs, d, .ref qa, rfl, rfl, SqL.of v2, a1, 1, rfl, 3, rfl, qa, _, rfl, SqT.of hy, by show ¬ (1 = 0 ∧ _); omega, fun s hs => ?_⟩
          have S3 := Same.new (o := .tup (cutV (rowV y) (some 1) (some 3))) hs
          refine ⟨s, _, rfl, SqT.of upd_same, rfl, _, _, rfl, _, _, rfl, rfl, ?_⟩
          exact q _ y.2.1 y.2.2.1 (((But.of S1).trans B2).trans (But.of S3)) (P2.mono S3) (hRo.name y ym) (hRo.day y ym).1 (hRo.day y ym).2
      · exact ifn c (q H nm day (But.refl _ _) hpot hnm d0 d1)
    · obtain ⟨pot, v1, v2, v3, v4, v5, v6, v8, v9, way, pl, rfl, hpot, hpl, q⟩ := q
      refine ⟨_, rfl, _, _, rfl, rfl, _, rfl, ?_⟩
      by_cases c : way > 4
      · exact ifd c (q H (some ash) (But.refl _ _) hpot fun x e => .inl (Option.some.inj e).symm)
      · exact ifn c (q H pl (But.refl _ _) hpot hpl)
    · obtain ⟨pot, v1, v2, v3, v4, v5, v6, v8, v9, way, pl, rfl, hpot, hpl, q⟩ := q
      refine ⟨_, rfl, rfl, _, rfl, ?_⟩
      have hno : PlaceOk none := fun x e => nomatch e
      by_cases c : V.int way = V.int 1
      · exact ifd c (q H none (But.refl _ _) hpot hno)
      · refine ifn c ?_
        refine ⟨_, rfl, rfl, _, rfl, ?_⟩
        by_cases c : V.int way = V.int 0
        · refine ifd c ?_
          refine ⟨_, rfl, pot, 2, rfl, hpot, by decide, by omega, fun d H2 B2 P2 e0 e1 => ⟨rfl, _, rfl, ?_⟩⟩
          by_cases c : V.int d = V.int 0
          · exact ifd c (q H2 none B2 P2 hno)
          · exact ifn c (q H2 pl B2 P2 hpl)
        · exact ifn c (q H pl (But.refl _ _) hpot hpl)
    · refine ⟨Nat.zero_le _, fun p hp => ?_⟩
      have S1 := Same.new (o := .lst []) hp
      have npp : p ≠ pot := fun z => by
        obtain ⟨xs, hx⟩ := hpot.lst
        rw [z, hx] at hp
        cases hp
      have p1 : upd H p (.lst []) p = some (.lst []) := upd_same
      generalize upd H p (.lst []) = H1 at S1 p1
      refine ⟨_, rfl, pot, 3, rfl, hpot.mono S1, by decide, by omega, fun kn0 H2 B2 P2 k0 k1 => ?_⟩
      refine ⟨_, rfl, pot, 14, rfl, P2, by decide, by omega, fun tn H3 B3 P3 t0 t1 => ?_⟩
      have B3' : But pot H H3 := (But.of S1).trans (B2.trans B3)
      refine ⟨1, tn, rfl, rfl, 1 + tn, rfl, by omega, by omega, for_it walk_range (fun i σ H4 => But pot H H4 ∧ Pot H4 pot ∧ ∃ (R : List Row) (kn : Int) (v5 v6 v7 v8 v9 v10 : Option V), Lof (DTup rowV) H4 p R ∧ RowsOk ns R ∧ R.length = i ∧ 0 ≤ kn ∧ kn ≤ 10 + 10 * (i : Int) ∧ (∀ r ∈ R, r.1 ≤ kn) ∧
          σ = [some (.ref pot), some (.ref na), some (.ref la), some (.ref p), some (.int kn), v5, v6, v7, v8, v9, v10])
        ⟨B3', P3, [], kn0, none, none, none, none, none, none, Lof.nil (B3 _ _ npp (B2 _ _ npp p1)), ⟨(fun _ z => nomatch z), (fun _ z => nomatch z), (fun _ z => nomatch z), (fun _ z => nomatch z), List.Pairwise.nil, Nat.zero_le _⟩, rfl, k0, by omega, (fun _ z => nomatch z), rfl⟩ (fun _ _ _ _ _ => trivial) ?_ ?_⟩
      · rintro i x σ H4 H5 hi ⟨B4, P4, R, kn, v5, v6, v7, v8, v9, v10, hR, hRo, hRl, hk0, hkb, hk1, rfl⟩ ⟨rfl, rfl⟩
        have hlst : ∀ {H : Hp}, Pot H pot → ∃ xs, H pot = some (.lst xs) := fun h => h.lst
        refine ⟨_, rfl, pot, 4, rfl, P4, by decide, by omega, fun st H6 B6 P6 s0 s1 => ?_⟩
        have hR6 := hR.but (stay_tup _) B6 P4.lst.choose_spec npp
        refine ⟨_, rfl, _, rfl, pot, 9, rfl, P6, by decide, by omega, fun d9 H7 B7 P7 f0 f1 => ?_⟩
        have hR7 := hR6.but (stay_tup _) B7 P6.lst.choose_spec npp
        refine ⟨1, d9, rfl, rfl, sl4, fun l hl => ?_⟩
        have S8 := Same.new (o := .lst [.int 0, .int 0, .int 1, .int (1 + d9)]) hl
        have l8 : upd H7 l (.lst [.int 0, .int 0, .int 1, .int (1 + d9)]) l = some (.lst [.int 0, .int 0, .int 1, .int (1 + d9)]) := upd_same
        have : ∃ x : Int, atI [V.int 0, .int 0, .int 1, .int (1 + d9)] st = some (.int x) ∧ 0 ≤ x ∧ x ≤ 10 := by
          have : st = 0 ∨ st = 1 ∨ st = 2 ∨ st = 3 := by omega
          rcases this with z | z | z | z <;> subst z
          · exact ⟨0, rfl, by omega, by omega⟩
          · exact ⟨0, rfl, by omega, by omega⟩
          · exact ⟨1, rfl, by omega, by omega⟩
          · exact ⟨1 + d9, rfl, by omega, by omega⟩
        obtain ⟨ad, had, had0, had10⟩ := this
        refine ⟨_, rfl, l, _, st, .int ad, rfl, rfl, SqL.of l8, had, kn, ad, rfl, rfl, ?_⟩
        have hR8 := hR7.mono (stay_tup _) S8
        have P8 := P7.mono S8
        have B8 : But pot H _ := B4.trans (B6.trans (B7.trans (But.of S8)))
        refine ⟨_, rfl, pot, 8, rfl, P8, by decide, by omega, fun way H9 B9 P9 w0 w1 => ?_⟩
        have hR9 := hR8.but (stay_tup _) B9 P8.lst.choose_spec npp
        have B9' : But pot H H9 := B8.trans B9
        have na9 := B9' _ _ nna hna
        refine ⟨_, rfl, _, rfl, _, rfl, na, _, rfl, .inl (SqL.of na9), pot, _, rfl, P9, by rw [List.length_map]; omega, by rw [List.length_map]; omega, fun dn H10 B10 P10 n0 n1 => ?_⟩
        rw [List.length_map] at n1
        obtain ⟨nm, hnm, han⟩ := atI_strs (ns := ns) n0 n1
        have B10' : But pot H H10 := B9'.trans B10
        have hR10 := hR9.but (stay_tup _) B10 P9.lst.choose_spec npp
        refine ⟨na, _, dn, .str nm, rfl, rfl, SqL.of (B10' _ _ nna hna), han, ?_⟩
        refine ⟨_, rfl, pot, 31, rfl, P10, by decide, by omega, fun day H11 B11 P11 y0 y1 => ?_⟩
        have hR11 := hR10.but (stay_tup _) B11 P10.lst.choose_spec npp
        refine ⟨pot, na, la, p, kn + ad, way, day, nm, ns, R, _, _, _, rfl, P11, npp, hR11, hRo, hns, hnm, y0, by omega, fun H12 nm2 day2 B12 P12 hnm2 z0 z1 => ?_⟩
        have hR12 := hR11.but (stay_tup _) B12 P11.lst.choose_spec npp
        have B12' : But pot H H12 := (B10'.trans B11).trans B12
        have la12 := B12' _ _ nla hla
        refine ⟨_, rfl, _, rfl, _, rfl, la, _, rfl, .inl (SqL.of la12), pot, _, rfl, P12, by rw [List.length_map]; omega, by rw [List.length_map]; omega, fun dl H13 B13 P13 l0 l1 => ?_⟩
        rw [List.length_map] at l1
        obtain ⟨lt, hlt, hal⟩ := atI_strs (ns := ls) l0 l1
        have B13' : But pot H H13 := B12'.trans B13
        have hR13 := hR12.but (stay_tup _) B13 P12.lst.choose_spec npp
        refine ⟨la, _, dl, .str lt, rfl, rfl, SqL.of (B13' _ _ nla hla), hal, ?_⟩
        refine ⟨pot, _, _, _, _, _, _, _, _, way, some lt, rfl, P13, fun x e => .inr (by rw [← Option.some.inj e]; exact hls lt hlt), fun H14 pl1 B14 P14 hpl1 => ?_⟩
        have hR14 := hR13.but (stay_tup _) B14 P13.lst.choose_spec npp
        refine ⟨pot, _, _, _, _, _, _, _, _, way, pl1, rfl, P14, hpl1, fun H15 pl2 B15 P15 hpl2 => ?_⟩
        have hR15 := hR14.but (stay_tup _) B15 P14.lst.choose_spec npp
        have B15' : But pot H H15 := (B13'.trans B14).trans B15
        obtain ⟨vs, hv, hvl⟩ := hR15.len
        refine ⟨_, rfl, .inl ⟨rfl, _, SqL.of hv⟩, _, rfl, _, rfl, _, rfl, _, rfl, sl4, fun z hz => ?_⟩
        have S16 := Same.new (o := .tup [.int (kn + ad), .str nm2, .int day2, mvV pl2]) hz
        have hi14 : i < 14 := by omega
        refine ⟨p, vs, _, rfl, rfl, S16 _ _ hv, sz' (by omega), ?_⟩
        refine ⟨fun b o nb hb => ?_, ?_, R ++ [(kn + ad, nm2, day2, pl2)], kn + ad, _, _, _, _, _, _, hR15.snoc (stay_tup _) S16 (S16 _ _ hv) (show DTup rowV _ z (_, _, _, _) from upd_same), hRo.snoc hnm2 (fun q hq => by have := hk1 q hq; show q.1 ≤ kn + ad; omega) (by show 0 ≤ kn + ad; omega) ⟨z0, z1⟩ hpl2 (by omega), by rw [List.length_append, hRl]; rfl, by omega, by omega, fun r hr => ?_, rfl⟩
        · rw [upd_ne (ne_of_none hb hp)]
          exact S16 _ _ (B15' _ _ nb hb)
        · obtain ⟨a, b, h1, h2⟩ := P15.mono S16
          exact ⟨a, b, by rw [upd_ne npp.symm]; exact h1, h2⟩
        · rcases List.mem_append.mp hr with y | y
          · have := hk1 r y
            omega
          · have : r = (kn + ad, nm2, day2, pl2) := by simpa using y
            rw [this]
            exact Int.le_refl _
      · rintro σ H4 ⟨B4, P4, R, kn, v5, v6, v7, v8, v9, v10, hR, hRo, hRl, hk0, hkb, hk1, rfl⟩
        refine ⟨_, rfl, k H4 p R B4 hp P4 hR hRo (fun z => ?_) (by omega) (fun r hr => by have := hk1 r hr; omega)⟩
        rw [z] at hRl
        simp only [List.length_nil] at hRl
        omega
end
end K76
namespace K76
open PySem PySem.Spec PyProof.Rows L2
/-! ### a case -/
structure CaseP (H : Hp) (pot q na p : Addr) (far : Int) (ns : List Str) (R : List Row) : Prop where
  nq : q ≠ pot
  nn : na ≠ pot
  np : p ≠ pot
  tup : H q = some (.tup [.ref na, .ref p, .int far])
  names : H na = some (.lst (ns.map V.str))
  rows : Lof (DTup rowV) H p R
  is : ∀ n ∈ ns, IsName n
  len1 : 1 ≤ ns.length
  len4 : ns.length ≤ 4
  ok : RowsOk ns R
  ne : R ≠ []
  len14 : R.length ≤ 14
  kmax : ∀ r ∈ R, r.1 ≤ 1000
  far0 : 0 ≤ far
  far1 : far < 10 ^ 50
theorem CaseP.but {H H' : Hp} {pot q na p : Addr} {far : Int} {ns : List Str} {R : List Row} (s : But pot H H') (hp : Pot H pot) (h : CaseP H pot q na p far ns R) : CaseP H' pot q na p far ns R :=
  ⟨h.nq, h.nn, h.np, s _ _ h.nq h.tup, s _ _ h.nn h.names, h.rows.but (stay_tup _) s hp.lst.choose_spec h.np, h.is, h.len1, h.len4, h.ok, h.ne, h.len14, h.kmax, h.far0, h.far1⟩
section
variable {P : Program} {w : World} {K : PySem.W.Frag} {mg : Str → Option Value} {base : Heap}
def spCase : Sp := fun vs H Q _ => ∃ (pot : Addr), vs = [.ref pot] ∧ Pot H pot ∧ ∀ H' q na p far ns R, But pot H H' → Pot H' pot → CaseP H' pot q na p far ns R → Q (.ref q) H'
theorem scLawCase : FnScope ["_law_pot_here", "_law_names_here", "_law_lights", "_law_far_here"] ["_law_pot_here"] (defScope sLawCase) :=
  ⟨rfl, rfl, rfl, by decide +kernel, rfl, by decide +kernel, by decide +kernel⟩
theorem cal_case (T : TX K mg) : Cal P w K mg base 3 "_law_case" ["_law_pot_here"] [] spCase := by
  obtain ⟨fd, F⟩ := T.dLawCase
  have c1 : Cal P w K mg base 1 "_law_take" ["_law_pot_here", "_law_many"] [] spTake := cal_take T
  have c2 : Cal P w K mg base 2 "_law_names" ["_law_pot_here", "_law_many"] [] spNames := cal_names T
  have c3 : Cal P w K mg base 2 "_law_far" ["_law_pot_here"] [] spFar := cal_far T
  have c4 : Cal P w K mg base 2 "_law_moves" ["_law_pot_here", "_law_names_here", "_law_lights"] [] spMoves := cal_moves T
  refine Cal.of F T.gLawCase (FunD.bindsN F fun _ _ _ _ _ _ us hl => match us, hl with | [_], _ => rfl) .nil ?_
  refine F.ok scLawCase (fun vs H Q E h => ?_) (fun cdv A outer s H vs Q E hr h => ?_)
  · obtain ⟨x, rfl, _⟩ := h
    rfl
  · obtain ⟨pot, rfl, hpot, k⟩ := h
    refine ⟨_, PSs.nox (pss_cons (ps_set (i := 1) scLawCase.nd rfl (by first | exact Or.inl rfl | exact Or.inr rfl) (pe_cal c2 hr (pa_cons (pv 0) (pa_cons (pe_op op_add pe_int (pe_cal c1 hr (pa_cons (pv 0) (pa_cons pe_int pa_nil)))) pa_nil))))
      (pss_cons (ps_set (i := 2) scLawCase.nd rfl (by first | exact Or.inl rfl | exact Or.inr rfl) (pe_cal c2 hr (pa_cons (pv 0) (pa_cons (pe_op op_add pe_int (pe_cal c1 hr (pa_cons (pv 0) (pa_cons pe_int pa_nil)))) pa_nil))))
      (pss_cons (ps_set (i := 3) scLawCase.nd rfl (by first | exact Or.inl rfl | exact Or.inr rfl) (pe_cal c3 hr (pa_cons (pv 0) pa_nil)))
      (pss_one (ps_ret (pe_tup (pa_cons (pv 1) (pa_cons (pe_cal c4 hr (pa_cons (pv 0) (pa_cons (pv 1) (pa_cons (pv 2) pa_nil)))) (pa_cons (pv 3) pa_nil))))))))), ?_⟩
    have ne : ∀ {H : Hp} {x : Addr}, Pot H pot → H x = none → x ≠ pot := fun hp hx z => by
      obtain ⟨xs, h⟩ := hp.lst
      rw [z, h] at hx
      cases hx
    refine ⟨_, rfl, _, rfl, pot, 4, rfl, hpot, by decide, by decide, fun m H1 B1 P1 m0 m1 => ?_⟩
    refine ⟨1, m, rfl, rfl, pot, 1 + m, rfl, P1, by omega, by omega, fun H2 na ns B2 n0 P2 hna hns hnl => ?_⟩
    have nna := ne P1 n0
    refine ⟨_, rfl, _, rfl, pot, 2, rfl, P2, by decide, by decide, fun m2 H3 B3 P3 m20 m21 => ?_⟩
    refine ⟨1, m2, rfl, rfl, pot, 1 + m2, rfl, P3, by omega, by omega, fun H4 la ls B4 l0 P4 hla hls hll => ?_⟩
    have nla := ne P3 l0
    refine ⟨_, rfl, pot, rfl, P4, fun far H5 B5 P5 f0 f1 => ?_⟩
    have na5 := B5 _ _ nna (B4 _ _ nna (B3 _ _ nna hna))
    refine ⟨_, rfl, _, rfl, _, rfl, _, rfl, pot, na, la, ns, ls, rfl, P5, nna, nla, na5, B5 _ _ nla hla, hns, hls, by omega, by omega, by omega, by omega, fun H6 p R B6 p0 P6 hR hRo hRn hRl hRk => ?_⟩
    refine ⟨_, rfl, by show 3 ≤ sizeLine; decide, fun q hq => ?_⟩
    have S7 := Same.new (o := .tup [.ref na, .ref p, .int far]) hq
    refine k _ q na p far ns R (((B1.trans B2).trans (B3.trans B4)).trans ((B5.trans B6).trans (But.of S7))) (P6.mono S7) ⟨ne P6 hq, nna, ne P5 p0, upd_same, S7 _ _ (B6 _ _ nna na5), hR.mono (stay_tup _) S7, hns, by omega, by omega, hRo, hRn, hRl, hRk, f0, f1⟩
/-! ### what was held by a day -/
def heV (e : (Str × Int) × Option Str) : List L2.Key × V := (keyK e.1, mvV e.2)
theorem find_he (key : Str × Int) : ∀ D : List ((Str × Int) × Option Str), valV (D.map heV) (keyK key) = (valM D key).map mvV
  | [] => rfl
  | e :: D => by
    rw [List.map_cons, valM_cons]
    by_cases h : e.1 = key
    · rw [valV_pos (by show keyK e.1 = keyK key; rw [h]), if_pos h]
      rfl
    · rw [valV_neg (fun q => h (keyK_inj q)), if_neg h]
      exact find_he key D
theorem put_he (D : List ((Str × Int) × Option Str)) (key : Str × Int) (x : Option Str) : putK (D.map heV) (keyK key) (mvV x) = (putA D key x).map heV := by
  unfold putA
  by_cases h : (valM D key).isSome = true
  · rw [if_pos h]
    unfold putK
    rw [if_pos (by rw [valV_any, find_he]; cases z : valM D key with | none => rw [z] at h; cases h | some y => rfl), List.map_map, List.map_map]
    apply List.map_congr_left
    intro e _
    show (if keyK e.1 = keyK key then (keyK e.1, mvV x) else heV e) = heV (if e.1 = key then (e.1, x) else e)
    by_cases c : e.1 = key
    · rw [if_pos c, if_pos (by rw [c])]
      rfl
    · rw [if_neg c, if_neg (fun z => c (keyK_inj z))]
  · rw [if_neg h, putK_new _ (by rw [find_he]; cases z : valM D key with | none => rfl | some y => rw [z] at h; exact absurd rfl h), List.map_append]
    rfl
def spHeldR : Sp := fun vs H Q _ => ∃ (p : Addr) (kn : Int) (R : List Row), vs = [.ref p, .int kn] ∧ Lof (DTup rowV) H p R ∧ R.length ≤ 20 ∧ ∀ H' q, Same H H' → Lof (DTup rowV) H' q (heldR R kn) → Q (.ref q) H'
theorem scLawHeld : FnScope ["_law_rows", "_law_known", "_law_found", "_law_told_on", "_law_name", "_law_day", "_law_place"] ["_law_rows", "_law_known"] (defScope sLawHeld) :=
  ⟨rfl, rfl, rfl, by decide +kernel, rfl, by decide +kernel, by decide +kernel⟩
theorem cal_heldR (T : TX K mg) : Cal P w K mg base 1 "_law_held" ["_law_rows", "_law_known"] [] spHeldR := by
  obtain ⟨fd, F⟩ := T.dLawHeld
  refine Cal.of F T.gLawHeld (FunD.bindsN F fun _ _ _ _ _ _ us hl => match us, hl with | [_, _], _ => rfl) .nil ?_
  refine F.ok scLawHeld (fun vs H Q E h => ?_) (fun cdv A outer s H vs Q E hr h => ?_)
  · obtain ⟨x, kn, R, rfl, _⟩ := h
    rfl
  · obtain ⟨p, kn, R, rfl, hR, hRl, k⟩ := h
    refine ⟨_, PSs.nox (pss_cons (ps_set (i := 2) scLawHeld.nd rfl (by first | exact Or.inl rfl | exact Or.inr rfl) pe_dnewT)
      (pss_cons (ps_for PassesOwn.never rfl (pi_list (pv 0)) (pg_tup (by rfl) (pgs_cons (pg_name (i := 3) scLawHeld.nd rfl (by first | exact Or.inl rfl | exact Or.inr rfl)) (pgs_cons (pg_name (i := 4) scLawHeld.nd rfl (by first | exact Or.inl rfl | exact Or.inr rfl)) (pgs_cons (pg_name (i := 5) scLawHeld.nd rfl (by first | exact Or.inl rfl | exact Or.inr rfl)) (pgs_cons (pg_name (i := 6) scLawHeld.nd rfl (by first | exact Or.inl rfl | exact Or.inr rfl)) pgs_nil)))))
        (pss_one (ps_if (pt_cmpR op_le (pv 3) (pv 1) (nomark _)) (pss_one (ps_dput (hu1 hr) (pv 2) (pe_tup (pa_cons (pv 4) (pa_cons (pv 5) pa_nil))) (pv 6) rfl)) pss_nil)))
      (pss_one (ps_ret (pe_lock (pe_lc (g := gTup K 2 (gCons (gTup K 2 (gCons (gName 4) (gCons (gName 5) gNil))) (gCons (gName 6) gNil))) (own := [("_law_name", 4), ("_law_day", 5), ("_law_place", 6)]) rfl scLawHeld.nd (pi_itemsT (pv 2)) (blkOk_by (own := [("_law_name", 4), ("_law_day", 5), ("_law_place", 6)]) (N := ["_law_rows", "_law_known", "_law_found", "_law_told_on", "_law_name", "_law_day", "_law_place"]) (sc := defScope sLawHeld) (by decide +kernel)) (fun _ _ _ _ _ => (pg_tup (by rfl) (pgs_cons (pg_tup (by rfl) (pgs_cons (pg_name (i := 4) scLawHeld.nd rfl (by first | exact Or.inl rfl | exact Or.inr rfl)) (pgs_cons (pg_name (i := 5) scLawHeld.nd rfl (by first | exact Or.inl rfl | exact Or.inr rfl)) pgs_nil))) (pgs_cons (pg_name (i := 6) scLawHeld.nd rfl (by first | exact Or.inl rfl | exact Or.inr rfl)) pgs_nil)))) (fun _ _ _ _ _ => (pts_one (pt_cmpR op_notN (pv 6) pe_non (nomark _)))) (fun _ _ _ _ _ => (pe_tup (pa_cons pe_int (pa_cons (pv 4) (pa_cons (pv 5) (pa_cons (pv 6) pa_nil)))))))))))), ?_⟩
    have sl2 : 2 ≤ sizeLine := by decide
    have sl4 : 4 ≤ sizeLine := by decide
    refine fun d hd => ?_
    have S1 := Same.new (o := .dT []) hd
    have d1 : upd H d (.dT []) d = some (.dT []) := upd_same
    generalize upd H d (.dT []) = H1 at S1 d1
    obtain ⟨vs, hv, hvl⟩ := hR.len
    refine ⟨_, rfl, p, rfl, ⟨_, SqL.of (S1 _ _ hv)⟩, for_it (walk_list (K := K) (a := p) (xs := vs)) (fun i σ H2 => Same H H2 ∧ H2 d = some (.dT ((heldD (R.take i) kn).map heV)) ∧ ∃ v3 v4 v5 v6, σ = [some (.ref p), some (.int kn), some (.ref d), v3, v4, v5, v6])
      ⟨S1, d1, none, none, none, none, rfl⟩ (fun i σ H2 _ q => SqL.of (q.1 _ _ hv)) ?_ ?_⟩
    · rintro i x σ H2 H3 hi ⟨S2, h2, v3, v4, v5, v6, rfl⟩ ⟨rfl, hx⟩
      obtain ⟨q, r, rfl, hr, hq⟩ := (hR.mono (stay_tup _) S2).at_ (S2 _ _ hv) hx
      have et : heldD (R.take (i + 1)) kn = if r.1 ≤ kn then putA (heldD (R.take i) kn) (r.2.1, r.2.2.1) r.2.2.2 else heldD (R.take i) kn := by rw [take_snoc hr, heldD_snoc]
      refine ⟨q, _, rfl, SqT.of hq, rfl, _, _, rfl, _, _, rfl, _, _, rfl, _, _, rfl, rfl, ?_⟩
      refine ⟨_, rfl, _, rfl, _, _, rfl, rfl, _, rfl, ?_⟩
      by_cases c : r.1 ≤ kn
      · refine ifd c ?_
        refine ⟨_, rfl, _, rfl, _, rfl, _, rfl, sl2, fun z hz => ?_⟩
        have S4 := Same.new (o := .tup [.str r.2.1, .int r.2.2.1]) hz
        have hl := heldD_len kn (R.take i)
        rw [List.length_take] at hl
        refine ⟨d, _, rfl, DPut.t (k := keyK (r.2.1, r.2.2.1)) (S4 _ _ h2) upd_same (by rw [List.length_map]; exact sz' (by omega)), Same.mut (S2.trans S4) hd, ?_, _, _, _, _, rfl⟩
        rw [upd_same, put_he, et, if_pos c]
      · refine ifn c ⟨S2, ?_, _, _, _, _, rfl⟩
        rw [et, if_neg c]
        exact h2
    · rintro σ H2 ⟨S2, h2, v3, v4, v5, v6, rfl⟩
      rw [hvl, List.take_length] at h2
      have hDl := heldD_len kn R
      have hres : heldR R kn = (heldD R kn).filterMap rowOf := rfl
      rw [hres] at k
      generalize heldD R kn = DD at h2 hDl k
      refine ⟨d, _, h2, trivial, fun od => ?_⟩
      have hdl : upd H2 d (.frz od (.dT (DD.map heV))) d = some (.frz od (.dT (DD.map heV))) := upd_same
      generalize hH3 : upd H2 d (.frz od (.dT (DD.map heV))) = H3 at hdl
      have B3 : But d H2 H3 := by
        rw [← hH3]
        exact But.upd
      refine ⟨_, rfl, d, od, _, rfl, hdl, fun D' hD => lc_it walk_itemsT (fun i H4 => H4 d = some (.frz od (.dT (DD.map heV))) ∧ But d H2 H4 ∧ Lof (DTup rowV) H4 D' ((DD.take i).filterMap rowOf)) ⟨Same.new hD _ _ hdl, B3.trans (But.of (Same.new hD)), Lof.nil upd_same⟩ (fun i H4 _ q => q.1) ?_ ?_⟩
      · rintro i x H4 H5 hi ⟨f4, B4, hL⟩ ⟨TT, q, key, v, hkv, rfl, hT, hq, rfl⟩
        rw [List.length_map] at hi
        have ei : DD[i]? = some DD[i] := List.getElem?_eq_getElem hi
        generalize DD[i] = e at ei
        rw [List.getElem?_map, ei] at hkv
        obtain ⟨rfl, rfl⟩ : keyK e.1 = key ∧ mvV e.2 = v := by
          injection hkv with z
          injection z with z1 z2
          exact ⟨z1, z2⟩
        have S5 := Same.new (o := .tup [.ref q, mvV e.2]) hT
        have et : (DD.take (i + 1)).filterMap rowOf = (DD.take i).filterMap rowOf ++ (rowOf e).toList := by
          have e1 : [e].filterMap rowOf = (rowOf e).toList := by cases h : rowOf e <;> simp [h]
          rw [take_snoc ei, List.filterMap_append, e1]
        have hn : D' ≠ d := fun z => by rw [z, hdl] at hD; cases hD
        have hL5 := hL.mono (stay_tup _) S5
        have f5 := S5 _ _ f4
        have B5 : But d H2 _ := B4.trans (But.of S5)
        have t5 : upd H4 TT (.tup [.ref q, mvV e.2]) TT = some (.tup [.ref q, mvV e.2]) := upd_same
        have q5 := S5 _ _ hq
        generalize upd H4 TT (.tup [.ref q, mvV e.2]) = H5 at hL5 f5 B5 t5 q5
        refine ⟨TT, _, rfl, SqT.of t5, rfl, _, _, rfl, ⟨q, _, rfl, SqT.of q5, rfl, _, _, rfl, _, _, rfl, rfl, ?_⟩⟩
        refine ⟨_, _, rfl, rfl, rfl, ?_⟩
        refine ⟨_, rfl, rfl, _, rfl, ?_⟩
        cases e2 : e.2 with
        | none =>
          refine ⟨f5, B5, ?_⟩
          have er : rowOf e = none := by
            unfold rowOf
            rw [e2]
            rfl
          rw [et, er]
          simpa using hL5
        | some pl =>
          refine ⟨_, rfl, _, rfl, _, rfl, sl4, fun z hz => ?_⟩
          have S6 := Same.new (o := .tup [.int 0, .str e.1.1, .int e.1.2, .str pl]) hz
          obtain ⟨ws, hw, hwl⟩ := hL5.len
          have hfl := List.length_filterMap_le rowOf (DD.take i)
          rw [List.length_take] at hfl
          refine ⟨ws, S6 _ _ hw, by rw [hwl]; exact sz' (by omega), ?_, ?_, ?_⟩
          · rw [upd_ne hn.symm]
            exact S6 _ _ f5
          · intro b o nb hb
            have hb3 := B3 _ _ nb hb
            rw [upd_ne (ne_of_none hb3 hD)]
            exact S6 _ _ (B5 _ _ nb hb)
          · rw [et]
            have er : rowOf e = some (0, e.1.1, e.1.2, some pl) := by
              unfold rowOf
              rw [e2]
              rfl
            rw [er]
            exact hL5.snoc (stay_tup _) S6 (S6 _ _ hw) (show DTup rowV _ z (_, _, _, _) from upd_same)
      · rintro H4 ⟨f4, B4, hL⟩
        rw [List.length_map, List.take_length] at hL
        refine ⟨f4, ?_⟩
        have hn : D' ≠ d := fun z => by rw [z, hdl] at hD; cases hD
        have B5 : But d H4 (upd H4 d (.dT (DD.map heV))) := But.upd
        obtain ⟨qs, h3, h4, h5⟩ := hL
        refine k _ D' (S2.trans fun b o hb => ?_) ⟨qs, B5 _ _ hn h3, fun x hx => B5 _ _ (ne_of (h4 x hx) f4 (fun z => nomatch z)) (h4 x hx), h5⟩
        by_cases c : b = d
        · rw [c] at hb ⊢
          rw [h2] at hb
          rw [upd_same]
          exact hb
        · rw [upd_ne c]
          exact B4 _ _ c hb
end
end K76
namespace K76
open PySem PySem.Spec PyProof.Rows L2
theorem BookO.up {H0 H H' : Hp} (s : Same H H') {CB b : Addr} {kvs : List (L2.Key × V)} {M : MT} {t : Option Int} {e : Bool} (h : BookO H0 H CB b kvs M t e) : BookO H0 H' CB b kvs M t e := by
  obtain ⟨s0, dx, r, m, l, es, h1, h2, h3, h4⟩ := h
  exact ⟨s0.trans s, dx, r, m, l, es, h1.mono s, h2, h3, fun q => s _ _ (h4 q)⟩
theorem lawM_place {ns : List Str} {far : Int} : ∀ R : List Row, (∀ r ∈ R, PlaceOk r.2.2.2) → MPl (lawM R far) := by
  intro R
  induction R using snoc_ind with
  | h0 => intro _ e he; cases he
  | h1 l r ih =>
    intro h
    rw [← lawM_snoc]
    exact MPl.tell (ih fun q hq => h q (List.mem_append_left _ hq)) (h r (List.mem_append_right _ List.mem_cons_self))
theorem mergeK_snoc (l : List (L2.Key × V)) (x : L2.Key × V) : mergeK [] (l ++ [x]) = putK (mergeK [] l) x.1 x.2 := by
  unfold mergeK
  rw [List.foldl_append]
  rfl
theorem putK_mem {kvs : List (L2.Key × V)} {k : L2.Key} {v : V} {e : L2.Key × V} (h : e ∈ putK kvs k v) : e ∈ kvs ∨ e = (k, v) := by
  unfold putK at h
  by_cases c : (kvs.any fun kv => decide (kv.1 = k)) = true
  · rw [if_pos c] at h
    obtain ⟨q, hq, e1⟩ := List.mem_map.mp h
    by_cases d : q.1 = k
    · rw [if_pos d] at e1
      rw [← e1, d]
      exact .inr rfl
    · rw [if_neg d] at e1
      rw [← e1]
      exact .inl hq
  · rw [if_neg c] at h
    rcases List.mem_append.mp h with z | z
    · exact .inl z
    · exact .inr (by simpa using z)
def rkK (x : Str × Int) : L2.Key × V := (.inr x.1, .int x.2)
def rkV (x : Str × Int) : List V := [.str x.1, .int x.2]
theorem ranks_ok : ∀ xs : List (Str × Int), (∀ x ∈ xs, IsName x.1 ∧ 1 ≤ x.2 ∧ x.2 ≤ 9) → (∀ kv ∈ mergeK [] (xs.map rkK), ∃ (x : Str) (n : Int), kv = (.inr x, .int n) ∧ IsName x ∧ 1 ≤ n ∧ n ≤ 9) ∧ ∀ x ∈ xs, (valV (mergeK [] (xs.map rkK)) (.inr x.1)).isSome = true := by
  intro xs
  induction xs using snoc_ind with
  | h0 =>
    intro _
    exact ⟨(fun _ z => nomatch z), (fun _ z => nomatch z)⟩
  | h1 l x ih =>
    intro h
    obtain ⟨i1, i2⟩ := ih fun y hy => h y (List.mem_append_left _ hy)
    have hx := h x (List.mem_append_right _ List.mem_cons_self)
    rw [List.map_append, List.map_singleton, mergeK_snoc]
    refine ⟨fun kv hkv => ?_, fun y hy => ?_⟩
    · rcases putK_mem hkv with z | z
      · exact i1 kv z
      · exact ⟨x.1, x.2, z, hx⟩
    · rw [valV_put]
      by_cases c : (Sum.inr y.1 : L2.Key) = (rkK x).1
      · rw [if_pos c]
        rfl
      · rw [if_neg c]
        rcases List.mem_append.mp hy with z | z
        · exact i2 y z
        · have : y = x := by simpa using z
          rw [this] at c
          exact absurd rfl c
theorem paired_of {K : PySem.W.Frag} {H : Hp} : ∀ qs : List (Addr × Str × Int), (∀ q ∈ qs, DTup rkV H q.1 q.2) → Paired (fun (p : Addr) (kv : L2.Key × V) => SqT K H p [kV kv.1, kv.2]) (qs.map (·.1)) ((qs.map (·.2)).map rkK)
  | [], _ => .nil
  | q :: qs, h => .cons (SqT.of (h q List.mem_cons_self)) (paired_of qs fun x hx => h x (List.mem_cons_of_mem _ hx))
theorem name_ab : IsName "ab" := ⟨by decide +kernel, by decide +kernel, by decide +kernel⟩
section
variable {P : Program} {w : World} {K : PySem.W.Frag} {mg : Str → Option Value} {base : Heap}
def tRank : TE := fun σ H Q => ∃ (nm : Str) (i : Nat) (p : Addr) (ys : List V), σ[5]? = some (some (.str nm)) ∧ σ[8]? = some (some (.int i)) ∧ σ[1]? = some (some (.ref p)) ∧ H p = some (.lst ys) ∧
  ∀ (n : Int) (z : Addr), 1 ≤ n → n ≤ 9 → H z = none → Q (.ref z) (upd H z (.tup [.str nm, .int n]))
def spBookL (CB : Addr) : Sp := fun vs H Q _ => ∃ (na p : Addr) (far : Int) (ns : List Str) (R : List Row), vs = [.ref na, .ref p, .int far] ∧ H na = some (.lst (ns.map V.str)) ∧ (∀ n ∈ ns, IsName n) ∧ ns.length ≤ 4 ∧ Lof (DTup rowV) H p R ∧ RowsOk ns R ∧ 0 ≤ far ∧
  ∀ H' b kvs t e, BookO H H' CB b kvs (lawM R far) t e → (∀ n ∈ ns, (valV kvs (.inr n)).isSome = true) → (∀ u k : Int, t = some u → 0 ≤ k → (∀ r ∈ R, r.1 ≤ k) → u ≤ k) → Q (.ref b) H'
theorem scLawBook : FnScope ["_law_names_here", "_law_rows", "_law_far_here", "_law_book_here", "_law_told_on", "_law_name", "_law_on", "_law_place", "_law_k", "_law_row"] ["_law_names_here", "_law_rows", "_law_far_here"] (defScope sLawBook) :=
  ⟨rfl, rfl, rfl, by decide +kernel, rfl, by decide +kernel, by decide +kernel⟩
theorem cal_bookL (T : TX K mg) : Cal P w K mg base 6 "_law_book" ["_law_names_here", "_law_rows", "_law_far_here"] [] (spBookL (He.ga K "Book")) := by
  obtain ⟨fd, F⟩ := T.dLawBook
  have c1 : Mak P w K mg base 4 "Book" ["self", "ranks"] [] (spBookInit (He.ga K "Book")) := mak_book T
  obtain ⟨⟨fd4, ds4, G4, b4, d4⟩, me4, cl4⟩ : Mal P w K mg base 3 "Book" "tell" ["self", "known", "keeper", "day", "place"] [] (spTell (He.ga K "Book")) := mal_tell T
  obtain ⟨⟨fd5, ds5, G5, b5, d5⟩, me5, cl5⟩ : Mal P w K mg base 3 "Book" "land" ["self", "known", "light", "day", "weight"] [] (spLand (He.ga K "Book")) := mal_land T
  refine Cal.of F T.gLawBook (FunD.bindsN F fun _ _ _ _ _ _ us hl => match us, hl with | [_, _, _], _ => rfl) .nil ?_
  refine F.ok scLawBook (fun vs H Q E h => ?_) (fun cdv A outer s H vs Q E hr h => ?_)
  · obtain ⟨x, p, far, ns, R, rfl, _⟩ := h
    rfl
  · obtain ⟨na, p, far, ns, R, rfl, hna, hns, hnl, hR, hRo, hfar, k⟩ := h
    have sl1 : 1 ≤ sizeLine := by decide
    have sl2 : 2 ≤ sizeLine := by decide
    refine ⟨_, PSs.nox (pss_cons (ps_set (i := 3) scLawBook.nd rfl (by first | exact Or.inl rfl | exact Or.inr rfl) (pe_mak c1 hr (pa_cons (pe_callTy (call_dictP rfl) (by rfl) T.f_dict (by decide +kernel) (pa_cons (pe_lc (g := gTup K 2 (gCons (gName 8) (gCons (gName 5) gNil))) (own := [("_law_k", 8), ("_law_name", 5)]) rfl scLawBook.nd (pi_enum (by rfl) T.f_enumerate (pa_cons (pv 0) pa_nil)) (blkOk_by (own := [("_law_k", 8), ("_law_name", 5)]) (N := ["_law_names_here", "_law_rows", "_law_far_here", "_law_book_here", "_law_told_on", "_law_name", "_law_on", "_law_place", "_law_k", "_law_row"]) (sc := defScope sLawBook) (by decide +kernel)) (fun _ _ _ _ _ => (pg_tup (by rfl) (pgs_cons (pg_name (i := 8) scLawBook.nd rfl (by first | exact Or.inl rfl | exact Or.inr rfl)) (pgs_cons (pg_name (i := 5) scLawBook.nd rfl (by first | exact Or.inl rfl | exact Or.inr rfl)) pgs_nil)))) (fun _ _ _ _ _ => pts_nil) (fun _ _ _ _ _ => pe_by (t2 := tRank) (pe_tup (pa_cons (pv 5) (pa_cons (pe_op op_add pe_int (pe_op op_mod (pe_op op_add (pe_op op_mul pe_int (pv 8)) (pe_callB call_len_seq (by rfl) T.f_len (by decide +kernel) (pa_cons (pv 1) pa_nil))) pe_int)) pa_nil))) (fun σ H Q q => by
          obtain ⟨nm, i, p, ys, h1, h2, h3, h4, q⟩ := q
          refine ⟨_, h1, _, h2, 7, _, rfl, rfl, .inl ⟨by decide, by decide⟩, _, h3, p, ys, rfl, .inl (SqL.of h4), _, _, rfl, rfl, _, 9, rfl, rfl, (show (0 : Int) < 9 by decide), 1, _, rfl, rfl, sl2, fun z hz => ?_⟩
          have n0 := Int.emod_nonneg (7 * (i : Int) + (ys.length : Int)) (b := 9) (by decide)
          have n1 := Int.emod_lt_of_pos (7 * (i : Int) + (ys.length : Int)) (b := 9) (by decide)
          exact q _ z (by omega) (by omega) hz))) pa_nil)) pa_nil)))
      (pss_cons (ps_for PassesOwn.never rfl (pi_list (pv 1)) (pg_tup (by rfl) (pgs_cons (pg_name (i := 4) scLawBook.nd rfl (by first | exact Or.inl rfl | exact Or.inr rfl)) (pgs_cons (pg_name (i := 5) scLawBook.nd rfl (by first | exact Or.inl rfl | exact Or.inr rfl)) (pgs_cons (pg_name (i := 6) scLawBook.nd rfl (by first | exact Or.inl rfl | exact Or.inr rfl)) (pgs_cons (pg_name (i := 7) scLawBook.nd rfl (by first | exact Or.inl rfl | exact Or.inr rfl)) pgs_nil)))))
        (pss_one (ps_expr (pe_meth (pv 3) cl4 me4 G4 (hr.mono (by decide)) b4 d4 pass0 (pa_cons (pv 4) (pa_cons (pv 5) (pa_cons (pe_op op_add (pv 6) (pv 2)) (pa_cons (pv 7) pa_nil))))))))
      (pss_cons (ps_if (pt_cmpR op_eq (pe_op op_mod (pe_callB call_len_seq (by rfl) T.f_len (by decide +kernel) (pa_cons (pv 1) pa_nil)) pe_int) pe_int (nomark _)) (pss_one (ps_expr (pe_meth (pv 3) cl5 me5 G5 (hr.mono (by decide)) b5 d5 pass0 (pa_cons (pe_callB (cr_max rfl) (by rfl) T.f_max (by decide +kernel) (pa_cons (pe_op op_cat (pe_lst (pa_cons pe_int pa_nil)) (pe_lc (te := tOp (rIxT K) (tVar 9) (tC (.int 0))) (own := [("_law_row", 9)]) rfl scLawBook.nd (pi_list (pv 1)) (blkOk_by (own := [("_law_row", 9)]) (N := ["_law_names_here", "_law_rows", "_law_far_here", "_law_book_here", "_law_told_on", "_law_name", "_law_on", "_law_place", "_law_k", "_law_row"]) (sc := defScope sLawBook) (by decide +kernel)) (fun _ _ _ _ _ => (pg_name (i := 9) scLawBook.nd rfl (by first | exact Or.inl rfl | exact Or.inr rfl))) (fun _ _ _ _ _ => pts_nil) (fun _ _ _ _ _ => (pe_ix ix_tup (pv 9) pe_int (fun _ _ => rfl))))) pa_nil)) (pa_cons pe_str (pa_cons (pe_op op_add (pv 2) pe_int) (pa_cons pe_int pa_nil))))))) pss_nil)
      (pss_one (ps_ret (pv 3)))))), ?_⟩
    obtain ⟨vs, hv, hvl⟩ := hR.len
    refine ⟨_, rfl, na, _, rfl, SqL.of hna, fun D hD => ?_⟩
    refine lc_it (walk_enum (K := K) (a := na) (xs := ns.map V.str)) (fun i H1 => Same H H1 ∧ ∃ xs, Lof (DTup rkV) H1 D xs ∧ xs.map (·.1) = ns.take i ∧ ∀ x ∈ xs, IsName x.1 ∧ 1 ≤ x.2 ∧ x.2 ≤ 9) ⟨Same.new hD, [], Lof.nil upd_same, rfl, (fun _ z => nomatch z)⟩ (fun i H1 _ q => SqL.of (q.1 _ _ hna)) ?_ ?_
    · rintro i x H1 H2 hi ⟨S1, xs, hL, hx1, hx2⟩ ⟨TT, x, y, rfl, hT, rfl, hx, hy⟩
      obtain rfl : V.int (i : Nat) = x := Option.some.inj hx
      rw [List.length_map] at hi
      have ei : ns[i]? = some ns[i] := List.getElem?_eq_getElem hi
      have hm := List.getElem_mem hi
      generalize ns[i] = nm at ei hm
      replace hy : (ns.map V.str)[i]? = some y := hy
      rw [List.getElem?_map, ei] at hy
      obtain rfl : V.str nm = y := Option.some.inj hy
      have S2 := Same.new (o := .tup [.int (i : Nat), .str nm]) hT
      refine ⟨TT, _, rfl, SqT.of upd_same, rfl, _, _, rfl, _, _, rfl, rfl, rfl, ?_⟩
      refine ⟨nm, i, p, vs, rfl, rfl, rfl, S2 _ _ (S1 _ _ hv), fun n z n1 n9 hz => ?_⟩
      have S3 := Same.new (o := .tup [.str nm, .int n]) hz
      obtain ⟨ws, hw, hwl⟩ := hL.len
      have hxl : xs.length ≤ 4 := by
        have h1 := congrArg List.length hx1
        rw [List.length_map, List.length_take] at h1
        omega
      refine ⟨ws, S3 _ _ (S2 _ _ hw), by rw [hwl]; exact sz' (by omega), Same.mut (S1.trans (S2.trans S3)) hD, xs ++ [(nm, n)], hL.snoc (stay_tup _) (S2.trans S3) (S3 _ _ (S2 _ _ hw)) (show DTup rkV _ z (_, _) from upd_same), by rw [List.map_append, hx1, take_snoc ei]; rfl, fun y hy => ?_⟩
      rcases List.mem_append.mp hy with q | q
      · exact hx2 y q
      · have : y = (nm, n) := by simpa using q
        rw [this]
        exact ⟨hns nm hm, n1, n9⟩
    · rintro H1 ⟨S1, xs, hL, hx1, hx2⟩
      rw [List.length_map, List.take_length] at hx1
      obtain ⟨qs, h1, h2, h3⟩ := hL
      have hkv : ((qs.map (·.2)).map rkK) = xs.map rkK := by rw [h3]
      obtain ⟨r1, r2⟩ := ranks_ok xs hx2
      have rl : (mergeK [] (xs.map rkK)).length ≤ 30 := by
        have z := length_mergeK (xs.map rkK) []
        have z2 := congrArg List.length hx1
        rw [List.length_map] at z2
        rw [List.length_map, List.length_nil] at z
        omega
      have hkeys : ∀ n ∈ ns, (valV (mergeK [] (xs.map rkK)) (.inr n)).isSome = true := fun n hn => by
        rw [← hx1] at hn
        obtain ⟨x, hx, rfl⟩ := List.mem_map.mp hn
        exact r2 x hx
      refine ⟨D, qs.map (·.1), (qs.map (·.2)).map rkK, rfl, SqL.of (by rw [List.map_map]; exact h1), paired_of qs h2, fun d hd => ?_⟩
      rw [hkv]
      generalize mergeK [] (xs.map rkK) = kvs at r1 rl hkeys
      have S2 := Same.new (o := .dK kvs) hd
      refine fun b dx hb hdx ndx => ⟨b, dx, d, kvs, H, rfl, upd_same, ?_, ⟨rl, r1⟩, ?_, ?_, fun H3 hB => ⟨rfl, ?_⟩⟩
      · have hdb : d ≠ b := fun z => by rw [← z, upd_same] at hb; cases hb
        have hdd : d ≠ dx := fun z => by rw [← z, upd_same] at hdx; cases hdx
        rw [upd_ne hdb, upd_ne hdd, upd_same]
      · have hb2 : upd (upd H1 d (.dK kvs)) dx (.own b) b = none := by rw [upd_ne ndx.symm]; exact hb
        exact (S1.trans S2).trans ((Same.new hdx).trans (Same.new hb2))
      · exact Same.none (S1.trans S2) hb
      · have v3 := hB.1 _ _ hv
        refine ⟨_, rfl, p, rfl, ⟨_, SqL.of v3⟩, for_it (walk_list (K := K) (a := p) (xs := vs)) (fun i σ H4 => ∃ t v4 v5 v6 v7 v8 v9, BookO H H4 (He.ga K "Book") b kvs (lawM (R.take i) far) t true ∧ (∀ u, t = some u → ∃ r ∈ R.take i, u = r.1) ∧ σ = [some (.ref na), some (.ref p), some (.int far), some (.ref b), v4, v5, v6, v7, v8, v9])
          ⟨none, none, none, none, none, none, none, hB, (fun _ z => nomatch z), rfl⟩ (fun i σ H4 _ q => ?_) ?_ ?_⟩
        · obtain ⟨t, _, _, _, _, _, _, hB, _⟩ := q
          exact SqL.of (hB.1 _ _ hv)
        · rintro i x σ H4 H5 hi ⟨t, v4, v5, v6, v7, v8, v9, hB, ht, rfl⟩ ⟨rfl, hx⟩
          obtain ⟨q, r, rfl, hr, hq⟩ := (hR.mono (stay_tup _) hB.1).at_ (hB.1 _ _ hv) hx
          have hm := List.mem_of_getElem? hr
          refine ⟨q, _, rfl, SqT.of hq, rfl, _, _, rfl, _, _, rfl, _, _, rfl, _, _, rfl, rfl, ?_⟩
          obtain ⟨_, dx4, r4, m4, l4, es4, hp4, _⟩ := id hB
          have hsub : RowsOk ns (R.take (i + 1)) := hRo.sub (List.take_sublist _ _)
          have hsub0 : RowsOk ns (R.take i) := hRo.sub (List.take_sublist _ _)
          have hok := lawM_ok (far := far) hsub0 hfar
          have hl20 : (R.take i).length ≤ 20 := hsub0.len
          refine ⟨_, rfl, b, dx4, _, rfl, hp4.ins, lf_tell r4 m4 l4 t, _, rfl, _, rfl, _, rfl, _, rfl, _, _, rfl, rfl, _, rfl, b, r.1, r.2.1, r.2.2.1 + far, r.2.2.2, H, kvs, _, t, true, rfl, hB, hRo.known r hm, by have := (hRo.day r hm).1; omega, hkeys _ (hRo.name r hm), hRo.place r hm, fun u hu => ?_, hok.up (by omega), lawM_place (ns := ns) _ hsub0.place, fun H6 hB6 => ?_⟩
          · obtain ⟨r', hr', rfl⟩ := ht u hu
            have hp := hsub.rise
            rw [take_snoc hr] at hp
            exact (List.pairwise_append.mp hp).2.2 r' hr' r List.mem_cons_self
          · rw [lawM_snoc, ← take_snoc hr] at hB6
            refine ⟨some r.1, _, _, _, _, _, _, hB6, fun u hu => ⟨r, ?_, (Option.some.inj hu).symm⟩, rfl⟩
            rw [take_snoc hr]
            exact List.mem_append_right _ List.mem_cons_self
        · rintro σ H4 ⟨t, v4, v5, v6, v7, v8, v9, hB, ht, rfl⟩
          rw [hvl, List.take_length] at hB ht
          have v4' := hB.1 _ _ hv
          refine ⟨_, rfl, p, vs, rfl, .inl (SqL.of v4'), _, 2, rfl, rfl, (show (0 : Int) < 2 by decide), rfl, _, rfl, ?_⟩
          by_cases c : V.int ((vs.length : Int) % 2) = V.int 0
          · refine ifd c ?_
            obtain ⟨_, dx4, r4, m4, l4, es4, hp4, _⟩ := id hB
            refine ⟨_, rfl, b, dx4, _, rfl, hp4.ins, lf_land r4 m4 l4 t, sl1, fun z hz => ?_⟩
            have S5 := Same.new (o := .lst [.int 0]) hz
            have z5 : upd H4 z (.lst [.int 0]) z = some (.lst [.int 0]) := upd_same
            generalize upd H4 z (.lst [.int 0]) = H5 at S5 z5
            have hR5 := hR.mono (stay_tup _) (hB.1.trans S5)
            have v5' := S5 _ _ v4'
            refine ⟨_, rfl, p, rfl, ⟨_, SqL.of v5'⟩, fun D' hD' => lc_it (walk_list (K := K) (a := p) (xs := vs)) (fun i H6 => Same H5 H6 ∧ H6 D' = some (.lst (((R.take i).map (·.1)).map V.int))) ⟨Same.new hD', upd_same⟩ (fun i H6 _ q => SqL.of (q.1 _ _ v5')) ?_ ?_⟩
            · rintro i x H6 H7 hi ⟨S6, hd6⟩ ⟨rfl, hx⟩
              obtain ⟨q, r, rfl, hr, hq⟩ := (hR5.mono (stay_tup _) S6).at_ (S6 _ _ v5') hx
              have hl20 := hRo.len
              refine ⟨rfl, _, rfl, q, _, 0, .int r.1, rfl, rfl, SqT.of hq, rfl, _, hd6, by rw [List.length_map, List.length_map, List.length_take]; exact sz' (by omega), Same.mut S6 hD', ?_⟩
              rw [upd_same, take_snoc hr, List.map_append, List.map_append]
              rfl
            · rintro H6 ⟨S6, hd6⟩
              rw [hvl, List.take_length] at hd6
              have hl20 := hRo.len
              refine ⟨z, D', [.int 0], _, rfl, rfl, S6 _ _ z5, hd6, by rw [List.length_map, List.length_map]; exact sz (by show 1 + _ ≤ _; omega), fun q hq => ?_⟩
              have S7 := Same.new (o := .lst ([V.int 0] ++ (R.map (·.1)).map V.int)) hq
              refine ⟨q, 0 :: R.map (·.1), rfl, SqL.of upd_same, Nat.succ_pos _, fun m hm1 hm2 => ?_⟩
              have hm0 : 0 ≤ m := hm2 0 List.mem_cons_self
              refine ⟨_, rfl, _, _, rfl, rfl, b, m, "ab", far + 9, 5, H, kvs, _, t, rfl, hB.up (S5.trans (S6.trans S7)), hm0, by omega, name_ab, by decide, fun u hu => ?_, fun H8 hB8 => ?_⟩
              · obtain ⟨r, hr, rfl⟩ := ht u hu
                exact hm2 _ (List.mem_cons_of_mem _ (List.mem_map.mpr ⟨r, hr, rfl⟩))
              · refine ⟨_, rfl, k H8 b kvs (some m) false hB8 hkeys fun u kk hu h0 hk => ?_⟩
                obtain rfl : m = u := Option.some.inj hu
                rcases List.mem_cons.mp hm1 with y | y
                · omega
                · obtain ⟨r, hr, e⟩ := List.mem_map.mp y
                  have := hk r hr
                  omega
          · refine ifn c ?_
            refine ⟨_, rfl, k H4 b kvs t true hB hkeys fun u kk hu h0 hk => ?_⟩
            obtain ⟨r, hr, rfl⟩ := ht u hu
            exact hk r hr
end
end K76
namespace K76
open PySem PySem.Spec PyProof.Rows L2
theorem Tups.butp {H H' : Hp} {a b : Addr} {vs : List (List V)} (s : But a H H') (hp : Pot H a) (n : b ≠ a) (h : Tups H b vs) : Tups H' b vs := h.but s hp.lst.choose_spec n
/-- a draw leaves the book alone -/
theorem BookO.step {H0 H H' : Hp} {pot CB b : Addr} {kvs : List (L2.Key × V)} {M : MT} {t : Option Int} {e : Bool} (s : But pot H H') (hp : Pot H pot) (hs : (H0 pot).isSome = true) (h : BookO H0 H CB b kvs M t e) :
    BookO (fun a => if a = pot then H' pot else H0 a) H' CB b kvs M t e := by
  obtain ⟨s0, dx, r, m, l, es, h1, h2, ⟨f1, f2, f3, f4, f5⟩, h4⟩ := h
  have ne : ∀ {x : Addr}, H0 x = none → x ≠ pot := fun hx z => by
    rw [z] at hx
    rw [hx] at hs
    cases hs
  have no : ∀ {x : Addr}, H0 x = none → (fun a => if a = pot then H' pot else H0 a) x = none := fun {x} hx => by
    show (if x = pot then H' pot else H0 x) = none
    rw [if_neg (ne hx)]
    exact hx
  refine ⟨fun a o ha => ?_, dx, r, m, l, es, ⟨s _ _ (ne f1) h1.ins, s _ _ (ne f4) h1.rk, s _ _ (ne f2) h1.mv, fun x hx => (h1.rows x hx).butp s hp (ne (f5 x hx)), h1.nd, h1.ml, h1.ld.elim fun ls q => ⟨ls, s _ _ (ne f3) q⟩⟩, h2, ⟨no f1, no f2, no f3, no f4, fun x hx => no (f5 x hx)⟩, fun q => s _ _ (ne f3) (h4 q)⟩
  by_cases c : a = pot
  · rw [c]
    replace ha : (if a = pot then H' pot else H0 a) = some o := ha
    rw [if_pos c] at ha
    exact ha
  · replace ha : (if a = pot then H' pot else H0 a) = some o := ha
    rw [if_neg c] at ha
    exact s _ _ c (s0 _ _ ha)
/-- a book that no draw touches -/
def Bk (H : Hp) (pot CB b : Addr) (kvs : List (L2.Key × V)) (M : MT) (t : Option Int) : Prop := ∃ H0 e, BookO H0 H CB b kvs M t e ∧ (H0 pot).isSome = true
theorem Bk.but {H H' : Hp} {pot CB b : Addr} {kvs : List (L2.Key × V)} {M : MT} {t : Option Int} (s : But pot H H') (hp : Pot H pot) (hp' : Pot H' pot) (h : Bk H pot CB b kvs M t) : Bk H' pot CB b kvs M t := by
  obtain ⟨H0, e, h1, h2⟩ := h
  refine ⟨_, e, h1.step s hp h2, ?_⟩
  show (if pot = pot then H' pot else H0 pot).isSome = true
  rw [if_pos rfl]
  obtain ⟨xs, hx⟩ := hp'.lst
  rw [hx]
  rfl
theorem Bk.s {H : Hp} {pot CB b : Addr} {kvs : List (L2.Key × V)} {M : MT} {t : Option Int} (h : Bk H pot CB b kvs M t) : BookS H CB b kvs M t := by
  obtain ⟨H0, e, h1, _⟩ := h
  exact h1.s
theorem mkAsk {H : Hp} {CB b : Addr} {kvs : List (L2.Key × V)} {ns : List Str} {R : List Row} {far day term leave : Int} {t kn : Option Int} {n : Str} (hB : BookS H CB b kvs (lawM R far) t) (hR : RowsOk ns R) (hf : 0 ≤ far) (hk : ∀ n ∈ ns, (valV kvs (.inr n)).isSome = true) (hn : n ∈ ns)
    (hkn : KnOk kn) (hd : 0 ≤ day) (ht : 0 ≤ term) (hl : 0 ≤ leave) : Ask H CB b n day term leave kn kvs (lawM R far) t ∧ MOk (lawM R far) 20 := by
  have h1 := lawM_ok (far := far) hR hf
  have h2 := hR.len
  exact ⟨⟨hB, h1.up (by omega), hk n hn, hkn, hd, ht, hl⟩, h1.up h2⟩
theorem kn_none : KnOk none := fun _ z => nomatch z
theorem kn_some {k : Int} (h : 0 ≤ k) : KnOk (some k) := fun n e => by rw [← Option.some.inj e]; exact h
section
variable {P : Program} {w : World} {K : PySem.W.Frag} {mg : Str → Option Value} {base : Heap}
def tRowLe : TT := fun σ H Q => ∃ (q : Addr) (r : Row) (kn : Int), σ[13]? = some (some (.ref q)) ∧ σ[7]? = some (some (.int kn)) ∧ DTup rowV H q r ∧ Q (decide (r.1 ≤ kn)) H
def spBy (CB : Addr) : Sp := fun vs H Q _ => ∃ (pot b q num na p : Addr) (far : Int) (ns : List Str) (R : List Row) (term leave : Int) (kvs : List (L2.Key × V)) (t : Option Int), vs = [.ref pot, .ref b, .ref q, .ref num] ∧ Pot H pot ∧ CaseP H pot q na p far ns R ∧
  Bk H pot CB b kvs (lawM R far) t ∧ (∀ n ∈ ns, (valV kvs (.inr n)).isSome = true) ∧ num ≠ pot ∧ H num = some (.tup [.int term, .int leave]) ∧ 0 ≤ term ∧ 0 ≤ leave ∧ ∀ H', But pot H H' → Pot H' pot → Q (.bl true) H'
theorem scLawByThenRight : FnScope ["_law_pot_here", "_law_book_here", "_law_case_here", "_law_numbers", "_law_names_here", "_law_rows", "_law_far_here", "_law_known", "_law_day", "_law_elder", "_law_plain", "_law_name", "_law_due", "_law_row"] ["_law_pot_here", "_law_book_here", "_law_case_here", "_law_numbers"] (defScope sLawByThenRight) :=
  ⟨rfl, rfl, rfl, by decide +kernel, rfl, by decide +kernel, by decide +kernel⟩
theorem cal_by (T : TX K mg) : CalG P w K mg base 9 "_law_by_then_right" ["_law_pot_here", "_law_book_here", "_law_case_here", "_law_numbers"] (spBy (He.ga K "Book")) := by
  obtain ⟨fd, F⟩ := T.dLawByThenRight
  have c1 : Cal P w K mg base 1 "_law_take" ["_law_pot_here", "_law_many"] [] spTake := cal_take T
  have c2 : Cal P w K mg base 6 "_law_book" ["_law_names_here", "_law_rows", "_law_far_here"] [] (spBookL (He.ga K "Book")) := cal_bookL T
  have c3 : Cal P w K mg base 1 "_law_held" ["_law_rows", "_law_known"] [] spHeldR := cal_heldR T
  have c4 : CalG P w K mg base 8 "_law_three" ["_law_book_here", "_law_name", "_law_day", "_law_numbers", "_law_known"] (spThree (He.ga K "Book")) := cal_three T
  refine CalG.of F T.gLawByThenRight (FunD.bindsN F fun _ _ _ _ _ _ us hl => match us, hl with | [_, _, _, _], _ => rfl) ?_
  refine fnG_of F scLawByThenRight (fun vs H Q E h => ?_) (fun cdv A outer s H vs Q E hg hr h => ?_)
  · obtain ⟨pot, b, q, num, na, p, far, ns, R, term, leave, kvs, t, rfl, _⟩ := h
    rfl
  · obtain ⟨pot, b, q, num, na, p, far, ns, R, term, leave, kvs, t, rfl, hP, hC, hB, hkey, nnum, hnum, ht0, hl0, k⟩ := h
    refine ⟨_, PSs.nox (pss_cons (ps_asg (pv 2) (pg_tup (by rfl) (pgs_cons (pg_name (i := 4) scLawByThenRight.nd rfl (by first | exact Or.inl rfl | exact Or.inr rfl)) (pgs_cons (pg_name (i := 5) scLawByThenRight.nd rfl (by first | exact Or.inl rfl | exact Or.inr rfl)) (pgs_cons (pg_name (i := 6) scLawByThenRight.nd rfl (by first | exact Or.inl rfl | exact Or.inr rfl)) pgs_nil)))))
      (pss_cons (ps_asg (pe_tup (pa_cons (pe_cal c1 hr (pa_cons (pv 0) (pa_cons (pe_op op_add (pe_ix ix_tup (pe_ix ix_list (pv 5) (pe_un un_neg pe_int) (fun _ _ => rfl)) pe_int (fun _ _ => rfl)) pe_int) pa_nil))) (pa_cons (pe_op op_add (pv 6) (pe_cal c1 hr (pa_cons (pv 0) (pa_cons pe_int pa_nil)))) pa_nil))) (pg_tup (by rfl) (pgs_cons (pg_name (i := 7) scLawByThenRight.nd rfl (by first | exact Or.inl rfl | exact Or.inr rfl)) (pgs_cons (pg_name (i := 8) scLawByThenRight.nd rfl (by first | exact Or.inl rfl | exact Or.inr rfl)) pgs_nil))))
      (pss_cons (ps_set (i := 9) scLawByThenRight.nd rfl (by first | exact Or.inl rfl | exact Or.inr rfl) (pe_cal c2 hr (pa_cons (pv 4) (pa_cons (pe_lc (own := [("_law_row", 13)]) rfl scLawByThenRight.nd (pi_list (pv 5)) (blkOk_by (own := [("_law_row", 13)]) (N := ["_law_pot_here", "_law_book_here", "_law_case_here", "_law_numbers", "_law_names_here", "_law_rows", "_law_far_here", "_law_known", "_law_day", "_law_elder", "_law_plain", "_law_name", "_law_due", "_law_row"]) (sc := defScope sLawByThenRight) (by decide +kernel)) (fun _ _ _ _ _ => (pg_name (i := 13) scLawByThenRight.nd rfl (by first | exact Or.inl rfl | exact Or.inr rfl))) (fun _ _ _ _ _ => (pts_one (pt_by (t2 := tRowLe) (pt_cmpR op_le (pe_ix ix_tup (pv 13) pe_int (fun _ _ => rfl)) (pv 7) (nomark _)) (fun σ H Q q => by
          obtain ⟨qa, r, kn, h1, h2, h3, q⟩ := q
          exact ⟨_, h1, qa, _, 0, .int r.1, rfl, rfl, SqT.of h3, rfl, _, h2, _, _, rfl, rfl, _, rfl, q⟩)))) (fun _ _ _ _ _ => (pv 13))) (pa_cons (pv 6) pa_nil)))))
      (pss_cons (ps_set (i := 10) scLawByThenRight.nd rfl (by first | exact Or.inl rfl | exact Or.inr rfl) (pe_cal c2 hr (pa_cons (pv 4) (pa_cons (pe_cal c3 hr (pa_cons (pv 5) (pa_cons (pv 7) pa_nil))) (pa_cons (pv 6) pa_nil)))))
      (pss_cons (ps_for PassesOwn.never rfl (pi_list (pv 4)) (pg_name (i := 11) scLawByThenRight.nd rfl (by first | exact Or.inl rfl | exact Or.inr rfl))
        (pss_cons (ps_set (i := 12) scLawByThenRight.nd rfl (by first | exact Or.inl rfl | exact Or.inr rfl) (pe_calG c4 hg hr (pa_cons (pv 1) (pa_cons (pv 11) (pa_cons (pv 8) (pa_cons (pv 3) (pa_cons (pv 7) pa_nil)))))))
        (pss_one (ps_if (PW.pt (pw_or (pt_cmpR op_ne (pe_calG c4 hg hr (pa_cons (pv 9) (pa_cons (pv 11) (pa_cons (pv 8) (pa_cons (pv 3) (pa_cons pe_non pa_nil)))))) (pv 12) (nomark _)) (pw_or1 (pt_cmpR op_ne (pe_calG c4 hg hr (pa_cons (pv 10) (pa_cons (pv 11) (pa_cons (pv 8) (pa_cons (pv 3) (pa_cons pe_non pa_nil)))))) (pv 12) (nomark _))))) (pss_one (ps_ret pe_bl)) pss_nil))))
      (pss_one (ps_ret pe_bl))))))), ?_⟩
    have b50 : (10000 : Int) ≤ 10 ^ 50 := by decide
    have b60 : (10 : Int) ^ 50 + 1000 < 10 ^ 60 := by decide
    refine ⟨_, rfl, q, _, rfl, SqT.of hC.tup, rfl, _, _, rfl, _, _, rfl, _, _, rfl, rfl, ?_⟩
    obtain ⟨vs, hv, hvl⟩ := hC.rows.len
    cases el : R.getLast? with
    | none => exact absurd (List.getLast?_eq_none_iff.mp el) hC.ne
    | some rl =>
      obtain ⟨ql, al, hql⟩ := hC.rows.last hv el
      have hrm := List.mem_of_getLast? el
      have hk0 := hC.ok.known rl hrm
      have hk1 := hC.kmax rl hrm
      refine ⟨_, rfl, _, rfl, 1, rfl, p, vs, _, _, rfl, rfl, SqL.of hv, al, ql, _, 0, .int rl.1, rfl, rfl, SqT.of hql, rfl, _, 2, rfl, rfl, pot, rl.1 + 2, rfl, hP, by omega, by omega, fun kn H1 B1 P1 n0 n1 => ?_⟩
      refine ⟨_, rfl, _, rfl, pot, 61, rfl, P1, by decide, by omega, fun dd H2' B2' P2' d0 d1 => ⟨_, _, rfl, rfl, by show 2 ≤ sizeLine; decide, fun zz hzz => ?_⟩⟩
      have S2z := Same.new (o := .tup [.int kn, .int (far + dd)]) hzz
      have z2 : upd H2' zz (.tup [.int kn, .int (far + dd)]) zz = some (.tup [.int kn, .int (far + dd)]) := upd_same
      have B2 := B2'.trans (But.of S2z)
      have P2 := P2'.mono S2z
      generalize upd H2' zz (.tup [.int kn, .int (far + dd)]) = H2 at S2z z2 B2 P2
      refine ⟨zz, _, rfl, SqT.of z2, rfl, _, _, rfl, _, _, rfl, rfl, ?_⟩
      have hC2 := (hC.but B1 hP).but B2 P1
      have hB2 := (hB.but B1 hP P1).but B2 P1 P2
      have num2 := B2 _ _ nnum (B1 _ _ nnum hnum)
      have BB : But pot H H2 := B1.trans B2
      obtain ⟨vs2, hv2, hvl2⟩ := hC2.rows.len
      have hfar := hC.far0
      have hfar1 := hC.far1
      have hRo := hC.ok
      have hl20 := hRo.len
      -- the elder book
      refine ⟨_, rfl, _, rfl, p, rfl, ⟨_, SqL.of hv2⟩, fun D hD => lc_it (walk_list (K := K) (a := p) (xs := vs2)) (fun i H3 => Same H2 H3 ∧ Lof (DTup rowV) H3 D ((R.take i).filter fun r => decide (r.1 ≤ kn))) ⟨Same.new hD, Lof.nil upd_same⟩ (fun i H3 _ q => SqL.of (q.1 _ _ hv2)) ?_ ?_⟩
      · rintro i x H3 H4 hi ⟨S3, hL⟩ ⟨rfl, hx⟩
        obtain ⟨qa, r, rfl, hr, hq⟩ := (hC2.rows.mono (stay_tup _) S3).at_ (S3 _ _ hv2) hx
        refine ⟨rfl, qa, r, kn, rfl, rfl, hq, ?_⟩
        have et : (R.take (i + 1)).filter (fun r => decide (r.1 ≤ kn)) = (R.take i).filter (fun r => decide (r.1 ≤ kn)) ++ (if decide (r.1 ≤ kn) = true then [r] else []) := by
          rw [take_snoc hr, List.filter_append]
          congr 1
          by_cases c : r.1 ≤ kn
          · simp [c]
          · simp [c]
        by_cases c : r.1 ≤ kn
        · refine ifd c ?_
          obtain ⟨ws, hw, hwl⟩ := hL.len
          have hfl := List.length_filter_le (fun r : Row => decide (r.1 ≤ kn)) (R.take i)
          rw [List.length_take] at hfl
          refine ⟨_, rfl, ws, hw, by rw [hwl]; exact sz' (by omega), Same.mut S3 hD, ?_⟩
          rw [et, if_pos (decide_eq_true c)]
          exact hL.snoc (stay_tup _) (Same.refl _) hw hq
        · refine ifn c ⟨S3, ?_⟩
          rw [et, if_neg (by rw [decide_eq_false c]; exact Bool.false_ne_true), List.append_nil]
          exact hL
      · rintro H3 ⟨S3, hL⟩
        rw [hvl2, List.take_length] at hL
        have hR1 : RowsOk ns (R.filter fun r => decide (r.1 ≤ kn)) := hRo.sub List.filter_sublist
        refine ⟨_, rfl, na, D, far, ns, _, rfl, S3 _ _ hC2.names, hC2.is, hC2.len4, hL, hR1, hfar, fun H4 b1 kvs1 t1 e1 hB1 hk1' _ => ?_⟩
        have S4 : Same H2 H4 := S3.trans hB1.1
        -- the plain one
        refine ⟨_, rfl, _, rfl, _, rfl, p, kn, R, rfl, hC2.rows.mono (stay_tup _) S4, hl20, fun H5 ph S5 hLh => ?_⟩
        have S5' := S4.trans S5
        have hR2 := heldR_ok hRo kn
        refine ⟨_, rfl, na, ph, far, ns, _, rfl, S5' _ _ hC2.names, hC2.is, hC2.len4, hLh, hR2, hfar, fun H6 b2 kvs2 t2 e2 hB2' hk2 _ => ?_⟩
        have S6 := S5'.trans hB2'.1
        have n6 := S6 _ _ hC2.names
        refine ⟨_, rfl, na, rfl, ⟨_, SqL.of n6⟩, for_it (walk_list (K := K) (a := na) (xs := ns.map V.str)) (fun i σ H7 => Same H6 H7 ∧ ∃ v11 v12 v13, σ = [some (.ref pot), some (.ref b), some (.ref q), some (.ref num), some (.ref na), some (.ref p), some (.int far), some (.int kn), some (.int (far + dd)), some (.ref b1), some (.ref b2), v11, v12, v13])
          ⟨Same.refl _, none, none, none, rfl⟩ (fun i σ H7 _ q => SqL.of (q.1 _ _ n6)) ?_ ?_⟩
        · rintro i x σ H7 H8 hi ⟨S7, v11, v12, v13, rfl⟩ ⟨rfl, hx⟩
          rw [List.length_map] at hi
          have ei : ns[i]? = some ns[i] := List.getElem?_eq_getElem hi
          have hm := List.getElem_mem hi
          generalize ns[i] = nm at ei hm
          rw [List.getElem?_map, ei] at hx
          obtain rfl : V.str nm = x := Option.some.inj hx
          have dy : 0 ≤ far + dd := by omega
          have dy2 : far + dd + 1 < 10 ^ 60 := by omega
          have SA := S6.trans S7
          obtain ⟨a1, m1⟩ := mkAsk (day := far + dd) (term := term) (leave := leave) (hB2.s.mono SA) hRo hfar hkey hm (kn_some n0) dy ht0 hl0
          refine ⟨_, rfl, _, rfl, _, rfl, _, rfl, _, rfl, b, nm, far + dd, num, term, leave, some kn, kvs, _, t, rfl, SA _ _ num2, a1, m1, dy2, fun H9 S9 => ?_⟩
          have SB := SA.trans S9
          obtain ⟨a2, m2⟩ := mkAsk (day := far + dd) (term := term) (leave := leave) (hB1.s.mono (S5.trans (hB2'.1.trans (S7.trans S9)))) hR1 hfar hk1' hm kn_none dy ht0 hl0
          refine ⟨_, rfl, _, rfl, _, rfl, _, rfl, b1, nm, far + dd, num, term, leave, none, kvs1, _, t1, rfl, SB _ _ num2, a2, m2, dy2, fun H10 S10 => ?_⟩
          have e1 : threeM (lawM (R.filter fun r => decide (r.1 ≤ kn)) far) nm (far + dd) term leave none = threeM (lawM R far) nm (far + dd) term leave (some kn) :=
            three_congr hfar (fun r hr => (hR1.day r hr).1) (fun r hr => (hRo.day r hr).1) (fun d => sem_filter kn (nm, d) R) _ _ _
          refine ⟨_, rfl, rfl, _, rfl, ?_⟩
          rw [e1]
          refine ifnd rfl ?_
          have SC := SB.trans S10
          obtain ⟨a3, m3⟩ := mkAsk (day := far + dd) (term := term) (leave := leave) (hB2'.s.mono (S7.trans (S9.trans S10))) hR2 hfar hk2 hm kn_none dy ht0 hl0
          refine ⟨_, rfl, _, rfl, _, rfl, _, rfl, b2, nm, far + dd, num, term, leave, none, kvs2, _, t2, rfl, SC _ _ num2, a3, m3, dy2, fun H11 S11 => ?_⟩
          have e2 : threeM (lawM (heldR R kn) far) nm (far + dd) term leave none = threeM (lawM R far) nm (far + dd) term leave (some kn) :=
            three_congr hfar (fun r hr => (hR2.day r hr).1) (fun r hr => (hRo.day r hr).1) (fun d => sem_held R kn (nm, d)) _ _ _
          refine ⟨_, rfl, rfl, _, rfl, ?_⟩
          rw [e2]
          refine ifnd rfl ?_
          exact ⟨S7.trans (S9.trans (S10.trans S11)), _, _, _, rfl⟩
        · rintro σ H7 ⟨S7, v11, v12, v13, rfl⟩
          exact k H7 (BB.trans (But.of (S6.trans S7))) (P2.mono (S6.trans S7))
end
end K76
namespace K76
open PySem PySem.Spec PyProof.Rows L2
section
variable {P : Program} {w : World} {K : PySem.W.Frag} {mg : Str → Option Value} {base : Heap}
def tLit : TE := fun σ H Q => ∃ pl, σ[12]? = some (some (mvV pl)) ∧ Q (mvV (lightP pl)) H
theorem scLawLightsRight : FnScope ["_law_pot_here", "_law_book_here", "_law_case_here", "_law_numbers", "_law_names_here", "_law_rows", "_law_far_here", "_law_day", "_law_ones", "_law_known", "_law_name", "_law_on", "_law_place", "_law_other"] ["_law_pot_here", "_law_book_here", "_law_case_here", "_law_numbers"] (defScope sLawLightsRight) :=
  ⟨rfl, rfl, rfl, by decide +kernel, rfl, by decide +kernel, by decide +kernel⟩
theorem cal_lights (T : TX K mg) : CalG P w K mg base 9 "_law_lights_right" ["_law_pot_here", "_law_book_here", "_law_case_here", "_law_numbers"] (spBy (He.ga K "Book")) := by
  obtain ⟨fd, F⟩ := T.dLawLightsRight
  have c1 : Cal P w K mg base 1 "_law_take" ["_law_pot_here", "_law_many"] [] spTake := cal_take T
  have c2 : Cal P w K mg base 6 "_law_book" ["_law_names_here", "_law_rows", "_law_far_here"] [] (spBookL (He.ga K "Book")) := cal_bookL T
  have c4 : CalG P w K mg base 8 "_law_three" ["_law_book_here", "_law_name", "_law_day", "_law_numbers", "_law_known"] (spThree (He.ga K "Book")) := cal_three T
  refine CalG.of F T.gLawLightsRight (FunD.bindsN F fun _ _ _ _ _ _ us hl => match us, hl with | [_, _, _, _], _ => rfl) ?_
  refine fnG_of F scLawLightsRight (fun vs H Q E h => ?_) (fun cdv A outer s H vs Q E hg hr h => ?_)
  · obtain ⟨pot, b, q, num, na, p, far, ns, R, term, leave, kvs, t, rfl, _⟩ := h
    rfl
  · obtain ⟨pot, b, q, num, na, p, far, ns, R, term, leave, kvs, t, rfl, hP, hC, hB, hkey, nnum, hnum, ht0, hl0, k⟩ := h
    refine ⟨_, PSs.nox (pss_cons (ps_asg (pv 2) (pg_tup (by rfl) (pgs_cons (pg_name (i := 4) scLawLightsRight.nd rfl (by first | exact Or.inl rfl | exact Or.inr rfl)) (pgs_cons (pg_name (i := 5) scLawLightsRight.nd rfl (by first | exact Or.inl rfl | exact Or.inr rfl)) (pgs_cons (pg_name (i := 6) scLawLightsRight.nd rfl (by first | exact Or.inl rfl | exact Or.inr rfl)) pgs_nil)))))
      (pss_cons (ps_set (i := 7) scLawLightsRight.nd rfl (by first | exact Or.inl rfl | exact Or.inr rfl) (pe_op op_add (pv 6) (pe_cal c1 hr (pa_cons (pv 0) (pa_cons pe_int pa_nil)))))
      (pss_cons (ps_set (i := 8) scLawLightsRight.nd rfl (by first | exact Or.inl rfl | exact Or.inr rfl) (pe_lst pa_nil))
      (pss_cons (ps_for PassesOwn.never rfl (pi_list (pv 5)) (pg_tup (by rfl) (pgs_cons (pg_name (i := 9) scLawLightsRight.nd rfl (by first | exact Or.inl rfl | exact Or.inr rfl)) (pgs_cons (pg_name (i := 10) scLawLightsRight.nd rfl (by first | exact Or.inl rfl | exact Or.inr rfl)) (pgs_cons (pg_name (i := 11) scLawLightsRight.nd rfl (by first | exact Or.inl rfl | exact Or.inr rfl)) (pgs_cons (pg_name (i := 12) scLawLightsRight.nd rfl (by first | exact Or.inl rfl | exact Or.inr rfl)) pgs_nil)))))
        (pss_one (ps_expr (pe_bm PySem.F.plainAttrs_list PySem.F.slot_list_append PySem.F.type_list_append mt_append (pv 8) (pa_cons (pe_tup (pa_cons (pv 9) (pa_cons (pv 10) (pa_cons (pv 11) (pa_cons (pe_by (t2 := tLit) (pe_ifExp (PW.pt (pw_and (pt_cmpR op_notN (pv 12) pe_non (nomark _)) (pw_and1 (pt_cmpR op_ne (pv 12) pe_str (nomark _))))) pe_str (pv 12)) (fun σ H Q q => by
          obtain ⟨pl, h1, q⟩ := q
          cases pl with
          | none => exact ⟨_, h1, rfl, _, rfl, _, h1, q⟩
          | some x =>
            refine ⟨_, h1, rfl, _, rfl, _, h1, rfl, _, rfl, ?_⟩
            have e1 : lightP (some x) = if x = ash then some x else some "light" := rfl
            rw [e1] at q
            by_cases c : V.str x = V.str ""
            · refine ifnd c ?_
              have c2 : x = ash := by injection c
              rw [if_pos c2] at q
              exact ⟨_, h1, q⟩
            · refine ifnn c ?_
              have c2 : ¬ x = ash := fun z => c (by rw [z]; rfl)
              rw [if_neg c2] at q
              exact q)) pa_nil))))) pa_nil)))))
      (pss_cons (ps_set (i := 13) scLawLightsRight.nd rfl (by first | exact Or.inl rfl | exact Or.inr rfl) (pe_cal c2 hr (pa_cons (pv 4) (pa_cons (pv 8) (pa_cons (pv 6) pa_nil)))))
      (pss_one (ps_ret (pe_callB (cr_all rfl) (by rfl) T.f_all (by decide +kernel) (pa_cons (pe_lc (own := [("_law_name", 10)]) rfl scLawLightsRight.nd (pi_list (pv 4)) (blkOk_by (own := [("_law_name", 10)]) (N := ["_law_pot_here", "_law_book_here", "_law_case_here", "_law_numbers", "_law_names_here", "_law_rows", "_law_far_here", "_law_day", "_law_ones", "_law_known", "_law_name", "_law_on", "_law_place", "_law_other"]) (sc := defScope sLawLightsRight) (by decide +kernel)) (fun _ _ _ _ _ => (pg_name (i := 10) scLawLightsRight.nd rfl (by first | exact Or.inl rfl | exact Or.inr rfl))) (fun _ _ _ _ _ => pts_nil) (fun _ _ _ _ _ => (pe_cmpR op_eq (pe_calG c4 hg hr (pa_cons (pv 13) (pa_cons (pv 10) (pa_cons (pv 7) (pa_cons (pv 3) (pa_cons pe_non pa_nil)))))) (pe_calG c4 hg hr (pa_cons (pv 1) (pa_cons (pv 10) (pa_cons (pv 7) (pa_cons (pv 3) (pa_cons pe_non pa_nil)))))) (nomark _)))) pa_nil))))))))), ?_⟩
    have b60 : (10 : Int) ^ 50 + 1000 < 10 ^ 60 := by decide
    have b50 : (10000 : Int) ≤ 10 ^ 50 := by decide
    have sl4 : 4 ≤ sizeLine := by decide
    refine ⟨_, rfl, q, _, rfl, SqT.of hC.tup, rfl, _, _, rfl, _, _, rfl, _, _, rfl, rfl, ?_⟩
    refine ⟨_, rfl, _, rfl, pot, 61, rfl, hP, by decide, by omega, fun dd H1 B1 P1 d0 d1 => ⟨_, _, rfl, rfl, ?_⟩⟩
    refine ⟨Nat.zero_le _, fun o ho => ?_⟩
    have S2 := Same.new (o := .lst []) ho
    have o2 : upd H1 o (.lst []) o = some (.lst []) := upd_same
    have BB : But pot H _ := B1.trans (But.of S2)
    have P2 := P1.mono S2
    have hC2 := (hC.but B1 hP).but (But.of S2) P1
    have hB2 := (hB.but B1 hP P1).but (But.of S2) P1 P2
    have num2 := S2 _ _ (B1 _ _ nnum hnum)
    generalize upd H1 o (.lst []) = H2 at S2 o2 BB P2 hC2 hB2 num2
    obtain ⟨vs2, hv2, hvl2⟩ := hC2.rows.len
    have hfar := hC.far0
    have hfar1 := hC.far1
    have hRo := hC.ok
    have hl20 := hRo.len
    have nop : o ≠ p := fun z => by
      obtain ⟨_, h, _⟩ := (hC.but B1 hP).rows.len
      rw [z, h] at ho
      cases ho
    refine ⟨_, rfl, p, rfl, ⟨_, SqL.of hv2⟩, for_it (walk_list (K := K) (a := p) (xs := vs2)) (fun i σ H3 => But o H2 H3 ∧ Same H1 H3 ∧ Lof (DTup rowV) H3 o ((R.take i).map lightR) ∧ ∃ v9 v10 v11 v12 v13, σ = [some (.ref pot), some (.ref b), some (.ref q), some (.ref num), some (.ref na), some (.ref p), some (.int far), some (.int (far + dd)), some (.ref o), v9, v10, v11, v12, v13])
      ⟨But.refl _ _, S2, Lof.nil o2, none, none, none, none, none, rfl⟩ (fun i σ H3 _ q => SqL.of (q.1 _ _ nop.symm hv2)) ?_ ?_⟩
    · rintro i x σ H3 H4 hi ⟨B3, S3, hL, v9, v10, v11, v12, v13, rfl⟩ ⟨rfl, hx⟩
      obtain ⟨qa, r, rfl, hr, hq⟩ := (hC2.rows.but (stay_tup _) B3 o2 nop.symm).at_ (B3 _ _ nop.symm hv2) hx
      refine ⟨qa, _, rfl, SqT.of hq, rfl, _, _, rfl, _, _, rfl, _, _, rfl, _, _, rfl, rfl, ?_⟩
      obtain ⟨ws, hw, hwl⟩ := hL.len
      refine ⟨_, rfl, .inl ⟨rfl, _, SqL.of hw⟩, _, rfl, _, rfl, _, rfl, r.2.2.2, rfl, sl4, fun z hz => ?_⟩
      have S5 := Same.new (o := .tup [.int r.1, .str r.2.1, .int r.2.2.1, mvV (lightP r.2.2.2)]) hz
      refine ⟨o, ws, _, rfl, rfl, S5 _ _ hw, by rw [hwl, List.length_map, List.length_take]; exact sz' (by omega), ?_⟩
      refine ⟨(B3.trans (But.of S5)).trans But.upd, Same.mut (S3.trans S5) ho, ?_, _, _, _, _, _, rfl⟩
      rw [take_snoc hr, List.map_append]
      exact hL.snoc (stay_tup _) S5 (S5 _ _ hw) (show DTup rowV _ z (lightR r) from upd_same)
    · rintro σ H3 ⟨B3, S3, hL, v9, v10, v11, v12, v13, rfl⟩
      rw [hvl2, List.take_length] at hL
      have hRl := lightR_ok hRo
      have hC1 := hC.but B1 hP
      have n3 := S3 _ _ hC1.names
      refine ⟨_, rfl, _, rfl, _, rfl, na, o, far, ns, _, rfl, n3, hC.is, hC.len4, hL, hRl, hfar, fun H4 b1 kvs1 t1 e1 hB1 hk1 _ => ?_⟩
      have S4 : Same H1 H4 := S3.trans hB1.1
      have hBb := (hB.but B1 hP P1).s.mono S4
      have num4 := S4 _ _ (B1 _ _ nnum hnum)
      have n4 := S4 _ _ hC1.names
      refine ⟨_, rfl, na, rfl, ⟨_, SqL.of n4⟩, fun D hD => lc_it (walk_list (K := K) (a := na) (xs := ns.map V.str)) (fun i H5 => Same H4 H5 ∧ H5 D = some (.lst ((List.replicate i true).map V.bl))) ⟨Same.new hD, upd_same⟩ (fun i H5 _ q => SqL.of (q.1 _ _ n4)) ?_ ?_⟩
      · rintro i x H5 H6 hi ⟨S5, hd5⟩ ⟨rfl, hx⟩
        rw [List.length_map] at hi
        have ei : ns[i]? = some ns[i] := List.getElem?_eq_getElem hi
        have hm := List.getElem_mem hi
        generalize ns[i] = nm at ei hm
        rw [List.getElem?_map, ei] at hx
        obtain rfl : V.str nm = x := Option.some.inj hx
        have hn4 := hC.len4
        have dy : 0 ≤ far + dd := by omega
        have dy2 : far + dd + 1 < 10 ^ 60 := by omega
        obtain ⟨a1, m1⟩ := mkAsk (day := far + dd) (term := term) (leave := leave) (hB1.s.mono S5) hRl hfar hk1 hm kn_none dy ht0 hl0
        refine ⟨rfl, _, rfl, _, rfl, _, rfl, _, rfl, b1, nm, far + dd, num, term, leave, none, kvs1, _, t1, rfl, S5 _ _ num4, a1, m1, dy2, fun H7 S7 => ?_⟩
        obtain ⟨a2, m2⟩ := mkAsk (day := far + dd) (term := term) (leave := leave) (hBb.mono (S5.trans S7)) hRo hfar hkey hm kn_none dy ht0 hl0
        refine ⟨_, rfl, _, rfl, _, rfl, _, rfl, b, nm, far + dd, num, term, leave, none, kvs, _, t, rfl, S7 _ _ (S5 _ _ num4), a2, m2, dy2, fun H8 S8 => ?_⟩
        rw [three_light hRo hfar nm dy]
        refine ⟨rfl, _, S8 _ _ (S7 _ _ hd5), by rw [List.length_map, List.length_replicate]; exact sz' (by omega), Same.mut (S5.trans (S7.trans S8)) hD, ?_⟩
        rw [upd_same, decide_eq_true rfl, List.replicate_succ', List.map_append]
        rfl
      · rintro H5 ⟨S5, hd5⟩
        refine ⟨D, List.replicate (ns.map V.str).length true, rfl, SqL.of hd5, ?_⟩
        have e : (List.replicate (ns.map V.str).length true).all id = true := by simp
        rw [e]
        exact k H5 (B1.trans (But.of (S4.trans S5))) (P1.mono (S4.trans S5))
end
end K76
namespace K76
open PySem PySem.Spec PyProof.Rows L2
/-! ### the texts are texts -/
theorem okS_low {x : Str} (h : ∀ c ∈ x.cps.toList, c < 1114112) : PyData.strOk x = true := by
  unfold PyData.strOk
  rw [Array.all_eq_true_iff_forall_mem]
  intro c hc
  exact decide_eq_true (h c (by simpa using hc))
theorem okS_mem {x : Str} (h : PyData.strOk x = true) : ∀ c ∈ x.cps.toList, c < 1114112 := by
  unfold PyData.strOk at h
  rw [Array.all_eq_true_iff_forall_mem] at h
  intro c hc
  exact of_decide_eq_true (h c (by simpa using hc))
theorem okS_add {a b : Str} (ha : PyData.strOk a = true) (hb : PyData.strOk b = true) : PyData.strOk (a ++ b) = true := by
  refine okS_low fun c hc => ?_
  rw [cps_add] at hc
  rcases List.mem_append.mp hc with z | z
  · exact okS_mem ha c z
  · exact okS_mem hb c z
theorem okS_of (s : String) : PyData.strOk (Str.ofString s) = true := by
  refine okS_low fun c hc => ?_
  rw [Str.ofString_eq_toList] at hc
  replace hc : c ∈ (s.toList.map Char.toNat).toArray.toList := hc
  rw [List.toList_toArray] at hc
  obtain ⟨ch, _, rfl⟩ := List.mem_map.mp hc
  have := ch.valid
  have h2 : ch.toNat = ch.val.toNat := rfl
  rcases this with z | z
  · have : ch.val.toNat < 0xd800 := z
    omega
  · have : ch.val.toNat < 0x110000 := z.2
    omega
theorem okS_text : ∀ (ts : List Str) (k : Nat) (acc : Str), PyData.strOk acc = true → (∀ t ∈ ts, PyData.strOk t = true) → PyData.strOk (textFrom k acc ts) = true
  | [], _, _, h, _ => h
  | t :: ts, k, acc, h, ht => okS_text ts (k + 1) _ (okS_add (okS_add h (okS_of _)) (ht t List.mem_cons_self)) fun x hx => ht x (List.mem_cons_of_mem _ hx)
theorem okS_list {ts : List Str} (h : ∀ t ∈ ts, PyData.strOk t = true) : PyData.strOk (listText ts) = true := okS_add (okS_text ts 0 _ (okS_of _) h) (okS_of _)
theorem okS_join : ∀ ts : List Str, (∀ t ∈ ts, PyData.strOk t = true) → PyData.strOk (Str.join ", " ts) = true
  | [], _ => by decide +kernel
  | [x], h => h x List.mem_cons_self
  | x :: y :: r, h => okS_add (okS_add (h x List.mem_cons_self) (okS_of _)) (okS_join (y :: r) fun z hz => h z (List.mem_cons_of_mem _ hz))
theorem okS_three (M : MT) (n : Str) (day term leave : Int) (kn : Option Int) : PyData.strOk (threeM M n day term leave kn) = true := by
  have hs : ∀ x, PyData.strOk (strT x) = true := fun x => okS_add (okS_add (okS_add (okS_add (okS_of _) (okS_of _)) (okS_of _)) (okS_of _)) (okS_of _)
  have hg : ∀ x, PyData.strOk (givT x) = true := fun x => okS_add (okS_add (okS_of _) (okS_join _ fun t ht => by
    simp only [List.mem_cons, List.not_mem_nil, or_false] at ht
    rcases ht with z | z | z <;> rw [z] <;> exact okS_of _)) (okS_of _)
  refine okS_list fun t ht => ?_
  simp only [List.mem_cons, List.not_mem_nil, or_false] at ht
  rcases ht with z | z | z <;> rw [z]
  · exact okS_list fun t ht => by
      obtain ⟨x, _, rfl⟩ := List.mem_map.mp ht
      exact hs x
  · exact okS_list fun t ht => by
      obtain ⟨x, _, rfl⟩ := List.mem_map.mp ht
      exact hs x
  · exact okS_list fun t ht => by
      obtain ⟨x, _, rfl⟩ := List.mem_map.mp ht
      exact hg x
/-- two lists of the same texts are not different -/
theorem ne_strs {K : PySem.W.Frag} {H : Hp} {a b : Addr} {ts : List Str} {Q : VK} (ha : H a = some (.lst (ts.map V.str))) (hb : H b = some (.lst (ts.map V.str))) (h : ∀ t ∈ ts, PyData.strOk t = true) (q : Q (.bl false) H) : rNeD K (.ref a) (.ref b) H Q := by
  have hf : (ts.map V.str).all flatB = true := by
    rw [List.all_map, List.all_eq_true]
    exact h
  have d1 := dps_flat (K := K) (H := H) hf
  obtain ⟨l1, l2⟩ := lays_flat hf
  have hc : (PyData.list ((ts.map V.str).map datV)).canLay0 = true := by
    rw [PyData.canLay0, l1]
  have hs : SeqAt.shaped (.list ((ts.map V.str).map datV)) = true := by
    unfold SeqAt.shaped
    rw [hc, PyData.depth, l2]
    rfl
  refine ⟨.list _, .list _, .lst (SqL.of ha) d1, .lst (SqL.of hb) d1, hs, hs, ?_⟩
  rw [PySem.SeqAt.eqv_refl _ hc]
  exact q
/-! ### the heap but the book's own things, later on -/
def reb (H0 H Ht : Hp) : Hp := fun a => if ((H0 a).isSome || (H a).isNone) = true then Ht a else none
theorem BookO.rebase {H0 H Ht : Hp} {pot CB b : Addr} {kvs : List (L2.Key × V)} {M : MT} {t : Option Int} {e : Bool} (s : But pot H Ht) (hp : Pot H pot) (hs : (H0 pot).isSome = true) (h : BookO H0 H CB b kvs M t e) :
    BookO (reb H0 H Ht) Ht CB b kvs M t e := by
  obtain ⟨s0, dx, r, m, l, es, h1, h2, ⟨f1, f2, f3, f4, f5⟩, h4⟩ := h
  have ne : ∀ {x : Addr}, H0 x = none → x ≠ pot := fun hx z => by
    rw [z] at hx
    rw [hx] at hs
    cases hs
  have no : ∀ {x : Addr} {o : HO}, H0 x = none → H x = some o → reb H0 H Ht x = none := fun {x} {o} hx ho => by
    unfold reb
    rw [hx, ho]
    rfl
  refine ⟨fun a o ha => ?_, dx, r, m, l, es, ⟨s _ _ (ne f1) h1.ins, s _ _ (ne f4) h1.rk, s _ _ (ne f2) h1.mv, fun x hx => (h1.rows x hx).butp s hp (ne (f5 x hx)), h1.nd, h1.ml, h1.ld.elim fun ls q => ⟨ls, s _ _ (ne f3) q⟩⟩, h2, ⟨no f1 h1.ins, no f2 h1.mv, no f3 h1.ld.choose_spec, no f4 h1.rk, fun x hx => no (f5 x hx) (h1.rows x hx).at_lst.choose_spec⟩, fun q => s _ _ (ne f3) (h4 q)⟩
  unfold reb at ha
  by_cases c : ((H0 a).isSome || (H a).isNone) = true
  · rw [if_pos c] at ha
    exact ha
  · rw [if_neg c] at ha
    cases ha
theorem reb_but {H0 H Ht : Hp} {pot : Addr} (s0 : Same H0 H) (s : But pot H Ht) : But pot H0 (reb H0 H Ht) := fun a o n ha => by
  unfold reb
  rw [ha]
  exact s _ _ n (s0 _ _ ha)
theorem reb_new {H0 H Ht : Hp} {a : Addr} {o : HO} (hn : H a = none) (ht : Ht a = some o) : reb H0 H Ht a = some o := by
  unfold reb
  rw [hn]
  show (if ((H0 a).isSome || true) = true then Ht a else none) = some o
  rw [Bool.or_true, if_pos rfl]
  exact ht
theorem reb_old {H0 H Ht : Hp} {a : Addr} (hs : (H0 a).isSome = true) : reb H0 H Ht a = Ht a := by
  unfold reb
  rw [hs]
  rfl
theorem But.none {a x : Addr} {H H' : Hp} (s : But a H H') (hp : Pot H' a) (h : H' x = none) : H x = none := by
  cases e : H x with
  | none => rfl
  | some o =>
    have n : x ≠ a := fun z => by
      rw [z] at h
      obtain ⟨xs, hx⟩ := hp.lst
      rw [hx] at h
      cases h
    rw [s _ _ n e] at h
    cases h
theorem last_max {ns : List Str} {R : List Row} (h : RowsOk ns R) {rl : Row} (el : R.getLast? = some rl) : ∀ r ∈ R, r.1 ≤ rl.1 := by
  intro r hr
  have e := snoc_of el
  have hp := h.rise
  rw [e] at hp hr
  rcases List.mem_append.mp hr with z | z
  · exact (List.pairwise_append.mp hp).2.2 r z rl List.mem_cons_self
  · have : r = rl := by simpa using z
    rw [this]
    exact Int.le_refl _
def aheadT (M : MT) (keeper : Str) (day term leave : Int) : Str := if 0 < day then threeM M keeper (day - 1) term leave none else ""
section
variable {P : Program} {w : World} {K : PySem.W.Frag} {mg : Str → Option Value} {base : Heap}
def tAhead (CB : Addr) : TE := fun σ H Q => ∃ (b num : Addr) (keeper : Str) (far on term leave : Int) (kvs : List (L2.Key × V)) (M : MT) (t : Option Int), σ[1]? = some (some (.ref b)) ∧ σ[9]? = some (some (.str keeper)) ∧ σ[6]? = some (some (.int far)) ∧ σ[8]? = some (some (.int on)) ∧ σ[3]? = some (some (.ref num)) ∧
  H num = some (.tup [.int term, .int leave]) ∧ (0 < far + on → Ask H CB b keeper (far + on - 1) term leave none kvs M t ∧ MOk M 20 ∧ far + on - 1 + 1 < 10 ^ 60) ∧ ∀ H', Same H H' → Q (.str (aheadT M keeper (far + on) term leave)) H'
def spLate (CB : Addr) : Sp := fun vs H Q _ => ∃ (pot b q num na p : Addr) (far : Int) (ns : List Str) (R : List Row) (term leave : Int) (kvs : List (L2.Key × V)) (t : Option Int) (H0 : Hp) (e : Bool), vs = [.ref pot, .ref b, .ref q, .ref num] ∧ Pot H pot ∧ Pot H0 pot ∧ CaseP H0 pot q na p far ns R ∧
  BookO H0 H CB b kvs (lawM R far) t e ∧ (∀ n ∈ ns, (valV kvs (.inr n)).isSome = true) ∧ (∀ u k : Int, t = some u → 0 ≤ k → (∀ r ∈ R, r.1 ≤ k) → u ≤ k) ∧ num ≠ pot ∧ H0 num = some (.tup [.int term, .int leave]) ∧ 0 ≤ term ∧ 0 ≤ leave ∧
  ∀ H', Same (del H0 pot) H' → Q (.bl true) H'
theorem scLawLateRight : FnScope ["_law_pot_here", "_law_book_here", "_law_case_here", "_law_numbers", "_law_names_here", "_law_rows", "_law_far_here", "_law_last", "_law_on", "_law_keeper", "_law_later", "_law_kept", "_law_ahead", "_law_row", "_law_other", "_law_name", "_law_due", "_law_now"] ["_law_pot_here", "_law_book_here", "_law_case_here", "_law_numbers"] (defScope sLawLateRight) :=
  ⟨rfl, rfl, rfl, by decide +kernel, rfl, by decide +kernel, by decide +kernel⟩
theorem cal_late (T : TX K mg) : CalG P w K mg base 9 "_law_late_right" ["_law_pot_here", "_law_book_here", "_law_case_here", "_law_numbers"] (spLate (He.ga K "Book")) := by
  obtain ⟨fd, F⟩ := T.dLawLateRight
  have c1 : Cal P w K mg base 1 "_law_take" ["_law_pot_here", "_law_many"] [] spTake := cal_take T
  have c2 : Cal P w K mg base 6 "_law_book" ["_law_names_here", "_law_rows", "_law_far_here"] [] (spBookL (He.ga K "Book")) := cal_bookL T
  have c4 : CalG P w K mg base 8 "_law_three" ["_law_book_here", "_law_name", "_law_day", "_law_numbers", "_law_known"] (spThree (He.ga K "Book")) := cal_three T
  obtain ⟨⟨fd5, ds5, G5, b5, d5⟩, me5, cl5⟩ : Mal P w K mg base 3 "Book" "tell" ["self", "known", "keeper", "day", "place"] [] (spTell (He.ga K "Book")) := mal_tell T
  refine CalG.of F T.gLawLateRight (FunD.bindsN F fun _ _ _ _ _ _ us hl => match us, hl with | [_, _, _, _], _ => rfl) ?_
  refine fnG_of F scLawLateRight (fun vs H Q E h => ?_) (fun cdv A outer s H vs Q E hg hr h => ?_)
  · obtain ⟨pot, b, q, num, na, p, far, ns, R, term, leave, kvs, t, H0, e, rfl, _⟩ := h
    rfl
  · obtain ⟨pot, b, q, num, na, p, far, ns, R, term, leave, kvs, t, H0, e, rfl, hP, hP0, hC0, hB, hkey, htb, nnum, hnum0, ht0, hl0, k⟩ := h
    refine ⟨_, PSs.nox (pss_cons (ps_asg (pv 2) (pg_tup (by rfl) (pgs_cons (pg_name (i := 4) scLawLateRight.nd rfl (by first | exact Or.inl rfl | exact Or.inr rfl)) (pgs_cons (pg_name (i := 5) scLawLateRight.nd rfl (by first | exact Or.inl rfl | exact Or.inr rfl)) (pgs_cons (pg_name (i := 6) scLawLateRight.nd rfl (by first | exact Or.inl rfl | exact Or.inr rfl)) pgs_nil)))))
      (pss_cons (ps_asg (pe_tup (pa_cons (pe_ix ix_tup (pe_ix ix_list (pv 5) (pe_un un_neg pe_int) (fun _ _ => rfl)) pe_int (fun _ _ => rfl)) (pa_cons (pe_cal c1 hr (pa_cons (pv 0) (pa_cons pe_int pa_nil))) pa_nil))) (pg_tup (by rfl) (pgs_cons (pg_name (i := 7) scLawLateRight.nd rfl (by first | exact Or.inl rfl | exact Or.inr rfl)) (pgs_cons (pg_name (i := 8) scLawLateRight.nd rfl (by first | exact Or.inl rfl | exact Or.inr rfl)) pgs_nil))))
      (pss_cons (ps_set (i := 9) scLawLateRight.nd rfl (by first | exact Or.inl rfl | exact Or.inr rfl) (pe_ix ix_list (pv 4) (pe_cal c1 hr (pa_cons (pv 0) (pa_cons (pe_callB call_len_seq (by rfl) T.f_len (by decide +kernel) (pa_cons (pv 4) pa_nil)) pa_nil))) (fun _ _ => rfl)))
      (pss_cons (ps_set (i := 10) scLawLateRight.nd rfl (by first | exact Or.inl rfl | exact Or.inr rfl) (pe_op op_add (pe_op op_add (pv 6) pe_int) (pe_cal c1 hr (pa_cons (pv 0) (pa_cons pe_int pa_nil)))))
      (pss_cons (ps_setLc (i := 11) (own := [("_law_name", 15)]) rfl scLawLateRight.nd rfl rfl (sw_true rfl rfl rfl (by decide +kernel)) (pi_list (pv 4)) (blkOk_by (own := [("_law_name", 15)]) (N := ["_law_pot_here", "_law_book_here", "_law_case_here", "_law_numbers", "_law_names_here", "_law_rows", "_law_far_here", "_law_last", "_law_on", "_law_keeper", "_law_later", "_law_kept", "_law_ahead", "_law_row", "_law_other", "_law_name", "_law_due", "_law_now"]) (sc := defScope sLawLateRight) (by decide +kernel)) (fun _ _ _ _ _ => (pg_name (i := 15) scLawLateRight.nd rfl (by first | exact Or.inl rfl | exact Or.inr rfl))) (fun _ _ _ _ _ => pts_nil) (fun _ _ _ _ _ => (pe_calG c4 hg hr (pa_cons (pv 1) (pa_cons (pv 15) (pa_cons (pv 10) (pa_cons (pv 3) (pa_cons (pv 7) pa_nil))))))))
      (pss_cons (ps_set (i := 12) scLawLateRight.nd rfl (by first | exact Or.inl rfl | exact Or.inr rfl) (pe_by (t2 := tAhead (He.ga K "Book")) (pe_ifExp (pt_cmpR op_gt (pe_op op_add (pv 6) (pv 8)) pe_int (nomark _)) (pe_calG c4 hg hr (pa_cons (pv 1) (pa_cons (pv 9) (pa_cons (pe_op op_sub (pe_op op_add (pv 6) (pv 8)) pe_int) (pa_cons (pv 3) (pa_cons pe_non pa_nil)))))) pe_str) (fun σ H Q q => by
          obtain ⟨b, num, keeper, far, on, term, leave, kvs, M, t, h1, h9, h6, h8, h3, hn, hA, q⟩ := q
          refine ⟨_, h6, _, h8, _, _, rfl, rfl, _, _, rfl, rfl, _, rfl, ?_⟩
          unfold aheadT at q
          by_cases c : far + on > 0
          · refine ifd c ?_
            rw [if_pos (show 0 < far + on from c)] at q
            obtain ⟨a1, m1, d1⟩ := hA c
            exact ⟨_, h1, _, h9, _, h6, _, h8, _, _, rfl, rfl, _, _, rfl, rfl, _, h3, b, keeper, far + on - 1, num, term, leave, none, kvs, M, t, rfl, hn, a1, m1, d1, q⟩
          · refine ifn c ?_
            rw [if_neg (show ¬ 0 < far + on from c)] at q
            exact q H (Same.refl _))))
      (pss_cons (ps_set (i := 13) scLawLateRight.nd rfl (by first | exact Or.inl rfl | exact Or.inr rfl) (pe_tup (pa_cons (pe_op op_add (pe_op op_add (pv 7) pe_int) (pe_cal c1 hr (pa_cons (pv 0) (pa_cons pe_int pa_nil)))) (pa_cons (pv 9) (pa_cons (pv 8) (pa_cons (pe_ix ix_list (pe_lst (pa_cons pe_str (pa_cons pe_str (pa_cons pe_non pa_nil)))) (pe_cal c1 hr (pa_cons (pv 0) (pa_cons pe_int pa_nil))) (fun _ _ => rfl)) pa_nil))))))
      (pss_cons (ps_expr (pe_meth (pv 1) cl5 me5 G5 (hr.mono (by decide)) b5 d5 pass0 (pa_cons (pe_ix ix_tup (pv 13) pe_int (fun _ _ => rfl)) (pa_cons (pv 9) (pa_cons (pe_op op_add (pv 6) (pv 8)) (pa_cons (pe_ix ix_tup (pv 13) pe_int (fun _ _ => rfl)) pa_nil))))))
      (pss_cons (ps_if (pt_cmpR (op_neD hr.units) (pe_lc (own := [("_law_name", 15)]) rfl scLawLateRight.nd (pi_list (pv 4)) (blkOk_by (own := [("_law_name", 15)]) (N := ["_law_pot_here", "_law_book_here", "_law_case_here", "_law_numbers", "_law_names_here", "_law_rows", "_law_far_here", "_law_last", "_law_on", "_law_keeper", "_law_later", "_law_kept", "_law_ahead", "_law_row", "_law_other", "_law_name", "_law_due", "_law_now"]) (sc := defScope sLawLateRight) (by decide +kernel)) (fun _ _ _ _ _ => (pg_name (i := 15) scLawLateRight.nd rfl (by first | exact Or.inl rfl | exact Or.inr rfl))) (fun _ _ _ _ _ => pts_nil) (fun _ _ _ _ _ => (pe_calG c4 hg hr (pa_cons (pv 1) (pa_cons (pv 15) (pa_cons (pv 10) (pa_cons (pv 3) (pa_cons (pv 7) pa_nil)))))))) (pv 11) (nomark _)) (pss_one (ps_ret pe_bl)) pss_nil)
      (pss_cons (ps_set (i := 14) scLawLateRight.nd rfl (by first | exact Or.inl rfl | exact Or.inr rfl) (pe_cal c2 hr (pa_cons (pv 4) (pa_cons (pe_op op_cat (pv 5) (pe_lst (pa_cons (pv 13) pa_nil))) (pa_cons (pv 6) pa_nil)))))
      (pss_cons (ps_for PassesOwn.never rfl (pi_zip (by rfl) T.f_zip (pa_cons (pv 4) (pa_cons (pv 11) pa_nil))) (pg_tup (by rfl) (pgs_cons (pg_name (i := 15) scLawLateRight.nd rfl (by first | exact Or.inl rfl | exact Or.inr rfl)) (pgs_cons (pg_name (i := 16) scLawLateRight.nd rfl (by first | exact Or.inl rfl | exact Or.inr rfl)) pgs_nil)))
        (pss_cons (ps_set (i := 17) scLawLateRight.nd rfl (by first | exact Or.inl rfl | exact Or.inr rfl) (pe_calG c4 hg hr (pa_cons (pv 1) (pa_cons (pv 15) (pa_cons (pv 10) (pa_cons (pv 3) (pa_cons pe_non pa_nil)))))))
        (pss_one (ps_if (PW.pt (pw_or (pt_cmpR op_ne (pv 17) (pe_calG c4 hg hr (pa_cons (pv 14) (pa_cons (pv 15) (pa_cons (pv 10) (pa_cons (pv 3) (pa_cons pe_non pa_nil)))))) (nomark _)) (pw_or1 (PW.pt (pw_and (pt_cmpR op_ne (pv 15) (pv 9) (nomark _)) (pw_and1 (pt_cmpR op_ne (pv 17) (pv 16) (nomark _)))))))) (pss_one (ps_ret pe_bl)) pss_nil))))
      (pss_one (ps_ret (pe_or (pe_cmpR op_eq (pv 12) pe_str (nomark _)) (pe_one (pe_cmpR op_eq (pe_calG c4 hg hr (pa_cons (pv 1) (pa_cons (pv 9) (pa_cons (pe_op op_sub (pe_op op_add (pv 6) (pv 8)) pe_int) (pa_cons (pv 3) (pa_cons pe_non pa_nil)))))) (pv 12) (nomark _))))))))))))))))), ?_⟩
    have b60 : (10 : Int) ^ 50 + 1000 < 10 ^ 60 := by decide
    have b50 : (10000 : Int) ≤ 10 ^ 50 := by decide
    have sl1 : 1 ≤ sizeLine := by decide
    have sl2 : 2 ≤ sizeLine := by decide
    have sl3 : 3 ≤ sizeLine := by decide
    have sl4 : 4 ≤ sizeLine := by decide
    have hfar := hC0.far0
    have hfar1 := hC0.far1
    have hRo := hC0.ok
    have hl14 := hC0.len14
    have hn4 := hC0.len4
    have hn1 := hC0.len1
    have hRd : ∀ q ∈ R, 0 ≤ q.2.2.1 := fun r hr => (hRo.day r hr).1
    have hs0 : (H0 pot).isSome = true := by
      obtain ⟨xs, hx⟩ := hP0.lst
      rw [hx]
      rfl
    have hC := hC0.but (But.of hB.1) hP0
    have hBk : Bk H pot (He.ga K "Book") b kvs (lawM R far) t := ⟨H0, e, hB, hs0⟩
    have hnum := hB.1 _ _ hnum0
    refine ⟨_, rfl, q, _, rfl, SqT.of hC.tup, rfl, _, _, rfl, _, _, rfl, _, _, rfl, rfl, ?_⟩
    obtain ⟨vs, hv, hvl⟩ := hC.rows.len
    cases el : R.getLast? with
    | none => exact absurd (List.getLast?_eq_none_iff.mp el) hC.ne
    | some rl =>
      obtain ⟨ql, al, hql⟩ := hC.rows.last hv el
      have hrm := List.mem_of_getLast? el
      have hk0 := hC.ok.known rl hrm
      have hmax := last_max hRo el
      refine ⟨_, rfl, 1, rfl, p, vs, _, _, rfl, rfl, SqL.of hv, al, ql, _, 0, .int rl.1, rfl, rfl, SqT.of hql, rfl, _, rfl, pot, 31, rfl, hP, by decide, by omega, fun on H1 B1 P1 on0 on1 => ⟨sl2, fun zz hzz => ?_⟩⟩
      have S2 := Same.new (o := .tup [.int rl.1, .int on]) hzz
      refine ⟨zz, _, rfl, SqT.of upd_same, rfl, _, _, rfl, _, _, rfl, rfl, ?_⟩
      have BB2 : But pot H _ := B1.trans (But.of S2)
      have P2 := P1.mono S2
      generalize upd H1 zz (.tup [.int rl.1, .int on]) = H2 at BB2 P2
      have n2 := BB2 _ _ hC.nn hC.names
      refine ⟨_, rfl, _, rfl, _, rfl, na, _, rfl, .inl (SqL.of n2), pot, _, rfl, P2, by rw [List.length_map]; omega, by rw [List.length_map]; omega, fun dk H3 B3 P3 dk0 dk1 => ?_⟩
      rw [List.length_map] at dk1
      obtain ⟨keeper, hkm, hka⟩ := atI_strs (ns := ns) dk0 dk1
      have BB3 := BB2.trans B3
      refine ⟨na, _, dk, .str keeper, rfl, rfl, SqL.of (BB3 _ _ hC.nn hC.names), hka, ?_⟩
      refine ⟨_, rfl, _, _, rfl, rfl, _, rfl, pot, 20, rfl, P3, by decide, by omega, fun dl H4 B4 P4 dl0 dl1 => ⟨_, _, rfl, rfl, ?_⟩⟩
      have BB4 := BB3.trans B4
      have n4 := BB4 _ _ hC.nn hC.names
      have num4 := BB4 _ _ nnum hnum
      have hB4 := (hBk.but BB4 hP P4).s
      have hlat : 0 ≤ far + 40 + dl := by omega
      have hlat2 : far + 40 + dl + 1 < 10 ^ 60 := by omega
      -- what is kept
      refine ⟨_, rfl, na, rfl, ⟨_, SqL.of n4⟩, fun D hD => lc_it (walk_list (K := K) (a := na) (xs := ns.map V.str)) (fun i H5 => Same H4 H5 ∧ H5 D = some (.lst (((ns.take i).map fun n => threeM (lawM R far) n (far + 40 + dl) term leave (some rl.1)).map V.str))) ⟨Same.new hD, upd_same⟩ (fun i H5 _ q => SqL.of (q.1 _ _ n4)) ?_ ?_⟩
      · rintro i x H5 H6 hi ⟨S5, hd5⟩ ⟨rfl, hx⟩
        rw [List.length_map] at hi
        have ei : ns[i]? = some ns[i] := List.getElem?_eq_getElem hi
        have hm := List.getElem_mem hi
        generalize ns[i] = nm at ei hm
        rw [List.getElem?_map, ei] at hx
        obtain rfl : V.str nm = x := Option.some.inj hx
        obtain ⟨a1, m1⟩ := mkAsk (day := far + 40 + dl) (term := term) (leave := leave) (hB4.mono S5) hRo hfar hkey hm (kn_some hk0) hlat ht0 hl0
        refine ⟨rfl, _, rfl, _, rfl, _, rfl, _, rfl, _, rfl, b, nm, far + 40 + dl, num, term, leave, some rl.1, kvs, _, t, rfl, S5 _ _ num4, a1, m1, hlat2, fun H7 S7 => ?_⟩
        refine ⟨_, S7 _ _ hd5, by rw [List.length_map, List.length_map, List.length_take]; exact sz' (by omega), Same.mut (S5.trans S7) hD, ?_⟩
        rw [upd_same, take_snoc ei, List.map_append, List.map_append]
        rfl
      · rintro H5 ⟨S5, hd5⟩
        rw [List.length_map, List.take_length] at hd5
        have BB5 := BB4.trans (But.of S5)
        have P5 := P4.mono S5
        refine ⟨b, num, keeper, far, on, term, leave, kvs, lawM R far, t, rfl, rfl, rfl, rfl, rfl, S5 _ _ num4, fun hpos => ?_, fun H6 S6 => ?_⟩
        · obtain ⟨a1, m1⟩ := mkAsk (day := far + on - 1) (term := term) (leave := leave) (hB4.mono S5) hRo hfar hkey hkm kn_none (by omega) ht0 hl0
          exact ⟨a1, m1, by omega⟩
        have P6 := P5.mono S6
        refine ⟨_, rfl, _, _, rfl, rfl, _, rfl, pot, 3, rfl, P6, by decide, by omega, fun da H7 B7 P7 da0 da1 => ⟨_, _, rfl, rfl, _, rfl, _, rfl, sl3, fun l hl => ?_⟩⟩
        have S8 := Same.new (o := .lst [.str "", .str "ab", .non]) hl
        have P8 := P7.mono S8
        have l8 : upd H7 l (.lst [.str "", .str "ab", .non]) l = some (.lst [.str "", .str "ab", .non]) := upd_same
        have nlp : l ≠ pot := fun z => by
          obtain ⟨xs, hx⟩ := P7.lst
          rw [z, hx] at hl
          cases hl
        have BB8 : But pot H _ := (BB5.trans (But.of S6)).trans (B7.trans (But.of S8))
        have nDp : D ≠ pot := fun z => by
          obtain ⟨xs, hx⟩ := P4.lst
          rw [z, hx] at hD
          cases hD
        have d8 := S8 _ _ (B7 _ _ nDp (S6 _ _ hd5))
        generalize upd H7 l (.lst [.str "", .str "ab", .non]) = H8 at P8 l8 BB8 d8
        refine ⟨_, rfl, pot, 3, rfl, P8, by decide, by omega, fun dp H9 B9 P9 dp0 dp1 => ?_⟩
        have : ∃ pl : Option Str, atI [V.str "", .str "ab", .non] dp = some (mvV pl) ∧ PlaceOk pl := by
          have : dp = 0 ∨ dp = 1 ∨ dp = 2 := by omega
          rcases this with z | z | z <;> subst z
          · exact ⟨some ash, rfl, fun x e => .inl (Option.some.inj e).symm⟩
          · exact ⟨some "ab", rfl, fun x e => .inr (by rw [← Option.some.inj e]; exact name_ab)⟩
          · exact ⟨none, rfl, fun x e => nomatch e⟩
        obtain ⟨pl, hpl, hplo⟩ := this
        refine ⟨l, _, dp, mvV pl, rfl, rfl, SqL.of (B9 _ _ nlp l8), hpl, sl4, fun z hz => ?_⟩
        dsimp only
        have S10 := Same.new (o := .tup [.int (rl.1 + 1 + da), .str keeper, .int on, mvV pl]) hz
        have z10 : upd H9 z (.tup [.int (rl.1 + 1 + da), .str keeper, .int on, mvV pl]) z = some (.tup [.int (rl.1 + 1 + da), .str keeper, .int on, mvV pl]) := upd_same
        have BB10 : But pot H _ := BB8.trans (B9.trans (But.of S10))
        have P10 := P9.mono S10
        have d10 := S10 _ _ (B9 _ _ nDp d8)
        have hzn : H z = none := But.none (BB8.trans B9) P9 hz
        have hDn : H D = none := But.none BB4 P4 hD
        generalize upd H9 z (.tup [.int (rl.1 + 1 + da), .str keeper, .int on, mvV pl]) = H10 at z10 BB10 P10 d10
        -- the book, and all else
        have hBr := hB.rebase BB10 hP hs0
        have hB0 := reb_but (pot := pot) hB.1 BB10
        have hCr := hC0.but hB0 hP0
        have numr := hB0 _ _ nnum hnum0
        have zr := reb_new (H0 := H0) hzn z10
        have dr := reb_new (H0 := H0) hDn d10
        generalize reb H0 H H10 = Hr at hBr hB0 hCr numr zr dr
        obtain ⟨_, dx, r4, m4, l4, es4, hbp, _⟩ := id hBr
        have hok := lawM_ok (far := far) hRo hfar
        have hkn' : rl.1 < rl.1 + 1 + da := by omega
        refine ⟨_, rfl, b, dx, _, rfl, hbp.ins, lf_tell r4 m4 l4 t, _, rfl, z, _, 0, .int (rl.1 + 1 + da), rfl, rfl, SqT.of z10, rfl, _, rfl, _, rfl, _, rfl, _, _, rfl, rfl, _, rfl, z, _, 3, mvV pl, rfl, rfl, SqT.of z10, rfl,
          b, rl.1 + 1 + da, keeper, far + on, pl, Hr, kvs, _, t, e, rfl, hBr, by omega, by omega, hkey keeper hkm, hplo, fun u hu => ?_, hok.up (by omega), lawM_place (ns := ns) _ hRo.place, fun H11 hB11 => ?_⟩
        · have := htb u rl.1 hu hk0 hmax
          omega
        have eM : tellM (lawM R far) (keeper, far + on) (rl.1 + 1 + da) pl = lawM (R ++ [(rl.1 + 1 + da, keeper, on, pl)]) far := by
          rw [← lawM_snoc, Int.add_comm far on]
        rw [eM] at hB11
        have hRo2 : RowsOk ns (R ++ [(rl.1 + 1 + da, keeper, on, pl)]) := hRo.snoc hkm (fun q hq => by have := hmax q hq; show q.1 ≤ rl.1 + 1 + da; omega) (by show 0 ≤ rl.1 + 1 + da; omega) ⟨on0, by show on ≤ 40; omega⟩ hplo (by omega)
        have ek := fun n => three_known (R := R) (r := (rl.1 + 1 + da, keeper, on, pl)) hfar hRd on0 hkn' n (far + 40 + dl) term leave
        have eo := fun n (hn : n ≠ keeper) => three_others (R := R) (r := (rl.1 + 1 + da, keeper, on, pl)) hfar hRd on0 hmax (n := n) hn (far + 40 + dl) term leave
        have ea := fun (hd : 0 ≤ far + on - 1) => three_ahead (R := R) (r := (rl.1 + 1 + da, keeper, on, pl)) hfar hRd on0 keeper hd (by show far + on - 1 < far + on; omega) term leave
        have hrow : (rl.1 + 1 + da, keeper, on, pl).1 = rl.1 + 1 + da := rfl
        generalize hR2 : R ++ [(rl.1 + 1 + da, keeper, on, pl)] = R2 at hB11 hRo2 ek eo ea
        have n11 := hB11.1 _ _ hCr.names
        have num11 := hB11.1 _ _ numr
        have d11 := hB11.1 _ _ dr
        have z11 := hB11.1 _ _ zr
        -- kept again
        refine ⟨_, rfl, na, rfl, ⟨_, SqL.of n11⟩, fun D2 hD2 => lc_it (walk_list (K := K) (a := na) (xs := ns.map V.str)) (fun i H5 => Same H11 H5 ∧ H5 D2 = some (.lst (((ns.take i).map fun n => threeM (lawM R far) n (far + 40 + dl) term leave (some rl.1)).map V.str))) ⟨Same.new hD2, upd_same⟩ (fun i H5 _ q => SqL.of (q.1 _ _ n11)) ?_ ?_⟩
        · rintro i x H12 H13 hi ⟨S12, hd12⟩ ⟨rfl, hx⟩
          rw [List.length_map] at hi
          have ei : ns[i]? = some ns[i] := List.getElem?_eq_getElem hi
          have hm := List.getElem_mem hi
          generalize ns[i] = nm at ei hm
          rw [List.getElem?_map, ei] at hx
          obtain rfl : V.str nm = x := Option.some.inj hx
          obtain ⟨a1, m1⟩ := mkAsk (day := far + 40 + dl) (term := term) (leave := leave) (hB11.s.mono S12) hRo2 hfar hkey hm (kn_some hk0) hlat ht0 hl0
          refine ⟨rfl, _, rfl, _, rfl, _, rfl, _, rfl, _, rfl, b, nm, far + 40 + dl, num, term, leave, some rl.1, kvs, _, _, rfl, S12 _ _ num11, a1, m1, hlat2, fun H14 S14 => ?_⟩
          rw [ek nm]
          refine ⟨_, S14 _ _ hd12, by rw [List.length_map, List.length_map, List.length_take]; exact sz' (by omega), Same.mut (S12.trans S14) hD2, ?_⟩
          rw [upd_same, take_snoc ei, List.map_append, List.map_append]
          rfl
        · rintro H12 ⟨S12, hd12⟩
          rw [List.length_map, List.take_length] at hd12
          refine ⟨_, rfl, ne_strs hd12 (S12 _ _ d11) (fun t ht => ?_) ⟨_, rfl, ?_⟩⟩
          · obtain ⟨n, _, rfl⟩ := List.mem_map.mp ht
            exact okS_three _ _ _ _ _ _
          have p12 := S12 _ _ (hB11.1 _ _ hCr.rows.len.choose_spec.1)
          have pl12 := hCr.rows.len.choose_spec.2
          generalize hCr.rows.len.choose = ws at p12 pl12
          refine ⟨_, rfl, _, rfl, _, rfl, sl1, fun l2 hl2 => ?_⟩
          have S13 := Same.new (o := .lst [.ref z]) hl2
          have l13 : upd H12 l2 (.lst [.ref z]) l2 = some (.lst [.ref z]) := upd_same
          have z13 := S13 _ _ (S12 _ _ z11)
          generalize upd H12 l2 (.lst [.ref z]) = H13 at S13 l13 z13
          have S13' : Same H11 H13 := S12.trans S13
          have hL13 := hCr.rows.mono (stay_tup _) (hB11.1.trans S13')
          have hone : Lof (DTup rowV) H13 l2 [(rl.1 + 1 + da, keeper, on, pl)] := ⟨[(z, (rl.1 + 1 + da, keeper, on, pl))], l13, fun y hy => by
            have : y = (z, (rl.1 + 1 + da, keeper, on, pl)) := by simpa using hy
            rw [this]
            exact z13, rfl⟩
          refine ⟨p, l2, ws, [.ref z], rfl, rfl, S13 _ _ p12, l13, by rw [pl12]; exact sz (by show R.length + 1 ≤ _; omega), fun pr hpr => ?_⟩
          have S14 := Same.new (o := .lst (ws ++ [.ref z])) hpr
          have hL14 := Lof.concat (stay_tup _) hL13 hone (S13 _ _ p12) l13 hpr
          rw [hR2] at hL14
          have S14' := S13'.trans S14
          refine ⟨_, rfl, na, pr, far, ns, R2, rfl, S14' _ _ n11, hC.is, hn4, hL14, hRo2, hfar, fun H15 b1 kvs1 t1 e1 hB1 hk1 _ => ?_⟩
          have S15 : Same H11 H15 := S14'.trans hB1.1
          have n15 := S15 _ _ n11
          have d15 := S15 _ _ d11
          refine ⟨_, rfl, _, rfl, na, D, _, _, rfl, SqL.of n15, SqL.of d15, for_it (walk_zip (K := K) (a := na) (b := D) (n := ns.length) (by rw [List.length_map, List.length_map, List.length_map]; omega)) (fun i σ H16 => Same H15 H16 ∧ ∃ v15 v16 v17, σ = [some (.ref pot), some (.ref b), some (.ref q), some (.ref num), some (.ref na), some (.ref p), some (.int far), some (.int rl.1), some (.int on), some (.str keeper), some (.int (far + 40 + dl)), some (.ref D), some (.str (aheadT (lawM R far) keeper (far + on) term leave)), some (.ref z), some (.ref b1), v15, v16, v17])
            ⟨Same.refl _, none, none, none, rfl⟩ (fun i σ H16 _ q => ⟨SqL.of (q.1 _ _ n15), SqL.of (q.1 _ _ d15)⟩) ?_ ?_⟩
          · rintro i x σ H16 H17 hi ⟨S16, v15, v16, v17, rfl⟩ ⟨TT, x, y, rfl, hT, rfl, hx, hy⟩
            have ei : ns[i]? = some ns[i] := List.getElem?_eq_getElem hi
            have hm := List.getElem_mem hi
            generalize ns[i] = nm at ei hm
            replace hx : (ns.map V.str)[i]? = some x := hx
            rw [List.getElem?_map, ei] at hx
            obtain rfl : V.str nm = x := Option.some.inj hx
            replace hy : ((ns.map fun n => threeM (lawM R far) n (far + 40 + dl) term leave (some rl.1)).map V.str)[i]? = some y := hy
            rw [List.getElem?_map, List.getElem?_map, ei] at hy
            obtain rfl : V.str (threeM (lawM R far) nm (far + 40 + dl) term leave (some rl.1)) = y := Option.some.inj hy
            have S17 := Same.new (o := .tup [.str nm, .str (threeM (lawM R far) nm (far + 40 + dl) term leave (some rl.1))]) hT
            refine ⟨TT, _, rfl, SqT.of upd_same, rfl, _, _, rfl, _, _, rfl, rfl, ?_⟩
            generalize upd H16 TT (.tup [.str nm, .str (threeM (lawM R far) nm (far + 40 + dl) term leave (some rl.1))]) = H17 at S17
            have S17' : Same H11 H17 := S15.trans (S16.trans S17)
            obtain ⟨a1, m1⟩ := mkAsk (day := far + 40 + dl) (term := term) (leave := leave) (hB11.s.mono S17') hRo2 hfar hkey hm kn_none hlat ht0 hl0
            refine ⟨_, rfl, _, rfl, _, rfl, _, rfl, b, nm, far + 40 + dl, num, term, leave, none, kvs, _, _, rfl, S17' _ _ num11, a1, m1, hlat2, fun H18 S18 => ?_⟩
            obtain ⟨a2, m2⟩ := mkAsk (day := far + 40 + dl) (term := term) (leave := leave) (hB1.s.mono (S16.trans (S17.trans S18))) hRo2 hfar hk1 hm kn_none hlat ht0 hl0
            refine ⟨_, rfl, _, rfl, _, rfl, _, rfl, _, rfl, b1, nm, far + 40 + dl, num, term, leave, none, kvs1, _, t1, rfl, S18 _ _ (S17' _ _ num11), a2, m2, hlat2, fun H19 S19 => ?_⟩
            refine ⟨rfl, _, rfl, ifnd rfl ?_⟩
            have SF : Same H15 H19 := (S16.trans S17).trans (S18.trans S19)
            refine ⟨_, rfl, _, rfl, rfl, _, rfl, ?_⟩
            by_cases c : V.str nm = V.str keeper
            · exact ifnd c ⟨SF, _, _, _, rfl⟩
            · refine ifnn c ?_
              have c2 : nm ≠ keeper := fun z => c (by rw [z])
              refine ⟨_, rfl, _, rfl, rfl, _, rfl, ?_⟩
              rw [eo nm c2]
              exact ifnd rfl ⟨SF, _, _, _, rfl⟩
          · rintro σ H16 ⟨S16, v15, v16, v17, rfl⟩
            have fin : ∀ H', Same H16 H' → Same (del H0 pot) H' := fun H' S a o ha => by
              have n : a ≠ pot := fun z => by
                rw [z, del_at] at ha
                cases ha
              rw [del_ne n] at ha
              exact S _ _ (S16 _ _ (S15 _ _ (hB11.1 _ _ (hB0 _ _ n ha))))
            refine ⟨_, rfl, rfl, _, rfl, ?_⟩
            by_cases c : V.str (aheadT (lawM R far) keeper (far + on) term leave) = V.str ""
            · exact ifd c (k H16 (fin H16 (Same.refl _)))
            · refine ifn c ?_
              have hpos : 0 < far + on := by
                apply Classical.byContradiction
                intro hn
                apply c
                unfold aheadT
                rw [if_neg hn]
              have ea2 := ea (by omega)
              have eah : aheadT (lawM R far) keeper (far + on) term leave = threeM (lawM R far) keeper (far + on - 1) term leave none := by
                unfold aheadT
                rw [if_pos hpos]
              obtain ⟨a1, m1⟩ := mkAsk (day := far + on - 1) (term := term) (leave := leave) (hB11.s.mono (S15.trans S16)) hRo2 hfar hkey hkm kn_none (by omega) ht0 hl0
              refine ⟨_, rfl, _, rfl, _, rfl, _, rfl, _, _, rfl, rfl, _, _, rfl, rfl, _, rfl, b, keeper, far + on - 1, num, term, leave, none, kvs, _, _, rfl, S16 _ _ (S15 _ _ num11), a1, m1, by omega, fun H17 S17 => ?_⟩
              refine ⟨_, rfl, rfl, ?_⟩
              rw [ea2, eah, decide_eq_true rfl]
              exact k H17 (fin H17 S17)
end
end K76
namespace K76
open PySem PySem.Spec PyProof.Rows L2
section
variable {P : Program} {w : World} {K : PySem.W.Frag} {mg : Str → Option Value} {base : Heap}
def spLaw (K : PySem.W.Frag) : Sp := fun vs H Q _ => ∃ (a : Addr) (ns : List Int), vs = [.ref a] ∧ SqL K H a (ns.map V.int) ∧ ∀ H', Q (.bl true) H'
theorem scLaw : FnScope ["_law_script", "_law_k", "_law_pot_here", "_law_case_here", "_law_book_here", "_law_numbers"] ["_law_script"] (defScope sLaw) :=
  ⟨rfl, rfl, rfl, by decide +kernel, rfl, by decide +kernel, by decide +kernel⟩
theorem fn_law (T : TX K mg) {fd : FuncData} (F : FunD K "law" "law" (defArgs sLaw) (defBody sLaw) (defScope sLaw) [] [] (He.ga K "law") fd) : FnG P w K mg base 10 (He.ga K "law") fd ["_law_script"] (spLaw K) := by
  have c1 : Cal P w K mg base 2 "_law_pot" ["_law_script", "_law_k"] [] (spPot K) := cal_pot T
  have c2 : Cal P w K mg base 3 "_law_case" ["_law_pot_here"] [] spCase := cal_case T
  have c3 : Cal P w K mg base 6 "_law_book" ["_law_names_here", "_law_rows", "_law_far_here"] [] (spBookL (He.ga K "Book")) := cal_bookL T
  have c4 : Cal P w K mg base 2 "_law_some_days" ["_law_pot_here", "_law_most"] [] spSome := cal_some T
  have c5 : CalG P w K mg base 9 "_law_by_then_right" ["_law_pot_here", "_law_book_here", "_law_case_here", "_law_numbers"] (spBy (He.ga K "Book")) := cal_by T
  have c6 : CalG P w K mg base 9 "_law_lights_right" ["_law_pot_here", "_law_book_here", "_law_case_here", "_law_numbers"] (spBy (He.ga K "Book")) := cal_lights T
  have c7 : CalG P w K mg base 9 "_law_late_right" ["_law_pot_here", "_law_book_here", "_law_case_here", "_law_numbers"] (spLate (He.ga K "Book")) := cal_late T
  refine fnG_of F scLaw (fun vs H Q E h => ?_) (fun cdv A outer s H vs Q E hg hr h => ?_)
  · obtain ⟨a, ns, rfl, _⟩ := h
    rfl
  · obtain ⟨a, ns, rfl, hs, k⟩ := h
    have sl2 : 2 ≤ sizeLine := by decide
    refine ⟨_, PSs.nox (pss_cons (ps_for PassesOwn.never rfl (pi_range1 rfl T.f_range (pa_cons (pe_callB (call_max2 rfl) (by rfl) T.f_max (by decide +kernel) (pa_cons pe_int (pa_cons (pe_callB (call_min2 rfl) (by rfl) T.f_min (by decide +kernel) (pa_cons pe_int (pa_cons (pe_callB call_len_seq (by rfl) T.f_len (by decide +kernel) (pa_cons (pv 0) pa_nil)) pa_nil))) pa_nil))) pa_nil)) (pg_name (i := 1) scLaw.nd rfl (by first | exact Or.inl rfl | exact Or.inr rfl))
        (pss_cons (ps_set (i := 2) scLaw.nd rfl (by first | exact Or.inl rfl | exact Or.inr rfl) (pe_cal c1 hr (pa_cons (pv 0) (pa_cons (pv 1) pa_nil))))
        (pss_cons (ps_set (i := 3) scLaw.nd rfl (by first | exact Or.inl rfl | exact Or.inr rfl) (pe_cal c2 hr (pa_cons (pv 2) pa_nil)))
        (pss_cons (ps_set (i := 4) scLaw.nd rfl (by first | exact Or.inl rfl | exact Or.inr rfl) (pe_cal c3 hr (pa_cons (pe_ix ix_tup (pv 3) pe_int (fun _ _ => rfl)) (pa_cons (pe_ix ix_tup (pv 3) pe_int (fun _ _ => rfl)) (pa_cons (pe_ix ix_tup (pv 3) pe_int (fun _ _ => rfl)) pa_nil)))))
        (pss_cons (ps_set (i := 5) scLaw.nd rfl (by first | exact Or.inl rfl | exact Or.inr rfl) (pe_tup (pa_cons (pe_cal c4 hr (pa_cons (pv 2) (pa_cons pe_int pa_nil))) (pa_cons (pe_cal c4 hr (pa_cons (pv 2) (pa_cons pe_int pa_nil))) pa_nil))))
        (pss_cons (ps_if (PW.pt (pw_or (pt_not (pt_val (pe_calG c5 hg hr (pa_cons (pv 2) (pa_cons (pv 4) (pa_cons (pv 3) (pa_cons (pv 5) pa_nil))))))) (pw_or1 (pt_not (pt_val (pe_calG c6 hg hr (pa_cons (pv 2) (pa_cons (pv 4) (pa_cons (pv 3) (pa_cons (pv 5) pa_nil)))))))))) (pss_one (ps_ret pe_bl)) pss_nil)
        (pss_one (ps_if (pt_not (pt_val (pe_calG c7 hg hr (pa_cons (pv 2) (pa_cons (pv 4) (pa_cons (pv 3) (pa_cons (pv 5) pa_nil))))))) (pss_one (ps_ret pe_bl)) pss_nil))))))))
      (pss_one (ps_ret pe_bl))), ?_⟩
    refine ⟨_, rfl, a, _, rfl, .inl hs, 3, _, rfl, 2, _, rfl, _, rfl, by split <;> split <;> omega, by split <;> split <;> omega, ?_⟩
    refine for_it walk_range (fun i σ H1 => Same H H1 ∧ ∃ v1 v2 v3 v4 v5, σ = [some (.ref a), v1, v2, v3, v4, v5]) ⟨Same.refl _, none, none, none, none, none, rfl⟩ (fun _ _ _ _ _ => trivial) ?_ ?_
    · rintro i x σ H1 H1' hi ⟨S1, v1, v2, v3, v4, v5, rfl⟩ ⟨rfl, hx⟩
      replace hx : x = V.int (0 + (i : Int)) := hx
      rw [Int.zero_add] at hx
      subst hx
      refine ⟨_, rfl, _, rfl, a, ns, i, rfl, hs.ext S1, fun H2 pot S2 hpn hP2 => ?_⟩
      have hpn0 : H pot = none := Same.none S1 hpn
      refine ⟨_, rfl, pot, rfl, hP2, fun H3 q na p far nms R B3 P3 hC => ?_⟩
      refine ⟨_, rfl, q, _, 0, .ref na, rfl, rfl, SqT.of hC.tup, rfl, _, rfl, q, _, 1, .ref p, rfl, rfl, SqT.of hC.tup, rfl, _, rfl, q, _, 2, .int far, rfl, rfl, SqT.of hC.tup, rfl, na, p, far, nms, R, rfl, hC.names, hC.is, hC.len4, hC.rows, hC.ok, hC.far0, fun H4 b kvs t e hB hkey htb => ?_⟩
      have P4 := P3.mono hB.1
      have hs3 : (H3 pot).isSome = true := by
        obtain ⟨xs, hx⟩ := P3.lst
        rw [hx]
        rfl
      refine ⟨_, rfl, pot, 9, rfl, P4, by decide, by decide, fun term H5 B5 P5 t0 t1 => ?_⟩
      refine ⟨_, rfl, pot, 9, rfl, P5, by decide, by decide, fun leave H6 B6 P6 l0 l1 => ⟨sl2, fun num hnum => ?_⟩⟩
      have S7 := Same.new (o := .tup [.int term, .int leave]) hnum
      have num7 : upd H6 num (.tup [.int term, .int leave]) num = some (.tup [.int term, .int leave]) := upd_same
      have nnum : num ≠ pot := fun z => by
        obtain ⟨xs, hx⟩ := P6.lst
        rw [z, hx] at hnum
        cases hnum
      have B7 : But pot H4 _ := (B5.trans B6).trans (But.of S7)
      have P7 := P6.mono S7
      have hn4 : H4 num = none := But.none (B5.trans B6) P6 hnum
      generalize upd H6 num (.tup [.int term, .int leave]) = H7 at num7 B7 P7
      have hC4 := hC.but (But.of hB.1) P3
      have hC7 := hC4.but B7 P4
      have hBk4 : Bk H4 pot (He.ga K "Book") b kvs (lawM R far) t := ⟨H3, e, hB, hs3⟩
      have hBk7 := hBk4.but B7 P4 P7
      refine ⟨_, rfl, _, rfl, _, rfl, _, rfl, pot, b, q, num, na, p, far, nms, R, term, leave, kvs, t, rfl, P7, hC7, hBk7, hkey, nnum, num7, t0, l0, fun H8 B8 P8 => ⟨true, rfl, ?_⟩⟩
      have hC8 := hC7.but B8 P7
      have hBk8 := hBk7.but B8 P7 P8
      have num8 := B8 _ _ nnum num7
      refine ⟨_, rfl, _, rfl, _, rfl, _, rfl, pot, b, q, num, na, p, far, nms, R, term, leave, kvs, t, rfl, P8, hC8, hBk8, hkey, nnum, num8, t0, l0, fun H9 B9 P9 => ⟨true, rfl, ?_⟩⟩
      have num9 := B9 _ _ nnum num8
      have B49 : But pot H4 H9 := B7.trans (B8.trans B9)
      have hBr := hB.rebase B49 P4 hs3
      have hBb := reb_but (pot := pot) hB.1 B49
      have hCr := hC.but hBb P3
      have numr := reb_new (H0 := H3) hn4 num9
      have potr : Pot (reb H3 H4 H9) pot := by
        obtain ⟨x, y, h1, h2⟩ := P9
        exact ⟨x, y, by rw [reb_old hs3]; exact h1, h2⟩
      refine ⟨_, rfl, _, rfl, _, rfl, _, rfl, pot, b, q, num, na, p, far, nms, R, term, leave, kvs, t, reb H3 H4 H9, e, rfl, P9, potr, hCr, hBr, hkey, htb, nnum, numr, t0, l0, fun H10 S10 => ⟨true, rfl, ?_⟩⟩
      refine ⟨fun y o hy => ?_, _, _, _, _, _, rfl⟩
      have hyp : y ≠ pot := ne_of_none hy hpn0
      have h3 := B3 _ _ hyp (S2 _ _ (S1 _ _ hy))
      exact S10 _ _ (by rw [del_ne hyp]; exact hBb _ _ hyp h3)
    · rintro σ H1 ⟨S1, v1, v2, v3, v4, v5, rfl⟩
      exact k H1
end
end K76
namespace K76
open PySem PySem.Spec PyProof.Rows L2
def names1 : List PySem.Str := ["_wall", "LightsError", "Wrong", "Barred", "NoDay", "NoName", "NoNumber", "NoRanks", "NoKeeper", "NoPlace", "Early", "LETTERS", "MOST_LETTERS", "is_name", "is_whole", "ASHORE", "LOWEST_RANK", "MOST_KEEPERS", "is_rank", "is_place", "want_ranks", "want_day", "want_known", "put_down", "last_told", "Book"]
def names2 : List PySem.Str := ["Stretch", "runs_of", "turns", "spells_of", "want_spells", "lots_of", "give_back", "settled_lots", "days_over", "days_owed", "days_given", "_law_cell", "_law_pot", "_law_take", "_law_names", "_law_moves", "_law_far", "_law_case", "_law_book", "_law_places", "_law_some_days", "_law_three", "_law_held", "_law_by_then_right", "_law_lights_right", "_law_late_right"]
def names : List PySem.Str := names1 ++ names2
abbrev R : PySem.W.OpenRow := PySem.W.OpenLaw.row PySem.Challenge.rw_lightturns_k76_whole_owed_as_known
abbrev hk : PySem.W.Hook := He.hookD 5 fa fn
def ob (s : PySem.W.SharedT) : He.AlD := He.obsDG 5 fa fn (HandSHeadRun.getT s)
theorem ob_eq (s : PySem.W.SharedT) : ob s = hk.obs s.abs := He.obsDG_eq (HandSHeadRun.getT_eq s)
theorem run (w : World) : HandSHeadRun.RunEq R (PySem.W.view R.prog [59]) hk ob 20000 names w := by
  intro os
  kernel_rfl
end K76
namespace K76
open PySem PySem.Spec PyProof.Rows L2
theorem law_facts {P : Program} {w : World} {K : PySem.W.Frag} {h : Heap} {mg : Str → Option Value} {f : Addr} (X : K.In h) (G : h.Ns mainGlobals mg) (hfa : mg ("law" : Str) = some (.ref f)) (c : He.SaysD fa fn K) :
    ∃ fd : FuncData, (∀ (s : Shared) (v : Value), BindsTo s fd ⟨[v], []⟩ [("_law_script", v)]) ∧ ∀ base : Heap, K.In base → base.Ns mainGlobals mg → FnG P w K mg base 10 f fd ["_law_script"] (spLaw K) := by
  have T : TX K mg := ⟨c, ⟨h, X, G⟩⟩
  obtain ⟨fd, F⟩ := T.dLaw
  have e := hfa.symm.trans T.gLaw
  cases e
  have b := FunD.bindsA (ps := ["_law_script"]) F fun _ _ _ _ _ _ us hl => match us, hl with | [_], _ => rfl
  exact ⟨fd, fun s v => b s [v] rfl, fun base _ _ => fn_law T F⟩
end K76
open PySem PySem.W PySem.Calls PyProof.Rows
theorem PySem.Challenge.cw_lightturns_k76_whole_owed_as_known_holds : PySem.Challenge.rw_lightturns_k76_whole_owed_as_known.Holds := by
  w_on; o_law
  refine HandSHeadRun.head_any (r := OpenLaw.row PySem.Challenge.rw_lightturns_k76_whole_owed_as_known) (q := view (OpenLaw.row PySem.Challenge.rw_lightturns_k76_whole_owed_as_known).prog [59]) (H := K76.hk) (ob := K76.ob) (M := 20000) (loose := K76.names) (d := HandSHeadRun.topDef (OpenLaw.row PySem.Challenge.rw_lightturns_k76_whole_owed_as_known).prog 59) (kwd := []) K76.ob_eq
    (by kernel_rfl) (fun s => by kernel_rfl) K76.run (by kernel_rfl) (by kernel_rfl) (by kernel_rfl) (by rfl) (by first | assumption | decide +kernel) (by decide +kernel) ⟨rfl, rfl, rfl, rfl, rfl, by decide +kernel⟩ ?hw ?hc
  case hw => w_witness2
  case hc =>
    refine K76.walkG (l := PySem.Challenge.rw_lightturns_k76_whole_owed_as_known) (n := 63) (k := 10) (x := "_law_script") rfl (by decide) (by kernel_rfl) ⟨rfl, by decide, by decide⟩ ?F
    intro w mg fa h Y G hmg0
    obtain ⟨K, KX, c⟩ := Y
    have hmg : mg ("law" : PySem.Str) = some (.ref fa) := by
      have e : (HandSHeadRun.topDef (OpenLaw.row PySem.Challenge.rw_lightturns_k76_whole_owed_as_known).prog 59).name = ("law" : PySem.Str) := by kernel_rfl
      rw [← e]
      exact hmg0
    obtain ⟨fd, hb, hF⟩ := K76.law_facts (P := (PySem.Challenge.rw_lightturns_k76_whole_owed_as_known).prog) (w := w) KX G hmg c
    exact ⟨K, fd, K76.spLaw K, KX, hb, fun H a ns hl _ hS => ⟨a, ns, rfl, hS, fun _ => rfl⟩, hF⟩
