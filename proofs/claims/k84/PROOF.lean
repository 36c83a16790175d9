import PyProof.Rows.All
import Wide.All
import OpenK.AllK
import Wide.FinOn
import PySem.Challenge.RW_tallsits_k84_whole_plans_on_known_webs
import HandS.ForMost
import HandS.SetFor
import HandS.Strs
import HandS.DictTup
import HandS.Zip
import HandS.Conv
import HandS.TupMul
import HandS.TupAny
import HandS.IsInst
import HandS.Style
import HandS.Evl
import HandS.Walk
import KE.SortData
import KE.DataMinMax
import KE.KDictCopyH
import KE.KDictDisplayH
import KE.GoesMore
set_option Elab.async false
set_option linter.all false
set_option maxRecDepth 100000
set_option maxHeartbeats 4000000
namespace TallR
open PySem PySem.Spec PyProof.Rows L2

/-! ### set(t) of a tuple of ints -/
def rSetTup (K : PySem.W.Frag) (w : World) : List V → Hp → VK → Prop := fun xs H Q => ∃ (l : Addr) (ns : List Int), xs = [V.ref l] ∧ SqT K H l (ns.map V.int) ∧ ns.length ≤ 60 ∧
  ∀ p c, H p = none → c ≤ ns.length → Q (.ref p) (upd H p (SetO w p (fun j => decide (j ∈ ns)) c))
theorem cr_setTup {X : Cx} (hc : X.calm = true) : CallR X (.type "set") (rSetTup X.K X.w) := by
  intro pins s σ H xs us Q I r h
  obtain ⟨l, ns, rfl, hl, hn, q⟩ := h
  rw [Vals.ref1 r]
  obtain ⟨its, rv, pl, hz⟩ := I.tuple hl
  have hf : H s.heap.objs.size = none := I.hok.fresh (Nat.le_refl _)
  have hsb : ns.length + 1 < scanBound := Nat.lt_of_le_of_lt (Nat.succ_le_succ hn) (by decide)
  refine call_set_tupI (P := X.prog) (w := X.w) ns (I.ok.hd hc) (show s.heap.IsTuple l its.toArray from pl) (by simpa using rv.ints) hsb fun h' tk c R hcl k => ?_
  exact ⟨.ref s.heap.objs.size, upd H s.heap.objs.size (SetO X.w s.heap.objs.size (fun j => decide (j ∈ ns)) c), I.laid (t' := tk) k (Nat.le_refl _) (setO_new R), rfl, q _ c hf hcl⟩

/-! ### sorted(xs), xs a list of tuples of ints of any lengths -/
abbrev encS (b : List Int) : PyData := .tuple (b.map PyData.int)
theorem dp_ints {K : PySem.W.Frag} {H : Hp} : ∀ ns : List Int, DpAll K H (ns.map V.int) (ns.map PyData.int)
  | [] => .nil
  | n :: r => .cons (.int n) (dp_ints r)
/-- at each of ts a tuple of those ints -/
def KeysAt (H : Hp) (ts : List Addr) (bs : List (List Int)) : Prop := Paired (fun t b => H t = some (.tup (b.map V.int))) ts bs
def StandsFor (H : Hp) (v : Value) (b : List Int) : Prop := ∃ t, v = .ref t ∧ H t = some (.tup (b.map V.int))
theorem each_of {H : Hp} : ∀ {ts : List Addr} {bs : List (List Int)}, KeysAt H ts bs → PySem.W.EachIs (StandsFor H) (ts.map Value.ref) bs
  | _, _, .nil => .nil
  | _, _, .cons h t => .cons ⟨_, rfl, h⟩ (each_of t)
theorem of_each {H : Hp} : ∀ {out : List Value} {bs : List (List Int)}, PySem.W.EachIs (StandsFor H) out bs → ∃ us : List Addr, out = us.map Value.ref ∧ KeysAt H us bs
  | _, _, .nil => ⟨[], rfl, .nil⟩
  | _, _, .cons h t => by
    obtain ⟨a, rfl, e⟩ := h
    obtain ⟨us, rfl, k⟩ := of_each t
    exact ⟨a :: us, rfl, .cons e k⟩
theorem refs_back : ∀ {ts : List Addr} {us : List Value}, Vals (ts.map V.ref) us → us = ts.map Value.ref
  | [], _, .nil => rfl
  | t :: ts, _, .cons r k => by
    cases r
    rw [refs_back k] <;> rfl
def rSortSets (K : PySem.W.Frag) : List V → Hp → VK → Prop := fun vs H Q => ∃ (a : Addr) (ts : List Addr) (bs : List (List Int)), vs = [V.ref a] ∧ SqL K H a (ts.map V.ref) ∧ KeysAt H ts bs ∧ bs.length ≤ 1000 ∧ (∀ b ∈ bs, b ≠ []) ∧
  ∀ p us, H p = none → KeysAt H us (bs.mergeSort (PySem.W.dataLe false encS)) → Q (.ref p) (upd H p (.lst (us.map V.ref)))
theorem cr_sortSets {X : Cx} (hu : X.A.units + 64 < cLine) : CallR X (.builtin "sorted") (rSortSets X.K) := by
  intro pins s σ H vs us Q I r h
  obtain ⟨a, ts, bs, rfl, hs, hk, hl, hne, q⟩ := h
  obtain ⟨its, rv, pl, hz⟩ := I.list hs
  rw [Vals.ref1 r]
  obtain rfl : its = ts.map Value.ref := refs_back rv
  have e := each_of hk
  have er : PySem.W.EachIs (fun v b => ∃ as, Reads s.heap v (encS b) as) (ts.map Value.ref) bs := e.mono fun v b ⟨t, hv, ht⟩ => by
    subst hv
    exact Dp.reads I (encS b) (.ref t) (.ref t) (.tup (SqT.of ht) (dp_ints b)) rfl
  have hal : PySem.W.AllAlike (bs.map encS) := PySem.W.AllAlike.of fun b b' => by
    show PySem.W.alike (.tuple (b.map PyData.int)) (.tuple (b'.map PyData.int)) = true
    rw [PySem.W.alike]
    exact PySem.W.alike_ints b b'
  have hsr : PySem.W.Sortable (bs.map encS) := .inl fun d hd => by
    obtain ⟨b, hb, rfl⟩ := List.mem_map.mp hd
    cases b with
    | nil => exact absurd rfl (hne _ hb)
    | cons x r => exact ⟨.int x, r.map PyData.int, rfl⟩
  refine PySem.W.sorted_data (R := StandsFor H) pl.isList e er hal hsr (Nat.le_trans hl (by decide)) (fun b _ => ?_) fun out hol eo => ?_
  · have hd : (encS b).depth ≤ 1 := by
      show PyData.depth (.tuple (b.map PyData.int)) ≤ 1
      simp [PyData.depth, PySem.W.depth_ints]
    omega
  · obtain ⟨us', rfl, ku⟩ := of_each eo
    obtain ⟨ep, he'⟩ := PyProof.Rows.sortedAll_at s.heap (ts.map Value.ref) (us'.map Value.ref).toArray
    have hlen : (us'.map V.ref).length ≤ sizeLine := by
      rw [List.length_map]
      rw [List.length_map] at hol
      rw [hol]
      exact Nat.le_trans hl (by decide)
    exact ⟨.ref _, upd H (s.heap.objs.size + 1) (.lst (us'.map V.ref)), I.laid (t' := s.toks) (fun _ _ => PyProof.Rows.sortedAll_old) (Nat.le_succ _) ⟨hlen, us'.map Value.ref, ep, vals_refs us', he'⟩, rfl, q _ us' (I.hok.fresh (Nat.le_succ _)) ku⟩

/-! ### min(xs) of alike data -/
theorem vals_back : ∀ {xs : List V} {us : List Value} {i : Nat} {u : Value}, Vals xs us → us[i]? = some u → ∃ x, xs[i]? = some x ∧ RelV x u
  | _, _, _, _, .nil, e => by simp at e
  | _, _, 0, _, .cons r _, e => by simp at e; subst e; exact ⟨_, rfl, r⟩
  | _, _, i + 1, u, .cons _ t, e => by
    obtain ⟨x, h1, h2⟩ := vals_back (i := i) (u := u) t (by simpa using e)
    exact ⟨x, by simpa using h1, h2⟩
theorem dpAll_get {K : PySem.W.Frag} {H : Hp} : ∀ {ds : List PyData} {xs : List V} {i : Nat} {x : V}, DpAll K H xs ds → xs[i]? = some x → ∃ d, ds[i]? = some d ∧ Dp K H x d
  | [], _, _, _, h, e => by cases h; simp at e
  | d :: ds, _, 0, _, h, e => by
    cases h with
    | cons h1 h2 => simp at e; subst e; exact ⟨d, rfl, h1⟩
  | d :: ds, _, i + 1, x, h, e => by
    cases h with
    | cons h1 h2 =>
      obtain ⟨d', a, b⟩ := dpAll_get (i := i) (x := x) h2 (by simpa using e)
      exact ⟨d', by simpa using a, b⟩
def rMinD (K : PySem.W.Frag) : List V → Hp → VK → Prop := fun vs H Q => ∃ (a : Addr) (xs : List V) (d : PyData) (ds : List PyData), vs = [V.ref a] ∧ SqL K H a xs ∧ DpAll K H xs (d :: ds) ∧ PySem.W.AlikeAll (d :: ds) ∧ PyData.depthAll (d :: ds) ≤ 10 ∧
  ∀ (i : Nat) v, xs[i]? = some v → (d :: ds)[i]? = some (PySem.W.minD d ds) → Q v H
theorem cr_minD {X : Cx} (hc : X.calm = true) (hu : X.A.units + 64 < cLine) : CallR X (.builtin "min") (rMinD X.K) := by
  intro pins s σ H vs us Q I r h
  obtain ⟨a, xs, d, ds, rfl, hs, hd, hal, hdep, q⟩ := h
  obtain ⟨its, rv, pl, hz⟩ := I.list hs
  rw [Vals.ref1 r]
  obtain ⟨as, hr⟩ := Dp.readsAll I (d :: ds) xs its hd rv
  refine PySem.W.min_list_data (I.ok.hd hc) pl.isList (by simpa using hr) hal (by omega) fun i v h' tk bs hi rr keep => ?_
  have hi' : its[i]? = some v := by simpa using hi
  obtain ⟨x, hx, rx⟩ := vals_back rv hi'
  obtain ⟨e, he, dx⟩ := dpAll_get hd hx
  obtain ⟨cs, r0⟩ := Dp.reads I e x v dx rx
  have r1 : Reads h' v e cs := PyProof.Rows.Reads.keeps keep r0
  have ee : e = PySem.W.minD d ds := (Reads.unique r1 _ _ rr).1
  exact ⟨x, H, I.kept keep, rx, q i x hx (by rw [he, ee])⟩
end TallR

set_option Elab.async false
set_option linter.all false
set_option maxRecDepth 100000
set_option maxHeartbeats 4000000
namespace TallR
open PySem PySem.Spec PyProof.Rows L2

/-! ### a dict made in the iterated expression: locked from there on -/
def tFrz (t : TE) : TE := fun σ H Q => t σ H fun v H1 => ∃ d kvs, v = .ref d ∧ H1 d = some (.dT kvs) ∧ ∀ od, Q v (upd H1 d (.frz od (.dT kvs)))
theorem pe_frz {X : Cx} {e : Expr} {t : TE} (h : PE X e t) : PE X e (tFrz t) := by
  refine ⟨fun pins s σ H Q I hw => ?_⟩
  refine thn (h.run pins s σ H _ I hw) fun u s1 ⟨x, H1, I1, r, d, kvs, ex, hd, q⟩ => ?_
  obtain ⟨od, I2⟩ := I1.lock hd trivial
  exact ⟨x, _, I2, r, q od⟩

/-! ### items() of a dict with tuple keys -/
section
variable {X : Cx} {pins : List (Addr × Obj)} {σ : L2.St} {H : Hp} {s : Shared} {d : Addr} {o : Obj}
theorem frzT2 {kvs : List (List Key × V)} (I : Inv X pins σ H s) (h : H d = some (.frz o (.dT kvs))) :
    (d == sysModules) = false ∧ s.heap.get? d = some o ∧ o.ExactDict ∧ ∃ (es : Array DictEntry) (ep : Nat), o.data = .dict es ep ∧ es.size = kvs.length ∧
      ∀ (i : Nat) (k : List Key) (v : V), kvs[i]? = some (k, v) → ∃ (en : DictEntry) (q : Addr), es[i]? = some en ∧ en.key = .ref q ∧ H q = some (.tup (k.map kV)) ∧ RelV v en.val := by
  obtain ⟨hd, z, hs, xs, pr, o', es, ep, ho, hx, hdt, he, _⟩ := I.hok d _ h
  rw [hd] at ho
  cases ho
  refine ⟨hs, hd, hx, es, ep, hdt, ?_, fun i k v e => ?_⟩
  · have l1 : es.size = xs.length := size_of_entries he
    have l2 : kvs.length = xs.length := Paired.length pr
    omega
  · obtain ⟨b, hb, e1, e2, e3⟩ := paired_get pr e
    have q := entry_at he i
    rw [hb] at q
    exact ⟨_, b.2.1, q, rfl, e2, e3⟩
end
def ItiT (d : Addr) (o : Obj) (kvs : List (List Key × V)) : It :=
  ⟨fun i H => H d = some (.frz o (.dT kvs)) ∧ i < kvs.length,
   fun i H x H' => ∃ T k v q, kvs[i]? = some (k, v) ∧ x = .ref T ∧ H T = none ∧ H q = some (.tup (k.map kV)) ∧ H' = upd H T (.tup [.ref q, v]),
   fun i H => H d = some (.frz o (.dT kvs)) ∧ kvs.length ≤ i⟩
section
variable {P : Program} {w : World} {K : PySem.W.Frag} {tg : Expr} {d : Addr} {o : Obj} {es : Array DictEntry} {ep : Nat}
theorem turn_itemsT {kvs : List (List Key × V)} {elts : List Expr} {kk : Nat} {tpos : Pos} (it : Addr) (hod : o.data = .dict es ep) :
    Turn P w K (.Tuple elts kk tpos) (ItiT d o kvs) [it] it (fun i h => ∃ ok ov, IsItemIter h it d i kvs.length ep ok ov) where
  mem := by simp
  obj := fun i h st b hb => by
    have e : b = it := by simpa using hb
    subst e
    obtain ⟨ok, ov, e⟩ := st
    exact ⟨_, e, fun v z => nomatch z⟩
  keep := fun i h h' st k => let ⟨ok, ov, e⟩ := st; ⟨ok, ov, k it (by simp) _ e⟩
  item := by
    intro X hP hw hK hc i pins s σ H E I hf st hg
    subst hP hw hK
    obtain ⟨hd, hi⟩ := hg
    obtain ⟨hs, hgd, hx, es', ep', hdt, hsz, ent⟩ := frzT2 I hd
    obtain ⟨rfl, rfl⟩ := dict_ep hod hdt
    obtain ⟨⟨k, v⟩, hkv⟩ : ∃ p, kvs[i]? = some p := ⟨kvs[i], List.getElem?_eq_getElem hi⟩
    obtain ⟨en, q, hen, hkey, hq, rv⟩ := ent i k v hkv
    have hie : i < es'.size := by omega
    have hget : es'[i] = en := by
      rw [Array.getElem?_eq_getElem hie] at hen
      exact Option.some.inj hen
    obtain ⟨ok, ov, he⟩ := st
    rw [← hsz] at he
    have hlt : it < s.heap.objs.size := Heap.lt_size he
    refine DT.nextI he ⟨o, hgd, hx, hdt⟩ hie fun h' ho hT hz hk => ?_
    refine ⟨_, rfl, wpAny_letOwnedTupleGo_items (s := { s with heap := h' }) ho fun h'' he' sb => ?_⟩
    rw [hget, hkey] at hT he'
    have hT2 : h''.get? s.heap.objs.size = some { cls := .type "tuple", data := .seq #[.ref q, en.val] } := (sb.2 _ (Nat.ne_of_gt hlt)).trans hT
    have new : ObjOk X.prog X.w (upd H s.heap.objs.size (.tup [.ref q, v])) h'' s.heap.objs.size (.tup [.ref q, v]) :=
      ⟨by show 2 ≤ sizeLine; decide, [.ref q, en.val], .cons rfl (.cons rv .nil), ⟨_, hT2, rfl, _, rfl⟩⟩
    have I1 : Inv X pins σ (upd H s.heap.objs.size (.tup [.ref q, v])) { s with heap := h'' } :=
      I.turnedNew (t' := s.toks) (ch := [it]) (fun b ob hb e => (sb.2 b (by simpa using hb)).trans (hk b ob (by simpa using hb) e)) hf (Nat.le_refl _) new
    refine ⟨.ref s.heap.objs.size, _, I1, rfl, ⟨_, k, v, q, hkv, rfl, I.hok.fresh (Nat.le_refl _), hq, rfl⟩, ⟨.ref q, en.val, ?_⟩, fun b hb => ?_⟩
    · rw [← hsz]; exact he'
    · have e : b = it := by simpa using hb
      rw [e, upd_ne (Nat.ne_of_lt hlt)]
      exact (hf it (by simp)).1
  done := by
    intro X hP hw hK hc i pins s σ H E I hf st hg
    subst hP hw hK
    obtain ⟨hd, hi⟩ := hg
    obtain ⟨f0, f1, f2, f3, f4, f5⟩ := hf it (by simp)
    obtain ⟨hs, hgd, hx, es', ep', hdt, hsz, ent⟩ := frzT2 I hd
    obtain ⟨rfl, rfl⟩ := dict_ep hod hdt
    obtain ⟨ok, ov, he⟩ := st
    rw [← hsz] at he
    exact DT.endI (I.ok.hd hc) he ⟨o, hgd, hx, hdt⟩ (by omega) fun h' eb => ⟨rfl, I.turned (t' := s.toks) (fun b ob hb e => eb b ob hb e) f0 f1 f3 f4 f5⟩
  self := fun A i s Q E st h => let ⟨_, _, e⟩ := st; PySem.W.kcp_self e h
end
def iItemsT (td : TE) : TI := fun σ H R => td σ H fun x H1 => ∃ d o kvs, x = .ref d ∧ H1 d = some (.frz o (.dT kvs)) ∧ R (ItiT d o kvs) H1
theorem pi_itemsT {X : Cx} {e : Expr} {td : TE} {apos cpos : Pos} {elts : List Expr} {kk : Nat} {tpos : Pos} (he : PE X e td) (hbase : attributeBase e "items" X.env (eval e X.env) = eval e X.env := by rfl) (hline : (apos.endLine == cpos.line) = true := by rfl) :
    PI X (.Tuple elts kk tpos) (.Call (.Attribute e "items" apos) [] [] cpos) (iItemsT td) := by
  refine ⟨fun pins s σ H R I h => ?_⟩
  refine wpAny_Call_method (T := "dict") (id := "dict.items") hbase rfl hline F.plainAttrs_dict F.slot_dict_items F.type_dict_items (thn (he.run pins s σ H _ I h) fun u s1 ⟨x, H1, I1, rx, d, o, kvs, ex, hd, q⟩ => ?_)
  subst ex
  obtain rfl : u = Value.ref d := rx
  obtain ⟨hs, hgd, hx, es, ep, hdt, hsz, ent⟩ := frzT2 I1 hd
  have raw : DT.Raw s1.heap d es ep := ⟨o, hgd, hx, hdt⟩
  refine ⟨raw.typeIs, fun b e => ?_, ?_⟩
  · cases e
    exact ⟨o, hgd, hx.2.1⟩
  have I2 : Inv X pins σ H1 { s1 with heap := s1.heap.push { cls := .type "dict_items", data := .fields #[.ref d] } } := I1.kept (t' := s1.toks) fun b ob q => Heap.get?_push_of_some _ q
  have fin : wpAny (model X.prog X.w) X.A (pyIter (.ref s1.heap.objs.size)) (PIE X pins σ (.Tuple elts kk tpos) R) X.xe { s1 with heap := s1.heap.push { cls := .type "dict_items", data := .fields #[.ref d] } } := by
    refine DT.iterI (d := d) ⟨_, Heap.get?_push_size _ rfl, rfl, rfl⟩ (raw.push _) (pi_one (tk := s1.toks) I2 _ (turn_itemsT _ hdt) ⟨.none, .none, ?_⟩ q)
    rw [← hsz]
    exact Heap.get?_push_size _ rfl
  show wpAny _ _ (callWith cpos (.builtin "dict.items") [.ref d] [] []) _ X.xe s1
  exact method_meetsIn F.slot_dict_items F.entry_dict_items rfl (PySem.evalArgs_none ⟨rfl, raw.typeIs, F.args_dict_items_1 _, _, DT.meetsItems (es := es) (ep := ep) hs, raw, fin⟩)
theorem walk_itemsT {d : Addr} {o : Obj} {kvs : List (List Key × V)} : Walk (ItiT d o kvs) kvs.length (fun H => H d = some (.frz o (.dT kvs)))
    (fun i H x H' => ∃ T k v q, kvs[i]? = some (k, v) ∧ x = .ref T ∧ H T = none ∧ H q = some (.tup (k.map kV)) ∧ H' = upd H T (.tup [.ref q, v])) :=
  ⟨fun _ _ hi q => ⟨q, hi⟩, fun _ q => ⟨q, Nat.le_refl _⟩, fun _ _ _ _ _ _ y => y⟩

/-! ### list(d.values()) of a dict with tuple keys -/
def valuesO (p d : Addr) : HO := .ext fun h => h.IsValuesView p d
theorem valuesO_ok {P : Program} {w : World} {H : Hp} {h : Heap} {p d : Addr} (e : h.get? p = some { cls := .type "dict_values", data := .fields #[.ref d] }) : ObjOk P w H h p (valuesO p d) :=
  ⟨⟨_, e, rfl, rfl⟩, ⟨_, e⟩, fun h1 h2 x k => let ⟨o, ho, r⟩ := x; ⟨o, k o ho, r⟩⟩
def rValuesT : V → List V → Hp → VK → Prop := fun x xs H Q => ∃ (a : Addr) (kvs : List (List L2.Key × V)), x = .ref a ∧ xs = [] ∧ H a = some (.dT kvs) ∧ ∀ p, H p = none → Q (.ref p) (upd H p (valuesO p a))
theorem mt_valuesT {X : Cx} : MtR X "dict.values" rValuesT := by
  intro pins s σ H x xs v us Q I rx rxs h
  obtain ⟨a, kvs, rfl, rfl, ha, q⟩ := h
  cases rx
  cases rxs
  obtain ⟨z, hd, xs', rel, dd⟩ := dt_of I.hok ha
  obtain ⟨o, es, ep, ho, hx, hdat, _⟩ := id dd
  have hf : H s.heap.objs.size = none := I.hok.fresh (Nat.le_refl _)
  refine call_meetsIn PySem.F.slot_dict_values dd.typeIs PySem.F.entry_dict_values (PySem.F.args_dict_values_1 _) (meets_dict_values_raw a hd) ⟨?_, ?_⟩
  · first | exact ⟨es, ep, o, ho, hx, hdat⟩ | exact ⟨o, ho, hx, hdat⟩ | exact dd.typeIs
  · exact ⟨.ref s.heap.objs.size, upd H s.heap.objs.size (valuesO s.heap.objs.size a), I.laid (t' := s.toks) (fun b u e => Heap.get?_push_of_some _ e) (Nat.le_refl _) (valuesO_ok (Heap.get?_push_size _ rfl)), rfl, q _ hf⟩
def rListValues : List V → Hp → VK → Prop := fun xs H Q => ∃ (p d : Addr) (kvs : List (List Key × V)), xs = [V.ref p] ∧ H p = some (valuesO p d) ∧ H d = some (.dT kvs) ∧ ∀ q, H q = none → Q (.ref q) (upd H q (.lst (kvs.map (·.2))))
theorem call_list_values {X : Cx} (hc : X.calm = true) : CallR X (.type "list") rListValues := by
  intro pins s σ H xs us Q I r h
  obtain ⟨p, d, kvs, rfl, hp, hd, q⟩ := h
  obtain ⟨u, rfl, rx⟩ := r.one
  cases rx
  obtain ⟨z, hs, ks, pr, o, es, ep, ho, hx, hdt, he, hn⟩ := (show ObjOk X.prog X.w H s.heap d (.dT kvs) from I.hok d _ hd)
  have hv : s.heap.IsValuesView p d := (I.hok p _ hp).1
  have l1 : es.size = ks.length := size_of_entries he
  have l2 : kvs.length = ks.length := Paired.length pr
  refine PySem.W.kdl_call (PySem.KdlSrc.rawValues (es := es) (ep := ep)) (I.ok.hd hc) ⟨hv, o, ho, hx, hdt⟩ (by omega) fun h' tk acc' c' kp e it => ?_
  have ea : Vals (kvs.map (·.2)) acc'.toList := by
    have hl : acc'.toList = ks.map fun x => x.2.2 := by
      apply List.ext_getElem?
      intro j
      rw [List.getElem?_map]
      have hsz : acc'.toList.length = ks.length := by rw [Array.length_toList, it.1]; exact l1
      cases hj : acc'.toList[j]? with
      | none =>
        have h1 := List.getElem?_eq_none_iff.mp hj
        rw [List.getElem?_eq_none (by omega)]
        all_goals rfl
      | some v =>
        obtain ⟨hi, hv⟩ := it.2 j v (by rw [← Array.getElem?_toList]; exact hj)
        have qe := entry_at he j
        rw [Array.getElem?_eq_getElem hi] at qe
        cases hb : ks[j]? with
        | none =>
          rw [hb] at qe
          exact nomatch (show some es[j] = none from qe)
        | some b =>
          rw [hb] at qe
          have e2 : es[j] = entryOfKey (tupleKind (mixKind X.prog X.w)) b := Option.some.inj qe
          rw [hv, e2]
          rfl
    rw [hl]
    have : ∀ {kvs : List (List Key × V)} {ks : List (List Key × Addr × Value)}, KT H kvs ks → Vals (kvs.map (·.2)) (ks.map fun x => x.2.2) := by
      intro kvs ks h
      induction h with
      | nil => exact .nil
      | cons h t ih => exact .cons h.2.2 ih
    exact this pr
  have hlen : (kvs.map (·.2)).length ≤ sizeLine := by rw [List.length_map]; exact z
  exact ⟨.ref _, _, I.laid (t' := tk) kp (Nat.le_refl _) (show ObjOk X.prog X.w _ h' _ (.lst (kvs.map (·.2))) from ⟨hlen, acc'.toList, c', ea, by simpa using e⟩), rfl, q _ (I.hok.fresh (Nat.le_refl _))⟩

/-! ### {k: v} with k a tuple -/
def tDispT1 (tk tv : TE) : TE := fun σ H Q => ∀ p, H p = none → tk σ (upd H p (.dT [])) fun x H1 => tv σ H1 fun y H2 => H2 p = some (.dT []) ∧
  ∃ (b : Addr) (k : List Key), x = .ref b ∧ H2 b = some (.tup (k.map kV)) ∧ Q (.ref p) (upd H2 p (.dT [(k, y)]))
theorem pe_dispT1 {X : Cx} {k v : Expr} {tk tv : TE} {pos : Pos} (hu : X.A.units + 64 < cLine) (hk : PE X k tk) (hv : PE X v tv) : PE X (.Dict [some k] [v] pos) (tDispT1 tk tv) := by
  refine ⟨fun pins s σ H Q I q => ?_⟩
  have hn := I.hok.fresh (Nat.le_refl s.heap.objs.size)
  have I1 := I.laid (a := s.heap.objs.size) (o := .dT []) (h' := s.heap.push { cls := .type "dict", data := .dict #[] }) (t' := s.toks) (fun _ _ q => Heap.get?_push_of_some _ q) (Nat.le_refl _) (dt_empty s.heap I.big)
  rw [arm_eval_Dict, zip_pairTrees [some k] [v] X.env pos rfl rfl, dictDisplay_pairs _ (by intro e; have := congrArg List.length e; rw [pairTrees_length [some k] [v] X.env pos rfl rfl] at this; cases this) (by rw [pairTrees_length [some k] [v] X.env pos rfl rfl, List.length_singleton]; decide)]
  refine wpAny_bind (wpAny_standAt (wpAny_bind (wpAny_subDictH (knd := tupleKind (mixKind X.prog X.w)) (Q := fun d s' => wpAny (model X.prog X.w) X.A (pure (Value.ref d)) (EP X pins σ Q) X.xe s') (show X.A.units < cLine by omega) (by rw [pairTrees_length [some k] [v] X.env pos rfl rfl, List.length_singleton]; decide) ?_)))
  refine pairTrees_cons_walk (thn (hk.run pins _ σ _ _ I1 (q _ hn)) fun u s1 ⟨x, H1, I1, rx, q1⟩ => thn (hv.run pins s1 σ H1 _ I1 q1) fun w2 s2 ⟨y, H2, I2, ry, hp, b, ks, ex, hb, q2⟩ => pairTrees_nil_walk ?_)
  subst ex
  cases rx
  obtain ⟨z, hd, xs0, r0, dd⟩ := dt_of I2.hok hp
  cases r0
  refine ⟨[(ks, b, w2)], ⟨rfl, rfl, key_of I2.hok hb, trivial⟩, dd, fun h' tk dd' hs => ?_⟩
  obtain ⟨o, es, ep, ho, hx, hdt, he, _, hnd⟩ := dd'
  have new : ObjOk X.prog X.w (upd H2 s.heap.objs.size (.dT [(ks, y)])) h' s.heap.objs.size (.dT [(ks, y)]) := by
    refine ⟨by show 1 ≤ sizeLine; decide, hd, [(ks, b, w2)], .cons ⟨rfl, ?_, ry⟩ .nil, o, es, ep, ho, hx, hdt, he, hnd⟩
    rw [upd_ne (ne_of hb hp (fun z => nomatch z))]
    exact hb
  exact wpAny_pure ⟨.ref s.heap.objs.size, _, d_write (t' := tk) I2 (by rw [hp]; exact True.intro) hs ⟨o, ho⟩ new, rfl, q2⟩

/-! ### enumerate(t) of a tuple -/
theorem meets_enumerate_newT {v : Value} {o : Obj} {H : Heap → Prop} (B : Begins v o H) :
    Meets (Builtin.«enumerate.__new__» ⟨[.type "enumerate", v], []⟩) (fun _ R s => H s.heap ∧
      R (.ok (.ret (.ref (s.heap.push o).objs.size))) { s with heap := (s.heap.push o).push { cls := .type "enumerate", data := .fields #[.none, .bool false, .ref s.heap.objs.size, rawInt 0, .none, .none] } }) :=
  .of_wp fun prog w A R s h => by
    obtain ⟨hp, g, d, tk, os⟩ := s; obtain ⟨h1, h⟩ := h
    have hsub := sub_enumerate
    have q1 : ∀ {A' : Around} {E : Value → Shared → Prop} {Q : Value → Shared → Prop}, Q (.ref hp.objs.size) ⟨hp.push o, g, d, tk, os⟩ → wpAny (model prog w) A' (pyIter v) Q E ⟨hp, g, d, tk, os⟩ :=
      fun q => B.iter prog w _ _ ⟨hp, g, d, tk, os⟩ _ h1 q
    wp_walk using q1
    refine wpAny_stack_any fun st => wpAny_pure ?_
    split
    · rename_i c _ _ _ _ _
      cases (c == Value.type "enumerate")
      · wp_walk using q1
        exact ⟨_, rfl, h⟩
      · wp_walk using q1
        exact ⟨_, rfl, h⟩
    · wp_walk using q1
      exact ⟨_, rfl, h⟩
theorem call_enumerate_tuple {prog : Program} {w : World} {A : Around} {E : Value → Shared → Prop} {s : Shared} {l : Addr} {items : Array Value} {Q : Value → Shared → Prop} (hL : s.heap.IsTuple l items)
    (h : ∀ h', IsEnum h' (s.heap.objs.size + 1) s.heap.objs.size 0 .none → h'.IsTupleIter s.heap.objs.size l 0 → h'.objs.size = s.heap.objs.size + 2 →
      (∀ b o, s.heap.get? b = some o → h'.get? b = some o) → Q (.ref (s.heap.objs.size + 1)) { s with heap := h' }) :
    wpAny (model prog w) A (call (.type "enumerate") [.ref l]) Q E s := by
  refine callType_new F.called_enumerate (by decide) (F.typeCall_enumerate_1 _) (F.newCall_enumerate_1 _) (fun obj => F.args_object_init_2 obj _) F.entry_enumerate_new
    (meets_enumerate_newT (begins_tuple l items)) ⟨hL, ?_⟩
  have hz : (s.heap.push { cls := .type "tuple_iterator", data := .fields #[.ref l, .int 0 0] }).objs.size = s.heap.objs.size + 1 := Heap.size_push ..
  show _ ∧ _
  rw [hz]
  have he : IsEnum ((s.heap.push { cls := .type "tuple_iterator", data := .fields #[.ref l, .int 0 0] }).push
      { cls := .type "enumerate", data := .fields #[.none, .bool false, .ref s.heap.objs.size, rawInt 0, .none, .none] }) (s.heap.objs.size + 1) s.heap.objs.size 0 .none := by
    have := Heap.get?_push_size (s.heap.push { cls := .type "tuple_iterator", data := .fields #[.ref l, .int 0 0] })
      (o := { cls := .type "enumerate", data := .fields #[.none, .bool false, .ref s.heap.objs.size, rawInt 0, .none, .none] }) rfl
    rw [hz] at this; exact this
  refine ⟨⟨_, he, rfl⟩, h _ he ⟨_, Heap.get?_push_of_some _ (Heap.get?_push_size _ rfl), rfl, rfl⟩ (by rw [Heap.size_push, hz]) fun b o x => Heap.get?_push_of_some _ (Heap.get?_push_of_some _ x)⟩
def IteT (K : PySem.W.Frag) (a : Addr) : It :=
  ⟨fun i H => ∃ (xs : List V) (x : V), SqT K H a xs ∧ xs[i]? = some x, fun i H v H' => ∃ T x, v = .ref T ∧ H T = none ∧ H' = upd H T (.tup [.int (i : Nat), x]) ∧ ∀ xs, SqT K H a xs → xs[i]? = some x, fun i H => ∃ xs : List V, SqT K H a xs ∧ xs.length = i⟩
theorem turn_enumT {P : Program} {w : World} {K : PySem.W.Frag} {elts : List Expr} {kk : Nat} {tpos : Pos} (a e it : Addr) (hai : a ≠ it) (hae : e ≠ a) :
    Turn P w K (.Tuple elts kk tpos) (IteT K a) [e, it] e (fun i h => (∃ old, IsEnum h e it ((i : Nat) : Int) old) ∧ h.IsTupleIter it a i ∧ e ≠ it) where
  mem := by simp
  obj := fun i h st b hb => by
    obtain ⟨⟨old, he⟩, ⟨o, ho, hc, hd⟩, _⟩ := st
    have e' : b = e ∨ b = it := by simpa using hb
    rcases e' with z | z
    · rw [z]; exact ⟨_, he, fun v q => nomatch q⟩
    · rw [z]; exact ⟨o, ho, fun v q => by rw [hd] at q; cases q⟩
  keep := fun i h h' st k => let ⟨⟨old, he⟩, hi, hne⟩ := st; ⟨⟨old, k e (by simp) _ he⟩, hi.at fun o q => k it (by simp) o q, hne⟩
  item := by
    intro X hP hw hK hc i pins s σ H E I hf st hg
    subst hP hw hK
    obtain ⟨⟨old, he⟩, hit, hne⟩ := st
    obtain ⟨xs, x, hq, hx⟩ := hg
    obtain ⟨its, rv, p, hz⟩ := I.tuple hq
    obtain ⟨u, hu, ru⟩ := rv.get hx
    have hel : e < s.heap.objs.size := Heap.lt_size he
    have hil : it < s.heap.objs.size := by obtain ⟨_, q, _⟩ := hit; exact Heap.lt_size q
    have hin : i < its.toArray.size := by rw [List.size_toArray]; exact (List.getElem?_eq_some_iff.mp hu).1
    refine wpAny_pyNext_enum_itemD (n := its.toArray.size) (Draws.tuple (A := X.A.in1) (I.ok.hd hc) it a hai its.toArray) he ⟨hit, p⟩ hin hne (by simp only [List.mem_cons, List.not_mem_nil, or_false, not_or]; exact ⟨hne, hae⟩) fun x' h' tk hx' ho hit' hT hsz hk => ?_
    have exu : x' = u := by
      have q : its.toArray[i]? = some u := by simpa using hu
      exact Option.some.inj (hx'.symm.trans q)
    subst exu
    refine ⟨_, rfl, wpAny_letOwnedTupleGo_enum (s := { s with heap := h', toks := tk + 1 }) ho fun h'' he' sb => ?_⟩
    have hT2 : h''.get? s.heap.objs.size = some { cls := .type "tuple", data := .seq #[.int i tk, x'] } := (sb.2 _ (Nat.ne_of_gt hel)).trans hT
    have new : ObjOk X.prog X.w (upd H s.heap.objs.size (.tup [.int (i : Nat), x])) h'' s.heap.objs.size (.tup [.int (i : Nat), x]) :=
      ⟨by show 2 ≤ sizeLine; decide, [.int i tk, x'], .cons ⟨_, rfl⟩ (.cons ru .nil), ⟨_, hT2, rfl, _, rfl⟩⟩
    have I1 : Inv X pins σ (upd H s.heap.objs.size (.tup [.int (i : Nat), x])) { s with heap := h'', toks := tk + 1 } :=
      I.turnedNew (ch := [e, it]) (fun b ob hb q => (sb.2 b (fun z => hb (by simp [z]))).trans (hk b ob (fun z => hb (by simp [z])) (fun z => hb (by simp [z])) q)) hf (Nat.le_refl _) new
    refine ⟨.ref s.heap.objs.size, _, I1, rfl, ⟨_, x, rfl, I.hok.fresh (Nat.le_refl _), rfl, fun ys hy => by rw [I.tuple_inj hy hq]; exact hx⟩, ⟨⟨x', ?_⟩, hit'.1.at fun o q => (sb.2 it (Ne.symm hne)).trans q, hne⟩, fun b hb => ?_⟩
    · have e1 : ((i + 1 : Nat) : Int) = (i : Int) + 1 := by omega
      rw [e1]; exact he'
    · have hb' : b < s.heap.objs.size := by
        have e' : b = e ∨ b = it := by simpa using hb
        rcases e' with z | z
        · rw [z]; exact hel
        · rw [z]; exact hil
      rw [upd_ne (Nat.ne_of_lt hb')]
      exact (hf b hb).1
  done := by
    intro X hP hw hK hc i pins s σ H E I hf st hg
    subst hP hw hK
    obtain ⟨⟨old, he⟩, hit, hne⟩ := st
    obtain ⟨xs, hq, hx⟩ := hg
    obtain ⟨its, rv, p, hz⟩ := I.tuple hq
    obtain ⟨f0, f1, f2, f3, f4, f5⟩ := hf it (by simp)
    have hl := rv.length
    have hn : its.toArray.size = i := by rw [List.size_toArray]; omega
    exact wpAny_pyNext_enum_endD (n := its.toArray.size) (Draws.tuple (A := X.A.in1) (I.ok.hd hc) it a hai its.toArray) he ⟨by rw [hn]; exact hit, p⟩ fun h' eb => ⟨rfl, I.turned (t' := s.toks) (fun b o hb q => eb b o hb q) f0 f1 f3 f4 f5⟩
  self := fun A i s Q E st h => let ⟨⟨_, he⟩, _⟩ := st; wpAny_pyIter_enum he h
def iEnumT (K : PySem.W.Frag) (ta : TA) : TI := fun σ H R => ta σ H fun vs H1 => ∃ a xs, vs = [.ref a] ∧ SqT K H1 a xs ∧ R (IteT K a) H1
theorem pi_enumT {X : Cx} {e : Expr} {ta : TA} {p pos tpos : Pos} {elts : List Expr} {kk : Nat} (hg : Gl X "enumerate") (hm : X.mg "enumerate" = none) (ha : PA X [e] ta) (hs : starEach [e] X.env = [(false, eval e X.env)] := by rfl) :
    PI X (.Tuple elts kk tpos) (.Call (.Name "enumerate" p) [e] [] pos) (iEnumT X.K ta) := by
  refine ⟨fun pins s σ H R I h => ?_⟩
  refine Call_ (ld_blt I hg hm boot_enumerate (PyProof.Rows.callWith_type1 (thn (ha.run pos pins s σ H _ I h) fun us s1 ⟨vs, H1, I1, r1, q1⟩ => ?_) hs rfl))
  obtain ⟨a, xs, ex, hq, q⟩ := q1
  subst ex
  cases r1 with
  | cons r rr =>
    cases rr
    cases r
    obtain ⟨its, rv, p', hz⟩ := I1.tuple hq
    have hal : a < s1.heap.objs.size := p'.lt
    refine call_enumerate_tuple (show s1.heap.IsTuple a its.toArray from p') fun h' he hit hsz hk => wpAny_pyIter_enum he ?_
    have I2 : Inv X pins σ H1 { s1 with heap := h' } := I1.kept (t' := s1.toks) hk
    refine ⟨s1.heap.objs.size + 1, [s1.heap.objs.size + 1, s1.heap.objs.size], _, _, H1, rfl, I2, turn_enumT a (s1.heap.objs.size + 1) s1.heap.objs.size (Nat.ne_of_lt hal) (Nat.ne_of_gt (Nat.lt_succ_of_lt hal)), ⟨⟨.none, he⟩, hit, Nat.succ_ne_self _⟩, fun b hb => ?_, q⟩
    have e' : b = s1.heap.objs.size + 1 ∨ b = s1.heap.objs.size := by simpa using hb
    have hle : s1.heap.objs.size ≤ b := by
      rcases e' with z | z
      · rw [z]; exact Nat.le_add_right _ _
      · rw [z]; exact Nat.le_refl _
    exact I1.fpOk hle (I1.hok.fresh hle)
theorem walk_enumT {K : PySem.W.Frag} {a : Addr} {xs : List V} : Walk (IteT K a) xs.length (fun H => SqT K H a xs) (YPair (fun i => some (.int (i : Nat))) (fun i => xs[i]?)) := by
  refine ⟨fun i _ hi q => ⟨xs, xs[i], q, by simp [hi]⟩, fun _ q => ⟨xs, q, rfl⟩, fun i H v H' _ q y => ?_⟩
  obtain ⟨T, x, h1, h2, h3, h4⟩ := y
  exact ⟨T, .int (i : Nat), x, h1, h2, h3, rfl, h4 xs q⟩
end TallR

set_option Elab.async false
set_option linter.all false
set_option maxRecDepth 100000
set_option maxHeartbeats 4000000
namespace TallR
open PySem PySem.Spec PyProof.Rows L2

/-! ### t * 1 -/
theorem tuple_mul1 (l : Addr) (items : Array Value) (n : Nat) (sl : Array (Option Value)) (dd : Option Addr) (u : Tok) :
    Meets (Builtin.«tuple.__mul__» ⟨[.ref l, .int 1 u], []⟩) (fun _ R s => s.heap.get? l = some { cls := .type "tuple", dict := dd, data := .seq items n, slots := sl } ∧
      R (.ok (.ret (Value.ref l))) s) :=
  .of_wp fun prog w A R s h => by
    obtain ⟨hp, g, d, tk, os⟩ := s
    obtain ⟨hl, h⟩ := h
    have f1 := AutoSeq1.idx_int
    have c0 : (decide ((1 : Int) < -(2 ^ 63)) || decide ((1 : Int) ≥ 2 ^ 63)) = false := by decide
    have c1 : (items.isEmpty || (1 : Int) == 1) = true := by
      cases items.isEmpty <;> rfl
    wp_walk using AutoSeq1.wpAny_loadPart' hl
    repeat (first
      | (refine wpAny_ite_false (decide_eq_false (by rw [c0]; exact Bool.false_ne_true)) ?_; wp_walk using AutoSeq1.wpAny_loadPart' hl)
      | (refine wpAny_ite_true (decide_eq_true c1) ?_; wp_walk using AutoSeq1.wpAny_loadPart' hl))
    exact ⟨_, rfl, h⟩
def rRepT1 (K : PySem.W.Frag) : R2 := fun x y H Q => ∃ l xs, x = .ref l ∧ y = .int 1 ∧ SqT K H l xs ∧ Q (.ref l) H
theorem op_repT1 {X : Cx} : OpR X (binaryOp .Mult) (rRepT1 X.K) := by
  intro pins s σ H x y v u Q I rx ry h
  obtain ⟨l, xs, rfl, rfl, hT, q⟩ := h
  cases rx
  obtain ⟨t, rfl⟩ := ry
  obtain ⟨its, r, ⟨⟨cls, dd, data, sl⟩, ho, hc, n, hd⟩, hs⟩ := I.tuple hT
  simp only at hc hd
  subst hc hd
  refine wpAny_binaryOp_repeat_ref (T := "tuple") (U := "int") (by decide) ⟨_, ho, rfl⟩ (fun s' => typeIs_int s' 1 t) noFill_tuple_mul F.fills_int_mul F.slot_int_rmul repeat_tuple F.slot_int_index.lookup
    (call_meets F.slot_int_rmul (typeIs_int s 1 t) F.entry_int_rmul (F.args_int_rmul_2 _ _) (int_rmul_tuple 1 t l its.toArray n dd sl)
      ⟨ho, rfl, ⟨_, ho, rfl⟩, call_meets F.slot_tuple_mul ⟨_, ho, rfl⟩ F.entry_tuple_mul (F.args_tuple_mul_2 _ _) (tuple_mul1 l its.toArray n sl dd t) ⟨ho, ?_⟩⟩)
  exact ⟨.ref l, H, I, rfl, q⟩
end TallR

set_option Elab.async false
set_option linter.all false
set_option maxRecDepth 100000
set_option maxHeartbeats 4000000
namespace TallR
open PySem PySem.Spec PyProof.Rows L2
open Evl (Ex)

/-! ### data made of None, bools, ints and tuples, as it stands in the tracked heap -/
/-- the tuples of H stand in H' -/
def ExT (H H' : Hp) : Prop := ∀ b xs, H b = some (.tup xs) → H' b = some (.tup xs)
theorem ExT.refl (H : Hp) : ExT H H := fun _ _ h => h
theorem ExT.trans {H H1 H2 : Hp} (a : ExT H H1) (b : ExT H1 H2) : ExT H H2 := fun x o h => b x o (a x o h)
theorem _root_.Evl.Ex.t {H H' : Hp} (e : Ex H H') : ExT H H' := fun b xs h => e b _ h
theorem ExT.new {H : Hp} {p : Addr} {o : HO} (h : H p = none) : ExT H (upd H p o) := (Evl.Ex.new h).t
theorem ExT.write {H : Hp} {p : Addr} {u o : HO} (h : H p = some u) (nt : ∀ xs, u ≠ .tup xs) : ExT H (upd H p o) := fun b xs e => by
  rw [upd_ne (fun z => by rw [z, h] at e; exact nt xs (Option.some.inj e))]
  exact e
theorem ExT.lst {H : Hp} {p : Addr} {ys : List V} {o : HO} (h : H p = some (.lst ys)) : ExT H (upd H p o) := ExT.write h fun _ z => nomatch z
theorem ExT.dT {H : Hp} {p : Addr} {kvs : List (List Key × V)} {o : HO} (h : H p = some (.dT kvs)) : ExT H (upd H p o) := ExT.write h fun _ z => nomatch z

mutual
inductive Dt (H : Hp) : V → PyData → Prop
  | non : Dt H .non .none
  | bl (b : Bool) : Dt H (.bl b) (.bool b)
  | int (i : Int) : Dt H (.int i) (.int i)
  | tup {a : Addr} {xs : List V} {ds : List PyData} : H a = some (.tup xs) → DtAll H xs ds → Dt H (.ref a) (.tuple ds)
inductive DtAll (H : Hp) : List V → List PyData → Prop
  | nil : DtAll H [] []
  | cons {v : V} {vs : List V} {d : PyData} {ds : List PyData} : Dt H v d → DtAll H vs ds → DtAll H (v :: vs) (d :: ds)
end
mutual
theorem Dt.mono {H H' : Hp} (e : ExT H H') : ∀ (d : PyData) {v : V}, Dt H v d → Dt H' v d
  | .none, _, h => by cases h; exact .non
  | .bool _, _, h => by cases h; exact .bl _
  | .int _, _, h => by cases h; exact .int _
  | .tuple ds, _, h => by
    cases h with
    | tup h1 h2 => exact .tup (e _ _ h1) (DtAll.mono e ds h2)
  | .str _, _, h => nomatch h
  | .list _, _, h => nomatch h
  | .dict _, _, h => nomatch h
theorem DtAll.mono {H H' : Hp} (e : ExT H H') : ∀ (ds : List PyData) {vs : List V}, DtAll H vs ds → DtAll H' vs ds
  | [], _, h => by cases h; exact .nil
  | d :: ds, _, h => by
    cases h with
    | cons h1 h2 => exact .cons (Dt.mono e d h1) (DtAll.mono e ds h2)
end
mutual
theorem Dt.dp {K : PySem.W.Frag} {H : Hp} : ∀ (d : PyData) {v : V}, Dt H v d → Dp K H v d
  | .none, _, h => by cases h; exact .non
  | .bool _, _, h => by cases h; exact .bl _
  | .int _, _, h => by cases h; exact .int _
  | .tuple ds, _, h => by
    cases h with
    | tup h1 h2 => exact .tup (SqT.of h1) (DtAll.dp ds h2)
  | .str _, _, h => nomatch h
  | .list _, _, h => nomatch h
  | .dict _, _, h => nomatch h
theorem DtAll.dp {K : PySem.W.Frag} {H : Hp} : ∀ (ds : List PyData) {vs : List V}, DtAll H vs ds → DpAll K H vs ds
  | [], _, h => by cases h; exact .nil
  | d :: ds, _, h => by
    cases h with
    | cons h1 h2 => exact .cons (Dt.dp d h1) (DtAll.dp ds h2)
end
theorem DtAll.len {H : Hp} : ∀ {ds : List PyData} {vs : List V}, DtAll H vs ds → vs.length = ds.length
  | [], _, h => by cases h; rfl
  | d :: ds, _, h => by
    cases h with
    | cons h1 h2 => rw [List.length_cons, List.length_cons, DtAll.len h2]
theorem DtAll.get {H : Hp} : ∀ {ds : List PyData} {vs : List V} {i : Nat} {v : V}, DtAll H vs ds → vs[i]? = some v → ∃ d, ds[i]? = some d ∧ Dt H v d
  | [], _, i, _, h, e => by cases h; simp at e
  | d :: ds, _, 0, _, h, e => by
    cases h with
    | cons h1 h2 => simp at e; subst e; exact ⟨d, rfl, h1⟩
  | d :: ds, _, i + 1, v, h, e => by
    cases h with
    | cons h1 h2 =>
      obtain ⟨d', a, b⟩ := DtAll.get (i := i) (v := v) h2 (by simpa using e)
      exact ⟨d', by simpa using a, b⟩
theorem DtAll.at {H : Hp} : ∀ {ds : List PyData} {vs : List V} {i : Nat} {d : PyData}, DtAll H vs ds → ds[i]? = some d → ∃ v, vs[i]? = some v ∧ Dt H v d
  | [], _, i, _, h, e => by simp at e
  | d :: ds, _, 0, _, h, e => by
    cases h with
    | cons h1 h2 => simp at e; subst e; exact ⟨_, rfl, h1⟩
  | d :: ds, _, i + 1, d', h, e => by
    cases h with
    | cons h1 h2 =>
      obtain ⟨v, a, b⟩ := DtAll.at (i := i) (d := d') h2 (by simpa using e)
      exact ⟨v, by simpa using a, b⟩
theorem DtAll.snoc {H : Hp} : ∀ {ds : List PyData} {vs : List V} {v : V} {d : PyData}, DtAll H vs ds → Dt H v d → DtAll H (vs ++ [v]) (ds ++ [d])
  | [], _, _, _, h, e => by cases h; exact .cons e .nil
  | d :: ds, _, _, _, h, e => by
    cases h with
    | cons h1 h2 => exact .cons h1 (h2.snoc e)
theorem dt_ints {H : Hp} : ∀ ns : List Int, DtAll H (ns.map V.int) (ns.map PyData.int)
  | [] => .nil
  | n :: r => .cons (.int n) (dt_ints r)
theorem DtAll.ints {H : Hp} : ∀ {ns : List Int} {vs : List V}, DtAll H vs (ns.map PyData.int) → vs = ns.map V.int
  | [], _, h => by cases h; rfl
  | n :: ns, _, h => by
    cases h with
    | cons h1 h2 =>
      cases h1
      rw [DtAll.ints h2]
      rfl
theorem DtAll.bools {H : Hp} : ∀ {bs : List Bool} {vs : List V}, DtAll H vs (bs.map PyData.bool) → vs = bs.map V.bl
  | [], _, h => by cases h; rfl
  | n :: ns, _, h => by
    cases h with
    | cons h1 h2 =>
      cases h1
      rw [DtAll.bools h2]
      rfl
/-- a set of people -/
theorem Dt.set {H : Hp} {v : V} {s : List Int} (h : Dt H v (encS s)) : ∃ t, v = .ref t ∧ H t = some (.tup (s.map V.int)) := by
  cases h with
  | tup h1 h2 =>
    rw [DtAll.ints h2] at h1
    exact ⟨_, rfl, h1⟩
theorem Dt.ofSet {H : Hp} {t : Addr} {s : List Int} (h : H t = some (.tup (s.map V.int))) : Dt H (.ref t) (encS s) := .tup h (dt_ints s)
theorem DtAll.sets {H : Hp} : ∀ {bs : List (List Int)} {vs : List V}, DtAll H vs (bs.map encS) → ∃ ts : List Addr, vs = ts.map V.ref ∧ KeysAt H ts bs
  | [], _, h => by cases h; exact ⟨[], rfl, .nil⟩
  | n :: ns, _, h => by
    cases h with
    | cons h1 h2 =>
      obtain ⟨t, rfl, e⟩ := Dt.set h1
      obtain ⟨ts, rfl, k⟩ := DtAll.sets h2
      exact ⟨t :: ts, rfl, .cons e k⟩
theorem DtAll.ofKeys {H : Hp} : ∀ {bs : List (List Int)} {ts : List Addr}, KeysAt H ts bs → DtAll H (ts.map V.ref) (bs.map encS)
  | [], _, h => by cases h; exact .nil
  | n :: ns, _, h => by
    cases h with
    | cons h1 h2 => exact .cons (Dt.ofSet h1) (DtAll.ofKeys h2)

/-! ### what a reading evaluates to -/
def EvP (te : TE) (σ : L2.St) (H : Hp) (P : V → Hp → Prop) : Prop := ∀ H1, ExT H H1 → ∀ Q : VK, (∀ v H2, Ex H1 H2 → P v H2 → Q v H2) → te σ H1 Q
def EvD (te : TE) (σ : L2.St) (H : Hp) (d : PyData) : Prop := ∀ H1, ExT H H1 → ∀ Q : VK, (∀ v H2, Ex H1 H2 → Dt H2 v d → Q v H2) → te σ H1 Q
/-- a new list -/
def EvL (te : TE) (σ : L2.St) (H : Hp) (ds : List PyData) : Prop := ∀ H1, ExT H H1 → ∀ Q : VK, (∀ a xs H2, H1 a = none → Ex H1 H2 → H2 a = some (.lst xs) → DtAll H2 xs ds → Q (.ref a) H2) → te σ H1 Q
def EvT (t : TT) (σ : L2.St) (H : Hp) (b : Bool) : Prop := ∀ H1, ExT H H1 → ∀ Q : Bool → Hp → Prop, (∀ H2, Ex H1 H2 → Q b H2) → t σ H1 Q
def EvA (ta : TA) (σ : L2.St) (H : Hp) (ds : List PyData) : Prop := ∀ H1, ExT H H1 → ∀ Q : List V → Hp → Prop, (∀ vs H2, Ex H1 H2 → DtAll H2 vs ds → Q vs H2) → ta σ H1 Q
section
variable {K : PySem.W.Frag} {σ : L2.St} {H H' : Hp} {ta tb te tx tc : TE} {t u : TT} {r : R2} {d : PyData} {i j : Int} {a b : Bool}
theorem EvD.mono (e : ExT H H') (h : EvD te σ H d) : EvD te σ H' d := fun H1 a Q q => h H1 (e.trans a) Q q
theorem EvL.mono {ds : List PyData} (e : ExT H H') (h : EvL te σ H ds) : EvL te σ H' ds := fun H1 a Q q => h H1 (e.trans a) Q q
theorem EvT.mono (e : ExT H H') (h : EvT t σ H b) : EvT t σ H' b := fun H1 a Q q => h H1 (e.trans a) Q q
theorem EvT.is {a : Bool} (h : EvT t σ H a) (e : a = b) : EvT t σ H b := e ▸ h
theorem EvD.is {d' : PyData} (h : EvD te σ H d) (e : d = d') : EvD te σ H d' := e ▸ h
theorem d_var {k : Nat} {v : V} (h : σ[k]? = some (some v)) (hd : Dt H v d) : EvD (tVar k) σ H d := fun H1 e _ q => ⟨v, h, q v H1 (Evl.Ex.refl H1) (hd.mono e)⟩
theorem d_int : EvD (tC (.int i)) σ H (.int i) := fun H1 _ _ q => q _ H1 (Evl.Ex.refl H1) (.int i)
theorem d_bl : EvD (tC (.bl b)) σ H (.bool b) := fun H1 _ _ q => q _ H1 (Evl.Ex.refl H1) (.bl b)
theorem d_non : EvD (tC .non) σ H .none := fun H1 _ _ q => q _ H1 (Evl.Ex.refl H1) .non
theorem d_I0 {g : Int → Int → V} (ha : EvD ta σ H (.int i)) (hb : EvD tb σ H (.int j)) (hg : ∀ H', Dt H' (g i j) d) : EvD (tOp (rI0 g) ta tb) σ H d := fun H1 e Q q =>
  ha H1 e _ fun v H2 e2 hv => hb H2 (e.trans e2.t) _ fun w H3 e3 hw => by
    cases hv; cases hw
    exact ⟨i, j, rfl, rfl, q _ H3 (e2.trans e3) (hg H3)⟩
theorem d_I {C : Int → Int → Prop} {g : Int → Int → V} (ha : EvD ta σ H (.int i)) (hb : EvD tb σ H (.int j)) (hc : C i j) (hg : ∀ H', Dt H' (g i j) d) : EvD (tOp (rI C g) ta tb) σ H d := fun H1 e Q q =>
  ha H1 e _ fun v H2 e2 hv => hb H2 (e.trans e2.t) _ fun w H3 e3 hw => by
    cases hv; cases hw
    exact ⟨i, j, rfl, rfl, hc, q _ H3 (e2.trans e3) (hg H3)⟩
theorem d_add (ha : EvD ta σ H (.int i)) (hb : EvD tb σ H (.int j)) : EvD (tOp (rI0 fun i j => .int (i + j)) ta tb) σ H (.int (i + j)) := d_I0 ha hb fun _ => .int _
theorem d_sub (ha : EvD ta σ H (.int i)) (hb : EvD tb σ H (.int j)) : EvD (tOp (rI0 fun i j => .int (i - j)) ta tb) σ H (.int (i - j)) := d_I0 ha hb fun _ => .int _
theorem d_lt (ha : EvD ta σ H (.int i)) (hb : EvD tb σ H (.int j)) : EvD (tOp (rI0 fun i j => .bl (decide (i < j))) ta tb) σ H (.bool (decide (i < j))) := d_I0 ha hb fun _ => .bl _
theorem d_le (ha : EvD ta σ H (.int i)) (hb : EvD tb σ H (.int j)) : EvD (tOp (rI0 fun i j => .bl (decide (i ≤ j))) ta tb) σ H (.bool (decide (i ≤ j))) := d_I0 ha hb fun _ => .bl _
theorem d_gt (ha : EvD ta σ H (.int i)) (hb : EvD tb σ H (.int j)) : EvD (tOp (rI0 fun i j => .bl (decide (j < i))) ta tb) σ H (.bool (decide (j < i))) := d_I0 ha hb fun _ => .bl _
theorem d_ge (ha : EvD ta σ H (.int i)) (hb : EvD tb σ H (.int j)) : EvD (tOp (rI0 fun i j => .bl (decide (j ≤ i))) ta tb) σ H (.bool (decide (j ≤ i))) := d_I0 ha hb fun _ => .bl _
theorem d_mul (ha : EvD ta σ H (.int i)) (hb : EvD tb σ H (.int j)) (hc : CMul i j) : EvD (tOp (rI CMul fun i j => .int (i * j)) ta tb) σ H (.int (i * j)) := d_I ha hb hc fun _ => .int _
theorem d_fdiv (ha : EvD ta σ H (.int i)) (hb : EvD tb σ H (.int j)) (hc : CDiv i j) : EvD (tOp (rI CDiv fun i j => .int (i / j)) ta tb) σ H (.int (i / j)) := d_I ha hb hc fun _ => .int _
theorem d_mod (ha : EvD ta σ H (.int i)) (hb : EvD tb σ H (.int j)) (hc : 0 < j) : EvD (tOp (rI (fun _ j => 0 < j) fun i j => .int (i % j)) ta tb) σ H (.int (i % j)) := d_I ha hb hc fun _ => .int _
/-- == and != of two ints, of two bools -/
theorem d_eqI (ha : EvD ta σ H (.int i)) (hb : EvD tb σ H (.int j)) : EvD (tOp rEq ta tb) σ H (.bool (decide (i = j))) := fun H1 e Q q =>
  ha H1 e _ fun v H2 e2 hv => hb H2 (e.trans e2.t) _ fun w H3 e3 hw => by
    cases hv; cases hw
    refine ⟨rfl, q _ H3 (e2.trans e3) ?_⟩
    have : decide (V.int i = V.int j) = decide (i = j) := by
      by_cases h : i = j
      · rw [decide_eq_true h, decide_eq_true (by rw [h])]
      · rw [decide_eq_false h, decide_eq_false (fun z => h (V.int.inj z))]
    rw [this]
    exact .bl _
theorem d_neI (ha : EvD ta σ H (.int i)) (hb : EvD tb σ H (.int j)) : EvD (tOp rNe ta tb) σ H (.bool (!decide (i = j))) := fun H1 e Q q =>
  ha H1 e _ fun v H2 e2 hv => hb H2 (e.trans e2.t) _ fun w H3 e3 hw => by
    cases hv; cases hw
    refine ⟨rfl, q _ H3 (e2.trans e3) ?_⟩
    have : decide (V.int i = V.int j) = decide (i = j) := by
      by_cases h : i = j
      · rw [decide_eq_true h, decide_eq_true (by rw [h])]
      · rw [decide_eq_false h, decide_eq_false (fun z => h (V.int.inj z))]
    rw [this]
    exact .bl _
theorem d_eqB {x y : Bool} (ha : EvD ta σ H (.bool x)) (hb : EvD tb σ H (.bool y)) : EvD (tOp rEq ta tb) σ H (.bool (decide (x = y))) := fun H1 e Q q =>
  ha H1 e _ fun v H2 e2 hv => hb H2 (e.trans e2.t) _ fun w H3 e3 hw => by
    cases hv; cases hw
    refine ⟨rfl, q _ H3 (e2.trans e3) ?_⟩
    cases x <;> cases y <;> exact .bl _
theorem d_neB {x y : Bool} (ha : EvD ta σ H (.bool x)) (hb : EvD tb σ H (.bool y)) : EvD (tOp rNe ta tb) σ H (.bool (!decide (x = y))) := fun H1 e Q q =>
  ha H1 e _ fun v H2 e2 hv => hb H2 (e.trans e2.t) _ fun w H3 e3 hw => by
    cases hv; cases hw
    refine ⟨rfl, q _ H3 (e2.trans e3) ?_⟩
    cases x <;> cases y <;> exact .bl _
/-- == and != of tuples -/
theorem d_neD {e f : PyData} (ha : EvD ta σ H e) (hb : EvD tb σ H f) (se : SeqAt.shaped e = true) (sf : SeqAt.shaped f = true) : EvD (tOp (rNeD K) ta tb) σ H (.bool (!PyData.eqv e f)) := fun H1 x Q q =>
  ha H1 x _ fun v H2 e2 hv => hb H2 (x.trans e2.t) _ fun w H3 e3 hw => ⟨e, f, (hv.mono e3.t).dp, hw.dp, se, sf, q _ H3 (e2.trans e3) (.bl _)⟩
/-- p in s, p not in s -/
theorem inV_ints (p : Int) : ∀ s : List Int, inV (.int p) (s.map V.int) = s.contains p
  | [] => rfl
  | x :: s => by
    have ih := inV_ints p s
    unfold inV at ih ⊢
    rw [List.map_cons, List.any_cons, ih, List.contains_cons]
    congr 1
    show eqV (.int x) (.int p) = (p == x)
    have : eqV (.int x) (.int p) = (x == p) := by first | rfl | simp [eqV]
    rw [this, Bool.beq_comm]
theorem flat_ints : ∀ s : List Int, (s.map V.int).all flatV = true
  | [] => rfl
  | x :: s => by
    rw [List.map_cons, List.all_cons, flat_ints s]
    rfl
theorem d_in {s : List Int} (ha : EvD ta σ H (.int i)) (hb : EvD tb σ H (encS s)) : EvD (tOp (rIn K false) ta tb) σ H (.bool (s.contains i)) := fun H1 e Q q =>
  ha H1 e _ fun v H2 e2 hv => hb H2 (e.trans e2.t) _ fun w H3 e3 hw => by
    cases hv
    obtain ⟨tt, rfl, ht⟩ := hw.set
    refine ⟨tt, s.map V.int, rfl, .inr (SqT.of ht), rfl, flat_ints s, q _ H3 (e2.trans e3) ?_⟩
    rw [inV_ints]
    exact .bl _
theorem d_notIn {s : List Int} (ha : EvD ta σ H (.int i)) (hb : EvD tb σ H (encS s)) : EvD (tOp (rIn K true) ta tb) σ H (.bool (!s.contains i)) := fun H1 e Q q =>
  ha H1 e _ fun v H2 e2 hv => hb H2 (e.trans e2.t) _ fun w H3 e3 hw => by
    cases hv
    obtain ⟨tt, rfl, ht⟩ := hw.set
    refine ⟨tt, s.map V.int, rfl, .inr (SqT.of ht), rfl, flat_ints s, q _ H3 (e2.trans e3) ?_⟩
    rw [inV_ints]
    exact .bl _
/-- and, or, not as values -/
theorem d_and (ha : EvD ta σ H (.bool a)) (hb : a = true → EvD tb σ H (.bool b)) : EvD (tAndV ta tb) σ H (.bool (a && b)) := fun H1 e Q q => ha H1 e _ fun v H2 e2 hv => by
  cases hv
  refine ⟨a, rfl, ?_⟩
  cases a with
  | true =>
    show tb σ H2 Q
    exact hb rfl H2 (e.trans e2.t) Q fun w H3 e3 hw => q w H3 (e2.trans e3) hw
  | false =>
    show Q (.bl false) H2
    exact q _ H2 e2 (.bl false)
theorem d_or (ha : EvD ta σ H (.bool a)) (hb : a = false → EvD tb σ H (.bool b)) : EvD (tOrV ta tb) σ H (.bool (a || b)) := fun H1 e Q q => ha H1 e _ fun v H2 e2 hv => by
  cases hv
  refine ⟨a, rfl, ?_⟩
  cases a with
  | true =>
    show Q (.bl true) H2
    exact q _ H2 e2 (.bl true)
  | false =>
    show tb σ H2 Q
    exact hb rfl H2 (e.trans e2.t) Q fun w H3 e3 hw => q w H3 (e2.trans e3) hw
theorem d_not (ha : EvD ta σ H (.bool a)) : EvD (tNotV ta) σ H (.bool (!a)) := fun H1 e Q q => ha H1 e _ fun v H2 e2 hv => by
  cases hv
  exact ⟨a, rfl, q _ H2 e2 (.bl _)⟩
theorem d_if (h : EvT t σ H b) (h1 : b = true → EvD ta σ H d) (h2 : b = false → EvD tb σ H d) : EvD (tIf t ta tb) σ H d := fun H1 e Q q => h H1 e _ fun H2 e2 => by
  cases b with
  | true =>
    show ta σ H2 Q
    exact h1 rfl H2 (e.trans e2.t) Q fun w H3 e3 hw => q w H3 (e2.trans e3) hw
  | false =>
    show tb σ H2 Q
    exact h2 rfl H2 (e.trans e2.t) Q fun w H3 e3 hw => q w H3 (e2.trans e3) hw
/-- lo <= x <= hi -/
theorem d_chain {k : Int} (ha : EvD ta σ H (.int i)) (hb : EvD tb σ H (.int j)) (hc : EvD tc σ H (.int k)) :
    EvD (tChain (rI0 fun i j => .bl (decide (i ≤ j))) (rI0 fun i j => .bl (decide (i ≤ j))) ta tb tc) σ H (.bool (decide (i ≤ j) && decide (j ≤ k))) := fun H1 e Q q =>
  ha H1 e _ fun v H2 e2 hv => hb H2 (e.trans e2.t) _ fun w H3 e3 hw => by
    cases hv; cases hw
    refine ⟨i, j, rfl, rfl, decide (i ≤ j), rfl, ?_⟩
    cases hij : decide (i ≤ j) with
    | true =>
      rw [if_pos rfl]
      refine hc H3 ((e.trans e2.t).trans e3.t) _ fun x H4 e4 hx => ?_
      cases hx
      exact ⟨j, k, rfl, rfl, q _ H4 ((e2.trans e3).trans e4) (by rw [hij]; exact .bl _)⟩
    | false =>
      rw [if_neg Bool.false_ne_true]
      exact q _ H3 (e2.trans e3) (by rw [hij]; exact .bl _)
/-- tests -/
theorem t_B (h : EvD te σ H (.bool b)) : EvT (tB te) σ H b := fun H1 e Q q => h H1 e _ fun v H2 e2 hv => by
  cases hv
  exact ⟨b, rfl, q H2 e2⟩
theorem t_test (h : EvD te σ H (.bool b)) : EvT (tTest te) σ H b := fun H1 e Q q => h H1 e _ fun v H2 e2 hv => by
  cases hv
  exact ⟨b, rfl, q H2 e2⟩
theorem t_not (h : EvT t σ H a) : EvT (tNot t) σ H (!a) := fun H1 e _ q => h H1 e _ fun H2 e2 => q H2 e2
theorem t_and (h1 : EvT t σ H a) (h2 : a = true → EvT u σ H b) : EvT (tAnd t u) σ H (a && b) := fun H1 e Q q => h1 H1 e _ fun H2 e2 => by
  cases a with
  | true =>
    show u σ H2 Q
    exact h2 rfl H2 (e.trans e2.t) Q fun H3 e3 => q H3 (e2.trans e3)
  | false =>
    show Q false H2
    exact q H2 e2
theorem t_or (h1 : EvT t σ H a) (h2 : a = false → EvT u σ H b) : EvT (tOr t u) σ H (a || b) := fun H1 e Q q => h1 H1 e _ fun H2 e2 => by
  cases a with
  | true =>
    show Q true H2
    exact q H2 e2
  | false =>
    show u σ H2 Q
    exact h2 rfl H2 (e.trans e2.t) Q fun H3 e3 => q H3 (e2.trans e3)
theorem t_yes : EvT tYes σ H true := fun H1 _ _ q => q H1 (Evl.Ex.refl H1)
/-- arguments -/
theorem a_nil : EvA tNil σ H [] := fun H1 _ _ q => q [] H1 (Evl.Ex.refl H1) .nil
theorem a_cons {tr : TA} {ds : List PyData} (h : EvD ta σ H d) (hr : EvA tr σ H ds) : EvA (tCons ta tr) σ H (d :: ds) := fun H1 e _ q =>
  h H1 e _ fun v H2 e2 hv => hr H2 (e.trans e2.t) _ fun vs H3 e3 hvs => q _ H3 (e2.trans e3) (.cons (hv.mono e3.t) hvs)
/-- what a call by values gives -/
def CD (r : List V → Hp → VK → Prop) (ds : List PyData) (d : PyData) : Prop := ∀ vs H, DtAll H vs ds → ∀ Q : VK, (∀ v H2, Ex H H2 → Dt H2 v d → Q v H2) → r vs H Q
theorem d_cb {r : List V → Hp → VK → Prop} {ta : TA} {ds : List PyData} (h : EvA ta σ H ds) (hr : CD r ds d) : EvD (tCB r ta) σ H d := fun H1 e Q q =>
  h H1 e _ fun vs H2 e2 hvs => hr vs H2 hvs Q fun v H3 e3 hv => q v H3 (e2.trans e3) hv
/-- .. upon a list that was just made -/
def CL (r : List V → Hp → VK → Prop) (ds : List PyData) (d : PyData) : Prop := ∀ a xs H, H a = some (.lst xs) → DtAll H xs ds → ∀ Q : VK, (∀ v H2, Ex H H2 → Dt H2 v d → Q v H2) → r [.ref a] H Q
theorem d_cl {r : List V → Hp → VK → Prop} {ds : List PyData} (h : EvL ta σ H ds) (hr : CL r ds d) : EvD (tCB r (tCons ta tNil)) σ H d := fun H1 e Q q =>
  h H1 e _ fun a xs H2 _ e2 hl hd => hr a xs H2 hl hd Q fun v H3 e3 hv => q v H3 (e2.trans e3) hv
/-- .. a list from a list -/
def CLL (r : List V → Hp → VK → Prop) (ds ds' : List PyData) : Prop := ∀ a xs H, H a = some (.lst xs) → DtAll H xs ds → ∀ Q : VK, (∀ p ys H2, H p = none → Ex H H2 → H2 p = some (.lst ys) → DtAll H2 ys ds' → Q (.ref p) H2) → r [.ref a] H Q
theorem l_cl {r : List V → Hp → VK → Prop} {ds ds' : List PyData} (h : EvL ta σ H ds) (hr : CLL r ds ds') : EvL (tCB r (tCons ta tNil)) σ H ds' := fun H1 e Q q =>
  h H1 e _ fun a xs H2 _ e2 hl hd => hr a xs H2 hl hd Q fun p ys H3 hp e3 h3 hd3 => q p ys H3 (Evl.fresh_back e2 hp) (e2.trans e3) h3 hd3
/-- .. a list from data -/
def CDL (r : List V → Hp → VK → Prop) (ds ds' : List PyData) : Prop := ∀ vs H, DtAll H vs ds → ∀ Q : VK, (∀ p ys H2, H p = none → Ex H H2 → H2 p = some (.lst ys) → DtAll H2 ys ds' → Q (.ref p) H2) → r vs H Q
theorem l_cb {r : List V → Hp → VK → Prop} {ta : TA} {ds ds' : List PyData} (h : EvA ta σ H ds) (hr : CDL r ds ds') : EvL (tCB r ta) σ H ds' := fun H1 e Q q =>
  h H1 e _ fun vs H2 e2 hvs => hr vs H2 hvs Q fun p ys H3 hp e3 h3 hd3 => q p ys H3 (Evl.fresh_back e2 hp) (e2.trans e3) h3 hd3
/-- defs -/
def SD (sp : Sp) (ds : List PyData) (d : PyData) : Prop := ∀ vs H, DtAll H vs ds → ∀ Q : VK, (∀ v H2, Ex H H2 → Dt H2 v d → Q v H2) → ∀ E, sp vs H Q E
def SL (sp : Sp) (ds ds' : List PyData) : Prop := ∀ vs H, DtAll H vs ds → ∀ Q : VK, (∀ p ys H2, H p = none → Ex H H2 → H2 p = some (.lst ys) → DtAll H2 ys ds' → Q (.ref p) H2) → ∀ E, sp vs H Q E
theorem d_call {sp : Sp} {E : XK} {ta : TA} {ds : List PyData} (h : EvA ta σ H ds) (hs : SD sp ds d) : EvD (tCall sp [] E ta) σ H d := fun H1 e Q q =>
  h H1 e _ fun vs H2 e2 hvs => by
    rw [List.append_nil]
    exact hs vs H2 hvs Q (fun v H3 e3 hv => q v H3 (e2.trans e3) hv) E
theorem l_call {sp : Sp} {E : XK} {ta : TA} {ds ds' : List PyData} (h : EvA ta σ H ds) (hs : SL sp ds ds') : EvL (tCall sp [] E ta) σ H ds' := fun H1 e Q q =>
  h H1 e _ fun vs H2 e2 hvs => by
    rw [List.append_nil]
    exact hs vs H2 hvs Q (fun p ys H3 hp e3 h3 hd3 => q p ys H3 (Evl.fresh_back e2 hp) (e2.trans e3) h3 hd3) E
/-- a promise: data to data -/
def spR (R : List PyData → PyData → Prop) : Sp := fun vs H Q _ => ∃ ds d, DtAll H vs ds ∧ R ds d ∧ ∀ v H', Ex H H' → Dt H' v d → Q v H'
theorem sd_R {R : List PyData → PyData → Prop} {ds : List PyData} (h : R ds d) : SD (spR R) ds d := fun vs H hvs Q q _ => ⟨ds, d, hvs, h, q⟩
def spL (R : List PyData → List PyData → Prop) : Sp := fun vs H Q _ => ∃ ds ds', DtAll H vs ds ∧ R ds ds' ∧ ∀ p ys H', H p = none → Ex H H' → H' p = some (.lst ys) → DtAll H' ys ds' → Q (.ref p) H'
theorem sl_L {R : List PyData → List PyData → Prop} {ds ds' : List PyData} (h : R ds ds') : SL (spL R) ds ds' := fun vs H hvs Q q _ => ⟨ds, ds', hvs, h, q⟩
/-- displays -/
theorem d_tup {ta : TA} {ds : List PyData} (h : EvA ta σ H ds) (hl : ds.length ≤ 100000) : EvD (tTup ta) σ H (.tuple ds) := fun H1 e Q q =>
  h H1 e _ fun vs H2 e2 hvs => ⟨Evl.sz_of (by rw [hvs.len]; exact hl), fun p hp => q _ _ (e2.trans (Evl.Ex.new hp)) (.tup upd_same (hvs.mono (ExT.new hp)))⟩
theorem l_lst {ta : TA} {ds : List PyData} (h : EvA ta σ H ds) (hl : ds.length ≤ 100000) : EvL (tLst ta) σ H ds := fun H1 e Q q =>
  h H1 e _ fun vs H2 e2 hvs => ⟨Evl.sz_of (by rw [hvs.len]; exact hl), fun p hp => q p vs _ (Evl.fresh_back e2 hp) (e2.trans (Evl.Ex.new hp)) upd_same (hvs.mono (ExT.new hp))⟩
/-- t[i] -/
theorem d_ix {ds : List PyData} {n : Nat} (ha : EvD ta σ H (.tuple ds)) (hb : EvD tb σ H (.int i)) (hi : i = (n : Int)) (hn : ds[n]? = some d) : EvD (tOp (rIxT K) ta tb) σ H d := fun H1 e Q q =>
  ha H1 e _ fun v H2 e2 hv => hb H2 (e.trans e2.t) _ fun w H3 e3 hw => by
    cases hw
    cases hv.mono e3.t with
    | @tup a xs _ h1 h2 =>
      obtain ⟨x, hx, hdx⟩ := h2.at hn
      exact ⟨a, xs, i, x, rfl, rfl, SqT.of h1, at_of hi hx, q x H3 (e2.trans e3) hdx⟩

/-! ### statements -/
variable {D : Ends} {tu tw : TS} {g : TG}
theorem s_ret (h : EvD te σ H d) (k : ∀ v H1, Ex H H1 → Dt H1 v d → D.rt v H1) : tRet te D σ H := h H (ExT.refl H) _ k
theorem s_asg {i : Nat} (h : EvD te σ H d) (k : ∀ v H1, Ex H H1 → Dt H1 v d → D.nx (σ.set i (some v)) H1) : tAsg te (gName i) D σ H := h H (ExT.refl H) _ k
theorem s_asgL {i : Nat} {ds : List PyData} (h : EvL te σ H ds) (k : ∀ a xs H1, H a = none → Ex H H1 → H1 a = some (.lst xs) → DtAll H1 xs ds → D.nx (σ.set i (some (.ref a))) H1) : tAsg te (gName i) D σ H := h H (ExT.refl H) _ k
theorem s_drop (h : EvD te σ H d) (k : ∀ H1, Ex H H1 → D.nx σ H1) : tDrop te D σ H := h H (ExT.refl H) _ fun _ H1 e _ => k H1 e
theorem s_if (h : EvT t σ H b) (h1 : b = true → ∀ H1, Ex H H1 → tu D σ H1) (h2 : b = false → ∀ H1, Ex H H1 → tw D σ H1) : tIfS t tu tw D σ H := h H (ExT.refl H) _ fun H1 e => by
  cases b with
  | true =>
    show tu D σ H1
    exact h1 rfl H1 e
  | false =>
    show tw D σ H1
    exact h2 rfl H1 e
/-- a test that is false: the suite isn't reached -/
theorem s_not (h : EvT t σ H false) (k : ∀ H1, Ex H H1 → D.nx σ H1) : tIfS t tu tNext D σ H := s_if h (fun e => nomatch e) fun _ => k
theorem q_drop {tz : TS} (h : EvD te σ H d) (k : ∀ H1, Ex H H1 → tz D σ H1) : tSeq (tDrop te) tz D σ H := s_drop (D := { D with nx := tz D }) h k
theorem q_not {tz : TS} (h : EvT t σ H false) (k : ∀ H1, Ex H H1 → tz D σ H1) : tSeq (tIfS t tu tNext) tz D σ H := s_not (D := { D with nx := tz D }) h k
theorem q_asg {tz : TS} {i : Nat} (h : EvD te σ H d) (k : ∀ v H1, Ex H H1 → Dt H1 v d → tz D (σ.set i (some v)) H1) : tSeq (tAsg te (gName i)) tz D σ H := s_asg (D := { D with nx := tz D }) h k
theorem q_asgL {tz : TS} {i : Nat} {ds : List PyData} (h : EvL te σ H ds) (k : ∀ a xs H1, H a = none → Ex H H1 → H1 a = some (.lst xs) → DtAll H1 xs ds → tz D (σ.set i (some (.ref a))) H1) : tSeq (tAsg te (gName i)) tz D σ H := s_asgL (D := { D with nx := tz D }) h k
theorem q_if {tz : TS} (h : EvT t σ H b) (h1 : b = true → ∀ H1, Ex H H1 → tu { D with nx := tz D } σ H1) (h2 : b = false → ∀ H1, Ex H H1 → tw { D with nx := tz D } σ H1) : tSeq (tIfS t tu tw) tz D σ H := s_if (D := { D with nx := tz D }) h h1 h2

/-- .. where all that is tracked stands -/
def EvX (te : TE) (σ : L2.St) (H : Hp) (d : PyData) : Prop := ∀ H1, Ex H H1 → ∀ Q : VK, (∀ v H2, Ex H1 H2 → Dt H2 v d → Q v H2) → te σ H1 Q
theorem EvD.x (h : EvD te σ H d) : EvX te σ H d := fun H1 e Q q => h H1 e.t Q q
/-! ### comprehensions -/
/-- over anything that is walked: f tells which are taken, g what is made of them; base: the heap behind the iterable -/
theorem lc_gen {J : It} {n : Nat} {G : Hp → Prop} {Y : Nat → Hp → V → Hp → Prop} (w : Walk J n G Y) {α : Type} {xs : List α} (hn : xs.length = n) (hz : n ≤ 1000) (R : α → V → Hp → Prop) (base : Hp) {vs : List Nat} {Dl : Addr} {Qd : Hp → Prop}
    (hG : ∀ H', Ex base H' → G H') (hY : ∀ i H x H', Ex base H → i < n → Y i H x H' → Ex H H' ∧ ∃ a, xs[i]? = some a ∧ R a x H') (f : α → Bool) (gd : α → PyData) (hD : base Dl = none)
    (step : ∀ a x H', a ∈ xs → Ex base H' → R a x H' → ∀ Q : L2.St → Hp → Prop, (∀ σ2 H2, wipe σ2 vs = wipe σ vs → Ex H' H2 → EvT t σ2 H2 (f a) → (f a = true → EvX te σ2 H2 (gd a)) → Q σ2 H2) → g x (wipe σ vs) H' Q)
    (hd : ∀ acc H', Ex base H' → H' Dl = some (.lst acc) → DtAll H' acc ((xs.filter f).map gd) → Qd H') :
    ∃ W : Nat → Nat → Hp → Prop, (∃ m, W 0 m (upd base Dl (.lst []))) ∧ ∀ i m H, W i m H →
      (J.stop i H ∧ Qd H) ∨ (J.go i H ∧ ∃ Nx : Hp → Prop, (∀ H', Nx H' → ∃ m', m' < m ∧ W (i + 1) m' H') ∧ ∀ x H', J.yld i H x H' → g x (wipe σ vs) H' fun σ2 H2 => wipe σ2 vs = wipe σ vs ∧ t σ2 H2 fun b H3 =>
        if b = true then te σ2 H3 fun y H4 => ∃ acc, H4 Dl = some (.lst acc) ∧ acc.length < sizeLine ∧ Nx (upd H4 Dl (.lst (acc ++ [y]))) else Nx H3) := by
  refine lc_it w (fun i H' => Ex base H' ∧ ∃ acc, H' Dl = some (.lst acc) ∧ DtAll H' acc (((xs.take i).filter f).map gd)) ⟨Evl.Ex.new hD, [], upd_same, .nil⟩ (fun i H' _ p => hG H' p.1) (fun i x H1 H2 hi p y => ?_) (fun H' p => ?_)
  · obtain ⟨e1, acc, ha, hacc⟩ := p
    obtain ⟨e2, a, hxa, hR⟩ := hY i H1 x H2 e1 hi y
    have ham : a ∈ xs := List.mem_of_getElem? hxa
    have htake : xs.take (i + 1) = xs.take i ++ [a] := by rw [List.take_add_one, hxa]; rfl
    have hlen : acc.length < sizeLine := by
      rw [hacc.len, List.length_map]
      have h1 := List.length_filter_le f (xs.take i)
      have h2 := List.length_take_le i xs
      exact Evl.sz_lt (by omega)
    refine step a x H2 ham (e1.trans e2) hR _ fun σ2 H3 hw e3 hT hE => ⟨hw, hT H3 (ExT.refl H3) _ fun H4 e4 => ?_⟩
    cases hf : f a with
    | true =>
      show te σ2 H4 fun y H5 => _
      refine hE hf H4 e4 _ fun y H5 e5 hy => ⟨acc, e5 _ _ (e4 _ _ (e3 _ _ (e2 _ _ ha))), hlen, ?_⟩
      have eall : Ex H1 H5 := ((e2.trans e3).trans e4).trans e5
      have hDl : H5 Dl = some (.lst acc) := eall _ _ ha
      have eu : ExT H5 (upd H5 Dl (.lst (acc ++ [y]))) := ExT.lst hDl
      refine ⟨Evl.Ex.mut (e1.trans eall) hD, acc ++ [y], upd_same, ?_⟩
      rw [htake, List.filter_append, List.map_append, List.filter_cons, if_pos hf]
      exact ((hacc.mono eall.t).snoc hy).mono eu
    | false =>
      show _ ∧ _
      have eall : Ex H1 H4 := (e2.trans e3).trans e4
      refine ⟨e1.trans eall, acc, eall _ _ ha, ?_⟩
      rw [htake, List.filter_append, List.map_append, List.filter_cons, if_neg (by rw [hf]; exact Bool.false_ne_true)]
      show DtAll H4 acc (_ ++ [])
      rw [List.append_nil]
      exact hacc.mono eall.t
  · obtain ⟨e1, acc, ha, hacc⟩ := p
    rw [List.take_of_length_le (by omega)] at hacc
    exact hd acc H' e1 ha hacc
/-- over a tuple -/
theorem l_lcT {α : Type} {xs : List α} {enc : α → PyData} {tl : TE} {j : Nat} {vs : List Nat} (f : α → Bool) (gd : α → PyData) (h : EvD tl σ H (.tuple (xs.map enc))) (hz : xs.length ≤ 1000) (hw : ∀ x, wipe ((wipe σ vs).set j (some x)) vs = wipe σ vs)
    (ht : ∀ a v H1, a ∈ xs → ExT H H1 → Dt H1 v (enc a) → EvT t ((wipe σ vs).set j (some v)) H1 (f a)) (he : ∀ a v H1, a ∈ xs → ExT H H1 → Dt H1 v (enc a) → f a = true → EvD te ((wipe σ vs).set j (some v)) H1 (gd a)) :
    EvL (tLc (iTup K tl) (gName j) t te vs) σ H ((xs.filter f).map gd) := fun H0 e0 Q q => h H0 e0 _ fun v H1 e1 hv => by
  cases hv with
  | @tup a ys _ h1 h2 =>
    refine ⟨a, rfl, ⟨ys, SqT.of h1⟩, fun Dl hD => ?_⟩
    have hlen : xs.length = ys.length := by rw [h2.len, List.length_map]
    refine lc_gen (walk_tup (K := K) (a := a) (xs := ys)) hlen (by omega) (fun x w H' => Dt H' w (enc x)) H1 (fun H' x => SqT.of (x.t _ _ h1)) (fun i Hx w H' ex hi y => ?_) f gd hD (fun x w H' hx ex hR Q' q' => ?_) (fun acc H' ex ha hacc => ?_)
    · obtain ⟨rfl, hw'⟩ := y
      refine ⟨Evl.Ex.refl _, ?_⟩
      obtain ⟨d', hd1, hd2⟩ := h2.get hw'
      rw [List.getElem?_map] at hd1
      cases hxi : xs[i]? with
      | none => rw [hxi] at hd1; exact nomatch hd1
      | some x0 =>
        rw [hxi] at hd1
        have e2 : enc x0 = d' := Option.some.inj hd1
        exact ⟨x0, rfl, by rw [e2]; exact hd2.mono ex.t⟩
    · exact q' _ H' (hw w) (Evl.Ex.refl _) (ht x w H' hx (e0.trans (e1.trans ex).t) hR) (fun hf => (he x w H' hx (e0.trans (e1.trans ex).t) hR hf).x)
    · exact q Dl acc H' (Evl.fresh_back e1 hD) (e1.trans ex) ha hacc
/-- over range(n) -/
theorem l_lcR {ta : TA} {n : Nat} {j : Nat} {vs : List Nat} (f : Nat → Bool) (gd : Nat → PyData) (h : EvA ta σ H [.int n]) (hz : n ≤ 1000) (hw : ∀ x, wipe ((wipe σ vs).set j (some x)) vs = wipe σ vs)
    (ht : ∀ k H1, k < n → ExT H H1 → EvT t ((wipe σ vs).set j (some (.int (k : Nat)))) H1 (f k)) (he : ∀ k H1, k < n → ExT H H1 → f k = true → EvD te ((wipe σ vs).set j (some (.int (k : Nat)))) H1 (gd k)) :
    EvL (tLc (iRng1 ta) (gName j) t te vs) σ H (((List.range n).filter f).map gd) := fun H0 e0 Q q => h H0 e0 _ fun us H1 e1 hv => by
  cases hv with
  | cons h1 h2 =>
    cases h1
    cases h2
    refine ⟨(n : Int), rfl, by omega, by omega, fun Dl hD => ?_⟩
    rw [Int.toNat_natCast]
    refine lc_gen (xs := List.range n) (walk_range (lo := 0) (n := n)) List.length_range hz (fun x w H' => w = .int (x : Nat)) H1 (fun H' x => trivial) (fun i Hx w H' ex hi y => ?_) f gd hD (fun x w H' hx ex hR Q' q' => ?_) (fun acc H' ex ha hacc => ?_)
    · obtain ⟨rfl, rfl⟩ := y
      exact ⟨Evl.Ex.refl _, i, by rw [List.getElem?_range hi], by show V.int (0 + (i : Int)) = V.int i; rw [Int.zero_add]⟩
    · subst hR
      have hx' : x < n := List.mem_range.mp hx
      exact q' _ H' (hw _) (Evl.Ex.refl _) (ht x H' hx' (e0.trans (e1.trans ex).t)) (fun hf => (he x H' hx' (e0.trans (e1.trans ex).t) hf).x)
    · exact q Dl acc H' (Evl.fresh_back e1 hD) (e1.trans ex) ha hacc
end
/-! ### built-in calls -/
section
variable {K : PySem.W.Frag}
theorem cd_len {ds : List PyData} : CD (fun xs H Q => ∃ p ys, xs = [.ref p] ∧ (SqL K H p ys ∨ SqT K H p ys) ∧ Q (.int ys.length) H) [.tuple ds] (.int ds.length) := fun vs H hv Q q => by
  cases hv with
  | cons h1 h2 =>
    cases h2
    cases h1 with
    | @tup a xs _ ha hx => exact ⟨a, xs, rfl, .inr (SqT.of ha), q _ H (Evl.Ex.refl H) (by rw [hx.len]; exact .int _)⟩
theorem cl_len {ds : List PyData} : CL (fun xs H Q => ∃ p ys, xs = [.ref p] ∧ (SqL K H p ys ∨ SqT K H p ys) ∧ Q (.int ys.length) H) ds (.int ds.length) := fun a xs H ha hx Q q =>
  ⟨a, xs, rfl, .inl (SqL.of ha), q _ H (Evl.Ex.refl H) (by rw [hx.len]; exact .int _)⟩
theorem cl_all {bs : List Bool} : CL (rAll K) (bs.map PyData.bool) (.bool (bs.all id)) := fun a xs H ha hx Q q => by
  have e := hx.bools
  subst e
  exact ⟨a, bs, rfl, SqL.of ha, q _ H (Evl.Ex.refl H) (.bl _)⟩
theorem cl_any {bs : List Bool} : CL (rAny K) (bs.map PyData.bool) (.bool (bs.any id)) := fun a xs H ha hx Q q => by
  have e := hx.bools
  subst e
  exact ⟨a, bs, rfl, SqL.of ha, q _ H (Evl.Ex.refl H) (.bl _)⟩
theorem cl_tuple {ds : List PyData} : CL (fun xs H Q => ∃ p ys, xs = [.ref p] ∧ ((SqL K H p ys ∧ ∀ l, H l = none → Q (.ref l) (upd H l (.tup ys))) ∨ (SqT K H p ys ∧ Q (.ref p) H))) ds (.tuple ds) := fun a xs H ha hx Q q =>
  ⟨a, xs, rfl, .inl ⟨SqL.of ha, fun l hl => q _ _ (Evl.Ex.new hl) (.tup upd_same (hx.mono (ExT.new hl)))⟩⟩
end

/-! ### all, any over a tuple -/
section
variable {K : PySem.W.Frag} {σ : L2.St} {H : Hp} {te tl : TE}
theorem filter_yes {α : Type} (xs : List α) : xs.filter (fun _ => true) = xs := by
  induction xs with
  | nil => rfl
  | cons x r ih => rw [List.filter_cons, if_pos rfl, ih]
theorem d_allT {α : Type} {xs : List α} (enc : α → PyData) (gd : α → Bool) {j : Nat} {vs : List Nat} (h : EvD tl σ H (.tuple (xs.map enc))) (hz : xs.length ≤ 1000) (hw : ∀ x, wipe ((wipe σ vs).set j (some x)) vs = wipe σ vs)
    (he : ∀ a v H1, a ∈ xs → ExT H H1 → Dt H1 v (enc a) → EvD te ((wipe σ vs).set j (some v)) H1 (.bool (gd a))) :
    EvD (tCB (rAll K) (tCons (tLc (iTup K tl) (gName j) tYes te vs) tNil)) σ H (.bool (xs.all gd)) := by
  have e := l_lcT (K := K) (fun _ => true) (fun a => .bool (gd a)) h hz hw (fun _ _ _ _ _ _ => t_yes) fun a v H1 ha e1 h1 _ => he a v H1 ha e1 h1
  rw [filter_yes] at e
  have e2 : xs.map (fun a => PyData.bool (gd a)) = (xs.map gd).map PyData.bool := by rw [List.map_map]; rfl
  rw [e2] at e
  have e3 := d_cl e (cl_all (K := K))
  rw [List.all_map] at e3
  exact e3
theorem d_anyT {α : Type} {xs : List α} (enc : α → PyData) (gd : α → Bool) {j : Nat} {vs : List Nat} (h : EvD tl σ H (.tuple (xs.map enc))) (hz : xs.length ≤ 1000) (hw : ∀ x, wipe ((wipe σ vs).set j (some x)) vs = wipe σ vs)
    (he : ∀ a v H1, a ∈ xs → ExT H H1 → Dt H1 v (enc a) → EvD te ((wipe σ vs).set j (some v)) H1 (.bool (gd a))) :
    EvD (tCB (rAny K) (tCons (tLc (iTup K tl) (gName j) tYes te vs) tNil)) σ H (.bool (xs.any gd)) := by
  have e := l_lcT (K := K) (fun _ => true) (fun a => .bool (gd a)) h hz hw (fun _ _ _ _ _ _ => t_yes) fun a v H1 ha e1 h1 _ => he a v H1 ha e1 h1
  rw [filter_yes] at e
  have e2 : xs.map (fun a => PyData.bool (gd a)) = (xs.map gd).map PyData.bool := by rw [List.map_map]; rfl
  rw [e2] at e
  have e3 := d_cl e (cl_any (K := K))
  rw [List.any_map] at e3
  exact e3
end
end TallR

/-! The plain law: what the program computes, as total functions over lists of ints. -/
namespace Tall
abbrev Pset := List Int
abbrev Web := List (List Int)
abbrev Found := List (Pset × Int)

def nb (web : Web) (p : Int) : List Int := web.getD p.toNat []
def callIn (web : Web) (st : Pset) (p : Int) : Pset :=
  if st.contains p then st.filter (fun o => decide (p ≤ o) || !(nb web p).contains o) else st
def hits (web : Web) (st : Pset) (p : Int) : Bool := (nb web p).any fun o => decide (o < p) && st.contains o
def moversIn (web : Web) (st : Pset) : List Int := st.filter (hits web st)
def keyed (found : Found) (s : Pset) : Bool := found.any fun kv => decide (kv.1 = s)
def visit (web : Web) (many : Int) (here : Pset) (acc : Found × List Pset) (p : Int) : Found × List Pset :=
  if keyed acc.1 (callIn web here p) then acc else (acc.1 ++ [(callIn web here p, many)], acc.2 ++ [callIn web here p])
def visits (web : Web) (many : Int) (acc : Found × List Pset) (here : Pset) : Found × List Pset :=
  (moversIn web here).foldl (visit web many here) acc
def bfs (web : Web) : Nat → Found → List Pset → Int → Option Found
  | 0, _, _, _ => none
  | k + 1, found, last, many => match last with
    | [] => some found
    | _ :: _ => bfs web k (last.foldl (visits web (many + 1)) (found, [])).1 (last.foldl (visits web (many + 1)) (found, [])).2 (many + 1)
def reach (web : Web) (st : Pset) : Option Found := bfs web 9 [(st, 0)] [st] 0

/-- an ascending set of people out of n -/
def SetOk (n : Nat) (s : List Int) : Prop := s.Pairwise (· < ·) ∧ (∀ x ∈ s, 0 ≤ x ∧ x ≤ (n : Int) - 1) ∧ s.length ≤ n ∧ n ≤ 60
instance (n : Nat) (s : List Int) : Decidable (SetOk n s) := by unfold SetOk; infer_instance
def RowOk (web : Web) (i : Nat) (row : List Int) : Prop := SetOk web.length row ∧ (row.length : Int) ≤ (web.length : Int) - 1 ∧ row.contains (i : Int) = false ∧ ∀ o ∈ row, (nb web o).contains (i : Int) = true
instance (web : Web) (i : Nat) (row : List Int) : Decidable (RowOk web i row) := by unfold RowOk; infer_instance
def WebOk (web : Web) : Prop := 1 ≤ web.length ∧ web.length ≤ 7 ∧ ∀ i, i < web.length → RowOk web i (nb web i)
instance (web : Web) : Decidable (WebOk web) := by unfold WebOk; infer_instance

def begin (m : Nat) : Pset := (List.range m).map Int.ofNat
def table (m : Nat) : Web := (begin m).map fun p => (begin m).filter fun o => decide (o ≠ p)
def stairs (m : Nat) : Web := (begin m).map fun p => (begin m).filter fun o => decide (o = p + 1) || decide (p = o + 1)
def star (m : Nat) : Web := (begin m).map fun p => (begin m).filter fun o => (decide (o = (m : Int) - 1) || decide (p = (m : Int) - 1)) && decide (o ≠ p)

theorem webs_ok : ∀ m, m < 6 → 2 ≤ m → WebOk (table m) ∧ WebOk (stairs m) ∧ WebOk (star m) ∧ SetOk m (begin m) := by decide +kernel
theorem asc_unique : ∀ {a b : List Int}, a.Pairwise (· < ·) → b.Pairwise (· < ·) → (∀ k, k ∈ a ↔ k ∈ b) → a = b
  | [], [], _, _, _ => rfl
  | [], y :: b, _, _, h => absurd ((h y).mpr List.mem_cons_self) List.not_mem_nil
  | x :: a, [], _, _, h => absurd ((h x).mp List.mem_cons_self) List.not_mem_nil
  | x :: a, y :: b, ha, hb, h => by
    obtain ⟨h1, h2⟩ := List.pairwise_cons.mp ha
    obtain ⟨h3, h4⟩ := List.pairwise_cons.mp hb
    have e : x = y := by
      rcases List.mem_cons.mp ((h x).mp List.mem_cons_self) with e | e
      · exact e
      · rcases List.mem_cons.mp ((h y).mpr List.mem_cons_self) with e' | e'
        · exact e'.symm
        · have a1 := h3 x e
          have a2 := h1 y e'
          omega
    subst e
    have ht : a = b := asc_unique h2 h4 fun k => by
      constructor
      · intro hk
        rcases List.mem_cons.mp ((h k).mp (List.mem_cons_of_mem _ hk)) with e | e
        · have := h1 k hk
          omega
        · exact e
      · intro hk
        rcases List.mem_cons.mp ((h k).mpr (List.mem_cons_of_mem _ hk)) with e | e
        · have := h3 k hk
          omega
        · exact e
    rw [ht]
end Tall

set_option Elab.async false
set_option linter.all false
set_option maxRecDepth 100000
set_option maxHeartbeats 4000000
namespace TallR
open PySem PySem.Spec PyProof.Rows L2
open Evl (Ex)
/-! ### the text -/
def topS (i : Nat) : Stmt := PySem.Challenge.pw_tallsits_k84_whole_plans_on_known_webs.main.body.getD i (.Pass ⟨0, 0, 0, 0⟩)
abbrev sIsInteger : Stmt := topS 1
abbrev sIsIn : Stmt := topS 2
abbrev sIsList : Stmt := topS 3
theorem scIsInteger : FnScope ["value"] ["value"] (defScope sIsInteger) := ⟨rfl, rfl, rfl, by decide +kernel, rfl, by decide +kernel, by decide +kernel⟩
theorem scIsIn : FnScope ["value", "least", "most"] ["value", "least", "most"] (defScope sIsIn) := ⟨rfl, rfl, rfl, by decide +kernel, rfl, by decide +kernel, by decide +kernel⟩
theorem scIsList : FnScope ["value", "least", "most"] ["value", "least", "most"] (defScope sIsList) := ⟨rfl, rfl, rfl, by decide +kernel, rfl, by decide +kernel, by decide +kernel⟩
/-! ### isinstance -/
theorem d_isiI {K : PySem.W.Frag} {σ : L2.St} {H : Hp} {ta : TE} {i : Int} {T : String} {b : Bool} (ha : EvD ta σ H (.int i)) (hk : kitB "int" T = some b) : EvD (tCB (rIsi K) (tCons ta (tCons (tC (.ty T)) tNil))) σ H (.bool b) := fun H1 e Q q =>
  ha H1 e _ fun v H2 e2 hv => by
    cases hv
    exact ⟨.int i, .ty T, .type "int", .type T, b, rfl, .ty T, .base (.int i), kit_ty hk, q _ H2 e2 (.bl _)⟩
theorem d_isiT {K : PySem.W.Frag} {σ : L2.St} {H : Hp} {ta : TE} {ds : List PyData} {T : String} {b : Bool} (ha : EvD ta σ H (.tuple ds)) (hk : kitB "tuple" T = some b) : EvD (tCB (rIsi K) (tCons ta (tCons (tC (.ty T)) tNil))) σ H (.bool b) := fun H1 e Q q =>
  ha H1 e _ fun v H2 e2 hv => by
    cases hv with
    | @tup a xs _ h1 h2 => exact ⟨.ref a, .ty T, .type "tuple", .type T, b, rfl, .ty T, .base (.tup h1), kit_ty hk, q _ H2 e2 (.bl _)⟩
/-- the arguments of a def, by their data -/
theorem DtAll.one {H : Hp} {vs : List V} {d : PyData} (h : DtAll H vs [d]) : ∃ v, vs = [v] ∧ Dt H v d := by
  cases h with
  | cons h1 h2 => cases h2; exact ⟨_, rfl, h1⟩
theorem DtAll.two {H : Hp} {vs : List V} {d e : PyData} (h : DtAll H vs [d, e]) : ∃ v u, vs = [v, u] ∧ Dt H v d ∧ Dt H u e := by
  cases h with
  | cons h1 h2 =>
    obtain ⟨u, rfl, h3⟩ := h2.one
    exact ⟨_, u, rfl, h1, h3⟩
theorem DtAll.three {H : Hp} {vs : List V} {d e f : PyData} (h : DtAll H vs [d, e, f]) : ∃ v u w, vs = [v, u, w] ∧ Dt H v d ∧ Dt H u e ∧ Dt H w f := by
  cases h with
  | cons h1 h2 =>
    obtain ⟨u, w, rfl, h3, h4⟩ := h2.two
    exact ⟨_, u, w, rfl, h1, h3, h4⟩
theorem DtAll.four {H : Hp} {vs : List V} {d e f g : PyData} (h : DtAll H vs [d, e, f, g]) : ∃ v u w x, vs = [v, u, w, x] ∧ Dt H v d ∧ Dt H u e ∧ Dt H w f ∧ Dt H x g := by
  cases h with
  | cons h1 h2 =>
    obtain ⟨u, w, x, rfl, h3, h4, h5⟩ := h2.three
    exact ⟨_, u, w, x, rfl, h1, h3, h4, h5⟩
theorem spR_len {R : List PyData → PyData → Prop} {n : Nat} (h : ∀ ds d, R ds d → ds.length = n) : ∀ vs H Q E, spR R vs H Q E → vs.length = n := fun vs H Q E ⟨ds, d, hv, hr, _⟩ => by rw [hv.len, h ds d hr]
/-! ### rules with the written part named -/
section
variable {X : Cx} (K : PySem.W.Frag)
theorem kIxT (h : X.K = K := by rfl) : IxR X (rIxT K) := by subst h; exact ix_tup
theorem kIn (h : X.K = K := by rfl) : OpR X (compareOp .In) (rIn K false) := by subst h; exact op_in_seq
theorem kNotIn (h : X.K = K := by rfl) : OpR X (compareOp .NotIn) (rIn K true) := by subst h; exact op_notIn_seq
theorem kAll (hc : X.calm = true := by rfl) (h : X.K = K := by rfl) : CallR X (.builtin "all") (rAll K) := by subst h; exact cr_all hc
theorem kAny (hc : X.calm = true := by rfl) (h : X.K = K := by rfl) : CallR X (.builtin "any") (rAny K) := by subst h; exact cr_any hc
theorem kLen (h : X.K = K := by rfl) : CallR X (.builtin "len") (fun xs H Q => ∃ p ys, xs = [.ref p] ∧ (SqL K H p ys ∨ SqT K H p ys) ∧ Q (.int ys.length) H) := by subst h; exact call_len_seq
theorem kTuple (h : X.K = K := by rfl) : CallR X (.type "tuple") (fun xs H Q => ∃ p ys, xs = [.ref p] ∧ ((SqL K H p ys ∧ ∀ l, H l = none → Q (.ref l) (upd H l (.tup ys))) ∨ (SqT K H p ys ∧ Q (.ref p) H))) := by subst h; exact call_tuple_of
theorem kList (h : X.K = K := by rfl) : CallR X (.type "list") (fun xs H Q => ∃ p ys, xs = [.ref p] ∧ (SqL K H p ys ∨ SqT K H p ys) ∧ ∀ l, H l = none → Q (.ref l) (upd H l (.lst ys))) := by subst h; exact call_list_of
theorem kSorted (h : X.K = K := by rfl) : CallR X (.builtin "sorted") (rSorted K) := by subst h; exact cr_sorted
theorem kPiT {tg l : Expr} {tl : TE} (hl : PE X l tl) (h : X.K = K := by rfl) : PI X tg l (iTup K tl) := by subst h; exact pi_tup hl
theorem kPiL {tg l : Expr} {tl : TE} (hl : PE X l tl) (h : X.K = K := by rfl) : PI X tg l (iList K tl) := by subst h; exact pi_list hl
end
/-- the built-ins that the text uses are still the built-ins -/
structure Bl (mg : Str → Option Value) : Prop where
  isi : mg "isinstance" = none
  int : mg "int" = none
  bool : mg "bool" = none
  tup : mg "tuple" = none
  len : mg "len" = none
  all : mg "all" = none
  any : mg "any" = none
  list : mg "list" = none
  sorted : mg "sorted" = none
  set : mg "set" = none
  enum : mg "enumerate" = none
  range : mg "range" = none
  max : mg "max" = none
  min : mg "min" = none
  sum : mg "sum" = none
/-- a def with its promise, and how it is called -/
structure Ok (P : Program) (w : World) (K : PySem.W.Frag) (mg : Str → Option Value) (base : Heap) (k : Nat) (x : Str) (ps : List Str) (sp : Sp) : Prop where
  ok : ∃ f fd, Binds K fd ps [] ∧ mg x = some (.ref f) ∧ PySem.W.keepIn K (.ref f) = true ∧ FnOk P w K mg base CX0 k f fd ps sp
theorem Ok.mono {P : Program} {w : World} {K : PySem.W.Frag} {mg : Str → Option Value} {base : Heap} {j k : Nat} {x : Str} {ps : List Str} {sp : Sp} (h : Ok P w K mg base j x ps sp) (hk : j ≤ k) : Ok P w K mg base k x ps sp :=
  let ⟨f, fd, b, g, kp, o⟩ := h.ok
  ⟨f, fd, b, g, kp, o.mono hk⟩
theorem pe_do {X : Cx} {k : Nat} {x : Str} {ps : List Str} {sp : Sp} {e : Expr} {es : List Expr} {t : TA} {p pos : Pos} (G : Ok X.prog X.w X.K X.mg X.base k x ps sp) (hr : Room k X.A) (hg : Gl X x) (ha : PA X (e :: es) t) (hdb : (x == ("__debug__" : Str)) = false := by decide)
    (he : starEach (e :: es) X.env = (false, eval e X.env) :: starEach es X.env := by rfl) (hpl : (backTo pos (starEach es X.env)).any (·.1) = false := by rfl) : PE X (.Call (.Name x p) (e :: es) [] pos) (tCall sp [] E0 t) := by
  obtain ⟨f, fd, b, g, kp, o⟩ := G.ok
  exact pe_call o hr hg g kp b .nil pass0 ha hdb he hpl
section
variable {P : Program} {w : World} {K : PySem.W.Frag} {mg : Str → Option Value} {base : Heap}
/-! ### is_integer, is_in, is_list -/
def RIsInteger : List PyData → PyData → Prop := fun ds d => ∃ i, ds = [.int i] ∧ d = .bool true
theorem ok_isInteger {f : Addr} {fd : FuncData} {k : Nat} (F : Fun K "is_integer" "is_integer" sIsInteger f fd) (B : Bl mg) : FnOk P w K mg base CX0 (k + 1) f fd ["value"] (spR RIsInteger) := by
  refine F.ok scIsInteger (spR_len fun ds d ⟨i, h, _⟩ => by rw [h]; rfl) (fun cdv A outer s H vs Q E hr h => ?_)
  obtain ⟨ds, d, hv, ⟨i, rfl, rfl⟩, q⟩ := h
  obtain ⟨v, rfl, h1⟩ := hv.one
  refine ⟨_, pss_one (ps_ret (pe_and (pe_callB call_isi (by rfl) B.isi (by decide +kernel) (pa_cons (pv 0) (pa_cons (pe_bltn (v := .ty "int") (by rfl) B.int (by decide +kernel) rfl) pa_nil)))
    (pe_one (pe_not (pe_callB call_isi (by rfl) B.isi (by decide +kernel) (pa_cons (pv 0) (pa_cons (pe_bltn (v := .ty "bool") (by rfl) B.bool (by decide +kernel) rfl) pa_nil))))))), ?_⟩
  exact s_ret (d_and (d_isiI (b := true) (d_var rfl h1) (by decide +kernel)) fun _ => d_not (d_isiI (b := false) (d_var rfl h1) (by decide +kernel))) q
def RIsIn : List PyData → PyData → Prop := fun ds d => ∃ v lo hi, ds = [.int v, .int lo, .int hi] ∧ d = .bool (decide (lo ≤ v) && decide (v ≤ hi))
theorem ok_isIn {f : Addr} {fd : FuncData} {k : Nat} (F : Fun K "is_in" "is_in" sIsIn f fd) (G1 : Ok P w K mg base k "is_integer" ["value"] (spR RIsInteger)) : FnOk P w K mg base CX0 (k + 1) f fd ["value", "least", "most"] (spR RIsIn) := by
  refine F.ok scIsIn (spR_len fun ds d ⟨v, lo, hi, h, _⟩ => by rw [h]; rfl) (fun cdv A outer s H vs Q E hr h => ?_)
  obtain ⟨ds, d, hv, ⟨x, lo, hi, rfl, rfl⟩, q⟩ := h
  obtain ⟨v, u, t, rfl, h1, h2, h3⟩ := hv.three
  refine ⟨_, pss_one (ps_ret (pe_and (pe_do G1 hr (by rfl) (pa_cons (pv 0) pa_nil)) (pe_one (pe_chain op_le op_le (pv 1) (pv 0) (pv 2))))), ?_⟩
  exact s_ret (d_and (d_call (a_cons (d_var rfl h1) a_nil) (sd_R ⟨x, rfl, rfl⟩)) fun _ => d_chain (d_var rfl h2) (d_var rfl h1) (d_var rfl h3)) q
def RIsList : List PyData → PyData → Prop := fun ds d => ∃ xs lo hi, ds = [.tuple xs, .int lo, .int hi] ∧ d = .bool (decide (lo ≤ (xs.length : Int)) && decide ((xs.length : Int) ≤ hi))
theorem ok_isList {f : Addr} {fd : FuncData} {k : Nat} (F : Fun K "is_list" "is_list" sIsList f fd) (B : Bl mg) : FnOk P w K mg base CX0 (k + 1) f fd ["value", "least", "most"] (spR RIsList) := by
  refine F.ok scIsList (spR_len fun ds d ⟨v, lo, hi, h, _⟩ => by rw [h]; rfl) (fun cdv A outer s H vs Q E hr h => ?_)
  obtain ⟨ds, d, hv, ⟨x, lo, hi, rfl, rfl⟩, q⟩ := h
  obtain ⟨v, u, t, rfl, h1, h2, h3⟩ := hv.three
  refine ⟨_, pss_one (ps_ret (pe_and (pe_callB call_isi (by rfl) B.isi (by decide +kernel) (pa_cons (pv 0) (pa_cons (pe_bltn (v := .ty "tuple") (by rfl) B.tup (by decide +kernel) rfl) pa_nil)))
    (pe_one (pe_chain op_le op_le (pv 1) (pe_callB call_len_seq (by rfl) B.len PySem.boot_len (pa_cons (pv 0) pa_nil)) (pv 2))))), ?_⟩
  exact s_ret (d_and (d_isiT (b := true) (d_var rfl h1) (by decide +kernel)) fun _ => d_chain (d_var rfl h2) (d_cb (a_cons (d_var rfl h1) a_nil) cd_len) (d_var rfl h3)) q
end
end TallR

set_option Elab.async false
set_option linter.all false
set_option maxRecDepth 100000
set_option maxHeartbeats 4000000
namespace TallR
open PySem PySem.Spec PyProof.Rows L2
open Evl (Ex)
open Tall
/-! ### sets of people -/
theorem canLay_ints : ∀ s : List Int, PyData.canLayAll0 (s.map PyData.int) = true
  | [] => by simp [PyData.canLayAll0]
  | x :: s => by
    show PyData.canLayAll0 (PyData.int x :: s.map PyData.int) = true
    rw [PyData.canLayAll0, canLay_ints s]
    simp [PyData.canLay0]
theorem shaped_setL (s : List Int) : SeqAt.shaped (.list (s.map PyData.int)) = true := by
  unfold SeqAt.shaped
  have h1 : PyData.canLay0 (.list (s.map PyData.int)) = true := by rw [PyData.canLay0]; exact canLay_ints s
  have h2 : PyData.depth (.list (s.map PyData.int)) ≤ 64 := by simp [PyData.depth, PySem.W.depth_ints]
  rw [h1, decide_eq_true h2]
  rfl
theorem shaped_set (s : List Int) : SeqAt.shaped (encS s) = true := by
  unfold SeqAt.shaped
  have h1 : PyData.canLay0 (encS s) = true := by rw [PyData.canLay0]; exact canLay_ints s
  have h2 : PyData.depth (encS s) ≤ 64 := by simp [PyData.depth, PySem.W.depth_ints]
  rw [h1, decide_eq_true h2]
  rfl
theorem eqv_shaped {d : PyData} (h : SeqAt.shaped d = true) : PyData.eqv d d = true := PySem.SeqAt.eqv_refl d (SeqAt.canLay_of_shaped h)
theorem DtAll.dpl {K : PySem.W.Frag} {H : Hp} {a : Addr} {xs : List V} {ds : List PyData} (h : H a = some (.lst xs)) (hx : DtAll H xs ds) : Dp K H (.ref a) (.list ds) := .lst (SqL.of h) (DtAll.dp ds hx)
section
variable {K : PySem.W.Frag} {σ : L2.St} {H : Hp} {ta tb : TE}
/-- == of two lists -/
theorem d_eqLL {ds es : List PyData} (ha : EvL ta σ H ds) (hb : EvL tb σ H es) (sd : SeqAt.shaped (.list ds) = true) (se : SeqAt.shaped (.list es) = true) : EvD (tOp (rEqD K) ta tb) σ H (.bool (PyData.eqv (.list ds) (.list es))) := fun H1 x Q q =>
  ha H1 x _ fun a xs H2 _ e2 h2 hx => hb H2 (x.trans e2.t) _ fun b ys H3 _ e3 h3 hy => ⟨.list ds, .list es, DtAll.dpl (e3 _ _ h2) (hx.mono e3.t), DtAll.dpl h3 hy, sd, se, q _ H3 (e2.trans e3) (.bl _)⟩
theorem d_neLL {ds es : List PyData} (ha : EvL ta σ H ds) (hb : EvL tb σ H es) (sd : SeqAt.shaped (.list ds) = true) (se : SeqAt.shaped (.list es) = true) : EvD (tOp (rNeD K) ta tb) σ H (.bool (!PyData.eqv (.list ds) (.list es))) := fun H1 x Q q =>
  ha H1 x _ fun a xs H2 _ e2 h2 hx => hb H2 (x.trans e2.t) _ fun b ys H3 _ e3 h3 hy => ⟨.list ds, .list es, DtAll.dpl (e3 _ _ h2) (hx.mono e3.t), DtAll.dpl h3 hy, sd, se, q _ H3 (e2.trans e3) (.bl _)⟩
theorem cdl_list {ds : List PyData} : CDL (fun xs H Q => ∃ p ys, xs = [.ref p] ∧ (SqL K H p ys ∨ SqT K H p ys) ∧ ∀ l, H l = none → Q (.ref l) (upd H l (.lst ys))) [.tuple ds] ds := fun vs H hv Q q => by
  obtain ⟨v, rfl, h1⟩ := hv.one
  cases h1 with
  | @tup a xs _ ha hx => exact ⟨a, xs, rfl, .inr (SqT.of ha), fun l hl => q l xs _ hl (Evl.Ex.new hl) upd_same (hx.mono (ExT.new hl))⟩
/-- sorted(set(t)), t ascending -/
theorem l_sortSet {w : World} {s : List Int} {n : Nat} (ha : EvD ta σ H (encS s)) (hs : SetOk n s) : EvL (tCB (rSortedSet w) (tCons (tCB (rSetTup K w) (tCons ta tNil)) tNil)) σ H (s.map PyData.int) := fun H1 e Q q =>
  ha H1 e _ fun v H2 e2 hv => by
    obtain ⟨t, rfl, ht⟩ := hv.set
    have hl : s.length ≤ 60 := Nat.le_trans hs.2.2.1 hs.2.2.2
    refine ⟨t, s, rfl, SqT.of ht, hl, fun p c hp hc => ⟨p, _, c, rfl, upd_same, by omega, fun ns l h1 h2 h3 hl' => ?_⟩⟩
    have en : ns = s := asc_unique h1 hs.1 fun k => by rw [h2 k, decide_eq_true_eq]
    subst en
    have e3 : Ex H2 (upd H2 p (SetO w p (fun j => decide (j ∈ ns)) c)) := Evl.Ex.new hp
    have e4 := Evl.Ex.new (o := .lst (ns.map V.int)) hl'
    exact q l _ _ (Evl.fresh_back (e2.trans e3) hl') ((e2.trans e3).trans e4) upd_same (dt_ints ns)
end
abbrev sIsSet : Stmt := topS 14
abbrev sNeedPeople : Stmt := topS 15
abbrev sNeedWeb : Stmt := topS 13
abbrev sNeedState : Stmt := topS 16
abbrev sNeedMany : Stmt := topS 24
theorem scIsSet : FnScope ["web", "people", "many", "person"] ["web", "people"] (defScope sIsSet) := ⟨rfl, rfl, rfl, by decide +kernel, rfl, by decide +kernel, by decide +kernel⟩
theorem scNeedPeople : FnScope ["web", "people"] ["web", "people"] (defScope sNeedPeople) := ⟨rfl, rfl, rfl, by decide +kernel, rfl, by decide +kernel, by decide +kernel⟩
theorem scNeedState : FnScope ["web", "standing"] ["web", "standing"] (defScope sNeedState) := ⟨rfl, rfl, rfl, by decide +kernel, rfl, by decide +kernel, by decide +kernel⟩
theorem scNeedMany : FnScope ["many"] ["many"] (defScope sNeedMany) := ⟨rfl, rfl, rfl, by decide +kernel, rfl, by decide +kernel, by decide +kernel⟩
section
variable {P : Program} {w : World} {K : PySem.W.Frag} {mg : Str → Option Value} {base : Heap}
def RIsSet : List PyData → PyData → Prop := fun ds d => ∃ ws s, ds = [.tuple ws, encS s] ∧ SetOk ws.length s ∧ d = .bool true
theorem ok_isSet {f : Addr} {fd : FuncData} {k : Nat} (B : Bl mg) (F : Fun K "is_set" "is_set" sIsSet f fd) (G1 : Ok P w K mg base k "is_in" ["value", "least", "most"] (spR RIsIn)) (G2 : Ok P w K mg base k "is_list" ["value", "least", "most"] (spR RIsList)) :
    FnOk P w K mg base CX0 (k + 1) f fd ["web", "people"] (spR RIsSet) := by
  refine F.ok scIsSet (spR_len fun ds d ⟨v, lo, h, _⟩ => by rw [h]; rfl) (fun cdv A outer s H vs Q E hr h => ?_)
  obtain ⟨ds, d, hv, ⟨ws, st, rfl, hok, rfl⟩, q⟩ := h
  obtain ⟨v, u, rfl, h1, h2⟩ := hv.two
  refine ⟨_, pss_cons (ps_set (i := 2) scIsSet.nd rfl (.inr rfl) (pe_callB call_len_seq (by rfl) B.len PySem.boot_len (pa_cons (pv 0) pa_nil)))
    (pss_cons (ps_if (PW.pt (pw_or (pt_not (pt_val (pe_do G2 hr (by rfl) (pa_cons (pv 1) (pa_cons pe_int (pa_cons (pv 2) pa_nil))))))
        (pw_or1 (pt_not (pt_val (pe_callB (cr_all rfl) (by rfl) B.all (by decide +kernel) (pa_cons
          (pe_lc (own := [("person", 3)]) (g := gName 3) (by rfl) scIsSet.nd (pi_tup (pv 1)) (blkOk_by (N := ["web", "people", "many", "person"]) (sc := defScope sIsSet) (by decide +kernel))
            (fun _ _ _ _ _ => pg_name (i := 3) scIsSet.nd rfl (Or.inl rfl)) (fun _ _ _ _ _ => pts_nil)
            (fun _ _ _ _ _ => pe_do G1 hr (by rfl) (pa_cons (pv 3) (pa_cons pe_int (pa_cons (pe_op op_sub (pv 2) pe_int) pa_nil))))) pa_nil)))))))
      pss_never pss_nil)
    (pss_one (ps_ret (pe_cmpR (op_eqD hr.units) (pe_callTy call_list_of (by rfl) B.list (by decide +kernel) (pa_cons (pv 1) pa_nil))
      (pe_callB (cr_sortedSet rfl) (by rfl) B.sorted (by decide +kernel) (pa_cons (pe_callTy (cr_setTup rfl) (by rfl) B.set (by decide +kernel) (pa_cons (pv 1) pa_nil)) pa_nil)) (nomark _))))), ?_⟩
  refine q_asg (d_cb (a_cons (d_var rfl h1) a_nil) cd_len) fun v3 H1 e1 h3 => ?_
  have hz : st.length ≤ 1000 := by have := hok.2.2; omega
  refine q_not (EvT.is (t_or (t_not (t_B (d_call (a_cons (d_var rfl (h2.mono e1.t)) (a_cons d_int (a_cons (d_var rfl h3) a_nil))) (sd_R ⟨_, _, _, rfl, rfl⟩))))
    fun _ => t_not (t_B (d_allT PyData.int (fun _ => true) (d_var rfl (h2.mono e1.t)) hz (fun _ => rfl)
      (fun a v4 H4 ha e4 h4 => d_call (a_cons (d_var rfl h4) (a_cons d_int (a_cons (d_sub (d_var rfl (h3.mono e4)) d_int) a_nil))) (sd_R ⟨a, 0, _, rfl, by
        have hb := hok.2.1 a ha
        rw [decide_eq_true hb.1, decide_eq_true hb.2]; rfl⟩)))))
    ?_) fun H2 e2 => ?_
  · rw [List.length_map, decide_eq_true (show (0 : Int) ≤ (st.length : Int) by omega), decide_eq_true (show (st.length : Int) ≤ (ws.length : Int) by have := hok.2.2.1; omega)]
    show (false || !(st.all fun _ => true)) = false
    rw [List.all_eq_true.mpr fun _ _ => rfl]
    rfl
  · exact s_ret ((d_eqLL (l_cb (a_cons (d_var (k := 1) rfl (h2.mono (e1.trans e2).t)) a_nil) cdl_list) (l_sortSet (d_var (k := 1) rfl (h2.mono (e1.trans e2).t)) hok) (shaped_setL st) (shaped_setL st)).is (congrArg PyData.bool (eqv_shaped (shaped_setL st)))) fun v H3 e3 hd => q v H3 ((e1.trans e2).trans e3) hd
end
end TallR

set_option Elab.async false
set_option linter.all false
set_option maxRecDepth 100000
set_option maxHeartbeats 4000000
namespace TallR
open PySem PySem.Spec PyProof.Rows L2
open Evl (Ex)
open Tall
theorem scNeedWeb : FnScope ["web", "people", "index", "friends", "other"] ["web"] (defScope sNeedWeb) := ⟨rfl, rfl, rfl, by decide +kernel, rfl, by decide +kernel, by decide +kernel⟩
abbrev encW (web : Web) : PyData := .tuple (web.map encS)
theorem nb_get {web : Web} {o : Int} (h0 : 0 ≤ o) (h1 : o ≤ (web.length : Int) - 1) : o = (o.toNat : Int) ∧ (web.map encS)[o.toNat]? = some (encS (nb web o)) := by
  have hn : o.toNat < web.length := by omega
  refine ⟨by omega, ?_⟩
  rw [List.getElem?_map, List.getElem?_eq_getElem hn]
  unfold nb
  rw [List.getD_eq_getElem?_getD, List.getElem?_eq_getElem hn]
  rfl
section
variable {K : PySem.W.Frag} {σ : L2.St} {H : Hp} {ta tb : TE} {web : Web} {o : Int}
/-- web[o] -/
theorem d_nb (ha : EvD ta σ H (encW web)) (hb : EvD tb σ H (.int o)) (h0 : 0 ≤ o) (h1 : o ≤ (web.length : Int) - 1) : EvD (tOp (rIxT K) ta tb) σ H (encS (nb web o)) :=
  d_ix ha hb (nb_get h0 h1).1 (nb_get h0 h1).2
end
section
variable {P : Program} {w : World} {K : PySem.W.Frag} {mg : Str → Option Value} {base : Heap}
def RNeedSet : List PyData → PyData → Prop := fun ds d => ∃ ws s, ds = [.tuple ws, encS s] ∧ SetOk ws.length s ∧ d = .none
theorem ok_needPeople {f : Addr} {fd : FuncData} {k : Nat} (F : Fun K "need_people" "need_people" sNeedPeople f fd) (G1 : Ok P w K mg base k "is_set" ["web", "people"] (spR RIsSet)) : FnOk P w K mg base CX0 (k + 1) f fd ["web", "people"] (spR RNeedSet) := by
  refine F.ok scNeedPeople (spR_len fun ds d ⟨v, lo, h, _⟩ => by rw [h]; rfl) (fun cdv A outer s H vs Q E hr h => ?_)
  obtain ⟨ds, d, hv, ⟨ws, st, rfl, hok, rfl⟩, q⟩ := h
  obtain ⟨v, u, rfl, h1, h2⟩ := hv.two
  refine ⟨_, pss_one (ps_if (pt_not (pt_val (pe_do G1 hr (by rfl) (pa_cons (pv 0) (pa_cons (pv 1) pa_nil))))) pss_never pss_nil), ?_⟩
  exact s_not (t_not (a := true) (t_B (d_call (a_cons (d_var rfl h1) (a_cons (d_var rfl h2) a_nil)) (sd_R ⟨ws, st, rfl, hok, rfl⟩)))) fun H1 e1 => q .non H1 e1 .non
def RNeedMany : List PyData → PyData → Prop := fun ds d => ∃ n, ds = [.int n] ∧ (0 ≤ n ∧ n ≤ 100) ∧ d = .none
theorem ok_needMany {f : Addr} {fd : FuncData} {k : Nat} (F : Fun K "need_many" "need_many" sNeedMany f fd) (G1 : Ok P w K mg base k "is_in" ["value", "least", "most"] (spR RIsIn)) : FnOk P w K mg base CX0 (k + 1) f fd ["many"] (spR RNeedMany) := by
  refine F.ok scNeedMany (spR_len fun ds d ⟨n, h, _⟩ => by rw [h]; rfl) (fun cdv A outer s H vs Q E hr h => ?_)
  obtain ⟨ds, d, hv, ⟨n, rfl, hn, rfl⟩, q⟩ := h
  obtain ⟨v, rfl, h1⟩ := hv.one
  refine ⟨_, pss_one (ps_if (pt_not (pt_val (pe_do G1 hr (by rfl) (pa_cons (pv 0) (pa_cons pe_int (pa_cons pe_int pa_nil)))))) pss_never pss_nil), ?_⟩
  exact s_not (t_not (a := true) (t_B (d_call (a_cons (d_var rfl h1) (a_cons d_int (a_cons d_int a_nil))) (sd_R ⟨n, _, _, rfl, by rw [decide_eq_true hn.1, decide_eq_true hn.2]; rfl⟩)))) fun H1 e1 => q .non H1 e1 .non
def RNeedWeb : List PyData → PyData → Prop := fun ds d => ∃ web, ds = [encW web] ∧ WebOk web ∧ d = .none
theorem ok_needWeb {f : Addr} {fd : FuncData} {k : Nat} (B : Bl mg) (mN : ∃ t, mg "MOST_PEOPLE" = some (.int 7 t)) (F : Fun K "need_web" "need_web" sNeedWeb f fd) (G1 : Ok P w K mg base k "is_in" ["value", "least", "most"] (spR RIsIn)) (G2 : Ok P w K mg base k "is_list" ["value", "least", "most"] (spR RIsList)) :
    FnOk P w K mg base CX0 (k + 1) f fd ["web"] (spR RNeedWeb) := by
  obtain ⟨tN, mN⟩ := mN
  refine F.ok scNeedWeb (spR_len fun ds d ⟨n, h, _⟩ => by rw [h]; rfl) (fun cdv A outer s H vs Q E hr h => ?_)
  obtain ⟨ds, d, hv, ⟨web, rfl, hok, rfl⟩, q⟩ := h
  obtain ⟨v, rfl, h1⟩ := hv.one
  have nd := scNeedWeb.nd
  refine ⟨_, pss_cons (ps_if (pt_not (pt_val (pe_do G2 hr (by rfl) (pa_cons (pv 0) (pa_cons pe_int (pa_cons (pe_glob (v := .int 7) (by rfl) mN ⟨_, rfl⟩) pa_nil)))))) pss_never pss_nil)
    (pss_cons (ps_set (i := 1) nd rfl (.inr rfl) (pe_callB call_len_seq (by rfl) B.len PySem.boot_len (pa_cons (pv 0) pa_nil)))
    (pss_cons (ps_for PassesOwn.never rfl (pi_enumT (by rfl) B.enum (pa_cons (pv 0) pa_nil)) (pg_tup rfl (pgs_cons (pg_name (i := 2) nd rfl (.inr rfl)) (pgs_cons (pg_name (i := 3) nd rfl (.inl rfl)) pgs_nil)))
      (pss_cons (ps_if (PW.pt (pw_or (pt_not (pt_val (pe_do G2 hr (by rfl) (pa_cons (pv 3) (pa_cons pe_int (pa_cons (pe_op op_sub (pv 1) pe_int) pa_nil))))))
          (pw_or1 (pt_not (pt_val (pe_callB (cr_all rfl) (by rfl) B.all (by decide +kernel) (pa_cons
            (pe_lc (own := [("other", 4)]) (g := gName 4) (by rfl) nd (pi_tup (pv 3)) (blkOk_by (N := ["web", "people", "index", "friends", "other"]) (sc := defScope sNeedWeb) (by decide +kernel))
              (fun _ _ _ _ _ => pg_name (i := 4) nd rfl (Or.inl rfl)) (fun _ _ _ _ _ => pts_nil)
              (fun _ _ _ _ _ => pe_do G1 hr (by rfl) (pa_cons (pv 4) (pa_cons pe_int (pa_cons (pe_op op_sub (pv 1) pe_int) pa_nil))))) pa_nil)))))))
        pss_never pss_nil)
      (pss_one (ps_if (PW.pt (pw_or (pt_cmpR (op_neD hr.units) (pe_callTy call_list_of (by rfl) B.list (by decide +kernel) (pa_cons (pv 3) pa_nil))
            (pe_callB (cr_sortedSet rfl) (by rfl) B.sorted (by decide +kernel) (pa_cons (pe_callTy (cr_setTup rfl) (by rfl) B.set (by decide +kernel) (pa_cons (pv 3) pa_nil)) pa_nil)) (nomark _))
          (pw_or1 (pt_cmpR (kIn K) (pv 2) (pv 3) (by rfl))))) pss_never pss_nil))))
    (pss_one (ps_for PassesOwn.never rfl (pi_enumT (by rfl) B.enum (pa_cons (pv 0) pa_nil)) (pg_tup rfl (pgs_cons (pg_name (i := 2) nd rfl (.inr rfl)) (pgs_cons (pg_name (i := 3) nd rfl (.inl rfl)) pgs_nil)))
      (pss_one (ps_if (pt_val (pe_callB (cr_any rfl) (by rfl) B.any (by decide +kernel) (pa_cons
            (pe_lc (own := [("other", 4)]) (g := gName 4) (by rfl) nd (pi_tup (pv 3)) (blkOk_by (N := ["web", "people", "index", "friends", "other"]) (sc := defScope sNeedWeb) (by decide +kernel))
              (fun _ _ _ _ _ => pg_name (i := 4) nd rfl (Or.inl rfl)) (fun _ _ _ _ _ => pts_nil)
              (fun _ _ _ _ _ => pe_cmpR (kNotIn K) (pv 2) (pe_ix (kIxT K) (pv 0) (pv 4) (fun _ _ => rfl)) (by rfl))) pa_nil))) pss_never pss_nil)))))), ?_⟩
  have hn1 := hok.1
  have hn7 := hok.2.1
  refine q_not (t_not (a := true) (t_B (d_call (a_cons (d_var rfl h1) (a_cons d_int (a_cons d_int a_nil))) (sd_R ⟨_, _, _, rfl, by
    rw [List.length_map, decide_eq_true (show (1 : Int) ≤ (web.length : Int) by omega), decide_eq_true (show (web.length : Int) ≤ 7 by omega)]; rfl⟩)))) fun H1 e1 => ?_
  refine q_asg (d_cb (a_cons (d_var rfl (h1.mono e1.t)) a_nil) cd_len) fun v1 H2 e2 h2 => ?_
  rw [List.length_map] at h2
  cases h2
  have hw2 : Dt H2 v (encW web) := h1.mono (e1.trans e2).t
  obtain ⟨a, xs, rfl, ha, hx⟩ : ∃ a xs, v = .ref a ∧ H2 a = some (.tup xs) ∧ DtAll H2 xs (web.map encS) := by
    cases hw2 with
    | tup ha hx => exact ⟨_, _, rfl, ha, hx⟩
  have hlen : xs.length = web.length := by rw [hx.len, List.length_map]
  have row : ∀ {i : Nat} {fr : V}, xs[i]? = some fr → i < web.length ∧ Dt H2 fr (encS (nb web i)) := fun {i fr} e => by
    have hi : i < web.length := by rw [← hlen]; exact (List.getElem?_eq_some_iff.mp e).1
    obtain ⟨d, hd, hf⟩ := hx.get e
    have q := (nb_get (web := web) (o := (i : Int)) (by omega) (by omega)).2
    rw [Int.toNat_natCast, hd] at q
    exact ⟨hi, Option.some.inj q ▸ hf⟩
  refine ⟨.ref a, rfl, a, xs, rfl, SqT.of ha, for_it walk_enumT (fun i σ' H' => Ex H2 H' ∧ ∃ x2 x3 x4, σ' = [some (.ref a), some (.int (web.length : Nat)), x2, x3, x4]) ⟨Evl.Ex.refl _, none, none, none, rfl⟩ (fun i σ' H' _ p => SqT.of (p.1 _ _ ha)) (fun i x σ' H' H'' hi p y => ?_) (fun σ' H' p => ?_)⟩
  · obtain ⟨e3, x2, x3, x4, rfl⟩ := p
    obtain ⟨T, i', fr, rfl, nT, rfl, hi', hfr⟩ := y
    cases hi'
    obtain ⟨hi2, hr2⟩ := row hfr
    obtain ⟨ok1, ok2, ok3, ok4⟩ := hok.2.2 i hi2
    have eT : Ex H' (upd H' T (.tup [.int (i : Nat), fr])) := Evl.Ex.new nT
    have hr3 : Dt (upd H' T (.tup [.int (i : Nat), fr])) fr (encS (nb web i)) := hr2.mono (e3.trans eT).t
    have hz : (nb web i).length ≤ 1000 := by have := ok1.2.2; omega
    refine ⟨T, [.int (i : Nat), fr], rfl, SqT.of upd_same, rfl, .int (i : Nat), [fr], rfl, fr, [], rfl, rfl, ?_⟩
    refine q_not (EvT.is (t_or (t_not (t_B (d_call (a_cons (d_var rfl hr3) (a_cons d_int (a_cons (d_sub (d_var rfl (.int _)) d_int) a_nil))) (sd_R ⟨_, _, _, rfl, rfl⟩))))
      fun _ => t_not (t_B (d_allT PyData.int (fun _ => true) (d_var rfl hr3) hz (fun _ => rfl)
        (fun b v4 H4 hb e4 h4 => d_call (a_cons (d_var rfl h4) (a_cons d_int (a_cons (d_sub (d_var rfl (.int _)) d_int) a_nil))) (sd_R ⟨b, 0, _, rfl, by
          have hb := ok1.2.1 b hb
          rw [decide_eq_true hb.1, decide_eq_true hb.2]; rfl⟩))))) ?_) fun H4 e4 => ?_
    · rw [List.length_map, decide_eq_true (show (0 : Int) ≤ ((nb web i).length : Int) by omega), decide_eq_true ok2]
      show (false || !((nb web i).all fun _ => true)) = false
      rw [List.all_eq_true.mpr fun _ _ => rfl]
      rfl
    · have hr4 := hr3.mono e4.t
      refine s_not (EvT.is (t_or (t_test (d_neLL (l_cb (a_cons (d_var rfl hr4) a_nil) cdl_list) (l_sortSet (d_var rfl hr4) ok1) (shaped_setL _) (shaped_setL _)))
        fun _ => t_test (d_in (d_var rfl (.int _)) (d_var rfl hr4))) ?_) fun H5 e5 => ?_
      · rw [eqv_shaped (shaped_setL _), ok3]
        rfl
      · exact ⟨((e3.trans eT).trans e4).trans e5, _, _, _, rfl⟩
  · obtain ⟨e3, x2, x3, x4, rfl⟩ := p
    refine ⟨.ref a, rfl, a, xs, rfl, SqT.of (e3 _ _ ha), for_it walk_enumT (fun i σ' H' => Ex H2 H' ∧ ∃ x2 x3 x4, σ' = [some (.ref a), some (.int (web.length : Nat)), x2, x3, x4]) ⟨e3, x2, x3, x4, rfl⟩ (fun i σ' H' _ p => SqT.of (p.1 _ _ ha)) (fun i x σ' H' H'' hi p y => ?_) (fun σ' H' p => ?_)⟩
    · obtain ⟨e4, y2, y3, y4, rfl⟩ := p
      obtain ⟨T, i', fr, rfl, nT, rfl, hi', hfr⟩ := y
      cases hi'
      obtain ⟨hi2, hr2⟩ := row hfr
      obtain ⟨ok1, ok2, ok3, ok4⟩ := hok.2.2 i hi2
      have eT : Ex H' (upd H' T (.tup [.int (i : Nat), fr])) := Evl.Ex.new nT
      have hr3 : Dt (upd H' T (.tup [.int (i : Nat), fr])) fr (encS (nb web i)) := hr2.mono (e4.trans eT).t
      have hw3 : Dt (upd H' T (.tup [.int (i : Nat), fr])) (.ref a) (encW web) := hw2.mono (e4.trans eT).t
      have hz : (nb web i).length ≤ 1000 := by have := ok1.2.2; omega
      refine ⟨T, [.int (i : Nat), fr], rfl, SqT.of upd_same, rfl, .int (i : Nat), [fr], rfl, fr, [], rfl, rfl, ?_⟩
      refine s_not (EvT.is (t_B (d_anyT PyData.int (fun o => !(nb web o).contains (i : Int)) (d_var rfl hr3) hz (fun _ => rfl)
        (fun b v4 H4 hb e5 h4 => d_notIn (d_var rfl (.int _)) (d_nb (d_var rfl (hw3.mono e5)) (d_var rfl h4) (ok1.2.1 b hb).1 (ok1.2.1 b hb).2)))) ?_) fun H5 e5 => ?_
      · rw [List.any_eq_false]
        intro o ho
        rw [ok4 o ho]
        decide
      · exact ⟨(e4.trans eT).trans e5, _, _, _, rfl⟩
    · exact q .non H' ((e1.trans e2).trans p.1) .non
end
end TallR

set_option Elab.async false
set_option linter.all false
set_option maxRecDepth 100000
set_option maxHeartbeats 4000000
namespace TallR
open PySem PySem.Spec PyProof.Rows L2
open Evl (Ex)
open Tall
abbrev sCallIn : Stmt := topS 18
abbrev sMoversIn : Stmt := topS 19
theorem scCallIn : FnScope ["web", "standing", "person", "other"] ["web", "standing", "person"] (defScope sCallIn) := ⟨rfl, rfl, rfl, by decide +kernel, rfl, by decide +kernel, by decide +kernel⟩
theorem scMoversIn : FnScope ["web", "standing", "person", "other"] ["web", "standing"] (defScope sMoversIn) := ⟨rfl, rfl, rfl, by decide +kernel, rfl, by decide +kernel, by decide +kernel⟩
abbrev scMoversLc : Scope := match defBody sMoversIn with
  | [.Return (some (.ListComp _ _ sc _)) _] => sc
  | _ => defScope sMoversIn
theorem setOk_sub {n : Nat} {s : List Int} (h : SetOk n s) (f : Int → Bool) : SetOk n (s.filter f) :=
  ⟨h.1.filter f, fun x hx => h.2.1 x (List.mem_filter.mp hx).1, Nat.le_trans (List.length_filter_le _ _) h.2.2.1, h.2.2.2⟩
theorem setOk_call {n : Nat} {web : Web} {s : List Int} {p : Int} (h : SetOk n s) : SetOk n (callIn web s p) := by
  unfold callIn
  split
  · exact setOk_sub h _
  · exact h
theorem setOk_few {n : Nat} {s : List Int} (h : SetOk n s) : s.length ≤ 1000 := by have := h.2.2; omega
theorem nb_few {web : Web} (h : WebOk web) {p : Int} (h0 : 0 ≤ p) (h1 : p ≤ (web.length : Int) - 1) : (nb web p).length ≤ 1000 := by
  have e := (h.2.2 p.toNat (by omega)).1
  rw [show ((p.toNat : Nat) : Int) = p by omega] at e
  exact setOk_few e
section
variable {te : TE} {σ : L2.St} {H : Hp} {D : Ends}
theorem s_retL {ds : List PyData} (h : EvL te σ H ds) (k : ∀ a xs H1, H a = none → Ex H H1 → H1 a = some (.lst xs) → DtAll H1 xs ds → D.rt (.ref a) H1) : tRet te D σ H := h H (ExT.refl H) _ k
end
theorem spL_len {R : List PyData → List PyData → Prop} {n : Nat} (h : ∀ ds d, R ds d → ds.length = n) : ∀ vs H Q E, spL R vs H Q E → vs.length = n := fun vs H Q E ⟨ds, d, hv, hr, _⟩ => by rw [hv.len, h ds d hr]
section
variable {P : Program} {w : World} {K : PySem.W.Frag} {mg : Str → Option Value} {base : Heap}
def RNeedState : List PyData → PyData → Prop := fun ds d => ∃ web s, ds = [encW web, encS s] ∧ (WebOk web ∧ SetOk web.length s) ∧ d = .none
theorem ok_needState {f : Addr} {fd : FuncData} {k : Nat} (F : Fun K "need_state" "need_state" sNeedState f fd) (G1 : Ok P w K mg base k "is_set" ["web", "people"] (spR RIsSet)) (G2 : Ok P w K mg base k "need_web" ["web"] (spR RNeedWeb)) :
    FnOk P w K mg base CX0 (k + 1) f fd ["web", "standing"] (spR RNeedState) := by
  refine F.ok scNeedState (spR_len fun ds d ⟨v, lo, h, _⟩ => by rw [h]; rfl) (fun cdv A outer s H vs Q E hr h => ?_)
  obtain ⟨ds, d, hv, ⟨web, st, rfl, ⟨hw, hok⟩, rfl⟩, q⟩ := h
  obtain ⟨v, u, rfl, h1, h2⟩ := hv.two
  refine ⟨_, pss_cons (ps_expr (pe_do G2 hr (by rfl) (pa_cons (pv 0) pa_nil)))
    (pss_one (ps_if (pt_not (pt_val (pe_do G1 hr (by rfl) (pa_cons (pv 0) (pa_cons (pv 1) pa_nil))))) pss_never pss_nil)), ?_⟩
  refine q_drop (d_call (a_cons (d_var rfl h1) a_nil) (sd_R ⟨web, rfl, hw, rfl⟩)) fun H1 e1 => ?_
  exact s_not (t_not (a := true) (t_B (d_call (a_cons (d_var rfl (h1.mono e1.t)) (a_cons (d_var rfl (h2.mono e1.t)) a_nil)) (sd_R ⟨_, st, rfl, by rw [List.length_map]; exact hok, rfl⟩)))) fun H2 e2 => q .non H2 (e1.trans e2) .non
def RCallIn : List PyData → PyData → Prop := fun ds d => ∃ web s p, ds = [encW web, encS s, .int p] ∧ (WebOk web ∧ SetOk web.length s) ∧ d = encS (callIn web s p)
theorem ok_callIn {f : Addr} {fd : FuncData} {k : Nat} (B : Bl mg) (F : Fun K "call_in" "call_in" sCallIn f fd) : FnOk P w K mg base CX0 (k + 1) f fd ["web", "standing", "person"] (spR RCallIn) := by
  refine F.ok scCallIn (spR_len fun ds d ⟨v, lo, _, h, _⟩ => by rw [h]; rfl) (fun cdv A outer s H vs Q E hr h => ?_)
  obtain ⟨ds, d, hv, ⟨web, st, p, rfl, ⟨hw, hok⟩, rfl⟩, q⟩ := h
  obtain ⟨v, u, t, rfl, h1, h2, h3⟩ := hv.three
  have nd := scCallIn.nd
  refine ⟨_, pss_cons (ps_if (pt_cmpR (kNotIn K) (pv 2) (pv 1) (by rfl)) (pss_one (ps_ret (pv 1))) pss_nil)
    (pss_one (ps_ret (pe_callTy (kTuple K) (by rfl) B.tup (by decide +kernel) (pa_cons
      (pe_lc (own := [("other", 3)]) (g := gName 3) (by rfl) nd (kPiT K (pv 1)) (blkOk_by (N := ["web", "standing", "person", "other"]) (sc := defScope sCallIn) (by decide +kernel))
        (fun _ _ _ _ _ => pg_name (i := 3) nd rfl (Or.inl rfl))
        (fun _ _ _ _ _ => pts_one (PW.pt (pw_or (pt_cmpR op_ge (pv 3) (pv 2) (nomark _)) (pw_or1 (pt_cmpR (kNotIn K) (pv 3) (pe_ix (kIxT K) (pv 0) (pv 2) (fun _ _ => rfl)) (by rfl))))))
        (fun _ _ _ _ _ => pv 3)) pa_nil)))), ?_⟩
  refine q_if (t_test (d_notIn (d_var rfl h3) (d_var rfl h2))) (fun hp H1 e1 => ?_) (fun hp H1 e1 => ?_)
  · have hp' : st.contains p = false := by simpa using hp
    have e : callIn web st p = st := by unfold callIn; rw [if_neg (by rw [hp']; exact Bool.false_ne_true)]
    rw [e] at q
    exact s_ret (d_var rfl (h2.mono e1.t)) fun v H2 e2 hd => q v H2 (e1.trans e2) hd
  · have hp' : st.contains p = true := by simpa using hp
    have e : callIn web st p = st.filter (fun o => decide (p ≤ o) || !(nb web p).contains o) := by unfold callIn; rw [if_pos hp']
    have hpm := hok.2.1 p (List.contains_iff_mem.mp hp')
    rw [e] at q
    refine s_ret (d_cl (l_lcT (enc := PyData.int) (fun o => decide (p ≤ o) || !(nb web p).contains o) PyData.int (d_var rfl (h2.mono e1.t)) (setOk_few hok) (fun _ => rfl)
      (fun a v4 H4 ha e4 h4 => t_or (t_test (d_ge (d_var rfl h4) (d_var rfl (h3.mono (e1.t.trans e4))))) fun _ => t_test (d_notIn (d_var rfl h4) (d_nb (d_var rfl (h1.mono (e1.t.trans e4))) (d_var rfl (h3.mono (e1.t.trans e4))) hpm.1 hpm.2)))
      (fun a v4 H4 ha e4 h4 _ => d_var rfl h4)) cl_tuple) fun v H2 e2 hd => q v H2 (e1.trans e2) hd
def RMoversIn : List PyData → List PyData → Prop := fun ds d => ∃ web s, ds = [encW web, encS s] ∧ (WebOk web ∧ SetOk web.length s) ∧ d = (moversIn web s).map PyData.int
theorem ok_moversIn {f : Addr} {fd : FuncData} {k : Nat} (B : Bl mg) (F : Fun K "movers_in" "movers_in" sMoversIn f fd) : FnOk P w K mg base CX0 (k + 1) f fd ["web", "standing"] (spL RMoversIn) := by
  refine F.ok scMoversIn (spL_len fun ds d ⟨v, lo, h, _⟩ => by rw [h]; rfl) (fun cdv A outer s H vs Q E hr h => ?_)
  obtain ⟨ds, d, hv, ⟨web, st, rfl, ⟨hw, hok⟩, rfl⟩, q⟩ := h
  obtain ⟨v, u, rfl, h1, h2⟩ := hv.two
  have nd := scMoversIn.nd
  refine ⟨_, pss_one (ps_ret (pe_lc (own := [("person", 2)]) (g := gName 2) (by rfl) nd (kPiT K (pv 1)) (blkOk_by (N := ["web", "standing", "person", "other"]) (sc := defScope sMoversIn) (by decide +kernel))
        (fun _ _ _ _ _ => pg_name (i := 2) nd rfl (Or.inr rfl))
        (fun _ _ _ _ _ => pts_one (pt_val (pe_callB (kAny K) (by rfl) B.any (by decide +kernel) (pa_cons
          (pe_lc (own := [("other", 3)]) (g := gName 3) (by rfl) nd (kPiT K (pe_ix (kIxT K) (pv 0) (pv 2) (fun _ _ => rfl))) (blkOk_by (N := ["web", "standing", "person", "other"]) (sc := relS scMoversLc (defScope sMoversIn)) (by decide +kernel))
            (fun _ _ _ _ _ => pg_name (i := 3) nd rfl (Or.inl rfl)) (fun _ _ _ _ _ => pts_nil)
            (fun _ _ _ _ _ => pe_and (pe_cmpR op_lt (pv 3) (pv 2) (nomark _)) (pe_one (pe_cmpR (kIn K) (pv 3) (pv 1) (by rfl))))) pa_nil))))
        (fun _ _ _ _ _ => pv 2))), ?_⟩
  refine s_retL (l_lcT (enc := PyData.int) (hits web st) PyData.int (d_var rfl h2) (setOk_few hok) (fun _ => rfl)
    (fun p v4 H4 hp e4 h4 => t_B (d_anyT PyData.int (fun o => decide (o < p) && st.contains o) (d_nb (d_var rfl (h1.mono e4)) (d_var rfl h4) (hok.2.1 p hp).1 (hok.2.1 p hp).2) (nb_few hw (hok.2.1 p hp).1 (hok.2.1 p hp).2) (fun _ => rfl)
      (fun o v5 H5 ho e5 h5 => d_and (d_lt (d_var rfl h5) (d_var rfl (h4.mono e5))) fun _ => d_in (d_var rfl h5) (d_var rfl (h2.mono (e4.trans e5))))))
    (fun p v4 H4 hp e4 h4 _ => d_var rfl h4)) q
end
end TallR

set_option Elab.async false
set_option linter.all false
set_option maxRecDepth 100000
set_option maxHeartbeats 4000000
namespace TallR
open PySem PySem.Spec PyProof.Rows L2
open Evl (Ex)
open Tall
abbrev sReachedFrom : Stmt := topS 21
theorem scReachedFrom : FnScope ["web", "standing", "found", "last", "many", "fresh", "here", "person", "there"] ["web", "standing"] (defScope sReachedFrom) := ⟨rfl, rfl, rfl, by decide +kernel, rfl, by decide +kernel, by decide +kernel⟩
/-! ### the dict, as the layer sees it -/
abbrev keyS (s : Pset) : List Key := s.map Sum.inl
def encF (F : Found) : List (List Key × V) := F.map fun kv => (keyS kv.1, .int kv.2)
theorem keyS_V (s : Pset) : (keyS s).map kV = s.map V.int := by rw [List.map_map]; rfl
theorem keyS_inj : ∀ {a b : Pset}, keyS a = keyS b → a = b
  | [], [], _ => rfl
  | [], _ :: _, h => nomatch h
  | _ :: _, [], h => nomatch h
  | x :: a, y :: b, h => by
    have h' : (Sum.inl x : Key) :: keyS a = Sum.inl y :: keyS b := h
    injection h' with h1 h2
    rw [Sum.inl.inj h1, keyS_inj h2]
theorem val_keyed (F : Found) (s : Pset) : (valV (encF F) (keyS s)).isSome = keyed F s := by
  rw [← valV_any]
  unfold encF keyed
  rw [List.any_map]
  congr 1
  funext kv
  show decide (keyS kv.1 = keyS s) = decide (kv.1 = s)
  by_cases h : kv.1 = s
  · rw [decide_eq_true h, decide_eq_true (by rw [h])]
  · rw [decide_eq_false h, decide_eq_false (fun z => h (keyS_inj z))]
theorem encF_len (F : Found) : (encF F).length = F.length := List.length_map ..
theorem encF_snoc (F : Found) (s : Pset) (n : Int) : encF (F ++ [(s, n)]) = encF F ++ [(keyS s, .int n)] := by
  unfold encF
  rw [List.map_append]
  rfl
/-! ### the mirror grows -/
theorem visit_le (web : Web) (many : Int) (here : Pset) (acc : Found × List Pset) (p : Int) : acc.1.length ≤ (visit web many here acc p).1.length := by
  unfold visit
  split
  · exact Nat.le_refl _
  · rw [List.length_append]; exact Nat.le_add_right _ _
theorem foldv_le (web : Web) (many : Int) (here : Pset) : ∀ (ps : List Int) (acc : Found × List Pset), acc.1.length ≤ (ps.foldl (visit web many here) acc).1.length
  | [], _ => Nat.le_refl _
  | p :: ps, acc => Nat.le_trans (visit_le web many here acc p) (foldv_le web many here ps _)
theorem foldvs_le (web : Web) (many : Int) : ∀ (hs : List Pset) (acc : Found × List Pset), acc.1.length ≤ (hs.foldl (visits web many) acc).1.length
  | [], _ => Nat.le_refl _
  | h :: hs, acc => Nat.le_trans (foldv_le web many h _ acc) (foldvs_le web many hs _)
theorem bfs_le (web : Web) : ∀ (k : Nat) (F : Found) (last : List Pset) (many : Int) (R : Found), bfs web k F last many = some R → F.length ≤ R.length
  | 0, _, _, _, _, h => nomatch h
  | k + 1, F, [], many, R, h => by cases h; exact Nat.le_refl _
  | k + 1, F, a :: last, many, R, h => Nat.le_trans (foldvs_le web (many + 1) (a :: last) (F, [])) (bfs_le web k _ _ _ _ h)
theorem fold_take {α β : Type} (f : β → α → β) (xs : List α) (i : Nat) (x : α) (h : xs[i]? = some x) (b : β) : (xs.take (i + 1)).foldl f b = f ((xs.take i).foldl f b) x := by
  rw [List.take_add_one, h]
  show (xs.take i ++ [x]).foldl f b = _
  rw [List.foldl_append]
  rfl
theorem fold_drop {α β : Type} (f : β → α → β) (xs : List α) (i : Nat) (b : β) : xs.foldl f b = (xs.drop i).foldl f ((xs.take i).foldl f b) := by
  rw [← List.foldl_append, List.take_append_drop]
theorem visit_len (web : Web) (many : Int) (here : Pset) (acc : Found × List Pset) (p : Int) (h : acc.2.length ≤ acc.1.length) : (visit web many here acc p).2.length ≤ (visit web many here acc p).1.length := by
  unfold visit
  split
  · exact h
  · rw [List.length_append, List.length_append]
    exact Nat.add_le_add_right h 1
theorem foldv_len (web : Web) (many : Int) (here : Pset) : ∀ (ps : List Int) (acc : Found × List Pset), acc.2.length ≤ acc.1.length → (ps.foldl (visit web many here) acc).2.length ≤ (ps.foldl (visit web many here) acc).1.length
  | [], _, h => h
  | p :: ps, acc, h => foldv_len web many here ps _ (visit_len web many here acc p h)
theorem foldvs_len (web : Web) (many : Int) : ∀ (hs : List Pset) (acc : Found × List Pset), acc.2.length ≤ acc.1.length → (hs.foldl (visits web many) acc).2.length ≤ (hs.foldl (visits web many) acc).1.length
  | [], _, h => h
  | p :: ps, acc, h => foldvs_len web many ps _ (foldv_len web many p _ acc h)
theorem visit_yes {web : Web} {many : Int} {here : Pset} {acc : Found × List Pset} {p : Int} (h : keyed acc.1 (callIn web here p) = true) : visit web many here acc p = acc := by
  unfold visit
  rw [if_pos h]
theorem visit_no {web : Web} {many : Int} {here : Pset} {acc : Found × List Pset} {p : Int} (h : keyed acc.1 (callIn web here p) = false) :
    visit web many here acc p = (acc.1 ++ [(callIn web here p, many)], acc.2 ++ [callIn web here p]) := by
  unfold visit
  rw [if_neg (by rw [h]; exact Bool.false_ne_true)]
/-! ### the state of the search -/
structure Frm (H0 H : Hp) (dA fA lA : Addr) (F : Found) (ts us : List Addr) (last fresh : List Pset) : Prop where
  ex : Ex H0 H
  d : H dA = some (.dT (encF F))
  l : H lA = some (.lst (ts.map V.ref))
  f : H fA = some (.lst (us.map V.ref))
  kl : KeysAt H ts last
  kf : KeysAt H us fresh
theorem KeysAt.mono {H H' : Hp} (e : ExT H H') : ∀ {ts : List Addr} {bs : List (List Int)}, KeysAt H ts bs → KeysAt H' ts bs
  | _, _, .nil => .nil
  | _, _, .cons h t => .cons (e _ _ h) (KeysAt.mono e t)
theorem KeysAt.get {H : Hp} : ∀ {ts : List Addr} {bs : List (List Int)} {i : Nat} {t : Addr}, KeysAt H ts bs → ts[i]? = some t → ∃ b, bs[i]? = some b ∧ H t = some (.tup (b.map V.int))
  | _, _, _, _, .nil, e => by simp at e
  | _, _, 0, _, .cons h _, e => by simp at e; subst e; exact ⟨_, rfl, h⟩
  | _, _, i + 1, t, .cons _ r, e => by
    obtain ⟨b, h1, h2⟩ := KeysAt.get (i := i) (t := t) r (by simpa using e)
    exact ⟨b, by simpa using h1, h2⟩
theorem KeysAt.len {H : Hp} : ∀ {ts : List Addr} {bs : List (List Int)}, KeysAt H ts bs → ts.length = bs.length
  | _, _, .nil => rfl
  | _, _, .cons _ t => by rw [List.length_cons, List.length_cons, KeysAt.len t]
theorem KeysAt.snoc {H : Hp} {t : Addr} {b : List Int} : ∀ {ts : List Addr} {bs : List (List Int)}, KeysAt H ts bs → H t = some (.tup (b.map V.int)) → KeysAt H (ts ++ [t]) (bs ++ [b])
  | _, _, .nil, h => .cons h .nil
  | _, _, .cons h r, e => .cons h (KeysAt.snoc r e)
section
variable {H0 H H' : Hp} {dA fA lA : Addr} {F : Found} {ts us : List Addr} {last fresh : List Pset}
theorem Frm.up (h : Frm H0 H dA fA lA F ts us last fresh) (e : Ex H H') : Frm H0 H' dA fA lA F ts us last fresh :=
  ⟨h.ex.trans e, e _ _ h.d, e _ _ h.l, e _ _ h.f, h.kl.mono e.t, h.kf.mono e.t⟩
theorem Frm.put (h : Frm H0 H dA fA lA F ts us last fresh) (n0 : H0 dA = none) (kvs : Found) : Frm H0 (upd H dA (.dT (encF kvs))) dA fA lA kvs ts us last fresh := by
  have e : ExT H (upd H dA (.dT (encF kvs))) := ExT.dT h.d
  have n1 : lA ≠ dA := ne_of h.l h.d (fun z => nomatch z)
  have n2 : fA ≠ dA := ne_of h.f h.d (fun z => nomatch z)
  exact ⟨Evl.Ex.mut h.ex n0, upd_same, by rw [upd_ne n1]; exact h.l, by rw [upd_ne n2]; exact h.f, h.kl.mono e, h.kf.mono e⟩
theorem Frm.app (h : Frm H0 H dA fA lA F ts us last fresh) (n0 : H0 fA = none) (nfl : fA ≠ lA) {t : Addr} {b : Pset} (ht : H t = some (.tup (b.map V.int))) :
    Frm H0 (upd H fA (.lst (us.map V.ref ++ [.ref t]))) dA fA lA F ts (us ++ [t]) last (fresh ++ [b]) := by
  have e : ExT H (upd H fA (.lst (us.map V.ref ++ [.ref t]))) := ExT.lst h.f
  have n1 : dA ≠ fA := ne_of h.d h.f (fun z => nomatch z)
  refine ⟨Evl.Ex.mut h.ex n0, by rw [upd_ne n1]; exact h.d, by rw [upd_ne nfl.symm]; exact h.l, ?_, h.kl.mono e, (h.kf.snoc ht).mono e⟩
  rw [upd_same, List.map_append]
  rfl
end
theorem canLay_sets : ∀ bs : List (List Int), PyData.canLayAll0 (bs.map encS) = true ∧ PyData.depthAll (bs.map encS) ≤ 1
  | [] => by simp [PyData.canLayAll0, PyData.depthAll]
  | b :: bs => by
    obtain ⟨h1, h2⟩ := canLay_sets bs
    have hc : PyData.canLay0 (encS b) = true := by rw [PyData.canLay0]; exact canLay_ints b
    have hd : PyData.depth (encS b) ≤ 1 := by simp [PyData.depth, PySem.W.depth_ints]
    constructor
    · show PyData.canLayAll0 (encS b :: bs.map encS) = true
      rw [PyData.canLayAll0, h1, hc]
      rfl
    · show PyData.depthAll (encS b :: bs.map encS) ≤ 1
      rw [PyData.depthAll]
      omega
theorem shaped_sets (bs : List (List Int)) : SeqAt.shaped (.list (bs.map encS)) = true := by
  obtain ⟨h1, h2⟩ := canLay_sets bs
  unfold SeqAt.shaped
  have a : PyData.canLay0 (.list (bs.map encS)) = true := by rw [PyData.canLay0]; exact h1
  have b : PyData.depth (.list (bs.map encS)) ≤ 64 := by rw [PyData.depth]; omega
  rw [a, decide_eq_true b]
  rfl
theorem eqv_nil (bs : List (List Int)) : PyData.eqv (.list (bs.map encS)) (.list []) = bs.isEmpty := by
  cases bs with
  | nil => rfl
  | cons b r =>
    show PyData.eqv (.list (encS b :: r.map encS)) (.list []) = false
    simp [PyData.eqv, PyData.eqvAll]
/-- the promise of reached_from -/
def spReach : Sp := fun vs H Q _ => ∃ web st F, DtAll H vs [encW web, encS st] ∧ (WebOk web ∧ SetOk web.length st) ∧ reach web st = some F ∧ F.length ≤ 1000 ∧
  ∀ d H', H d = none → Ex H H' → H' d = some (.dT (encF F)) → Q (.ref d) H'
section
variable {P : Program} {w : World} {K : PySem.W.Frag} {mg : Str → Option Value} {base : Heap}
theorem ok_reachedFrom {f : Addr} {fd : FuncData} {k : Nat} (B : Bl mg) (F : Fun K "reached_from" "reached_from" sReachedFrom f fd) (G1 : Ok P w K mg base k "movers_in" ["web", "standing"] (spL RMoversIn)) (G2 : Ok P w K mg base k "call_in" ["web", "standing", "person"] (spR RCallIn)) :
    FnOk P w K mg base CX0 (k + 1) f fd ["web", "standing"] spReach := by
  refine F.ok scReachedFrom (fun vs H Q E ⟨_, _, _, h, _⟩ => by rw [h.len]; rfl) (fun cdv A outer s H vs Q E hr h => ?_)
  obtain ⟨web, st, R, hv, ⟨hw, hok⟩, hR, hl, q⟩ := h
  obtain ⟨v, u, rfl, h1, h2⟩ := hv.two
  have nd := scReachedFrom.nd
  refine ⟨_, pss_cons (ps_par3 (i := 2) (j := 3) (l := 4) rfl nd rfl rfl rfl (by decide) (by decide) (by decide) rfl rfl rfl (pa_cons (pe_dispT1 hr.units (pv 1) pe_int) (pa_cons (pe_lst (pa_cons (pv 1) pa_nil)) (pa_cons pe_int pa_nil))) (by rfl))
    (pss_cons (ps_while PassesOwn.never (pt_cmpR (op_neD hr.units) (pv 3) (pe_lst pa_nil) (nomark _))
      (pss_cons (ps_aug (i := 4) nd rfl (.inl rfl) pe_int ip_add)
      (pss_cons (ps_set (i := 5) nd rfl (.inl rfl) (pe_lst pa_nil))
      (pss_cons (ps_for PassesOwn.never rfl (kPiL K (pv 3)) (pg_name (i := 6) nd rfl (.inl rfl))
        (pss_one (ps_for PassesOwn.never rfl (kPiL K (pe_do G1 hr (by rfl) (pa_cons (pv 0) (pa_cons (pv 6) pa_nil)))) (pg_name (i := 7) nd rfl (.inl rfl))
          (pss_cons (ps_set (i := 8) nd rfl (.inl rfl) (pe_do G2 hr (by rfl) (pa_cons (pv 0) (pa_cons (pv 6) (pa_cons (pv 7) pa_nil)))))
          (pss_one (ps_if (pt_cmp (pc_dnotin (hu_of hr) (pv 8) (pv 2)))
            (pss_cons (ps_dput (hu_of hr) (pv 2) (pv 8) (pv 4) rfl)
            (pss_one (ps_expr (pe_bm PySem.F.plainAttrs_list PySem.F.slot_list_append PySem.F.type_list_append mt_append (pv 5) (pa_cons (pv 8) pa_nil)))))
            pss_nil))))))
      (pss_one (ps_set (i := 3) nd rfl (.inl rfl) (pv 5)))))))
    (pss_one (ps_ret (pv 2)))), ?_⟩
  obtain ⟨tS, rfl, hS⟩ := h2.set
  refine fun dA nA => ⟨.ref tS, rfl, upd_same, tS, keyS st, rfl, ?_, .ref tS, rfl, (show 1 ≤ sizeLine by decide), fun l0 nl0 => ⟨_, _, _, rfl, ?_⟩⟩
  · rw [upd_ne (ne_of_none hS nA), keyS_V]
    exact hS
  let W : Nat → L2.St → Hp → Prop := fun m σ' H' => ∃ F last many lA ts x5 x6 x7 x8, σ' = [some v, some (.ref tS), some (.ref dA), some (.ref lA), some (.int many), x5, x6, x7, x8] ∧ Ex H H' ∧ H' dA = some (.dT (encF F)) ∧
    H' lA = some (.lst (ts.map V.ref)) ∧ H lA = none ∧ KeysAt H' ts last ∧ (∀ s ∈ last, SetOk web.length s) ∧ bfs web m F last many = some R
  rw [upd_upd] at nl0 ⊢
  have x1 : Ex H (upd H dA (.dT [(keyS st, .int 0)])) := Evl.Ex.new nA
  have x2 := Evl.Ex.new (o := .lst [.ref tS]) nl0
  refine ⟨W, ⟨9, [(st, 0)], [st], 0, l0, [tS], none, none, none, none, rfl, x1.trans x2, x2 _ _ upd_same, upd_same, Evl.fresh_back x1 nl0, .cons ((x1.trans x2) _ _ hS) .nil, fun s hs => by rw [List.mem_singleton.mp hs]; exact hok, hR⟩, fun m σ' Hw hW => ?_⟩
  obtain ⟨F, last, many, lA, ts, x5, x6, x7, x8, rfl, exw, hd, hlA, nlA, hk, hs, hb⟩ := hW
  refine ⟨.ref lA, rfl, Nat.zero_le _, fun pA npA => ⟨.list (last.map encS), .list [], DtAll.dpl (H := upd Hw pA (.lst [])) ((Evl.Ex.new npA) _ _ hlA) (DtAll.ofKeys (hk.mono (ExT.new npA))), .lst (SqL.of upd_same) .nil, shaped_sets _, by decide, _, rfl, ?_⟩⟩
  rw [eqv_nil]
  have xp : Ex Hw (upd Hw pA (.lst [])) := Evl.Ex.new npA
  cases m with
  | zero => exact nomatch hb
  | succ k =>
  cases last with
  | nil =>
    refine iteF ?_
    cases hb
    exact ⟨.ref dA, rfl, q dA _ nA (exw.trans xp) (xp _ _ hd)⟩
  | cons s0 sr =>
    refine iteT ⟨W k, fun σ' H' h => ⟨k, Nat.lt_succ_self k, h⟩, .int many, rfl, many, 1, rfl, rfl, Nat.zero_le _, fun fA nfA => ?_⟩
    generalize hlast : s0 :: sr = last at *
    have hb' : bfs web k (last.foldl (visits web (many + 1)) (F, [])).1 (last.foldl (visits web (many + 1)) (F, [])).2 (many + 1) = some R := by
      subst hlast
      exact hb
    have xf : Ex (upd Hw pA (.lst [])) (upd (upd Hw pA (.lst [])) fA (.lst [])) := Evl.Ex.new nfA
    have nf0 : H fA = none := Evl.fresh_back (exw.trans xp) nfA
    have nfl : fA ≠ lA := fun z => by
      rw [z, xp _ _ hlA] at nfA
      cases nfA
    have few : ∀ {A : Found × List Pset}, A.1.length ≤ (last.foldl (visits web (many + 1)) (F, [])).1.length → A.1.length ≤ 1000 := fun {A} h => Nat.le_trans h (Nat.le_trans (bfs_le web k _ _ _ _ hb') hl)
    refine ⟨.ref lA, rfl, lA, rfl, ⟨_, SqL.of (xf _ _ (xp _ _ hlA))⟩, for_list (xs := ts.map V.ref)
      (fun i σ' H' => ∃ us x6 x7 x8, σ' = [some v, some (.ref tS), some (.ref dA), some (.ref lA), some (.int (many + 1)), some (.ref fA), x6, x7, x8] ∧
        Frm H H' dA fA lA ((last.take i).foldl (visits web (many + 1)) (F, [])).1 ts us last ((last.take i).foldl (visits web (many + 1)) (F, [])).2 ∧ ∀ s ∈ ((last.take i).foldl (visits web (many + 1)) (F, [])).2, SetOk web.length s)
      ⟨[], x6, x7, x8, rfl, ⟨(exw.trans xp).trans xf, xf _ _ (xp _ _ hd), xf _ _ (xp _ _ hlA), upd_same, hk.mono (xp.trans xf).t, .nil⟩, fun s hs => nomatch hs⟩
      (fun i σ' H' _ ⟨us, _, _, _, _, fr, _⟩ => SqL.of fr.l) (fun i x σ' Hi hx hp => ?_) (fun σ' H' hp => ?_)⟩
    · obtain ⟨us, x6, x7, x8, rfl, fr, hse⟩ := hp
      generalize hacc : (last.take i).foldl (visits web (many + 1)) (F, []) = acc at *
      rw [List.getElem?_map] at hx
      obtain ⟨t, ht, rfl⟩ : ∃ t, ts[i]? = some t ∧ x = .ref t := by
        cases h : ts[i]? with
        | none => rw [h] at hx; exact nomatch hx
        | some t => rw [h] at hx; exact ⟨t, rfl, (Option.some.inj hx).symm⟩
      obtain ⟨here, hhere, htt⟩ := fr.kl.get ht
      have hoks : SetOk web.length here := hs here (List.mem_of_getElem? hhere)
      have hacc1 : (last.take (i + 1)).foldl (visits web (many + 1)) (F, []) = visits web (many + 1) acc here := by rw [fold_take _ _ _ _ hhere, hacc]
      have hle1 : (visits web (many + 1) acc here).1.length ≤ (last.foldl (visits web (many + 1)) (F, [])).1.length := by
        rw [fold_drop _ last (i + 1), hacc1]
        exact foldvs_le web (many + 1) _ _
      have hw' : Dt Hi v (encW web) := h1.mono fr.ex.t
      refine (l_call (a_cons (d_var rfl hw') (a_cons (d_var rfl (Dt.ofSet htt)) a_nil)) (sl_L ⟨web, here, rfl, ⟨hw, hoks⟩, rfl⟩)) Hi (ExT.refl _) _ fun mA ms Hm nmA em hm hms => ⟨mA, rfl, ⟨_, SqL.of hm⟩, ?_⟩
      obtain rfl : ms = (moversIn web here).map V.int := hms.ints
      have nmf : mA ≠ fA := fun z => by rw [z, fr.f] at nmA; cases nmA
      have nmd : mA ≠ dA := fun z => by rw [z, fr.d] at nmA; cases nmA
      refine for_list (xs := (moversIn web here).map V.int)
        (fun j σ' H' => ∃ us x7 x8, σ' = [some v, some (.ref tS), some (.ref dA), some (.ref lA), some (.int (many + 1)), some (.ref fA), some (.ref t), x7, x8] ∧
          Frm H H' dA fA lA (((moversIn web here).take j).foldl (visit web (many + 1) here) acc).1 ts us last (((moversIn web here).take j).foldl (visit web (many + 1) here) acc).2 ∧ H' mA = some (.lst ((moversIn web here).map V.int)) ∧
          ∀ s ∈ (((moversIn web here).take j).foldl (visit web (many + 1) here) acc).2, SetOk web.length s)
        ⟨us, x7, x8, rfl, fr.up em, hm, hse⟩ (fun j σ' H' _ ⟨_, _, _, _, _, hmA, _⟩ => SqL.of hmA) (fun j y σ' Hj hy hp => ?_) (fun σ' H' hp => ?_)
      · obtain ⟨us, x7, x8, rfl, fr2, hmA, hse2⟩ := hp
        generalize hacc2 : ((moversIn web here).take j).foldl (visit web (many + 1) here) acc = acc2 at *
        rw [List.getElem?_map] at hy
        obtain ⟨pp, hpp, rfl⟩ : ∃ pp, (moversIn web here)[j]? = some pp ∧ y = .int pp := by
          cases h : (moversIn web here)[j]? with
          | none => rw [h] at hy; exact nomatch hy
          | some t => rw [h] at hy; exact ⟨t, rfl, (Option.some.inj hy).symm⟩
        have hacc21 : ((moversIn web here).take (j + 1)).foldl (visit web (many + 1) here) acc = visit web (many + 1) here acc2 pp := by rw [fold_take _ _ _ _ hpp, hacc2]
        have hle2 : acc2.1.length ≤ 1000 := few (Nat.le_trans (by
          show acc2.1.length ≤ (visits web (many + 1) acc here).1.length
          unfold visits
          rw [fold_drop _ (moversIn web here) j, hacc2]
          exact foldv_le web (many + 1) here _ _) hle1)
        have hlen2 : acc2.2.length ≤ acc2.1.length := by
          rw [← hacc2]
          refine foldv_len web (many + 1) here _ _ ?_
          rw [← hacc]
          exact foldvs_len web (many + 1) _ _ (Nat.zero_le _)
        have hte : Dt Hj (.ref t) (encS here) := Dt.ofSet (by
          obtain ⟨b, hb1, hb2⟩ := fr2.kl.get ht
          rw [hhere] at hb1
          cases hb1
          exact hb2)
        refine q_asg (d_call (a_cons (d_var rfl (h1.mono fr2.ex.t)) (a_cons (d_var rfl hte) (a_cons (d_var rfl (.int pp)) a_nil))) (sd_R ⟨web, here, pp, rfl, ⟨hw, hoks⟩, rfl⟩)) fun vt H3 e3 hvt => ?_
        obtain ⟨tt, rfl, htt⟩ := hvt.set
        have fr3 := fr2.up e3
        have hokt : SetOk web.length (callIn web here pp) := setOk_call hoks
        refine ⟨.ref tt, rfl, .ref dA, rfl, dA, _, rfl, DGet.t fr3.d (by rw [keyS_V]; exact htt), _, rfl, ?_⟩
        rw [val_keyed]
        show if (!keyed acc2.1 (callIn web here pp)) = true then _ else _
        cases hkd : keyed acc2.1 (callIn web here pp) with
        | true =>
          refine iteF ?_
          refine ⟨us, _, _, rfl, ?_⟩
          rw [hacc21, visit_yes hkd]
          exact ⟨fr3, e3 _ _ hmA, hse2⟩
        | false =>
          refine iteT ?_
          have hnone : valV (encF acc2.1) (keyS (callIn web here pp)) = none := by
            have z := val_keyed acc2.1 (callIn web here pp)
            rw [hkd] at z
            exact Option.isNone_iff_eq_none.mp (by rw [← Option.not_isSome, z]; rfl)
          refine ⟨.int (many + 1), rfl, .ref dA, rfl, .ref tt, rfl, dA, _, rfl, DPut.t fr3.d (by rw [keyS_V]; exact htt) (by rw [encF_len]; exact Nat.lt_of_le_of_lt hle2 (by decide)), ?_⟩
          rw [putK_new _ hnone, ← encF_snoc]
          have fr4 := fr3.put nA (acc2.1 ++ [(callIn web here pp, many + 1)])
          have ht4 : (upd H3 dA (.dT (encF (acc2.1 ++ [(callIn web here pp, many + 1)])))) tt = some (.tup ((callIn web here pp).map V.int)) := by
            rw [upd_ne (ne_of htt fr3.d (fun z => nomatch z))]
            exact htt
          refine ⟨.ref fA, rfl, .inl ⟨rfl, _, SqL.of fr4.f⟩, .ref tt, rfl, fA, _, .ref tt, rfl, rfl, fr4.f, ?_, ?_⟩
          · rw [List.length_map, fr4.kf.len]
            exact Nat.lt_of_le_of_lt (Nat.le_trans hlen2 hle2) (by decide)
          · refine ⟨us ++ [tt], _, _, rfl, ?_⟩
            rw [hacc21, visit_no hkd]
            refine ⟨fr4.app nf0 nfl ht4, ?_, fun s hs => ?_⟩
            · rw [upd_ne nmf, upd_ne nmd]
              exact e3 _ _ hmA
            · rcases List.mem_append.mp hs with z | z
              · exact hse2 s z
              · rw [List.mem_singleton.mp z]
                exact hokt
      · obtain ⟨us, x7, x8, rfl, fr2, hmA, hse2⟩ := hp
        rw [List.length_map, List.take_length] at fr2 hse2
        refine ⟨us, _, x7, x8, rfl, ?_⟩
        rw [hacc1]
        exact ⟨fr2, hse2⟩
    · obtain ⟨us, x6, x7, x8, rfl, fr, hse⟩ := hp
      rw [List.length_map, hk.len, List.take_length] at fr hse
      exact ⟨.ref fA, rfl, _, _, _, fA, us, _, _, _, _, rfl, fr.ex, fr.d, fr.f, nf0, fr.kf, hse, hb'⟩
end
end TallR

set_option Elab.async false
set_option linter.all false
set_option maxRecDepth 100000
set_option maxHeartbeats 4000000
namespace TallR
open PySem PySem.Spec PyProof.Rows L2
open Evl (Ex)
open Tall
/-! ### a new dict of sets, walked in a comprehension -/
def EvR (te : TE) (σ : L2.St) (H : Hp) (F : Found) : Prop := ∀ H1, ExT H H1 → ∀ Q : VK, (∀ d H2, H1 d = none → Ex H1 H2 → H2 d = some (.dT (encF F)) → Q (.ref d) H2) → te σ H1 Q
abbrev encP (kv : Pset × Int) : PyData := .tuple [encS kv.1, .int kv.2]
section
variable {K : PySem.W.Frag} {σ : L2.St} {H : Hp} {ta td te : TE} {t : TT} {F : Found}
theorem r_call {E : XK} {ds : TA} {web : Web} {st : Pset} (h : EvA ds σ H [encW web, encS st]) (hok : WebOk web ∧ SetOk web.length st) (hR : reach web st = some F) (hl : F.length ≤ 1000) : EvR (tCall spReach [] E ds) σ H F := fun H1 e Q q =>
  h H1 e _ fun vs H2 e2 hvs => by
    rw [List.append_nil]
    exact ⟨web, st, F, hvs, hok, hR, hl, fun d H3 nd e3 hd => q d H3 (Evl.fresh_back e2 nd) (e2.trans e3) hd⟩
theorem encF_get {i : Nat} {k : List Key} {v : V} (h : (encF F)[i]? = some (k, v)) : ∃ kv, F[i]? = some kv ∧ k = keyS kv.1 ∧ v = .int kv.2 := by
  unfold encF at h
  rw [List.getElem?_map] at h
  cases hf : F[i]? with
  | none => rw [hf] at h; exact nomatch h
  | some kv =>
    rw [hf] at h
    have e := Option.some.inj h
    injection e with e1 e2
    exact ⟨kv, rfl, e1.symm, e2.symm⟩
/-- what the items yield -/
theorem items_yield {i : Nat} {H H' : Hp} {x : V} (y : ∃ T k v q, (encF F)[i]? = some (k, v) ∧ x = .ref T ∧ H T = none ∧ H q = some (.tup (k.map kV)) ∧ H' = upd H T (.tup [.ref q, v])) :
    Ex H H' ∧ ∃ kv, F[i]? = some kv ∧ ∃ T q, x = .ref T ∧ H' T = some (.tup [.ref q, .int kv.2]) ∧ H' q = some (.tup (kv.1.map V.int)) := by
  obtain ⟨T, k, v, q, h1, rfl, nT, hq, rfl⟩ := y
  obtain ⟨kv, h2, rfl, rfl⟩ := encF_get h1
  rw [keyS_V] at hq
  exact ⟨Evl.Ex.new nT, kv, h2, T, q, rfl, upd_same, (Evl.Ex.new nT) _ _ hq⟩
theorem keys_yield {i : Nat} {H H' : Hp} {x : V} (y : H' = H ∧ ∃ (k : List Key) (v : V) (q : Addr), (encF F)[i]? = some (k, v) ∧ x = .ref q ∧ H q = some (.tup (k.map kV))) :
    Ex H H' ∧ ∃ kv, F[i]? = some kv ∧ Dt H' x (encS kv.1) := by
  obtain ⟨rfl, k, v, q, h1, rfl, hq⟩ := y
  obtain ⟨kv, h2, rfl, rfl⟩ := encF_get h1
  rw [keyS_V] at hq
  exact ⟨Evl.Ex.refl _, kv, h2, Dt.ofSet hq⟩
/-- [e for a, b in d.items() if t] -/
theorem l_lcItems {a b : Nat} {vs : List Nat} (f : Pset × Int → Bool) (gd : Pset × Int → PyData) (h : EvR td σ H F) (hz : F.length ≤ 1000) (hw : ∀ x y, wipe (((wipe σ vs).set a (some x)).set b (some y)) vs = wipe σ vs)
    (ht : ∀ kv v H1, kv ∈ F → ExT H H1 → Dt H1 v (encS kv.1) → EvT t (((wipe σ vs).set a (some v)).set b (some (.int kv.2))) H1 (f kv))
    (he : ∀ kv v H1, kv ∈ F → ExT H H1 → Dt H1 v (encS kv.1) → f kv = true → EvD te (((wipe σ vs).set a (some v)).set b (some (.int kv.2))) H1 (gd kv)) :
    EvL (tLc (iItemsT (tFrz td)) (gTup K 2 (gCons (gName a) (gCons (gName b) gNil))) t te vs) σ H ((F.filter f).map gd) := fun H0 e0 Q q => h H0 e0 _ fun d H1 nd e1 hd => by
  refine ⟨d, encF F, rfl, hd, fun od => ⟨d, od, encF F, rfl, upd_same, fun Dl hD => ?_⟩⟩
  have ex0 : Ex H0 (upd H1 d (.frz od (.dT (encF F)))) := Evl.Ex.mut e1 nd
  have et0 : ExT H (upd H1 d (.frz od (.dT (encF F)))) := e0.trans ex0.t
  refine lc_gen (xs := F) walk_itemsT (encF_len F).symm (by rw [encF_len]; exact hz) (fun kv x H' => ∃ T q, x = .ref T ∧ H' T = some (.tup [.ref q, .int kv.2]) ∧ H' q = some (.tup (kv.1.map V.int))) _ (fun H' x => x _ _ upd_same) (fun i Hx x H' ex hi y => items_yield y) f gd hD (fun kv x H' hx ex hR Q' q' => ?_) (fun acc H' ex ha hacc => q Dl acc H' (Evl.fresh_back ex0 hD) (ex0.trans ex) ha hacc)
  obtain ⟨T, qq, rfl, hT, hq⟩ := hR
  refine ⟨T, [.ref qq, .int kv.2], rfl, SqT.of hT, rfl, .ref qq, [.int kv.2], rfl, .int kv.2, [], rfl, rfl, ?_⟩
  exact q' _ H' (hw _ _) (Evl.Ex.refl _) (ht kv _ H' hx (et0.trans ex.t) (Dt.ofSet hq)) (fun hf => (he kv _ H' hx (et0.trans ex.t) (Dt.ofSet hq) hf).x)
/-- [e for a in d if t] -/
theorem l_lcKeys {a : Nat} {vs : List Nat} (f : Pset × Int → Bool) (gd : Pset × Int → PyData) (h : EvR td σ H F) (hz : F.length ≤ 1000) (hw : ∀ x, wipe ((wipe σ vs).set a (some x)) vs = wipe σ vs)
    (ht : ∀ kv v H1, kv ∈ F → ExT H H1 → Dt H1 v (encS kv.1) → EvT t ((wipe σ vs).set a (some v)) H1 (f kv))
    (he : ∀ kv v H1, kv ∈ F → ExT H H1 → Dt H1 v (encS kv.1) → f kv = true → EvD te ((wipe σ vs).set a (some v)) H1 (gd kv)) :
    EvL (tLc (iKeys (tFrz td)) (gName a) t te vs) σ H ((F.filter f).map gd) := fun H0 e0 Q q => h H0 e0 _ fun d H1 nd e1 hd => by
  refine ⟨d, encF F, rfl, hd, fun od => ⟨d, od, rfl, .inr ⟨encF F, upd_same, fun Dl hD => ?_⟩⟩⟩
  have ex0 : Ex H0 (upd H1 d (.frz od (.dT (encF F)))) := Evl.Ex.mut e1 nd
  have et0 : ExT H (upd H1 d (.frz od (.dT (encF F)))) := e0.trans ex0.t
  refine lc_gen (xs := F) walk_keysT (encF_len F).symm (by rw [encF_len]; exact hz) (fun kv x H' => Dt H' x (encS kv.1)) _ (fun H' x => x _ _ upd_same) (fun i Hx x H' ex hi y => keys_yield y) f gd hD (fun kv x H' hx ex hR Q' q' => ?_) (fun acc H' ex ha hacc => q Dl acc H' (Evl.fresh_back ex0 hD) (ex0.trans ex) ha hacc)
  exact q' _ H' (hw _) (Evl.Ex.refl _) (ht kv _ H' hx (et0.trans ex.t) hR) (fun hf => (he kv _ H' hx (et0.trans ex.t) hR hf).x)
theorem EvL.is {ds ds' : List PyData} (h : EvL te σ H ds) (e : ds = ds') : EvL te σ H ds' := e ▸ h
/-- sorted of a list of sets -/
theorem l_sortSets {bs : List Pset} (h : EvL ta σ H (bs.map encS)) (hl : bs.length ≤ 1000) (hne : ∀ b ∈ bs, b ≠ []) : EvL (tCB (rSortSets K) (tCons ta tNil)) σ H ((bs.mergeSort (PySem.W.dataLe false encS)).map encS) :=
  l_cl h fun a xs H ha hx Q q => by
    obtain ⟨ts, rfl, hk⟩ := hx.sets
    exact ⟨a, ts, bs, rfl, SqL.of ha, hk, hl, hne, fun p us np ku => q p (us.map V.ref) _ np (Evl.Ex.new np) upd_same ((DtAll.ofKeys ku).mono (ExT.new np))⟩
end
section
variable {X : Cx} (K : PySem.W.Frag)
theorem kSortSets (hu : X.A.units + 64 < cLine) (h : X.K = K := by rfl) : CallR X (.builtin "sorted") (rSortSets K) := by subst h; exact cr_sortSets hu
theorem kPgTup {es : List Expr} {kk : Nat} {t : TGs} {n : Nat} {pos : Pos} (hc : X.calm = true) (h : PGs X es t) (hn : (assignEach es X.env).length = n := by rfl) (hst : (assignEach es X.env).findIdx? (·.1) = none := by rfl) (hk : X.K = K := by rfl) : PG X (.Tuple es kk pos) (gTup K n t) := by
  subst hk
  exact pg_tup hc h hn hst
end
abbrev sFitsWish : Stmt := topS 27
abbrev sReachedBy : Stmt := topS 25
abbrev sCanHave : Stmt := topS 28
abbrev sCallsToHave : Stmt := topS 29
theorem scFitsWish : FnScope ["here", "up", "down", "person"] ["here", "up", "down"] (defScope sFitsWish) := ⟨rfl, rfl, rfl, by decide +kernel, rfl, by decide +kernel, by decide +kernel⟩
theorem scReachedBy : FnScope ["web", "standing", "many", "here", "calls"] ["web", "standing", "many"] (defScope sReachedBy) := ⟨rfl, rfl, rfl, by decide +kernel, rfl, by decide +kernel, by decide +kernel⟩
theorem scCanHave : FnScope ["web", "standing", "up", "down", "here"] ["web", "standing", "up", "down"] (defScope sCanHave) := ⟨rfl, rfl, rfl, by decide +kernel, rfl, by decide +kernel, by decide +kernel⟩
theorem scCallsToHave : FnScope ["web", "standing", "up", "down", "some", "here", "many"] ["web", "standing", "up", "down"] (defScope sCallsToHave) := ⟨rfl, rfl, rfl, by decide +kernel, rfl, by decide +kernel, by decide +kernel⟩
/-- the mirror of fits_wish -/
def fits (here up down : Pset) : Bool := up.all (fun p => here.contains p) && !(down.any fun p => here.contains p)
section
variable {P : Program} {w : World} {K : PySem.W.Frag} {mg : Str → Option Value} {base : Heap}
def RFitsWish : List PyData → PyData → Prop := fun ds d => ∃ h u v, ds = [encS h, encS u, encS v] ∧ u.length ≤ 1000 ∧ v.length ≤ 1000 ∧ d = .bool (fits h u v)
theorem ok_fitsWish {f : Addr} {fd : FuncData} {k : Nat} (B : Bl mg) (F : Fun K "fits_wish" "fits_wish" sFitsWish f fd) : FnOk P w K mg base CX0 (k + 1) f fd ["here", "up", "down"] (spR RFitsWish) := by
  refine F.ok scFitsWish (spR_len fun ds d ⟨v, lo, _, h, _⟩ => by rw [h]; rfl) (fun cdv A outer s H vs Q E hr h => ?_)
  obtain ⟨ds, d, hv, ⟨sh, su, sd, rfl, lu, ld, rfl⟩, q⟩ := h
  obtain ⟨v, u, t, rfl, h1, h2, h3⟩ := hv.three
  have nd := scFitsWish.nd
  refine ⟨_, pss_one (ps_ret (pe_and (pe_callB (kAll K) (by rfl) B.all (by decide +kernel) (pa_cons
      (pe_lc (own := [("person", 3)]) (g := gName 3) (by rfl) nd (kPiT K (pv 1)) (blkOk_by (N := ["here", "up", "down", "person"]) (sc := defScope sFitsWish) (by decide +kernel))
        (fun _ _ _ _ _ => pg_name (i := 3) nd rfl (Or.inl rfl)) (fun _ _ _ _ _ => pts_nil) (fun _ _ _ _ _ => pe_cmpR (kIn K) (pv 3) (pv 0) (by rfl))) pa_nil))
    (pe_one (pe_not (pe_callB (kAny K) (by rfl) B.any (by decide +kernel) (pa_cons
      (pe_lc (own := [("person", 3)]) (g := gName 3) (by rfl) nd (kPiT K (pv 2)) (blkOk_by (N := ["here", "up", "down", "person"]) (sc := defScope sFitsWish) (by decide +kernel))
        (fun _ _ _ _ _ => pg_name (i := 3) nd rfl (Or.inl rfl)) (fun _ _ _ _ _ => pts_nil) (fun _ _ _ _ _ => pe_cmpR (kIn K) (pv 3) (pv 0) (by rfl))) pa_nil)))))), ?_⟩
  exact s_ret (d_and (d_allT PyData.int (fun p => sh.contains p) (d_var rfl h2) lu (fun _ => rfl) fun a v4 H4 ha e4 h4 => d_in (d_var rfl h4) (d_var rfl (h1.mono e4)))
    fun _ => d_not (d_anyT PyData.int (fun p => sh.contains p) (d_var rfl h3) ld (fun _ => rfl) fun a v4 H4 ha e4 h4 => d_in (d_var rfl h4) (d_var rfl (h1.mono e4)))) q
/-- reached_by -/
def reachedBy (F : Found) (many : Int) : List Pset := ((F.filter fun kv => decide (kv.2 ≤ many)).map (·.1)).mergeSort (PySem.W.dataLe false encS)
def RReachedBy : List PyData → List PyData → Prop := fun ds d => ∃ web st many F, ds = [encW web, encS st, .int many] ∧ (WebOk web ∧ SetOk web.length st) ∧ (0 ≤ many ∧ many ≤ 100) ∧ reach web st = some F ∧ F.length ≤ 1000 ∧ (∀ kv ∈ F, kv.1 ≠ []) ∧ d = (reachedBy F many).map encS
theorem ok_reachedBy {f : Addr} {fd : FuncData} {k : Nat} (B : Bl mg) (F : Fun K "reached_by" "reached_by" sReachedBy f fd) (G1 : Ok P w K mg base k "need_state" ["web", "standing"] (spR RNeedState)) (G2 : Ok P w K mg base k "need_many" ["many"] (spR RNeedMany)) (G3 : Ok P w K mg base k "reached_from" ["web", "standing"] spReach) :
    FnOk P w K mg base CX0 (k + 1) f fd ["web", "standing", "many"] (spL RReachedBy) := by
  refine F.ok scReachedBy (spL_len fun ds d ⟨v, lo, _, _, h, _⟩ => by rw [h]; rfl) (fun cdv A outer s H vs Q E hr h => ?_)
  obtain ⟨ds, d, hv, ⟨web, st, many, R, rfl, hok, hm, hR, hl, hne, rfl⟩, q⟩ := h
  obtain ⟨v, u, t, rfl, h1, h2, h3⟩ := hv.three
  have nd := scReachedBy.nd
  refine ⟨_, pss_cons (ps_expr (pe_do G1 hr (by rfl) (pa_cons (pv 0) (pa_cons (pv 1) pa_nil)))) (pss_cons (ps_expr (pe_do G2 hr (by rfl) (pa_cons (pv 2) pa_nil)))
    (pss_one (ps_ret (pe_callB (kSortSets K hr.units) (by rfl) B.sorted (by decide +kernel) (pa_cons
      (pe_lc (own := [("here", 3), ("calls", 4)]) (by rfl) nd (pi_itemsT (pe_frz (pe_do G3 hr (by rfl) (pa_cons (pv 0) (pa_cons (pv 1) pa_nil))))) (blkOk_by (N := ["web", "standing", "many", "here", "calls"]) (sc := defScope sReachedBy) (by decide +kernel))
        (fun _ _ _ _ _ => kPgTup K (n := 2) rfl (pgs_cons (pg_name (i := 3) nd rfl (Or.inl rfl)) (pgs_cons (pg_name (i := 4) nd rfl (Or.inl rfl)) pgs_nil)))
        (fun _ _ _ _ _ => pts_one (pt_cmpR op_le (pv 4) (pv 2) (nomark _))) (fun _ _ _ _ _ => pv 3)) pa_nil))))), ?_⟩
  refine q_drop (d_call (a_cons (d_var rfl h1) (a_cons (d_var rfl h2) a_nil)) (sd_R ⟨web, st, rfl, hok, rfl⟩)) fun H1 e1 => ?_
  refine q_drop (d_call (a_cons (d_var rfl (h3.mono e1.t)) a_nil) (sd_R ⟨many, rfl, hm, rfl⟩)) fun H2 e2 => ?_
  have e12 := e1.trans e2
  have hmap : (R.filter fun kv => decide (kv.2 ≤ many)).map (fun kv => encS kv.1) = ((R.filter fun kv => decide (kv.2 ≤ many)).map (·.1)).map encS := by rw [List.map_map]; rfl
  refine s_retL (l_sortSets (EvL.is (l_lcItems (fun kv => decide (kv.2 ≤ many)) (fun kv => encS kv.1)
    (r_call (a_cons (d_var rfl (h1.mono e12.t)) (a_cons (d_var rfl (h2.mono e12.t)) a_nil)) hok hR hl) hl (fun _ _ => rfl)
    (fun kv v4 H4 hkv e4 h4 => t_test (d_le (d_var rfl (.int _)) (d_var rfl (h3.mono (e12.t.trans e4))))) (fun kv v4 H4 hkv e4 h4 _ => d_var rfl h4)) hmap) (by rw [List.length_map]; exact Nat.le_trans (List.length_filter_le _ _) hl) (fun b hb => ?_)) fun a xs H3 na e3 ha hx => q a xs H3 (Evl.fresh_back e12 na) (e12.trans e3) ha hx
  obtain ⟨kv, hkv, rfl⟩ := List.mem_map.mp hb
  exact hne kv (List.mem_filter.mp hkv).1
end
end TallR

set_option Elab.async false
set_option linter.all false
set_option maxRecDepth 100000
set_option maxHeartbeats 4000000
namespace TallR
open PySem PySem.Spec PyProof.Rows L2
open Evl (Ex)
open Tall
abbrev sFewestBy : Stmt := topS 26
abbrev sWaysToHave : Stmt := topS 30
abbrev sSaveMost : Stmt := topS 31
theorem scFewestBy : FnScope ["web", "standing", "many", "found", "here", "calls"] ["web", "standing", "many"] (defScope sFewestBy) := ⟨rfl, rfl, rfl, by decide +kernel, rfl, by decide +kernel, by decide +kernel⟩
theorem scWaysToHave : FnScope ["web", "standing", "up", "down", "found", "here"] ["web", "standing", "up", "down"] (defScope sWaysToHave) := ⟨rfl, rfl, rfl, by decide +kernel, rfl, by decide +kernel, by decide +kernel⟩
theorem scSaveMost : FnScope ["web", "standing", "down", "here", "some", "many"] ["web", "standing", "down"] (defScope sSaveMost) := ⟨rfl, rfl, rfl, by decide +kernel, rfl, by decide +kernel, by decide +kernel⟩
/-! ### loops over the dict, one list of the def's own changed -/
def ExBut (l : Addr) (H H' : Hp) : Prop := ∀ b o, b ≠ l → H b = some o → H' b = some o
theorem ExBut.refl (l : Addr) (H : Hp) : ExBut l H H := fun _ _ _ h => h
theorem ExBut.trans {l : Addr} {H H1 H2 : Hp} (a : ExBut l H H1) (b : ExBut l H1 H2) : ExBut l H H2 := fun x o n h => b x o n (a x o n h)
theorem _root_.Evl.Ex.but {l : Addr} {H H' : Hp} (e : Ex H H') : ExBut l H H' := fun b o _ h => e b o h
theorem ExBut.t {l : Addr} {H H' : Hp} {ys : List V} (e : ExBut l H H') (h : H l = some (.lst ys)) : ExT H H' := fun b xs hb => e b _ (ne_of hb h (fun z => nomatch z)) hb
theorem ExBut.upd {l : Addr} {H : Hp} {o : HO} : ExBut l H (upd H l o) := fun b o n h => by rw [upd_ne n]; exact h
theorem ExBut.ex {l : Addr} {H H0 H' : Hp} (e : ExBut l H H') (e0 : Ex H0 H) (n : H0 l = none) : Ex H0 H' := fun b o h => e b o (ne_of_none h n) (e0 b o h)
section
variable {K : PySem.W.Frag} {σ : L2.St} {H : Hp} {ta td te : TE} {t : TT} {F : Found} {D : Ends} {tb : TS} {l : Addr}
theorem s_forItems {a b : Nat} {ys : List V} (h : EvR td σ H F) (hl : H l = some (.lst ys)) (Pu : Nat → L2.St → Hp → Prop) (h0 : ∀ H1, Ex H H1 → Pu 0 σ H1)
    (hs : ∀ i kv v σ' H' H'', F[i]? = some kv → ExBut l H H' → Pu i σ' H' → Ex H' H'' → Dt H'' v (encS kv.1) → ∀ Nx : L2.St → Hp → Prop, (∀ σ2 H2, ExBut l H'' H2 → Pu (i + 1) σ2 H2 → Nx σ2 H2) →
      tb { D with nx := Nx, ct := Nx, bk := D.nx } ((σ'.set a (some v)).set b (some (.int kv.2))) H'')
    (hd : ∀ σ' H', ExBut l H H' → Pu F.length σ' H' → D.nx σ' H') : tFor (iItemsT (tFrz td)) (gTup K 2 (gCons (gName a) (gCons (gName b) gNil))) tb D σ H :=
  h H (ExT.refl H) _ fun d H1 nd e1 hdd => by
    refine ⟨d, encF F, rfl, hdd, fun od => ⟨d, od, encF F, rfl, upd_same, ?_⟩⟩
    have ndl : d ≠ l := fun z => by rw [z, hl] at nd; cases nd
    have ex0 : Ex H (upd H1 d (.frz od (.dT (encF F)))) := Evl.Ex.mut e1 nd
    refine for_it walk_itemsT (fun i σ' H' => ExBut l (upd H1 d (.frz od (.dT (encF F)))) H' ∧ Pu i σ' H') ⟨ExBut.refl _ _, h0 _ ex0⟩ (fun i σ' H' _ p => p.1 _ _ ndl upd_same) (fun i x σ' H' H'' hi p y => ?_) (fun σ' H' p => ?_)
    · obtain ⟨e2, kv, hkv, T, q, rfl, hT, hq⟩ := items_yield y
      refine ⟨T, [.ref q, .int kv.2], rfl, SqT.of hT, rfl, .ref q, [.int kv.2], rfl, .int kv.2, [], rfl, rfl, ?_⟩
      exact hs i kv (.ref q) σ' H' H'' hkv (ex0.but.trans p.1) p.2 e2 (Dt.ofSet hq) _ fun σ2 H2 e3 p3 => ⟨(p.1.trans e2.but).trans e3, p3⟩
    · rw [encF_len] at p
      exact hd σ' H' (ex0.but.trans p.1) p.2
theorem s_forKeys {a : Nat} {ys : List V} (h : EvR td σ H F) (hl : H l = some (.lst ys)) (Pu : Nat → L2.St → Hp → Prop) (h0 : ∀ H1, Ex H H1 → Pu 0 σ H1)
    (hs : ∀ i kv v σ' H' H'', F[i]? = some kv → ExBut l H H' → Pu i σ' H' → Ex H' H'' → Dt H'' v (encS kv.1) → ∀ Nx : L2.St → Hp → Prop, (∀ σ2 H2, ExBut l H'' H2 → Pu (i + 1) σ2 H2 → Nx σ2 H2) →
      tb { D with nx := Nx, ct := Nx, bk := D.nx } (σ'.set a (some v)) H'')
    (hd : ∀ σ' H', ExBut l H H' → Pu F.length σ' H' → D.nx σ' H') : tFor (iKeys (tFrz td)) (gName a) tb D σ H :=
  h H (ExT.refl H) _ fun d H1 nd e1 hdd => by
    refine ⟨d, encF F, rfl, hdd, fun od => ⟨d, od, rfl, .inr ⟨encF F, upd_same, ?_⟩⟩⟩
    have ndl : d ≠ l := fun z => by rw [z, hl] at nd; cases nd
    have ex0 : Ex H (upd H1 d (.frz od (.dT (encF F)))) := Evl.Ex.mut e1 nd
    refine for_it walk_keysT (fun i σ' H' => ExBut l (upd H1 d (.frz od (.dT (encF F)))) H' ∧ Pu i σ' H') ⟨ExBut.refl _ _, h0 _ ex0⟩ (fun i σ' H' _ p => p.1 _ _ ndl upd_same) (fun i x σ' H' H'' hi p y => ?_) (fun σ' H' p => ?_)
    · obtain ⟨e2, kv, hkv, hx⟩ := keys_yield y
      exact hs i kv x σ' H' H'' hkv (ex0.but.trans p.1) p.2 e2 hx _ fun σ2 H2 e3 p3 => ⟨(p.1.trans e2.but).trans e3, p3⟩
    · rw [encF_len] at p
      exact hd σ' H' (ex0.but.trans p.1) p.2
/-- xs.append(e) -/
theorem s_app {k : Nat} {xs : List V} {d : PyData} (hl : H l = some (.lst xs)) (ha : σ[k]? = some (some (.ref l))) (h : EvD te σ H d) (hz : xs.length < 100000) (kk : ∀ v H1, Ex H H1 → Dt H1 v d → D.nx σ (upd H1 l (.lst (xs ++ [v])))) :
    tDrop (tBM K "list" rAppend (tVar k) (tCons te tNil)) D σ H :=
  ⟨.ref l, ha, .inl ⟨rfl, xs, SqL.of hl⟩, h H (ExT.refl H) _ fun v H1 e1 hv => ⟨l, xs, v, rfl, rfl, e1 _ _ hl, Evl.sz_lt hz, kk v H1 e1 hv⟩⟩
/-- -x -/
theorem d_neg {i : Int} (ha : EvD ta σ H (.int i)) : EvD (tUn (rU fun i => .int (-i)) ta) σ H (.int (-i)) := fun H1 e Q q => ha H1 e _ fun v H2 e2 hv => by
  cases hv
  exact ⟨i, rfl, q _ H2 e2 (.int _)⟩
end
/-! ### pairs of a number and a set -/
abbrev enc2 (p : Int × Pset) : PyData := .tuple [.int p.1, encS p.2]
theorem ints_inj : ∀ {a b : List Int}, a.map PyData.int = b.map PyData.int → a = b
  | [], [], _ => rfl
  | [], _ :: _, h => nomatch h
  | _ :: _, [], h => nomatch h
  | x :: a, y :: b, h => by
    rw [List.map_cons, List.map_cons] at h
    injection h with h1 h2
    injection h1 with h1
    rw [h1, ints_inj h2]
theorem enc2_inj {p q : Int × Pset} (h : enc2 p = enc2 q) : p = q := by
  injection h with h
  injection h with h1 h2
  injection h2 with h2 _
  injection h1 with h1
  injection h2 with h2
  exact Prod.ext h1 (ints_inj h2)
def minP (p : Int × Pset) (r : List (Int × Pset)) : Int × Pset := r.foldl (fun a y => if PySem.W.dataLt (enc2 y) (enc2 a) then y else a) p
theorem minP_D : ∀ (r : List (Int × Pset)) (p : Int × Pset), PySem.W.minD (enc2 p) (r.map enc2) = enc2 (minP p r)
  | [], p => rfl
  | y :: r, p => by
    show PySem.W.minD (if PySem.W.dataLt (enc2 y) (enc2 p) then enc2 y else enc2 p) (r.map enc2) = enc2 (minP (if PySem.W.dataLt (enc2 y) (enc2 p) then y else p) r)
    cases PySem.W.dataLt (enc2 y) (enc2 p) with
    | true => exact minP_D r y
    | false => exact minP_D r p
theorem alike_enc2 (p q : Int × Pset) : PySem.W.alike (enc2 p) (enc2 q) = true := by
  simp [PySem.W.alike, PySem.W.alikeAll, PySem.W.alike_ints]
theorem alikeAll_enc2 (ps : List (Int × Pset)) : PySem.W.AlikeAll (ps.map enc2) := by
  refine ⟨fun x hx y hy => ?_, fun x hx e => ?_⟩
  · obtain ⟨p, _, rfl⟩ := List.mem_map.mp hx
    obtain ⟨q, _, rfl⟩ := List.mem_map.mp hy
    exact alike_enc2 p q
  · obtain ⟨p, _, rfl⟩ := List.mem_map.mp hx
    exact nomatch e
theorem depth_enc2 (p : Int × Pset) : (enc2 p).depth ≤ 2 := by
  simp [PyData.depth, PyData.depthAll, PySem.W.depth_ints]
theorem depthAll_enc2 : ∀ ps : List (Int × Pset), PyData.depthAll (ps.map enc2) ≤ 2
  | [] => by simp [PyData.depthAll]
  | p :: ps => by
    have h1 := depth_enc2 p
    have h2 := depthAll_enc2 ps
    show PyData.depthAll (enc2 p :: ps.map enc2) ≤ 2
    rw [PyData.depthAll]
    omega
theorem canLay_enc2 (p : Int × Pset) : (enc2 p).canLay0 = true := by
  simp [PyData.canLay0, PyData.canLayAll0, canLay_ints]
theorem canLayAll_enc2 : ∀ ps : List (Int × Pset), PyData.canLayAll0 (ps.map enc2) = true
  | [] => by simp [PyData.canLayAll0]
  | p :: ps => by
    show PyData.canLayAll0 (enc2 p :: ps.map enc2) = true
    rw [PyData.canLayAll0, canLay_enc2, canLayAll_enc2 ps]
    rfl
theorem shaped_enc2 (p : Int × Pset) : SeqAt.shaped (enc2 p) = true := by
  unfold SeqAt.shaped
  rw [canLay_enc2, decide_eq_true (Nat.le_trans (depth_enc2 p) (by decide))]
  rfl
theorem shaped_enc2s (ps : List (Int × Pset)) : SeqAt.shaped (.list (ps.map enc2)) = true := by
  unfold SeqAt.shaped
  have a : PyData.canLay0 (.list (ps.map enc2)) = true := by rw [PyData.canLay0]; exact canLayAll_enc2 ps
  have b : PyData.depth (.list (ps.map enc2)) ≤ 64 := by
    have := depthAll_enc2 ps
    rw [PyData.depth]
    omega
  rw [a, decide_eq_true b]
  rfl
theorem eqv_nil2 (ds : List PyData) : PyData.eqv (.list ds) (.list []) = ds.isEmpty := by
  cases ds with
  | nil => rfl
  | cons b r => simp [PyData.eqv, PyData.eqvAll]
/-- min of a list of such pairs that stands at l -/
theorem min2_at {K : PySem.W.Frag} {H : Hp} {l : Addr} {xs : List V} {p : Int × Pset} {r : List (Int × Pset)} {Q : VK} (hl : H l = some (.lst xs)) (hx : DtAll H xs ((p :: r).map enc2))
    (k : ∀ v, Dt H v (enc2 (minP p r)) → Q v H) : rMinD K [.ref l] H Q := by
  refine ⟨l, xs, enc2 p, r.map enc2, rfl, SqL.of hl, DtAll.dp _ hx, alikeAll_enc2 (p :: r), Nat.le_trans (depthAll_enc2 (p :: r)) (by decide), fun i v hi hm => ?_⟩
  obtain ⟨d, hd, hv⟩ := hx.get hi
  have e : d = enc2 (minP p r) := by
    rw [← minP_D]
    exact Option.some.inj (hd.symm.trans hm)
  exact k v (e ▸ hv)
section
variable {X : Cx} (K : PySem.W.Frag)
theorem kMinD (hu : X.A.units + 64 < cLine) (hc : X.calm = true := by rfl) (h : X.K = K := by rfl) : CallR X (.builtin "min") (rMinD K) := by subst h; exact cr_minD hc hu
theorem kMin (hc : X.calm = true := by rfl) (h : X.K = K := by rfl) : CallR X (.builtin "min") (rMin K) := by subst h; exact cr_min hc
theorem kMax (hc : X.calm = true := by rfl) (h : X.K = K := by rfl) : CallR X (.builtin "max") (rMax K) := by subst h; exact cr_max hc
theorem kEqD (hu : X.A.units + 64 < cLine) (h : X.K = K := by rfl) : OpR X (compareOp .Eq) (rEqD K) := by subst h; exact op_eqD hu
theorem kNeD (hu : X.A.units + 64 < cLine) (h : X.K = K := by rfl) : OpR X (compareOp .NotEq) (rNeD K) := by subst h; exact op_neD hu
end
section
variable {P : Program} {w : World} {K : PySem.W.Frag} {mg : Str → Option Value} {base : Heap}
/-- can_have -/
def RCanHave : List PyData → PyData → Prop := fun ds d => ∃ web st up down F, ds = [encW web, encS st, encS up, encS down] ∧ (WebOk web ∧ SetOk web.length st) ∧ SetOk web.length up ∧ SetOk web.length down ∧ reach web st = some F ∧ F.length ≤ 1000 ∧ d = .bool (F.any fun kv => fits kv.1 up down)
theorem ok_canHave {f : Addr} {fd : FuncData} {k : Nat} (B : Bl mg) (F : Fun K "can_have" "can_have" sCanHave f fd) (G1 : Ok P w K mg base k "need_state" ["web", "standing"] (spR RNeedState)) (G2 : Ok P w K mg base k "need_people" ["web", "people"] (spR RNeedSet)) (G3 : Ok P w K mg base k "reached_from" ["web", "standing"] spReach)
    (G4 : Ok P w K mg base k "fits_wish" ["here", "up", "down"] (spR RFitsWish)) : FnOk P w K mg base CX0 (k + 1) f fd ["web", "standing", "up", "down"] (spR RCanHave) := by
  refine F.ok scCanHave (spR_len fun ds d ⟨v, lo, _, _, _, h, _⟩ => by rw [h]; rfl) (fun cdv A outer s H vs Q E hr h => ?_)
  obtain ⟨ds, d, hv, ⟨web, st, up, down, R, rfl, hok, hup, hdn, hR, hl, rfl⟩, q⟩ := h
  obtain ⟨v, u, t, x, rfl, h1, h2, h3, h4⟩ := hv.four
  have nd := scCanHave.nd
  refine ⟨_, pss_cons (ps_expr (pe_do G1 hr (by rfl) (pa_cons (pv 0) (pa_cons (pv 1) pa_nil)))) (pss_cons (ps_expr (pe_do G2 hr (by rfl) (pa_cons (pv 0) (pa_cons (pv 2) pa_nil)))) (pss_cons (ps_expr (pe_do G2 hr (by rfl) (pa_cons (pv 0) (pa_cons (pv 3) pa_nil))))
    (pss_one (ps_ret (pe_callB (kAny K) (by rfl) B.any (by decide +kernel) (pa_cons
      (pe_lc (own := [("here", 4)]) (g := gName 4) (by rfl) nd (pi_keys (pe_frz (pe_do G3 hr (by rfl) (pa_cons (pv 0) (pa_cons (pv 1) pa_nil))))) (blkOk_by (N := ["web", "standing", "up", "down", "here"]) (sc := defScope sCanHave) (by decide +kernel))
        (fun _ _ _ _ _ => pg_name (i := 4) nd rfl (Or.inl rfl)) (fun _ _ _ _ _ => pts_nil) (fun _ _ _ _ _ => pe_do G4 hr (by rfl) (pa_cons (pv 4) (pa_cons (pv 2) (pa_cons (pv 3) pa_nil))))) pa_nil)))))), ?_⟩
  refine q_drop (d_call (a_cons (d_var rfl h1) (a_cons (d_var rfl h2) a_nil)) (sd_R ⟨web, st, rfl, hok, rfl⟩)) fun H1 e1 => ?_
  refine q_drop (d_call (a_cons (d_var rfl (h1.mono e1.t)) (a_cons (d_var rfl (h3.mono e1.t)) a_nil)) (sd_R ⟨web.map encS, up, rfl, by rw [List.length_map]; exact hup, rfl⟩)) fun H2 e2 => ?_
  have e12 := e1.trans e2
  refine q_drop (d_call (a_cons (d_var rfl (h1.mono e12.t)) (a_cons (d_var rfl (h4.mono e12.t)) a_nil)) (sd_R ⟨web.map encS, down, rfl, by rw [List.length_map]; exact hdn, rfl⟩)) fun H3 e3 => ?_
  have e13 := e12.trans e3
  have hmap : (R.filter fun _ => true).map (fun kv => PyData.bool (fits kv.1 up down)) = (R.map fun kv => fits kv.1 up down).map PyData.bool := by rw [filter_yes, List.map_map]; rfl
  have hany : (R.map fun kv => fits kv.1 up down).any id = R.any fun kv => fits kv.1 up down := by rw [List.any_map]; rfl
  refine s_ret (EvD.is (d_cl (EvL.is (l_lcKeys (fun _ => true) (fun kv => .bool (fits kv.1 up down)) (r_call (a_cons (d_var rfl (h1.mono e13.t)) (a_cons (d_var rfl (h2.mono e13.t)) a_nil)) hok hR hl) hl (fun _ => rfl) (fun _ _ _ _ _ _ => t_yes)
    (fun kv v4 H4 hkv e4 h5 _ => d_call (a_cons (d_var rfl h5) (a_cons (d_var rfl (h3.mono (e13.t.trans e4))) (a_cons (d_var rfl (h4.mono (e13.t.trans e4))) a_nil))) (sd_R ⟨kv.1, up, down, rfl, setOk_few hup, setOk_few hdn, rfl⟩))) hmap) cl_any) (congrArg PyData.bool hany)) fun v5 H5 e5 hd => q v5 H5 (e13.trans e5) hd
/-- calls_to_have: the least number -/
def RCallsToHave : List PyData → PyData → Prop := fun ds d => ∃ web st up down F m, ds = [encW web, encS st, encS up, encS down] ∧ (WebOk web ∧ SetOk web.length st) ∧ SetOk web.length up ∧ SetOk web.length down ∧ reach web st = some F ∧ F.length ≤ 1000 ∧
  (m ∈ (F.filter fun kv => fits kv.1 up down).map (·.2)) ∧ (∀ y ∈ (F.filter fun kv => fits kv.1 up down).map (·.2), m ≤ y) ∧ d = .int m
theorem ok_callsToHave {f : Addr} {fd : FuncData} {k : Nat} (B : Bl mg) (F : Fun K "calls_to_have" "calls_to_have" sCallsToHave f fd) (G1 : Ok P w K mg base k "need_state" ["web", "standing"] (spR RNeedState)) (G2 : Ok P w K mg base k "need_people" ["web", "people"] (spR RNeedSet)) (G3 : Ok P w K mg base k "reached_from" ["web", "standing"] spReach)
    (G4 : Ok P w K mg base k "fits_wish" ["here", "up", "down"] (spR RFitsWish)) : FnOk P w K mg base CX0 (k + 1) f fd ["web", "standing", "up", "down"] (spR RCallsToHave) := by
  refine F.ok scCallsToHave (spR_len fun ds d ⟨v, lo, _, _, _, _, h, _⟩ => by rw [h]; rfl) (fun cdv A outer s H vs Q E hr h => ?_)
  obtain ⟨ds, d, hv, ⟨web, st, up, down, R, m, rfl, hok, hup, hdn, hR, hl, hm1, hm2, rfl⟩, q⟩ := h
  obtain ⟨v, u, t, x, rfl, h1, h2, h3, h4⟩ := hv.four
  have nd := scCallsToHave.nd
  refine ⟨_, pss_cons (ps_expr (pe_do G1 hr (by rfl) (pa_cons (pv 0) (pa_cons (pv 1) pa_nil)))) (pss_cons (ps_expr (pe_do G2 hr (by rfl) (pa_cons (pv 0) (pa_cons (pv 2) pa_nil)))) (pss_cons (ps_expr (pe_do G2 hr (by rfl) (pa_cons (pv 0) (pa_cons (pv 3) pa_nil))))
    (pss_cons (ps_setLc (i := 4) (own := [("here", 5), ("many", 6)]) rfl nd rfl rfl (sw_true rfl rfl rfl (by decide +kernel)) (pi_itemsT (pe_frz (pe_do G3 hr (by rfl) (pa_cons (pv 0) (pa_cons (pv 1) pa_nil)))))
        (blkOk_by (N := ["web", "standing", "up", "down", "some", "here", "many"]) (sc := defScope sCallsToHave) (by decide +kernel))
        (fun _ _ _ _ _ => kPgTup K (n := 2) rfl (pgs_cons (pg_name (i := 5) nd rfl (Or.inl rfl)) (pgs_cons (pg_name (i := 6) nd rfl (Or.inl rfl)) pgs_nil)))
        (fun _ _ _ _ _ => pts_one (pt_val (pe_do G4 hr (by rfl) (pa_cons (pv 5) (pa_cons (pv 2) (pa_cons (pv 3) pa_nil)))))) (fun _ _ _ _ _ => pv 6))
    (pss_cons (ps_if (pt_cmpR (kEqD K hr.units) (pv 4) (pe_lst pa_nil) (nomark _)) pss_never pss_nil)
    (pss_one (ps_ret (pe_callB (kMin K) (by rfl) B.min (by decide +kernel) (pa_cons (pv 4) pa_nil)))))))), ?_⟩
  refine q_drop (d_call (a_cons (d_var rfl h1) (a_cons (d_var rfl h2) a_nil)) (sd_R ⟨web, st, rfl, hok, rfl⟩)) fun H1 e1 => ?_
  refine q_drop (d_call (a_cons (d_var rfl (h1.mono e1.t)) (a_cons (d_var rfl (h3.mono e1.t)) a_nil)) (sd_R ⟨web.map encS, up, rfl, by rw [List.length_map]; exact hup, rfl⟩)) fun H2 e2 => ?_
  have e12 := e1.trans e2
  refine q_drop (d_call (a_cons (d_var rfl (h1.mono e12.t)) (a_cons (d_var rfl (h4.mono e12.t)) a_nil)) (sd_R ⟨web.map encS, down, rfl, by rw [List.length_map]; exact hdn, rfl⟩)) fun H3 e3 => ?_
  have e13 := e12.trans e3
  refine q_asgL (l_lcItems (fun kv => fits kv.1 up down) (fun kv => .int kv.2) (r_call (a_cons (d_var rfl (h1.mono e13.t)) (a_cons (d_var rfl (h2.mono e13.t)) a_nil)) hok hR hl) hl (fun _ _ => rfl)
    (fun kv v4 H4 hkv e4 h5 => t_B (d_call (a_cons (d_var rfl h5) (a_cons (d_var rfl (h3.mono (e13.t.trans e4))) (a_cons (d_var rfl (h4.mono (e13.t.trans e4))) a_nil))) (sd_R ⟨kv.1, up, down, rfl, setOk_few hup, setOk_few hdn, rfl⟩)))
    (fun kv v4 H4 hkv e4 h5 _ => d_var rfl (.int _))) fun a xs H4 na e4 ha hx => ?_
  have hmap : (R.filter fun kv => fits kv.1 up down).map (fun kv => PyData.int kv.2) = ((R.filter fun kv => fits kv.1 up down).map (·.2)).map PyData.int := by rw [List.map_map]; rfl
  rw [hmap] at hx
  generalize hns : (R.filter fun kv => fits kv.1 up down).map (·.2) = ns at *
  obtain rfl := hx.ints
  have hne : ns ≠ [] := fun z => by rw [z] at hm1; exact nomatch hm1
  refine ⟨.ref a, rfl, Nat.zero_le _, fun p np => ⟨.list (ns.map PyData.int), .list [], DtAll.dpl (H := upd H4 p (.lst [])) ((Evl.Ex.new np) _ _ ha) (dt_ints ns), .lst (SqL.of upd_same) .nil, shaped_setL ns, by decide, _, rfl, ?_⟩⟩
  have e5 : Ex H4 (upd H4 p (.lst [])) := Evl.Ex.new np
  rw [eqv_nil2, show (ns.map PyData.int).isEmpty = false by cases ns with
    | nil => exact absurd rfl hne
    | cons _ _ => rfl]
  refine iteF ⟨.ref a, rfl, a, ns, rfl, SqL.of (e5 _ _ ha), List.length_pos_iff.mpr hne, fun m' h1' h2' => ?_⟩
  have em : m' = m := Int.le_antisymm (h2' m hm1) (hm2 m' h1')
  rw [em]
  exact q _ _ ((e13.trans e4).trans e5) (.int _)
end
end TallR

set_option Elab.async false
set_option linter.all false
set_option maxRecDepth 100000
set_option maxHeartbeats 4000000
namespace TallR
open PySem PySem.Spec PyProof.Rows L2
open Evl (Ex)
open Tall
section
variable {P : Program} {w : World} {K : PySem.W.Frag} {mg : Str → Option Value} {base : Heap}
/-- fewest_by: the least pair -/
def fewPairs (F : Found) (many : Int) : List (Int × Pset) := (F.filter fun kv => decide (kv.2 ≤ many)).map fun kv => ((kv.1.length : Int), kv.1)
def RFewestBy : List PyData → PyData → Prop := fun ds d => ∃ web st many F p r, ds = [encW web, encS st, .int many] ∧ (WebOk web ∧ SetOk web.length st) ∧ (0 ≤ many ∧ many ≤ 100) ∧ reach web st = some F ∧ F.length ≤ 1000 ∧ fewPairs F many = p :: r ∧ d = enc2 (minP p r)
theorem ok_fewestBy {f : Addr} {fd : FuncData} {k : Nat} (B : Bl mg) (F : Fun K "fewest_by" "fewest_by" sFewestBy f fd) (G1 : Ok P w K mg base k "need_state" ["web", "standing"] (spR RNeedState)) (G2 : Ok P w K mg base k "need_many" ["many"] (spR RNeedMany)) (G3 : Ok P w K mg base k "reached_from" ["web", "standing"] spReach) :
    FnOk P w K mg base CX0 (k + 1) f fd ["web", "standing", "many"] (spR RFewestBy) := by
  refine F.ok scFewestBy (spR_len fun ds d ⟨v, lo, _, _, _, _, h, _⟩ => by rw [h]; rfl) (fun cdv A outer s H vs Q E hr h => ?_)
  obtain ⟨ds, d, hv, ⟨web, st, many, R, p, r, rfl, hok, hm, hR, hl, hpr, rfl⟩, q⟩ := h
  obtain ⟨v, u, t, rfl, h1, h2, h3⟩ := hv.three
  have nd := scFewestBy.nd
  refine ⟨_, pss_cons (ps_expr (pe_do G1 hr (by rfl) (pa_cons (pv 0) (pa_cons (pv 1) pa_nil)))) (pss_cons (ps_expr (pe_do G2 hr (by rfl) (pa_cons (pv 2) pa_nil)))
    (pss_cons (ps_set (i := 3) nd rfl (.inl rfl) (pe_lst pa_nil))
    (pss_cons (ps_for PassesOwn.never rfl (pi_itemsT (pe_frz (pe_do G3 hr (by rfl) (pa_cons (pv 0) (pa_cons (pv 1) pa_nil))))) (kPgTup K (n := 2) rfl (pgs_cons (pg_name (i := 4) nd rfl (Or.inl rfl)) (pgs_cons (pg_name (i := 5) nd rfl (Or.inl rfl)) pgs_nil)))
      (pss_one (ps_if (pt_cmpR op_le (pv 5) (pv 2) (nomark _)) (pss_one (ps_expr (pe_bm PySem.F.plainAttrs_list PySem.F.slot_list_append PySem.F.type_list_append mt_append (pv 3) (pa_cons
        (pe_tup (pa_cons (pe_callB (kLen K) (by rfl) B.len PySem.boot_len (pa_cons (pv 4) pa_nil)) (pa_cons (pv 4) pa_nil))) pa_nil)))) pss_nil)))
    (pss_one (ps_ret (pe_callB (kMinD K hr.units) (by rfl) B.min (by decide +kernel) (pa_cons (pv 3) pa_nil))))))), ?_⟩
  refine q_drop (d_call (a_cons (d_var rfl h1) (a_cons (d_var rfl h2) a_nil)) (sd_R ⟨web, st, rfl, hok, rfl⟩)) fun H1 e1 => ?_
  refine q_drop (d_call (a_cons (d_var rfl (h3.mono e1.t)) a_nil) (sd_R ⟨many, rfl, hm, rfl⟩)) fun H2 e2 => ?_
  have e12 := e1.trans e2
  refine ⟨Nat.zero_le _, fun l nl => ?_⟩
  have e3 := Evl.Ex.new (o := .lst []) nl
  have e13 := e12.trans e3
  cases h3
  have hll : (upd H2 l (.lst [])) l = some (.lst []) := upd_same
  refine s_forItems (F := R) (r_call (a_cons (d_var rfl (h1.mono e13.t)) (a_cons (d_var rfl (h2.mono e13.t)) a_nil)) hok hR hl) hll
    (fun i σ' H' => ∃ x4 x5, σ' = [some v, some u, some (.int many), some (.ref l), x4, x5] ∧ ∃ ys, H' l = some (.lst ys) ∧ DtAll H' ys ((fewPairs (R.take i) many).map enc2))
    (fun H4 e4 => ⟨none, none, rfl, [], e4 _ _ hll, .nil⟩) (fun i kv vk σ' H4 H5 hkv e4 hp e5 hvk Nx hN => ?_) (fun σ' H4 e4 hp => ?_)
  · obtain ⟨x4, x5, rfl, ys, hy, hys⟩ := hp
    have hy5 := e5 _ _ hy
    have hlen : ys.length < 100000 := by
      rw [hys.len, List.length_map]
      unfold fewPairs
      rw [List.length_map]
      have a1 := List.length_filter_le (fun kv : Pset × Int => decide (kv.2 ≤ many)) (R.take i)
      have a2 := List.length_take_le i R
      have a3 : R.length ≤ 1000 := hl
      have a4 : (R.take i).length ≤ R.length := by rw [List.length_take]; exact Nat.min_le_right _ _
      omega
    have htk : fewPairs (R.take (i + 1)) many = fewPairs (R.take i) many ++ (if decide (kv.2 ≤ many) = true then [((kv.1.length : Int), kv.1)] else []) := by
      unfold fewPairs
      rw [List.take_add_one, hkv]
      show List.map _ (List.filter _ (R.take i ++ [kv])) = _
      rw [List.filter_append, List.map_append, List.filter_cons]
      split <;> rfl
    refine s_if (t_test (d_le (d_var rfl (.int _)) (d_var rfl (.int _)))) (fun hb H6 e6 => ?_) (fun hb H6 e6 => ?_)
    · refine s_app (e6 _ _ hy5) rfl (d_tup (a_cons (d_cb (a_cons (d_var rfl (hvk.mono e6.t)) a_nil) cd_len) (a_cons (d_var rfl (hvk.mono e6.t)) a_nil)) (by decide : 2 ≤ 100000)) hlen fun vn H7 e7 hvn => ?_
      rw [List.length_map] at hvn
      have hy7 := e7 _ _ (e6 _ _ hy5)
      refine hN _ _ ((e6.but.trans e7.but).trans ExBut.upd) ⟨_, _, rfl, ys ++ [vn], upd_same, ?_⟩
      rw [htk, if_pos hb, List.map_append]
      exact ((hys.mono ((e5.trans e6).trans e7).t).snoc hvn).mono (ExT.lst hy7)
    · refine hN _ _ e6.but ⟨_, _, rfl, ys, e6 _ _ hy5, ?_⟩
      rw [htk, if_neg (by rw [hb]; exact Bool.false_ne_true), List.append_nil]
      exact hys.mono (e5.trans e6).t
  · obtain ⟨x4, x5, rfl, ys, hy, hys⟩ := hp
    rw [List.take_length, hpr] at hys
    exact ⟨.ref l, rfl, min2_at hy hys fun vm hvm => q vm H4 (ExBut.ex (l := l) (e3.but.trans e4) e12 (Evl.fresh_back e12 nl)) hvm⟩
/-- ways_to_have -/
def waysToHave (F : Found) (up down : Pset) : List Pset := ((F.filter fun kv => fits kv.1 up down).map (·.1)).mergeSort (PySem.W.dataLe false encS)
def RWaysToHave : List PyData → List PyData → Prop := fun ds d => ∃ web st up down F, ds = [encW web, encS st, encS up, encS down] ∧ (WebOk web ∧ SetOk web.length st) ∧ SetOk web.length up ∧ SetOk web.length down ∧ reach web st = some F ∧ F.length ≤ 1000 ∧ (∀ kv ∈ F, kv.1 ≠ []) ∧ d = (waysToHave F up down).map encS
theorem ok_waysToHave {f : Addr} {fd : FuncData} {k : Nat} (B : Bl mg) (F : Fun K "ways_to_have" "ways_to_have" sWaysToHave f fd) (G1 : Ok P w K mg base k "need_state" ["web", "standing"] (spR RNeedState)) (G2 : Ok P w K mg base k "need_people" ["web", "people"] (spR RNeedSet)) (G3 : Ok P w K mg base k "reached_from" ["web", "standing"] spReach)
    (G4 : Ok P w K mg base k "fits_wish" ["here", "up", "down"] (spR RFitsWish)) : FnOk P w K mg base CX0 (k + 1) f fd ["web", "standing", "up", "down"] (spL RWaysToHave) := by
  refine F.ok scWaysToHave (spL_len fun ds d ⟨v, lo, _, _, _, h, _⟩ => by rw [h]; rfl) (fun cdv A outer s H vs Q E hr h => ?_)
  obtain ⟨ds, d, hv, ⟨web, st, up, down, R, rfl, hok, hup, hdn, hR, hl, hne, rfl⟩, q⟩ := h
  obtain ⟨v, u, t, x, rfl, h1, h2, h3, h4⟩ := hv.four
  have nd := scWaysToHave.nd
  refine ⟨_, pss_cons (ps_expr (pe_do G1 hr (by rfl) (pa_cons (pv 0) (pa_cons (pv 1) pa_nil)))) (pss_cons (ps_expr (pe_do G2 hr (by rfl) (pa_cons (pv 0) (pa_cons (pv 2) pa_nil)))) (pss_cons (ps_expr (pe_do G2 hr (by rfl) (pa_cons (pv 0) (pa_cons (pv 3) pa_nil))))
    (pss_cons (ps_set (i := 4) nd rfl (.inl rfl) (pe_lst pa_nil))
    (pss_cons (ps_for PassesOwn.never rfl (pi_keys (pe_frz (pe_do G3 hr (by rfl) (pa_cons (pv 0) (pa_cons (pv 1) pa_nil))))) (pg_name (i := 5) nd rfl (Or.inl rfl))
      (pss_one (ps_if (pt_val (pe_do G4 hr (by rfl) (pa_cons (pv 5) (pa_cons (pv 2) (pa_cons (pv 3) pa_nil))))) (pss_one (ps_expr (pe_bm PySem.F.plainAttrs_list PySem.F.slot_list_append PySem.F.type_list_append mt_append (pv 4) (pa_cons (pv 5) pa_nil)))) pss_nil)))
    (pss_one (ps_ret (pe_callB (kSortSets K hr.units) (by rfl) B.sorted (by decide +kernel) (pa_cons (pv 4) pa_nil)))))))), ?_⟩
  refine q_drop (d_call (a_cons (d_var rfl h1) (a_cons (d_var rfl h2) a_nil)) (sd_R ⟨web, st, rfl, hok, rfl⟩)) fun H1 e1 => ?_
  refine q_drop (d_call (a_cons (d_var rfl (h1.mono e1.t)) (a_cons (d_var rfl (h3.mono e1.t)) a_nil)) (sd_R ⟨web.map encS, up, rfl, by rw [List.length_map]; exact hup, rfl⟩)) fun H2 e2 => ?_
  have e12 := e1.trans e2
  refine q_drop (d_call (a_cons (d_var rfl (h1.mono e12.t)) (a_cons (d_var rfl (h4.mono e12.t)) a_nil)) (sd_R ⟨web.map encS, down, rfl, by rw [List.length_map]; exact hdn, rfl⟩)) fun H3 e3 => ?_
  have e13 := e12.trans e3
  refine ⟨Nat.zero_le _, fun l nl => ?_⟩
  have e4 := Evl.Ex.new (o := .lst []) nl
  have e14 := e13.trans e4
  have hll : (upd H3 l (.lst [])) l = some (.lst []) := upd_same
  refine s_forKeys (F := R) (r_call (a_cons (d_var rfl (h1.mono e14.t)) (a_cons (d_var rfl (h2.mono e14.t)) a_nil)) hok hR hl) hll
    (fun i σ' H' => ∃ x5, σ' = [some v, some u, some t, some x, some (.ref l), x5] ∧ ∃ ys, H' l = some (.lst ys) ∧ DtAll H' ys ((((R.take i).filter fun kv => fits kv.1 up down).map (·.1)).map encS))
    (fun H5 e5 => ⟨none, rfl, [], e5 _ _ hll, .nil⟩) (fun i kv vk σ' H5 H6 hkv e5 hp e6 hvk Nx hN => ?_) (fun σ' H5 e5 hp => ?_)
  · obtain ⟨x5, rfl, ys, hy, hys⟩ := hp
    have hy6 := e6 _ _ hy
    have t6 : ExT H H6 := e14.t.trans ((e5.t hll).trans e6.t)
    have hlen : ys.length < 100000 := by
      rw [hys.len, List.length_map, List.length_map]
      have a1 := List.length_filter_le (fun kv : Pset × Int => fits kv.1 up down) (R.take i)
      have a3 : R.length ≤ 1000 := hl
      have a4 : (R.take i).length ≤ R.length := by rw [List.length_take]; exact Nat.min_le_right _ _
      omega
    have htk : ((R.take (i + 1)).filter fun kv => fits kv.1 up down).map (·.1) = ((R.take i).filter fun kv => fits kv.1 up down).map (·.1) ++ (if fits kv.1 up down = true then [kv.1] else []) := by
      rw [List.take_add_one, hkv]
      show List.map _ (List.filter _ (R.take i ++ [kv])) = _
      rw [List.filter_append, List.map_append, List.filter_cons]
      split <;> rfl
    refine s_if (t_B (d_call (a_cons (d_var rfl hvk) (a_cons (d_var rfl (h3.mono t6)) (a_cons (d_var rfl (h4.mono t6)) a_nil))) (sd_R ⟨kv.1, up, down, rfl, setOk_few hup, setOk_few hdn, rfl⟩))) (fun hb H7 e7 => ?_) (fun hb H7 e7 => ?_)
    · refine s_app (e7 _ _ hy6) rfl (d_var rfl (hvk.mono e7.t)) hlen fun vn H8 e8 hvn => ?_
      have hy8 := e8 _ _ (e7 _ _ hy6)
      refine hN _ _ ((e7.but.trans e8.but).trans ExBut.upd) ⟨_, rfl, ys ++ [vn], upd_same, ?_⟩
      rw [htk, if_pos hb, List.map_append]
      exact ((hys.mono ((e6.trans e7).trans e8).t).snoc hvn).mono (ExT.lst hy8)
    · refine hN _ _ e7.but ⟨_, rfl, ys, e7 _ _ hy6, ?_⟩
      rw [htk, if_neg (by rw [hb]; exact Bool.false_ne_true), List.append_nil]
      exact hys.mono (e6.trans e7).t
  · obtain ⟨x5, rfl, ys, hy, hys⟩ := hp
    rw [List.take_length] at hys
    obtain ⟨ts, rfl, hk⟩ := hys.sets
    have n0 := Evl.fresh_back e13 nl
    have ex5 : Ex H H5 := ExBut.ex (l := l) (e4.but.trans e5) e13 n0
    refine ⟨.ref l, rfl, l, ts, _, rfl, SqL.of hy, hk, by rw [List.length_map]; exact Nat.le_trans (List.length_filter_le _ _) hl, fun b hb => ?_, fun p us np ku => q p (us.map V.ref) _ (Evl.fresh_back ex5 np) (ex5.trans (Evl.Ex.new np)) upd_same ((DtAll.ofKeys ku).mono (ExT.new np))⟩
    obtain ⟨kv, hkv, rfl⟩ := List.mem_map.mp hb
    exact hne kv (List.mem_filter.mp hkv).1
/-- save_most -/
def savePairs (F : Found) (down : Pset) : List (Int × Pset) := (F.filter fun kv => fits kv.1 [] down).map fun kv => (-(kv.1.length : Int), kv.1)
def saveMost : List (Int × Pset) → PyData
  | [] => .none
  | p :: r => enc2 (-(minP p r).1, (minP p r).2)
def RSaveMost : List PyData → PyData → Prop := fun ds d => ∃ web st down F, ds = [encW web, encS st, encS down] ∧ (WebOk web ∧ SetOk web.length st) ∧ SetOk web.length down ∧ reach web st = some F ∧ F.length ≤ 1000 ∧ d = saveMost (savePairs F down)
theorem ok_saveMost {f : Addr} {fd : FuncData} {k : Nat} (B : Bl mg) (F : Fun K "save_most" "save_most" sSaveMost f fd) (G1 : Ok P w K mg base k "need_state" ["web", "standing"] (spR RNeedState)) (G2 : Ok P w K mg base k "need_people" ["web", "people"] (spR RNeedSet)) (G3 : Ok P w K mg base k "reached_from" ["web", "standing"] spReach)
    (G4 : Ok P w K mg base k "fits_wish" ["here", "up", "down"] (spR RFitsWish)) : FnOk P w K mg base CX0 (k + 1) f fd ["web", "standing", "down"] (spR RSaveMost) := by
  refine F.ok scSaveMost (spR_len fun ds d ⟨v, lo, _, _, h, _⟩ => by rw [h]; rfl) (fun cdv A outer s H vs Q E hr h => ?_)
  obtain ⟨ds, d, hv, ⟨web, st, down, R, rfl, hok, hdn, hR, hl, rfl⟩, q⟩ := h
  obtain ⟨v, u, t, rfl, h1, h2, h3⟩ := hv.three
  have nd := scSaveMost.nd
  refine ⟨_, pss_cons (ps_expr (pe_do G1 hr (by rfl) (pa_cons (pv 0) (pa_cons (pv 1) pa_nil)))) (pss_cons (ps_expr (pe_do G2 hr (by rfl) (pa_cons (pv 0) (pa_cons (pv 2) pa_nil))))
    (pss_cons (ps_setLc (i := 4) (own := [("here", 3)]) (g := gName 3) rfl nd rfl rfl (sw_true rfl rfl rfl (by decide +kernel)) (pi_keys (pe_frz (pe_do G3 hr (by rfl) (pa_cons (pv 0) (pa_cons (pv 1) pa_nil)))))
        (blkOk_by (N := ["web", "standing", "down", "here", "some", "many"]) (sc := defScope sSaveMost) (by decide +kernel))
        (fun _ _ _ _ _ => pg_name (i := 3) nd rfl (Or.inl rfl))
        (fun _ _ _ _ _ => pts_one (pt_val (pe_do G4 hr (by rfl) (pa_cons (pv 3) (pa_cons (pe_tup pa_nil) (pa_cons (pv 2) pa_nil))))))
        (fun _ _ _ _ _ => pe_tup (pa_cons (pe_un un_neg (pe_callB (kLen K) (by rfl) B.len PySem.boot_len (pa_cons (pv 3) pa_nil))) (pa_cons (pv 3) pa_nil))))
    (pss_cons (ps_if (pt_cmpR (kEqD K hr.units) (pv 4) (pe_lst pa_nil) (nomark _)) (pss_one (ps_ret pe_non)) pss_nil)
    (pss_cons (ps_asg (pe_callB (kMinD K hr.units) (by rfl) B.min (by decide +kernel) (pa_cons (pv 4) pa_nil)) (kPgTup K (n := 2) rfl (pgs_cons (pg_name (i := 5) nd rfl (Or.inl rfl)) (pgs_cons (pg_name (i := 3) nd rfl (Or.inl rfl)) pgs_nil))))
    (pss_one (ps_ret (pe_tup (pa_cons (pe_un un_neg (pv 5)) (pa_cons (pv 3) pa_nil))))))))), ?_⟩
  refine q_drop (d_call (a_cons (d_var rfl h1) (a_cons (d_var rfl h2) a_nil)) (sd_R ⟨web, st, rfl, hok, rfl⟩)) fun H1 e1 => ?_
  refine q_drop (d_call (a_cons (d_var rfl (h1.mono e1.t)) (a_cons (d_var rfl (h3.mono e1.t)) a_nil)) (sd_R ⟨web.map encS, down, rfl, by rw [List.length_map]; exact hdn, rfl⟩)) fun H2 e2 => ?_
  have e12 := e1.trans e2
  refine q_asgL (l_lcKeys (fun kv => fits kv.1 [] down) (fun kv => enc2 (-(kv.1.length : Int), kv.1)) (r_call (a_cons (d_var rfl (h1.mono e12.t)) (a_cons (d_var rfl (h2.mono e12.t)) a_nil)) hok hR hl) hl (fun _ => rfl)
    (fun kv v4 H4 hkv e4 h5 => t_B (d_call (a_cons (d_var rfl h5) (a_cons (d_tup a_nil (by decide)) (a_cons (d_var rfl (h3.mono (e12.t.trans e4))) a_nil))) (sd_R ⟨kv.1, [], down, rfl, by decide, setOk_few hdn, rfl⟩)))
    (fun kv v4 H4 hkv e4 h5 _ => (d_tup (a_cons (d_neg (d_cb (a_cons (d_var rfl h5) a_nil) cd_len)) (a_cons (d_var rfl h5) a_nil)) (by decide : 2 ≤ 100000)).is (by rw [List.length_map]))) fun a xs H4 na e4 ha hx => ?_
  have hmap : (R.filter fun kv => fits kv.1 [] down).map (fun kv => enc2 (-(kv.1.length : Int), kv.1)) = (savePairs R down).map enc2 := by unfold savePairs; rw [List.map_map]; rfl
  rw [hmap] at hx
  generalize savePairs R down = ps at *
  refine ⟨.ref a, rfl, Nat.zero_le _, fun p np => ⟨.list (ps.map enc2), .list [], DtAll.dpl (H := upd H4 p (.lst [])) ((Evl.Ex.new np) _ _ ha) (hx.mono (ExT.new np)), .lst (SqL.of upd_same) .nil, shaped_enc2s ps, by decide, _, rfl, ?_⟩⟩
  have e5 : Ex H4 (upd H4 p (.lst [])) := Evl.Ex.new np
  have e15 := (e12.trans e4).trans e5
  rw [eqv_nil2]
  cases ps with
  | nil =>
    refine iteT ?_
    exact q .non _ e15 .non
  | cons p0 r =>
    refine iteF ?_
    refine ⟨.ref a, rfl, ?_⟩
    show rMinD K [.ref a] _ fun x H1 => gTup K 2 (gCons (gName 5) (gCons (gName 3) gNil)) x _ H1 _
    refine min2_at (e5 _ _ ha) (hx.mono e5.t) fun vm hvm => ?_
    generalize hmm : minP p0 r = mp at *
    cases hvm with
    | @tup T ys _ hT hys =>
      obtain ⟨y1, y2, rfl, hy1, hy2⟩ := hys.two
      cases hy1
      refine ⟨T, _, rfl, SqT.of hT, rfl, .int mp.1, [y2], rfl, y2, [], rfl, rfl, ?_⟩
      refine s_ret (d_tup (a_cons (d_neg (d_var rfl (.int _))) (a_cons (d_var rfl hy2) a_nil)) (by decide : 2 ≤ 100000)) fun vr H6 e6 hvr => q vr H6 (e15.trans e6) ?_
      show Dt H6 vr (enc2 (-(minP p0 r).1, (minP p0 r).2))
      rw [hmm]
      exact hvr
end
end TallR

set_option Elab.async false
set_option linter.all false
set_option maxRecDepth 100000
set_option maxHeartbeats 4000000
namespace TallR
open PySem PySem.Spec PyProof.Rows L2
open Evl (Ex)
open Tall
abbrev sCallsTable : Stmt := topS 32
abbrev sLayers : Stmt := topS 22
theorem scCallsTable : FnScope ["web", "standing", "found", "here", "many", "person"] ["web", "standing"] (defScope sCallsTable) := ⟨rfl, rfl, rfl, by decide +kernel, rfl, by decide +kernel, by decide +kernel⟩
theorem scLayers : FnScope ["web", "standing", "numbers", "many"] ["web", "standing"] (defScope sLayers) := ⟨rfl, rfl, rfl, by decide +kernel, rfl, by decide +kernel, by decide +kernel⟩
/-! ### the table: None or a number for each person -/
def oV : Option Int → V
  | none => .non
  | some k => .int k
def oD : Option Int → PyData
  | none => .none
  | some k => .int k
theorem dt_opts {H : Hp} : ∀ T : List (Option Int), DtAll H (T.map oV) (T.map oD)
  | [] => .nil
  | none :: r => .cons .non (dt_opts r)
  | some k :: r => .cons (.int k) (dt_opts r)
def wants (T : List (Option Int)) (s : Pset) (many : Int) (j : Nat) : Bool := !s.contains (j : Int) && (match T.getD j none with
  | none => true
  | some k => decide (many < k))
def tabOne (s : Pset) (many : Int) (T : List (Option Int)) (j : Nat) : List (Option Int) := if wants T s many j then T.set j (some many) else T
def tabRow (n : Nat) (T : List (Option Int)) (kv : Pset × Int) : List (Option Int) := (List.range n).foldl (tabOne kv.1 kv.2) T
def callsTab (n : Nat) (F : Found) : List (Option Int) := F.foldl (tabRow n) (List.replicate n none)
theorem tabOne_len (s : Pset) (many : Int) (T : List (Option Int)) (j : Nat) : (tabOne s many T j).length = T.length := by
  unfold tabOne
  split
  · rw [List.length_set]
  · rfl
theorem tabFold_len (s : Pset) (many : Int) : ∀ (l : List Nat) (T : List (Option Int)), (l.foldl (tabOne s many) T).length = T.length
  | [], _ => rfl
  | j :: l, T => (tabFold_len s many l _).trans (tabOne_len s many T j)
theorem tabRows_len (n : Nat) : ∀ (F : Found) (T : List (Option Int)), (F.foldl (tabRow n) T).length = T.length
  | [], _ => rfl
  | kv :: F, T => (tabRows_len n F _).trans (tabFold_len kv.1 kv.2 _ T)
theorem flat_one {α : Type} (x : α) : ∀ n : Nat, (List.replicate n [x]).flatten = List.replicate n x
  | 0 => rfl
  | n + 1 => by
    rw [List.replicate_succ, List.flatten_cons, flat_one x n]
    rfl
/-! ### where all that is tracked stands -/
def EvTx (t : TT) (σ : L2.St) (H : Hp) (b : Bool) : Prop := ∀ H1, Ex H H1 → ∀ Q : Bool → Hp → Prop, (∀ H2, Ex H1 H2 → Q b H2) → t σ H1 Q
section
variable {K : PySem.W.Frag} {σ : L2.St} {H : Hp} {ta tb te : TE} {t u : TT} {a b : Bool} {d : PyData} {i j : Int} {D : Ends} {tu tw : TS}
theorem EvT.x (h : EvT t σ H b) : EvTx t σ H b := fun H1 e Q q => h H1 e.t Q q
theorem tx_test (h : EvX te σ H (.bool b)) : EvTx (tTest te) σ H b := fun H1 e Q q => h H1 e _ fun v H2 e2 hv => by
  cases hv
  exact ⟨b, rfl, q H2 e2⟩
theorem tx_and (h1 : EvTx t σ H a) (h2 : a = true → EvTx u σ H b) : EvTx (tAnd t u) σ H (a && b) := fun H1 e Q q => h1 H1 e _ fun H2 e2 => by
  cases a with
  | true =>
    show u σ H2 Q
    exact h2 rfl H2 (e.trans e2) Q fun H3 e3 => q H3 (e2.trans e3)
  | false =>
    show Q false H2
    exact q H2 e2
theorem tx_or (h1 : EvTx t σ H a) (h2 : a = false → EvTx u σ H b) : EvTx (tOr t u) σ H (a || b) := fun H1 e Q q => h1 H1 e _ fun H2 e2 => by
  cases a with
  | true =>
    show Q true H2
    exact q H2 e2
  | false =>
    show u σ H2 Q
    exact h2 rfl H2 (e.trans e2) Q fun H3 e3 => q H3 (e2.trans e3)
theorem s_ifx (h : EvTx t σ H b) (h1 : b = true → ∀ H1, Ex H H1 → tu D σ H1) (h2 : b = false → ∀ H1, Ex H H1 → tw D σ H1) : tIfS t tu tw D σ H := h H (Evl.Ex.refl H) _ fun H1 e => by
  cases b with
  | true =>
    show tu D σ H1
    exact h1 rfl H1 e
  | false =>
    show tw D σ H1
    exact h2 rfl H1 e
theorem EvTx.is (h : EvTx t σ H a) (e : a = b) : EvTx t σ H b := e ▸ h
/-- for _ in range(n) -/
theorem s_forR {te : TE} {gi : TG} {n : Nat} {P : Nat → L2.St → Hp → Prop} (hb : EvX te σ H (.int (n : Nat))) (hn : (n : Int) < 2 ^ 62)
    (h : ∀ H1, Ex H H1 → tFor (fun _ H R => R (Itr 0 n) H) gi tu D σ H1) : tFor (iRng1 (tCons te tNil)) gi tu D σ H :=
  hb H (Evl.Ex.refl H) _ fun v H1 e hv => by
    cases hv
    refine ⟨(n : Nat), rfl, by omega, hn, ?_⟩
    rw [Int.toNat_natCast]
    exact h H1 e
/-- xs[i] of a list that stands at l -/
theorem x_ixL {l : Addr} {xs : List V} {n : Nat} {v : V} {k : Nat} (hk : σ[k]? = some (some (.ref l))) (hl : H l = some (.lst xs)) (hb : EvX tb σ H (.int i)) (hi : i = (n : Int)) (hn : xs[n]? = some v) (hv : Dt H v d) : EvX (tOp (rIxL K) (tVar k) tb) σ H d := fun H1 e Q q =>
  ⟨.ref l, hk, hb H1 e _ fun w H2 e2 hw => by
    cases hw
    exact ⟨l, xs, i, v, rfl, rfl, SqL.of (e2 _ _ (e _ _ hl)), at_of hi hn, q v H2 e2 (hv.mono (e.trans e2).t)⟩⟩
theorem x_isN (ha : EvX ta σ H d) : EvX (tOp (fun x y H Q => y = V.non ∧ Q (.bl (decide (x = V.non))) H) ta (tC .non)) σ H (.bool (match d with | .none => true | _ => false)) := fun H1 e Q q => ha H1 e _ fun v H2 e2 hv => by
  refine ⟨rfl, q _ H2 e2 ?_⟩
  cases hv with
  | non => exact .bl true
  | bl b => exact .bl false
  | int i => exact .bl false
  | tup _ _ => exact .bl false
theorem x_lt (ha : EvX ta σ H (.int i)) (hb : EvX tb σ H (.int j)) : EvX (tOp (rI0 fun i j => .bl (decide (i < j))) ta tb) σ H (.bool (decide (i < j))) := fun H1 e Q q =>
  ha H1 e _ fun v H2 e2 hv => hb H2 (e.trans e2) _ fun w H3 e3 hw => by
    cases hv; cases hw
    exact ⟨i, j, rfl, rfl, q _ H3 (e2.trans e3) (.bl _)⟩
end
section
variable {X : Cx} (K : PySem.W.Frag)
theorem kIxL (h : X.K = K := by rfl) : IxR X (rIxL K) := by subst h; exact ix_list
theorem kCount (h : X.K = K := by rfl) : MtR X "list.count" (rCntI K) := by subst h; exact mt_lcount
theorem kBm {o e : Expr} {es : List Expr} {to : TE} {t : TA} {name : Str} {apos cpos : Pos} {T id : String} {r : V → List V → Hp → VK → Prop} (pa : PlainAttrs T) (slot : Slot T name id) (hty : typeOf (.builtin id) = pure (.type "method_descriptor")) (hm : MtR X id r) (ho : PE X o to) (ha : PA X (e :: es) t)
    (hbase : attributeBase o name X.env (eval o X.env) = eval o X.env := by rfl)
    (hfew : ((backTo cpos (starEach (e :: es) X.env)).all (fun x => !x.1) && (backToKw cpos (keywordEach [] X.env)).all (fun x => x.1.isSome)
      && decide ((e :: es).length + ([] : List Keyword).length + (if ([] : List Keyword).isEmpty then 0 else 1) < 30)) = true := by rfl)
    (hline : (apos.endLine == cpos.line) = true := by rfl) (hs : starEach (e :: es) X.env = (false, eval e X.env) :: starEach es X.env := by rfl) (hplain : (backTo cpos (starEach es X.env)).any (·.1) = false := by rfl) (hk : X.K = K := by rfl) :
    PE X (.Call (.Attribute o name apos) (e :: es) [] cpos) (tBM K T r to t) := by
  subst hk
  exact pe_bm pa slot hty hm ho ha hbase hfew hline hs hplain
end
section
variable {P : Program} {w : World} {K : PySem.W.Frag} {mg : Str → Option Value} {base : Heap}
def RCallsTable : List PyData → PyData → Prop := fun ds d => ∃ web st F, ds = [encW web, encS st] ∧ (WebOk web ∧ SetOk web.length st) ∧ reach web st = some F ∧ F.length ≤ 1000 ∧ d = .tuple ((callsTab web.length F).map oD)
theorem ok_callsTable {f : Addr} {fd : FuncData} {k : Nat} (B : Bl mg) (F : Fun K "calls_table" "calls_table" sCallsTable f fd) (G1 : Ok P w K mg base k "need_state" ["web", "standing"] (spR RNeedState)) (G3 : Ok P w K mg base k "reached_from" ["web", "standing"] spReach) :
    FnOk P w K mg base CX0 (k + 1) f fd ["web", "standing"] (spR RCallsTable) := by
  refine F.ok scCallsTable (spR_len fun ds d ⟨v, lo, _, h, _⟩ => by rw [h]; rfl) (fun cdv A outer s H vs Q E hr h => ?_)
  obtain ⟨ds, d, hv, ⟨web, st, R, rfl, hok, hR, hl, rfl⟩, q⟩ := h
  obtain ⟨v, u, rfl, h1, h2⟩ := hv.two
  have nd := scCallsTable.nd
  refine ⟨_, pss_cons (ps_expr (pe_do G1 hr (by rfl) (pa_cons (pv 0) (pa_cons (pv 1) pa_nil))))
    (pss_cons (ps_set (i := 2) nd rfl (.inl rfl) (pe_op op_rep (pe_lst (pa_cons pe_non pa_nil)) (pe_callB (kLen K) (by rfl) B.len PySem.boot_len (pa_cons (pv 0) pa_nil))))
    (pss_cons (ps_for PassesOwn.never rfl (pi_itemsT (pe_frz (pe_do G3 hr (by rfl) (pa_cons (pv 0) (pa_cons (pv 1) pa_nil))))) (kPgTup K (n := 2) rfl (pgs_cons (pg_name (i := 3) nd rfl (Or.inl rfl)) (pgs_cons (pg_name (i := 4) nd rfl (Or.inl rfl)) pgs_nil)))
      (pss_one (ps_for PassesOwn.never rfl (pi_range1 (by rfl) B.range (pa_cons (pe_callB (kLen K) (by rfl) B.len PySem.boot_len (pa_cons (pv 0) pa_nil)) pa_nil)) (pg_name (i := 5) nd rfl (Or.inl rfl))
        (pss_one (ps_if (PW.pt (pw_and (pt_cmpR (kNotIn K) (pv 5) (pv 3) (by rfl)) (pw_and1 (PW.pt (pw_or (pt_cmpR op_isN (pe_ix (kIxL K) (pv 2) (pv 5) (fun _ _ => rfl)) pe_non (nomark _))
            (pw_or1 (pt_cmpR op_lt (pv 4) (pe_ix (kIxL K) (pv 2) (pv 5) (fun _ _ => rfl)) (nomark _))))))))
          (pss_one (ps_asg (pv 4) (pg_sub (pv 2) (pv 5) set_list))) pss_nil)))))
    (pss_one (ps_ret (pe_callTy (kTuple K) (by rfl) B.tup (by decide +kernel) (pa_cons (pv 2) pa_nil)))))), ?_⟩
  refine q_drop (d_call (a_cons (d_var rfl h1) (a_cons (d_var rfl h2) a_nil)) (sd_R ⟨web, st, rfl, hok, rfl⟩)) fun H1 e1 => ?_
  refine ⟨(show 1 ≤ sizeLine by decide), fun l0 nl0 => ?_⟩
  have x0 := Evl.Ex.new (o := .lst [.non]) nl0
  refine (d_cb (σ := [some v, some u, none, none, none, none]) (a_cons (d_var (k := 0) rfl (h1.mono (e1.trans x0).t)) a_nil) (cd_len (K := K))) _ (ExT.refl _) _ fun vn H2 e2 hvn => ?_
  have hn7 := hok.1.2.1
  rw [List.length_map] at hvn
  cases hvn
  refine ⟨l0, (web.length : Nat), [.non], rfl, rfl, e2 _ _ upd_same, by omega, by omega, ?_, fun l nl => ?_⟩
  · rw [Int.toNat_natCast, sizeLine_eq]
    show 1 * web.length ≤ _
    omega
  rw [Int.toNat_natCast, flat_one]
  have e13 : Ex H H2 := (e1.trans x0).trans e2
  have x3 := Evl.Ex.new (o := .lst (List.replicate web.length V.non)) nl
  have e14 := e13.trans x3
  have hll : (upd H2 l (.lst (List.replicate web.length V.non))) l = some (.lst (List.replicate web.length V.non)) := upd_same
  have hrep : List.replicate web.length V.non = (List.replicate web.length (none : Option Int)).map oV := by rw [List.map_replicate]; rfl
  refine s_forItems (F := R) (r_call (a_cons (d_var rfl (h1.mono e14.t)) (a_cons (d_var rfl (h2.mono e14.t)) a_nil)) hok hR hl) hll
    (fun i σ' H' => ∃ x3 x4 x5, σ' = [some v, some u, some (.ref l), x3, x4, x5] ∧ H' l = some (.lst (((R.take i).foldl (tabRow web.length) (List.replicate web.length none)).map oV)))
    (fun H5 e5 => ⟨none, none, none, rfl, by rw [e5 _ _ hll, hrep]; rfl⟩) (fun i kv vk σ' H5 H6 hkv e5 hp e6 hvk Nx hN => ?_) (fun σ' H5 e5 hp => ?_)
  · obtain ⟨x3, x4, x5, rfl, hy⟩ := hp
    generalize hT : (R.take i).foldl (tabRow web.length) (List.replicate web.length none) = T at *
    have hTl : T.length = web.length := by rw [← hT, tabRows_len, List.length_replicate]
    have hT1 : (R.take (i + 1)).foldl (tabRow web.length) (List.replicate web.length none) = tabRow web.length T kv := by rw [fold_take _ _ _ _ hkv, hT]
    have t6 : ExT H H6 := e14.t.trans ((e5.t hll).trans e6.t)
    have hlen : EvD (tCB (fun xs H Q => ∃ p ys, xs = [.ref p] ∧ (SqL K H p ys ∨ SqT K H p ys) ∧ Q (.int ys.length) H) (tCons (tVar 0) tNil)) [some v, some u, some (.ref l), some vk, some (.int kv.2), x5] H6 (.int (web.length : Nat)) :=
      (d_cb (a_cons (d_var (k := 0) rfl (h1.mono t6)) a_nil) (cd_len (K := K))).is (by rw [List.length_map])
    refine s_forR (P := fun _ _ _ => True) (n := web.length) hlen.x (by omega) fun H7 e7 => ?_
    refine for_range (lo := 0) (n := web.length) (fun j σ' H' => ∃ x5, σ' = [some v, some u, some (.ref l), some vk, some (.int kv.2), x5] ∧ ExBut l H6 H' ∧ H' l = some (.lst (((List.range j).foldl (tabOne kv.1 kv.2) T).map oV)))
      ⟨x5, rfl, e7.but, e7 _ _ (e6 _ _ hy)⟩ (fun j σ' H8 hj hp => ?_) (fun σ' H8 hp => ?_)
    · obtain ⟨x5, rfl, e8, hy8⟩ := hp
      generalize hT2 : (List.range j).foldl (tabOne kv.1 kv.2) T = T2 at *
      have hT2l : T2.length = web.length := by rw [← hT2, tabFold_len, hTl]
      have hT21 : (List.range (j + 1)).foldl (tabOne kv.1 kv.2) T = tabOne kv.1 kv.2 T2 j := by rw [List.range_succ, List.foldl_append, hT2]; rfl
      have hjx : (0 : Int) + (j : Nat) = (j : Nat) := Int.zero_add _
      rw [hjx]
      have hvk8 : Dt H8 vk (encS kv.1) := hvk.mono (e8.t (e6 _ _ hy))
      have hj2 : j < T2.length := by rw [hT2l]; exact hj
      have hget : T2[j]? = some (T2.getD j none) := by rw [List.getD_eq_getElem?_getD, List.getElem?_eq_getElem hj2]; rfl
      have hgetV : (T2.map oV)[j]? = some (oV (T2.getD j none)) := by rw [List.getElem?_map, hget]; rfl
      have hD : ∀ o : Option Int, Dt H8 (oV o) (oD o) := fun o => by
        cases o with
        | none => exact .non
        | some k => exact .int k
      have hix : EvX (tOp (rIxL K) (tVar 2) (tVar 5)) [some v, some u, some (.ref l), some vk, some (.int kv.2), some (.int (j : Nat))] H8 (oD (T2.getD j none)) :=
        x_ixL rfl hy8 (EvD.x (d_var rfl (.int _))) rfl hgetV (hD _)
      have htest : EvTx (tAnd (tTest (tOp (rIn K true) (tVar 5) (tVar 3))) (tOr (tTest (tOp (fun x y H Q => y = V.non ∧ Q (.bl (decide (x = V.non))) H) (tOp (rIxL K) (tVar 2) (tVar 5)) (tC .non)))
          (tTest (tOp (rI0 fun i j => .bl (decide (i < j))) (tVar 4) (tOp (rIxL K) (tVar 2) (tVar 5)))))) [some v, some u, some (.ref l), some vk, some (.int kv.2), some (.int (j : Nat))] H8 (wants T2 kv.1 kv.2 j) := by
        unfold wants
        refine tx_and (EvT.x (t_test (d_notIn (d_var rfl (.int _)) (d_var rfl hvk8)))) fun _ => ?_
        cases ho : T2.getD j none with
        | none =>
          rw [ho] at hix
          exact tx_or (a := true) (b := true) (tx_test (x_isN hix)) fun h => nomatch h
        | some k0 =>
          rw [ho] at hix
          exact tx_or (a := false) (tx_test (x_isN hix)) fun _ => tx_test (x_lt (EvD.x (d_var rfl (.int _))) hix)
      refine s_ifx htest (fun hb H9 e9 => ?_) (fun hb H9 e9 => ?_)
      · refine ⟨.int kv.2, rfl, .ref l, rfl, .int (j : Nat), rfl, l, _, (j : Nat), j, rfl, rfl, e9 _ _ hy8, Evl.ixN_nat (by rw [List.length_map]; exact hj2), ?_⟩
        refine ⟨_, rfl, (e8.trans e9.but).trans ExBut.upd, ?_⟩
        rw [upd_same, hT21]
        unfold tabOne
        rw [if_pos hb, List.map_set]
        rfl
      · refine ⟨_, rfl, e8.trans e9.but, ?_⟩
        rw [hT21]
        unfold tabOne
        rw [if_neg (by rw [hb]; exact Bool.false_ne_true)]
        exact e9 _ _ hy8
    · obtain ⟨x5, rfl, e8, hy8⟩ := hp
      refine hN _ _ e8 ⟨_, _, _, rfl, ?_⟩
      rw [hT1]
      exact hy8
  · obtain ⟨x3', x4, x5, rfl, hy⟩ := hp
    rw [List.take_length] at hy
    have ex5 : Ex H H5 := ExBut.ex (l := l) (x3.but.trans e5) e13 (Evl.fresh_back e13 nl)
    refine ⟨.ref l, rfl, l, _, rfl, .inl ⟨SqL.of hy, fun p np => q _ _ (ex5.trans (Evl.Ex.new np)) (.tup upd_same (dt_opts _))⟩⟩
def RLayers : List PyData → PyData → Prop := fun ds d => ∃ web st F M, ds = [encW web, encS st] ∧ (WebOk web ∧ SetOk web.length st) ∧ reach web st = some F ∧ F.length ≤ 1000 ∧ M ∈ F.map (fun kv : Pset × Int => kv.2) ∧ (∀ y ∈ F.map (fun kv : Pset × Int => kv.2), y ≤ M) ∧ (0 ≤ M ∧ M ≤ 900) ∧ d = encS ((List.range (M + 1).toNat).map fun (k : Nat) => (((F.map (fun kv : Pset × Int => kv.2)).count (k : Int) : Nat) : Int))
theorem ok_layers {f : Addr} {fd : FuncData} {k : Nat} (B : Bl mg) (F : Fun K "layers" "layers" sLayers f fd) (G1 : Ok P w K mg base k "need_state" ["web", "standing"] (spR RNeedState)) (G3 : Ok P w K mg base k "reached_from" ["web", "standing"] spReach) :
    FnOk P w K mg base CX0 (k + 1) f fd ["web", "standing"] (spR RLayers) := by
  refine F.ok scLayers (spR_len fun ds d ⟨v, lo, _, _, h, _⟩ => by rw [h]; rfl) (fun cdv A outer s H vs Q E hr h => ?_)
  obtain ⟨ds, d, hv, ⟨web, st, R, M, rfl, hok, hR, hl, hM1, hM2, hM3, rfl⟩, q⟩ := h
  obtain ⟨v, u, rfl, h1, h2⟩ := hv.two
  have nd := scLayers.nd
  refine ⟨_, pss_cons (ps_expr (pe_do G1 hr (by rfl) (pa_cons (pv 0) (pa_cons (pv 1) pa_nil))))
    (pss_cons (ps_set (i := 2) nd rfl (.inr rfl) (pe_callTy (call_list_values rfl) (by rfl) B.list (by decide +kernel) (pa_cons (pe_bm0 PySem.F.plainAttrs_dict PySem.F.slot_dict_values PySem.F.type_dict_values mt_valuesT (pe_do G3 hr (by rfl) (pa_cons (pv 0) (pa_cons (pv 1) pa_nil)))) pa_nil)))
    (pss_one (ps_ret (pe_callTy (kTuple K) (by rfl) B.tup (by decide +kernel) (pa_cons
      (pe_lc (own := [("many", 3)]) (g := gName 3) (by rfl) nd (pi_range1 (by rfl) B.range (pa_cons (pe_op op_add (pe_callB (kMax K) (by rfl) B.max (by decide +kernel) (pa_cons (pv 2) pa_nil)) pe_int) pa_nil))
        (blkOk_by (N := ["web", "standing", "numbers", "many"]) (sc := defScope sLayers) (by decide +kernel))
        (fun _ _ _ _ _ => pg_name (i := 3) nd rfl (Or.inl rfl)) (fun _ _ _ _ _ => pts_nil)
        (fun _ _ _ _ _ => kBm K PySem.F.plainAttrs_list PySem.F.slot_list_count PySem.F.type_list_count (kCount K) (pv 2) (pa_cons (pv 3) pa_nil))) pa_nil))))), ?_⟩
  refine q_drop (d_call (a_cons (d_var rfl h1) (a_cons (d_var rfl h2) a_nil)) (sd_R ⟨web, st, rfl, hok, rfl⟩)) fun H1 e1 => ?_
  refine (r_call (a_cons (d_var (k := 0) rfl (h1.mono e1.t)) (a_cons (d_var (k := 1) rfl (h2.mono e1.t)) a_nil)) hok hR hl) H1 (ExT.refl _) _ fun d H2 nd2 e2 hd => ⟨.inr (.inr (.inl ⟨rfl, .inr ⟨_, hd⟩⟩)), d, _, rfl, rfl, hd, fun p np => ⟨p, d, _, rfl, upd_same, by rw [upd_ne (ne_of_none hd np)]; exact hd, fun a na => ?_⟩⟩
  have hvals : (encF R).map (·.2) = (R.map (fun kv : Pset × Int => kv.2)).map V.int := by unfold encF; rw [List.map_map, List.map_map]; rfl
  rw [hvals]
  generalize R.map (fun kv : Pset × Int => kv.2) = ns at *
  have e13 : Ex H (upd H2 p (valuesO p d)) := (e1.trans e2).trans (Evl.Ex.new np)
  have e14 := e13.trans (Evl.Ex.new (o := .lst (ns.map V.int)) na)
  generalize hH4 : upd (upd H2 p (valuesO p d)) a (.lst (ns.map V.int)) = H4 at *
  have ha : H4 a = some (.lst (ns.map V.int)) := by rw [← hH4]; exact upd_same
  refine ⟨.ref a, rfl, a, ns, rfl, SqL.of ha, List.length_pos_iff.mpr (fun z => by rw [z] at hM1; exact nomatch hM1), fun M' h1' h2' => ?_⟩
  obtain rfl : M' = M := Int.le_antisymm (hM2 M' h1') (h2' M hM1)
  refine ⟨M', 1, rfl, rfl, M' + 1, rfl, by omega, by omega, fun Dl nD => ?_⟩
  refine lc_gen (xs := List.range (M' + 1).toNat) (walk_range (lo := 0) (n := (M' + 1).toNat)) List.length_range (by omega) (fun x w H' => w = .int (x : Nat)) H4 (fun H' x => trivial) (fun i Hx w H' ex hi y => ?_) (fun _ => true) (fun k => .int ((ns.count (k : Int) : Nat) : Int)) nD (fun x w H' hx ex hR Q' q' => ?_) (fun acc H' ex hac hacc => ?_)
  · obtain ⟨rfl, rfl⟩ := y
    exact ⟨Evl.Ex.refl _, i, by rw [List.getElem?_range hi], by show V.int (0 + (i : Int)) = V.int i; rw [Int.zero_add]⟩
  · subst hR
    refine q' _ H' rfl (Evl.Ex.refl _) t_yes fun _ H5 e5 Q5 q5 => ?_
    exact ⟨.ref a, rfl, .inl ⟨rfl, _, SqL.of (e5 _ _ (ex _ _ ha))⟩, .int (x : Nat), rfl, a, ns, (x : Nat), rfl, rfl, SqL.of (e5 _ _ (ex _ _ ha)), q5 _ H5 (Evl.Ex.refl _) (.int _)⟩
  · rw [filter_yes] at hacc
    refine ⟨Dl, acc, rfl, .inl ⟨SqL.of hac, fun pp npp => q _ _ ((e14.trans ex).trans (Evl.Ex.new npp)) ?_⟩⟩
    refine .tup upd_same ?_
    rw [List.map_map]
    exact hacc.mono (ExT.new npp)
end
end TallR

set_option Elab.async false
set_option linter.all false
set_option maxRecDepth 100000
set_option maxHeartbeats 4000000
namespace TallR
open PySem PySem.Spec PyProof.Rows L2
open Evl (Ex)
open Tall
abbrev sTaken : Stmt := topS 34
abbrev sChoose : Stmt := topS 36
theorem scTaken : FnScope ["_law_row", "_law_many", "_law_found", "_law_cell"] ["_law_row", "_law_many"] (defScope sTaken) := ⟨rfl, rfl, rfl, by decide +kernel, rfl, by decide +kernel, by decide +kernel⟩
theorem scChoose : FnScope ["_law_many", "_law_some", "_law_found", "_law_number"] ["_law_many", "_law_some"] (defScope sChoose) := ⟨rfl, rfl, rfl, by decide +kernel, rfl, by decide +kernel, by decide +kernel⟩
/-! ### the row of draws -/
abbrev rowO (s : Addr) (i e r : Int) : HO := .lst [.ref s, .int i, .int e, .int r]
theorem sql_but {K : PySem.W.Frag} {H H' : Hp} {r s : Addr} {xs : List V} (h : SqL K H s xs) (e : ExBut r H H') (n : s ≠ r) : SqL K H' s xs :=
  h.elim (fun h => .inl (h.elim (fun h => .inl (e _ _ n h)) fun ⟨o, h⟩ => .inr ⟨o, e _ _ n h⟩)) fun h => .inr h
/-- the script: a list that is not the row, or an object of the module -/
def SqS (K : PySem.W.Frag) (H : Hp) (r s : Addr) (xs : List V) : Prop := (s ≠ r ∧ SqL K H s xs) ∨ ∀ H', SqL K H' s xs
theorem SqS.l {K : PySem.W.Frag} {H : Hp} {r s : Addr} {xs : List V} (h : SqS K H r s xs) : SqL K H s xs := h.elim (fun h => h.2) fun h => h H
theorem SqS.but {K : PySem.W.Frag} {H H' : Hp} {r s : Addr} {xs : List V} (h : SqS K H r s xs) (e : ExBut r H H') : SqS K H' r s xs := h.elim (fun h => .inl ⟨h.1, sql_but h.2 e h.1⟩) .inr
theorem SqS.new {K : PySem.W.Frag} {H : Hp} {r s : Addr} {xs : List V} {o : HO} (h : SqL K H s xs) (nr : H r = none) : SqS K (upd H r o) r s xs := by
  rcases h with (h | ⟨x, h⟩) | h
  · exact .inl ⟨ne_of_none h nr, Evl.ex_l (Evl.Ex.new nr) (.inl (.inl h))⟩
  · exact .inl ⟨ne_of_none h nr, Evl.ex_l (Evl.Ex.new nr) (.inl (.inr ⟨x, h⟩))⟩
  · exact .inr fun H' => .inr h
theorem rc_int {H : Hp} {i : Int} : Evl.RC (fun xs H Q => (∃ i, xs = [.int i] ∧ Q (.int i) H) ∨ ∃ k, xs = [.bl k] ∧ Q (.int (if k then 1 else 0)) H) [.int i] H (.int i) := fun H1 _ _ q => .inl ⟨i, rfl, q H1 (Ex.refl H1)⟩
theorem ev_ixN {K : PySem.W.Frag} {σ : L2.St} {H : Hp} {ta tb : TE} {p : Addr} {xs : List V} {n : Nat} {v : V} {i : Int} (ha : Evl.Ev ta σ H (.ref p)) (hb : Evl.Ev tb σ H (.int i)) (h : SqL K H p xs) (hi : i = (n : Int)) (hn : xs[n]? = some v) : Evl.Ev (tOp (rIxL K) ta tb) σ H v :=
  Evl.ev_op ha hb (Evl.rv_ixL h (at_of hi hn))
def spTaken (K : PySem.W.Frag) : Sp := fun vs H Q _ => ∃ r s ns idx seed rest n, vs = [.ref r, .int n] ∧ H r = some (rowO s idx seed rest) ∧ SqS K H r s (List.map V.int ns) ∧ 0 ≤ idx ∧ (1 ≤ n ∧ n ≤ 5) ∧
  ∀ d idx' seed' rest' H', 0 ≤ d → d < n → 0 ≤ idx' → ExBut r H H' → H' r = some (rowO s idx' seed' rest') → Q (.int d) H'
section
variable {P : Program} {w : World} {K : PySem.W.Frag} {mg : Str → Option Value} {base : Heap}
theorem ok_taken {f : Addr} {fd : FuncData} {k : Nat} (B : Bl mg) (F : Fun K "_law_taken" "_law_taken" sTaken f fd) : FnOk P w K mg base CX0 (k + 1) f fd ["_law_row", "_law_many"] (spTaken K) := by
  refine F.ok scTaken (fun vs H Q E ⟨_, _, _, _, _, _, _, h, _⟩ => by rw [h]; rfl) (fun cdv A outer st H vs Q E hr h => ?_)
  obtain ⟨r, s, ns, idx, seed, rest, n, rfl, hrow, hS, hidx, hn, q⟩ := h
  have nd := scTaken.nd
  refine ⟨_, pss_cons (ps_if (pt_cmpR op_gt (pe_ix (kIxL K) (pv 0) pe_int (fun _ _ => rfl)) pe_int (nomark _))
      (pss_cons (ps_set (i := 2) nd rfl (.inl rfl) (pe_op op_mod (pe_callTy call_int1 (by rfl) B.int (by decide +kernel) (pa_cons (pe_ix (kIxL K) (pv 0) pe_int (fun _ _ => rfl)) pa_nil)) (pv 1)))
      (pss_cons (ps_asg (pe_op op_fdiv (pe_ix (kIxL K) (pv 0) pe_int (fun _ _ => rfl)) (pv 1)) (pg_sub (pv 0) pe_int set_list))
      (pss_one (ps_ret (pv 2))))) pss_nil)
    (pss_cons (ps_asg (pe_op op_add (pe_ix (kIxL K) (pv 0) pe_int (fun _ _ => rfl)) pe_int) (pg_sub (pv 0) pe_int set_list))
    (pss_cons (ps_if (pt_cmpR op_gt (pe_ix (kIxL K) (pv 0) pe_int (fun _ _ => rfl)) (pe_callB (kLen K) (by rfl) B.len PySem.boot_len (pa_cons (pe_ix (kIxL K) (pv 0) pe_int (fun _ _ => rfl)) pa_nil)) (nomark _))
      (pss_cons (ps_asg (pe_op op_mod (pe_callTy call_int1 (by rfl) B.int (by decide +kernel) (pa_cons (pe_op op_add (pe_op op_mul (pe_ix (kIxL K) (pv 0) pe_int (fun _ _ => rfl)) pe_int) pe_int) pa_nil)) pe_int) (pg_sub (pv 0) pe_int set_list))
      (pss_one (ps_ret (pe_op op_mod (pe_callTy call_int1 (by rfl) B.int (by decide +kernel) (pa_cons (pe_op op_fdiv (pe_ix (kIxL K) (pv 0) pe_int (fun _ _ => rfl)) pe_int) pa_nil)) (pv 1))))) pss_nil)
    (pss_cons (ps_set (i := 3) nd rfl (.inl rfl) (pe_ix (kIxL K) (pe_ix (kIxL K) (pv 0) pe_int (fun _ _ => rfl)) (pe_op op_sub (pe_ix (kIxL K) (pv 0) pe_int (fun _ _ => rfl)) pe_int) (fun _ _ => rfl)))
    (pss_cons (ps_asg (pe_op op_mod (pe_callTy call_int1 (by rfl) B.int (by decide +kernel) (pa_cons (pe_op op_add (pe_op op_add (pe_op op_mul (pe_ix (kIxL K) (pv 0) pe_int (fun _ _ => rfl)) pe_int) (pv 3)) pe_int) pa_nil)) pe_int) (pg_sub (pv 0) pe_int set_list))
    (pss_cons (ps_if (pt_cmpR op_ge (pv 3) (pe_op op_pow pe_int pe_int) (nomark _))
      (pss_one (ps_asg (pe_op op_fdiv (pv 3) (pv 1)) (pg_sub (pv 0) pe_int set_list))) pss_nil)
    (pss_one (ps_ret (pe_op op_mod (pe_callTy call_int1 (by rfl) B.int (by decide +kernel) (pa_cons (pv 3) pa_nil)) (pv 1))))))))), ?_⟩
  have gx : ∀ (j : Int) (m : Nat) (v : V) {σ : L2.St} {H' : Hp} {xs : List V}, j = (m : Int) → σ[0]? = some (some (.ref r)) → H' r = some (.lst xs) → xs[m]? = some v → Evl.Ev (tOp (rIxL K) (tVar 0) (tC (.int j))) σ H' v :=
    fun j m v σ H' xs hj h0 h1 h2 => ev_ixN (Evl.ev_var h0) Evl.ev_c (SqL.of h1) hj h2
  have hmod : 0 < n := by omega
  have hq : CDiv rest n := ⟨by omega, by omega⟩
  refine Evl.q_when (Evl.et_test (Evl.ev_op (gx 3 3 _ rfl rfl hrow rfl) Evl.ev_c Evl.rv_I0)) (fun hb H1 e1 => ?_) (fun hb H1 e1 => ?_)
  · have w1 := e1 _ _ hrow
    refine Evl.q_asg (Evl.ev_op (Evl.ev_cb (Evl.ea_cons (gx 3 3 _ rfl rfl w1 rfl) Evl.ea_nil) rc_int) (Evl.ev_var rfl) (Evl.rv_I hmod)) fun H2 e2 => ?_
    have w2 := e2 _ _ w1
    refine Evl.q_setL (j := 3) w2 (Evl.ev_op (gx 3 3 _ rfl rfl w2 rfl) (Evl.ev_var rfl) (Evl.rv_I hq)) (Evl.ev_var rfl) Evl.ev_c (by show _ < 4; omega) fun H3 e3 => ?_
    refine Evl.s_ret (Evl.ev_var rfl) fun H4 e4 => q _ idx seed (rest / n) H4 (Int.emod_nonneg _ (by omega)) (Int.emod_lt_of_pos _ hmod) hidx ((((e1.trans e2).trans e3).but.trans ExBut.upd).trans e4.but) (e4 _ _ upd_same)
  have w1 := e1 _ _ hrow
  refine Evl.q_setL (j := 1) w1 (Evl.ev_op (gx 1 1 _ rfl rfl w1 rfl) Evl.ev_c Evl.rv_I0) (Evl.ev_var rfl) Evl.ev_c (by show _ < 4; omega) fun H2 e2 => ?_
  have b2 : ExBut r H (upd H2 r (rowO s (idx + 1) seed rest)) := (e1.trans e2).but.trans ExBut.upd
  show tSeq _ _ _ _ (upd H2 r (rowO s (idx + 1) seed rest))
  have w2 : (upd H2 r (rowO s (idx + 1) seed rest)) r = some (rowO s (idx + 1) seed rest) := upd_same
  generalize upd H2 r (rowO s (idx + 1) seed rest) = G2 at *
  have hS2 := hS.but b2
  refine Evl.q_when (Evl.et_test (Evl.ev_op (gx 1 1 _ rfl rfl w2 rfl) (Evl.ev_len (gx 0 0 _ rfl rfl w2 rfl) hS2.l) Evl.rv_I0)) (fun hb H3 e3 => ?_) (fun hb H3 e3 => ?_)
  · have w3 := e3 _ _ w2
    refine Evl.q_setL (j := 2) w3 (Evl.ev_op (Evl.ev_cb (Evl.ea_cons (Evl.ev_op (Evl.ev_op (gx 2 2 _ rfl rfl w3 rfl) Evl.ev_c (Evl.rv_I (.inr ⟨by decide, by decide⟩))) Evl.ev_c Evl.rv_I0) Evl.ea_nil) rc_int) Evl.ev_c (Evl.rv_I (by decide))) (Evl.ev_var rfl) Evl.ev_c (by show _ < 4; omega) fun H4 e4 => ?_
    generalize hse : (seed * 48271 + 11) % 2147483647 = seed'
    have b4 : ExBut r H (upd H4 r (rowO s (idx + 1) seed' rest)) := (b2.trans (e3.trans e4).but).trans ExBut.upd
    show tRet _ _ _ (upd H4 r (rowO s (idx + 1) seed' rest))
    have w4 : (upd H4 r (rowO s (idx + 1) seed' rest)) r = some (rowO s (idx + 1) seed' rest) := upd_same
    generalize upd H4 r (rowO s (idx + 1) seed' rest) = G4 at *
    refine Evl.s_ret (Evl.ev_op (Evl.ev_cb (Evl.ea_cons (Evl.ev_op (gx 2 2 _ rfl rfl w4 rfl) Evl.ev_c (Evl.rv_I ⟨by decide, by decide⟩)) Evl.ea_nil) rc_int) (Evl.ev_var rfl) (Evl.rv_I hmod)) fun H5 e5 =>
      q _ (idx + 1) seed' rest H5 (Int.emod_nonneg _ (by omega)) (Int.emod_lt_of_pos _ hmod) (by omega) (b4.trans e5.but) (e5 _ _ w4)
  · have w3 := e3 _ _ w2
    have hS3 := hS2.but e3.but
    have hlt : idx.toNat < ns.length := by
      have := of_decide_eq_false hb
      rw [List.length_map] at this
      omega
    have hat : (List.map V.int ns)[idx.toNat]? = some (.int ns[idx.toNat]) := by rw [List.getElem?_map, List.getElem?_eq_getElem hlt]; rfl
    generalize ns[idx.toNat] = cell at hat
    refine Evl.q_asg (ev_ixN (gx 0 0 _ rfl rfl w3 rfl) (Evl.ev_op (gx 1 1 _ rfl rfl w3 rfl) Evl.ev_c Evl.rv_I0) hS3.l (by omega) hat) fun H4 e4 => ?_
    have w4 := e4 _ _ w3
    refine Evl.q_setL (j := 2) w4 (Evl.ev_op (Evl.ev_cb (Evl.ea_cons (Evl.ev_op (Evl.ev_op (Evl.ev_op (gx 2 2 _ rfl rfl w4 rfl) Evl.ev_c (Evl.rv_I (.inr ⟨by decide, by decide⟩))) (Evl.ev_var rfl) Evl.rv_I0) Evl.ev_c Evl.rv_I0) Evl.ea_nil) rc_int) Evl.ev_c (Evl.rv_I (by decide))) (Evl.ev_var rfl) Evl.ev_c (by show _ < 4; omega) fun H5 e5 => ?_
    generalize hse : (seed * 48271 + cell + 11) % 2147483647 = seed'
    have b5 : ExBut r H (upd H5 r (rowO s (idx + 1) seed' rest)) := (b2.trans ((e3.trans e4).trans e5).but).trans ExBut.upd
    show tSeq _ _ _ _ (upd H5 r (rowO s (idx + 1) seed' rest))
    have w5 : (upd H5 r (rowO s (idx + 1) seed' rest)) r = some (rowO s (idx + 1) seed' rest) := upd_same
    generalize upd H5 r (rowO s (idx + 1) seed' rest) = G5 at *
    have fin : ∀ H' t', ExBut r H H' → H' r = some (rowO s (idx + 1) seed' t') → tRet (tOp (rI (fun x j => 0 < j) fun i j => V.int (i % j)) (tCB (fun xs H Q => (∃ i, xs = [V.int i] ∧ Q (V.int i) H) ∨ ∃ k, xs = [V.bl k] ∧ Q (V.int (if k = true then 1 else 0)) H) (tCons (tVar 3) tNil)) (tVar 1))
        { nx := fun x H' => Q V.non H', rt := Q } [some (.ref r), some (.int n), none, some (.int cell)] H' := fun H' t' b hw =>
      Evl.s_ret (Evl.ev_op (Evl.ev_cb (Evl.ea_cons (Evl.ev_var rfl) Evl.ea_nil) rc_int) (Evl.ev_var rfl) (Evl.rv_I hmod)) fun H6 e6 => q _ (idx + 1) seed' t' H6 (Int.emod_nonneg _ (by omega)) (Int.emod_lt_of_pos _ hmod) (by omega) (b.trans e6.but) (e6 _ _ hw)
    refine Evl.q_when (Evl.et_test (Evl.ev_op (Evl.ev_var rfl) (Evl.ev_op Evl.ev_c Evl.ev_c (Evl.rv_I ⟨by decide, by decide, by decide⟩)) Evl.rv_I0)) (fun hb H6 e6 => ?_) (fun hb H6 e6 => fin H6 _ (b5.trans e6.but) (e6 _ _ w5))
    have w6 := e6 _ _ w5
    exact Evl.s_setL (j := 3) w6 (Evl.ev_op (Evl.ev_var rfl) (Evl.ev_var rfl) (Evl.rv_I ⟨by omega, by omega⟩)) (Evl.ev_var rfl) Evl.ev_c (by show _ < 4; omega) fun H7 e7 => fin _ (cell / n) ((b5.trans (e6.trans e7).but).trans ExBut.upd) upd_same
end
end TallR

set_option Elab.async false
set_option linter.all false
set_option maxRecDepth 100000
set_option maxHeartbeats 4000000
namespace TallR
open PySem PySem.Spec PyProof.Rows L2
open Evl (Ex)
open Tall
abbrev sBy : Stmt := topS 35
theorem scBy : FnScope ["_law_many", "_law_couples", "_law_found", "_law_one", "_law_other", "_law_person", "_law_own"] ["_law_many", "_law_couples"] (defScope sBy) := ⟨rfl, rfl, rfl, by decide +kernel, rfl, by decide +kernel, by decide +kernel⟩
section
variable {X : Cx} (K : PySem.W.Frag)
theorem kListD (hc : X.calm = true := by rfl) : CallR X (.type "list") (fun xs H Q => ∃ (a : Addr) (kvs : List (Key × V)), xs = [.ref a] ∧ Rd H a (.dK kvs) ∧ ∀ p, H p = none → Q (.ref p) (upd H p (.lst (kvs.map fun kv => kV kv.1)))) := call_listD hc
end
section
variable {P : Program} {w : World} {K : PySem.W.Frag} {mg : Str → Option Value} {base : Heap}
/-! ### the choose numbers -/
def chsStep (n : Int) (f : Int) (i : Nat) : Int := f * (n - (i : Int)) / ((i : Int) + 1)
def chs (n : Int) (k : Nat) : Int := (List.range k).foldl (chsStep n) 1
def RChoose : List PyData → PyData → Prop := fun ds d => ∃ (n : Int) (k : Nat), ds = [.int n, .int (k : Int)] ∧ (0 ≤ n ∧ n ≤ 10) ∧ k ≤ 10 ∧ d = .int (chs n k)
theorem ok_choose {f : Addr} {fd : FuncData} {k : Nat} (B : Bl mg) (F : Fun K "_law_choose" "_law_choose" sChoose f fd) : FnOk P w K mg base CX0 (k + 1) f fd ["_law_many", "_law_some"] (spR RChoose) := by
  refine F.ok scChoose (spR_len fun ds d ⟨v, lo, h, _⟩ => by rw [h]; rfl) (fun cdv A outer s H vs Q E hr h => ?_)
  obtain ⟨ds, d, hv, ⟨n, j, rfl, hn, hj, rfl⟩, q⟩ := h
  obtain ⟨v, u, rfl, h1, h2⟩ := hv.two
  cases h1
  cases h2
  have nd := scChoose.nd
  refine ⟨_, pss_cons (ps_set (i := 2) nd rfl (.inl rfl) pe_int)
    (pss_cons (ps_for PassesOwn.never rfl (pi_range1 (by rfl) B.range (pa_cons (pv 1) pa_nil)) (pg_name (i := 3) nd rfl (Or.inl rfl))
      (pss_one (ps_set (i := 2) nd rfl (.inl rfl) (pe_op op_fdiv (pe_op op_mul (pv 2) (pe_op op_sub (pv 0) (pv 3))) (pe_op op_add (pv 3) pe_int)))))
    (pss_one (ps_ret (pv 2)))), ?_⟩
  refine Evl.q_asg Evl.ev_c fun H1 e1 => ?_
  refine Evl.q_forR1 (n := (j : Int)) (Evl.ea_cons (Evl.ev_var rfl) Evl.ea_nil) ⟨by omega, by omega⟩ (fun i σ' H' => Ex H H' ∧ ∃ x3, σ' = [some (.int n), some (.int (j : Int)), some (.int (chs n i)), x3])
    (fun H2 e2 => ⟨e1.trans e2, none, rfl⟩) (fun i σ' H' hi hp => ?_) (fun σ' H' hp => ?_)
  · obtain ⟨ex, x3, rfl⟩ := hp
    refine Evl.s_asg (Evl.ev_op (Evl.ev_op (Evl.ev_var rfl) (Evl.ev_op (Evl.ev_var rfl) (Evl.ev_var rfl) Evl.rv_I0) (Evl.rv_I (.inr ⟨by omega, by omega⟩))) (Evl.ev_op (Evl.ev_var rfl) Evl.ev_c Evl.rv_I0) (Evl.rv_I ⟨by omega, by omega⟩)) fun H2 e2 => ⟨ex.trans e2, some (.int (i : Int)), ?_⟩
    have : chs n (i + 1) = chs n i * (n - (i : Int)) / ((i : Int) + 1) := by unfold chs; rw [List.range_succ, List.foldl_append]; rfl
    rw [this]
    rfl
  · obtain ⟨ex, x3, rfl⟩ := hp
    rw [Int.toNat_natCast]
    exact Evl.s_ret (Evl.ev_var rfl) fun H2 e2 => q _ H2 (ex.trans e2) (.int _)
/-! ### the webs -/
/-- a row of a table of neighbours -/
def addK (row : List Int) (k : Int) : List Int := if row.contains k then row else row ++ [k]
def rowD (row : List Int) : List (Key × V) := row.map fun k => (.inl k, .bl true)
def putT (T : List (List Int)) (i : Nat) (k : Int) : List (List Int) := T.set i (addK (T.getD i []) k)
def linkT (T : List (List Int)) (p : Int × Int) : List (List Int) := putT (putT T p.1.toNat p.2) p.2.toNat p.1
def byT (n : Nat) (cs : List (Int × Int)) : List (List Int) := cs.foldl linkT (List.replicate n [])
abbrev encQ (p : Int × Int) : PyData := .tuple [.int p.1, .int p.2]
def ByOk (n : Nat) (cs : List (Int × Int)) (W : Web) : Prop := n ≤ 10 ∧ cs.length ≤ 30 ∧ (∀ p ∈ cs, 0 ≤ p.1 ∧ p.1 < (n : Int) ∧ 0 ≤ p.2 ∧ p.2 < (n : Int)) ∧ W.length = n ∧ ∀ i, i < n → (W.getD i []).Perm ((byT n cs).getD i []) ∧ (W.getD i []).Pairwise (· < ·)
instance (n : Nat) (cs : List (Int × Int)) (W : Web) : Decidable (ByOk n cs W) := by unfold ByOk; infer_instance
theorem rowD_any (k : Int) : ∀ row : List Int, ((rowD row).any fun kv => decide (kv.1 = (.inl k : Key))) = row.contains k
  | [] => rfl
  | x :: row => by
    have ih := rowD_any k row
    unfold rowD at ih ⊢
    rw [List.map_cons, List.any_cons, ih, List.contains_cons]
    congr 1
    by_cases h : x = k
    · subst h
      rw [decide_eq_true rfl, beq_self_eq_true]
    · rw [decide_eq_false (fun z => h (Sum.inl.inj z)), beq_false_of_ne (fun z => h z.symm)]
theorem rowD_same (k : Int) : ∀ row : List Int, (rowD row).map (fun kv => if kv.1 = (.inl k : Key) then (kv.1, V.bl true) else kv) = rowD row
  | [] => rfl
  | x :: row => by
    have ih := rowD_same k row
    unfold rowD at ih ⊢
    rw [List.map_cons, List.map_cons, ih]
    congr 1
    split <;> rfl
theorem putK_row (row : List Int) (k : Int) : putK (rowD row) (.inl k : Key) (V.bl true) = rowD (addK row k) := by
  unfold putK addK
  rw [rowD_any]
  cases row.contains k with
  | true => rw [if_pos rfl, if_pos rfl]; exact rowD_same k row
  | false =>
    rw [if_neg (by decide), if_neg (by decide)]
    unfold rowD
    rw [List.map_append]
    rfl
theorem addK_len (row : List Int) (k : Int) : (addK row k).length ≤ row.length + 1 := by
  unfold addK
  split
  · omega
  · rw [List.length_append]; exact Nat.le_refl _
theorem getD_set {T : List (List Int)} {i j : Nat} {r : List Int} (hi : i < T.length) : (T.set i r).getD j [] = if i = j then r else T.getD j [] := by
  rw [List.getD_eq_getElem?_getD, List.getElem?_set]
  split
  · next h =>
    subst h
    rfl
  · rw [List.getD_eq_getElem?_getD]
theorem putT_len (T : List (List Int)) (i : Nat) (k : Int) : (putT T i k).length = T.length := by unfold putT; rw [List.length_set]
theorem putT_row {T : List (List Int)} {i : Nat} {N : Nat} (k : Int) (hi : i < T.length) (h : ∀ j, (T.getD j []).length ≤ N) (j : Nat) : ((putT T i k).getD j []).length ≤ N + 1 := by
  unfold putT
  rw [getD_set hi]
  split
  · have := addK_len (T.getD i []) k
    have := h i
    omega
  · have := h j
    omega
def RowsAt (H : Hp) (ds : List Addr) (T : List (List Int)) : Prop := ∀ (i : Nat) (d : Addr), ds[i]? = some d → H d = some (.dK (rowD (T.getD i [])))
structure Net (H0 : Hp) (l : Addr) (ds : List Addr) (T : List (List Int)) (N : Nat) (H : Hp) : Prop where
  ex : Ex H0 H
  l : H l = some (.lst (ds.map V.ref))
  rows : RowsAt H ds T
  len : ds.length = T.length
  nd : ds.Nodup
  new : ∀ d ∈ ds, H0 d = none
  few : ∀ j, (T.getD j []).length ≤ N
theorem Net.go {H0 H H' : Hp} {l : Addr} {ds : List Addr} {T : List (List Int)} {N : Nat} (h : Net H0 l ds T N H) (e : Ex H H') : Net H0 l ds T N H' := ⟨h.ex.trans e, e _ _ h.l, fun i d hi => e _ _ (h.rows i d hi), h.len, h.nd, h.new, h.few⟩
theorem Net.put {H0 H : Hp} {l d : Addr} {ds : List Addr} {T : List (List Int)} {N i : Nat} (h : Net H0 l ds T N H) (hi : ds[i]? = some d) (k : Int) : Net H0 l ds (putT T i k) (N + 1) (upd H d (.dK (putK (rowD (T.getD i [])) (.inl k : Key) (V.bl true)))) := by
  have hlt : i < T.length := by rw [← h.len]; exact (List.getElem?_eq_some_iff.mp hi).1
  have hd := h.rows i d hi
  refine ⟨Evl.Ex.mut h.ex (h.new d (List.mem_of_getElem? hi)), ?_, fun j d' hj => ?_, by rw [putT_len]; exact h.len, h.nd, h.new, putT_row k hlt h.few⟩
  · rw [upd_ne (ne_of h.l hd (fun z => nomatch z))]
    exact h.l
  · unfold putT
    rw [getD_set hlt]
    by_cases hij : i = j
    · subst hij
      obtain rfl : d = d' := Option.some.inj (hi.symm.trans hj)
      rw [if_pos rfl, upd_same, putK_row]
    · rw [if_neg hij]
      have hne : d' ≠ d := fun z => by
        subst z
        have i1 := List.getElem?_eq_some_iff.mp hi
        exact hij ((List.getElem?_inj i1.1 h.nd).mp (hi.trans hj.symm))
      rw [upd_ne hne]
      exact h.rows j d' hj
section
variable {K : PySem.W.Frag} {σ : L2.St} {H : Hp} {D : Ends}
/-- found[x][y] = True -/
theorem s_link {H0 : Hp} {l : Addr} {ds : List Addr} {T : List (List Int)} {N a b : Nat} {x y : Int} (h : Net H0 l ds T N H) (hN : N < 100000) (h2 : σ[2]? = some (some (.ref l))) (ha : σ[a]? = some (some (.int x))) (hb : σ[b]? = some (some (.int y))) (hx : 0 ≤ x ∧ x < (T.length : Int))
    (k : ∀ H', Net H0 l ds (putT T x.toNat y) (N + 1) H' → D.nx σ H') : sDPut (tOp (rIxL K) (tVar 2) (tVar a)) (tVar b) (tC (.bl true)) D σ H := by
  have hlt : x.toNat < ds.length := by rw [h.len]; omega
  have hd : ds[x.toNat]? = some ds[x.toNat] := List.getElem?_eq_getElem hlt
  generalize ds[x.toNat] = d at hd
  have hdm : (ds.map V.ref)[x.toNat]? = some (.ref d) := by rw [List.getElem?_map, hd]; rfl
  refine ⟨.ref l, h2, .int x, ha, l, ds.map V.ref, x, .ref d, rfl, rfl, SqL.of h.l, at_of (by omega) hdm, .int y, hb, d, _, rfl, .inl ⟨rowD (T.getD x.toNat []), .inl y, h.rows _ _ hd, rfl, ?_, rfl⟩, k _ (h.put hd y)⟩
  unfold rowD
  rw [List.length_map]
  exact Evl.sz_lt (Nat.lt_of_le_of_lt (h.few _) hN)
theorem l_dicts {ta : TA} {j n : Nat} {vs : List Nat} {Q : VK} (h : Evl.EvA ta σ H [.int (n : Int)]) (hn : n ≤ 1000) (hw : ∀ x, wipe ((wipe σ vs).set j (some x)) vs = wipe σ vs) (q : ∀ l ds H2, H l = none → Net H l ds (List.replicate n []) 0 H2 → Q (.ref l) H2) :
    tLc (iRng1 ta) (gName j) tYes tDNewK vs σ H Q := h H (Ex.refl H) _ fun H1 e1 => ⟨(n : Int), rfl, by omega, by omega, fun Dl hD => by
  rw [Int.toNat_natCast]
  refine lc_range (lo := 0) (n := n) (fun i H' => ∃ ds : List Addr, ds.length = i ∧ ds.Nodup ∧ (∀ d ∈ ds, H d = none) ∧ Ex H1 H' ∧ H' Dl = some (.lst (ds.map V.ref)) ∧ ∀ d ∈ ds, H' d = some (.dK []))
    ⟨[], rfl, List.nodup_nil, fun _ h => absurd h List.not_mem_nil, Evl.Ex.new hD, upd_same, fun _ h => absurd h List.not_mem_nil⟩ (fun i H2 hi hp => ?_) (fun H2 hp => ?_)
  · obtain ⟨ds, hl, nd, nw, ex, hDl, hds⟩ := hp
    refine ⟨hw _, ?_⟩
    unfold tYes
    dsimp only
    first | rw [if_pos rfl] | skip
    refine fun p np => ⟨ds.map V.ref, ?_, ?_, ds ++ [p], ?_, ?_, ?_, ?_, ?_, ?_⟩
    · rw [upd_ne (ne_of_none hDl np)]; exact hDl
    · rw [List.length_map]; exact Evl.sz_lt (by omega)
    · rw [List.length_append, hl]; rfl
    · refine List.nodup_append.mpr ⟨nd, (by simp), fun a ha b hb => ?_⟩
      rw [List.mem_singleton.mp hb]
      exact ne_of_none (hds a ha) np
    · intro d hd
      rcases List.mem_append.mp hd with hd | hd
      · exact nw d hd
      · rw [List.mem_singleton.mp hd]
        exact Evl.fresh_back (e1.trans ex) np
    · exact Evl.Ex.mut (ex.trans (Evl.Ex.new np)) hD
    · rw [upd_same, List.map_append]
      rfl
    · intro d hd
      have hpD : p ≠ Dl := fun z => by rw [z, hDl] at np; exact nomatch np
      rcases List.mem_append.mp hd with hd | hd
      · rw [upd_ne (ne_of (hds d hd) hDl (fun z => nomatch z)), upd_ne (ne_of_none (hds d hd) np)]
        exact hds d hd
      · rw [List.mem_singleton.mp hd, upd_ne hpD, upd_same]
  · obtain ⟨ds, hl, nd, nw, ex, hDl, hds⟩ := hp
    have hrep : ∀ j, (List.replicate n ([] : List Int)).getD j [] = [] := fun j => by
      rw [List.getD_eq_getElem?_getD, List.getElem?_replicate]
      split <;> rfl
    refine q Dl ds H2 (Evl.fresh_back e1 hD) ⟨e1.trans ex, hDl, fun i d hi => ?_, by rw [hl, List.length_replicate], nd, nw, fun j => by rw [hrep]; exact Nat.le_refl _⟩
    rw [hrep]
    exact hds d (List.mem_of_getElem? hi)⟩
theorem q_dicts {tz : TS} {ta : TA} {i j n : Nat} {vs : List Nat} (h : Evl.EvA ta σ H [.int (n : Int)]) (hn : n ≤ 1000) (hw : ∀ x, wipe ((wipe σ vs).set j (some x)) vs = wipe σ vs) (q : ∀ l ds H2, H l = none → Net H l ds (List.replicate n []) 0 H2 → tz D (σ.set i (some (.ref l))) H2) :
    tSeq (tAsg (tLc (iRng1 ta) (gName j) tYes tDNewK vs) (gName i)) tz D σ H := by
  unfold tSeq tAsg
  exact l_dicts h hn hw q
end
theorem sort_is {W row ns : List Int} (h1 : W.Perm row) (h2 : W.Pairwise (· < ·)) (h3 : ns.Perm row) (h4 : ns.Pairwise (· ≤ ·)) : ns = W := by
  have hp : ns.Perm W := h3.trans h1.symm
  have nd : ns.Nodup := hp.nodup_iff.mpr (h2.imp fun h => by omega)
  have h5 : ns.Pairwise (· < ·) := (List.Pairwise.and h4 nd).imp fun ⟨a, b⟩ => by omega
  exact asc_unique h5 h2 fun k => hp.mem_iff
def spBy : Sp := fun vs H Q _ => ∃ (n : Nat) (c : Addr) (xs : List V) (cs : List (Int × Int)) (W : Web), vs = [.int (n : Int), .ref c] ∧ H c = some (.lst xs) ∧ DtAll H xs (cs.map encQ) ∧ ByOk n cs W ∧ ∀ v H', Ex H H' → Dt H' v (encW W) → Q v H'
theorem ok_by {f : Addr} {fd : FuncData} {k : Nat} (B : Bl mg) (F : Fun K "_law_by" "_law_by" sBy f fd) : FnOk P w K mg base CX0 (k + 1) f fd ["_law_many", "_law_couples"] spBy := by
  refine F.ok scBy (fun vs H Q E ⟨_, _, _, _, _, h, _⟩ => by rw [h]; rfl) (fun cdv A outer s H vs Q E hr h => ?_)
  obtain ⟨n, c, xs, cs, W, rfl, hc, hxs, ⟨hn, hcs, hin, hW, hrows⟩, q⟩ := h
  have nd := scBy.nd
  refine ⟨_, pss_cons (ps_setLc (i := 2) (own := [("_law_person", 5)]) (g := gName 5) rfl nd rfl rfl (sw_true rfl rfl rfl (by decide +kernel)) (pi_range1 (by rfl) B.range (pa_cons (pv 0) pa_nil))
        (blkOk_by (N := ["_law_many", "_law_couples", "_law_found", "_law_one", "_law_other", "_law_person", "_law_own"]) (sc := defScope sBy) (by decide +kernel))
        (fun _ _ _ _ _ => pg_name (i := 5) nd rfl (Or.inl rfl)) (fun _ _ _ _ _ => pts_nil) (fun _ _ _ _ _ => pe_dnewK))
    (pss_cons (ps_for PassesOwn.never rfl (kPiL K (pv 1)) (kPgTup K (n := 2) rfl (pgs_cons (pg_name (i := 3) nd rfl (Or.inl rfl)) (pgs_cons (pg_name (i := 4) nd rfl (Or.inl rfl)) pgs_nil)))
      (pss_cons (ps_dput (Nat.lt_of_le_of_lt (Nat.add_le_add_left (by decide : 1 ≤ 64) _) hr.units) (pe_ix (kIxL K) (pv 2) (pv 3) (fun _ _ => rfl)) (pv 4) pe_bl rfl)
      (pss_one (ps_dput (Nat.lt_of_le_of_lt (Nat.add_le_add_left (by decide : 1 ≤ 64) _) hr.units) (pe_ix (kIxL K) (pv 2) (pv 4) (fun _ _ => rfl)) (pv 3) pe_bl rfl))))
    (pss_one (ps_ret (pe_callTy (kTuple K) (by rfl) B.tup (by decide +kernel) (pa_cons
      (pe_lc (own := [("_law_own", 6)]) (g := gName 6) (by rfl) nd (kPiL K (pv 2)) (blkOk_by (N := ["_law_many", "_law_couples", "_law_found", "_law_one", "_law_other", "_law_person", "_law_own"]) (sc := defScope sBy) (by decide +kernel))
        (fun _ _ _ _ _ => pg_name (i := 6) nd rfl (Or.inl rfl)) (fun _ _ _ _ _ => pts_nil)
        (fun _ _ _ _ _ => pe_callTy (kTuple K) (by rfl) B.tup (by decide +kernel) (pa_cons (pe_callB (kSorted K) (by rfl) B.sorted (by decide +kernel) (pa_cons (pe_callTy kListD (by rfl) B.list (by decide +kernel) (pa_cons (pv 6) pa_nil)) pa_nil)) pa_nil))) pa_nil))))), ?_⟩
  refine q_dicts (n := n) (Evl.ea_cons (Evl.ev_var rfl) Evl.ea_nil) (by omega) (fun _ => rfl) fun l ds H2 nl hnet => ?_
  have hlen : xs.length = cs.length := by rw [hxs.len, List.length_map]
  refine Evl.q_forL (a := c) (xs := xs) (Evl.ev_var rfl) (SqL.of (hnet.ex _ _ hc)) (fun i σ' H' => ∃ x3 x4, σ' = [some (.int (n : Int)), some (.ref c), some (.ref l), x3, x4, none, none] ∧ Net H l ds ((cs.take i).foldl linkT (List.replicate n [])) (2 * i) H')
    (fun H3 e3 => ⟨none, none, rfl, hnet.go e3⟩) (fun i σ' H' hi ⟨_, _, _, hp⟩ => SqL.of (hp.ex _ _ hc)) (fun i x σ' H' hx hp => ?_) (fun σ' H' hp => ?_)
  · obtain ⟨x3, x4, rfl, hT⟩ := hp
    have hi : i < xs.length := (List.getElem?_eq_some_iff.mp hx).1
    obtain ⟨d, hd, hdx⟩ := hxs.get hx
    rw [List.getElem?_map] at hd
    cases hci : cs[i]? with
    | none => rw [hci] at hd; exact nomatch hd
    | some p =>
      rw [hci] at hd
      obtain rfl := Option.some.inj hd
      have hpm := hin p (List.mem_of_getElem? hci)
      have hT1 : (cs.take (i + 1)).foldl linkT (List.replicate n []) = linkT ((cs.take i).foldl linkT (List.replicate n [])) p := fold_take _ _ _ _ hci _
      have hTn : ((cs.take i).foldl linkT (List.replicate n [])).length = n := by
        have : ∀ (l : List (Int × Int)) (T : List (List Int)), (l.foldl linkT T).length = T.length := fun l => by
          induction l with
          | nil => intro T; rfl
          | cons a l ih => intro T; rw [List.foldl_cons, ih]; unfold linkT; rw [putT_len, putT_len]
        rw [this, List.length_replicate]
      generalize (cs.take i).foldl linkT (List.replicate n []) = T at *
      cases hdx.mono hT.ex.t with
      | @tup t ys _ ht hys =>
        obtain ⟨y1, y2, rfl, hy1, hy2⟩ := hys.two
        cases hy1
        cases hy2
        refine ⟨t, _, rfl, SqT.of ht, rfl, .int p.1, [.int p.2], rfl, .int p.2, [], rfl, rfl, ?_⟩
        show tSeq _ _ _ [some (.int (n : Int)), some (.ref c), some (.ref l), some (.int p.1), some (.int p.2), none, none] H'
        refine s_link (a := 3) (b := 4) hT (by omega) rfl rfl rfl ⟨hpm.1, by rw [hTn]; exact hpm.2.1⟩ fun H3 hT3 => ?_
        refine s_link (a := 4) (b := 3) hT3 (by omega) rfl rfl rfl ⟨hpm.2.2.1, by rw [putT_len, hTn]; exact hpm.2.2.2⟩ fun H4 hT4 => ⟨_, _, rfl, ?_⟩
        rw [hT1]
        exact hT4
  · obtain ⟨x3, x4, rfl, hT⟩ := hp
    rw [List.take_of_length_le (by omega)] at hT
    change Net H l ds (byT n cs) _ H' at hT
    have hdn : ds.length = n := by
      have := hnet.len
      rw [List.length_replicate] at this
      exact this
    refine ⟨.ref l, rfl, l, rfl, ⟨_, SqL.of hT.l⟩, fun Dl nD => ?_⟩
    refine lc_gen (xs := List.range n) (walk_list (K := K) (a := l) (xs := ds.map V.ref)) (by rw [List.length_range, List.length_map, hdn]) (by rw [List.length_map]; omega) (fun (i : Nat) w (H' : Hp) => ∃ d, ds[i]? = some d ∧ w = .ref d) H' (fun H5 x => SqL.of (x _ _ hT.l)) (fun i Hx w H5 ex hi y => ?_) (fun _ => true) (fun i => encS (W.getD i [])) nD (fun i w H5 hx ex hR Q' q' => ?_) (fun acc H5 ex ha hacc => ?_)
    · obtain ⟨rfl, hw'⟩ := y
      refine ⟨Evl.Ex.refl _, i, by rw [List.getElem?_range (by rw [List.length_map] at hi; omega)], ?_⟩
      rw [List.getElem?_map] at hw'
      cases hdi : ds[i]? with
      | none => rw [hdi] at hw'; exact nomatch hw'
      | some d =>
        rw [hdi] at hw'
        exact ⟨d, rfl, (Option.some.inj hw').symm⟩
    · obtain ⟨d, hdi, rfl⟩ := hR
      have hin' : i < n := List.mem_range.mp hx
      refine q' _ H5 rfl (Evl.Ex.refl _) t_yes fun _ H6 e6 Q6 q6 => ?_
      have hd6 := e6 _ _ (ex _ _ (hT.rows i d hdi))
      have hfew := hT.few i
      obtain ⟨w1, w2⟩ := hrows i hin'
      refine ⟨.ref d, rfl, d, _, rfl, .inl hd6, fun p np => ⟨p, (byT n cs).getD i [], rfl, SqL.of ?_, by omega, fun ns p2 perm srt np2 => ⟨p2, ns.map V.int, rfl, .inl ⟨SqL.of upd_same, fun p3 np3 => q6 _ _ (((Evl.Ex.new np).trans (Evl.Ex.new np2)).trans (Evl.Ex.new np3)) ?_⟩⟩⟩⟩
      · rw [upd_same]
        unfold rowD
        rw [List.map_map]
        rfl
      · rw [sort_is w1 w2 perm srt]
        exact Dt.ofSet upd_same
    · rw [filter_yes] at hacc
      refine ⟨Dl, acc, rfl, .inl ⟨SqL.of ha, fun pp npp => q _ _ ((hT.ex.trans ex).trans (Evl.Ex.new npp)) ?_⟩⟩
      have hWm : (List.range n).map (fun i => encS (W.getD i [])) = W.map encS := by
        refine List.ext_getElem? fun i => ?_
        rw [List.getElem?_map, List.getElem?_map]
        by_cases hi : i < n
        · rw [List.getElem?_range hi, List.getElem?_eq_getElem (by omega)]
          show some (encS (W.getD i [])) = some (encS W[i])
          rw [List.getD_eq_getElem?_getD, List.getElem?_eq_getElem (by omega)]
          rfl
        · rw [List.getElem?_eq_none (by rw [List.length_range]; omega), List.getElem?_eq_none (by omega)]
          rfl
      rw [hWm] at hacc
      exact .tup upd_same (hacc.mono (ExT.new npp))
end
end TallR

set_option Elab.async false
set_option linter.all false
set_option maxRecDepth 100000
set_option maxHeartbeats 4000000
set_option synthInstance.maxHeartbeats 400000
set_option synthInstance.maxSize 2000
namespace TallR
open PySem PySem.Spec PyProof.Rows L2
open Evl (Ex)
open Tall
/-! ### the three webs: what the law says of them -/
def cTable (m : Nat) : List (Int × Int) := ((List.range m).map fun (i : Nat) => (List.range (m - (i + 1))).map fun (j : Nat) => ((i : Int), ((i + 1 : Nat) : Int) + (j : Int))).flatten
def cStairs (m : Nat) : List (Int × Int) := (List.range (m - 1)).map fun (i : Nat) => ((i : Int), (i : Int) + 1)
def cStar (m : Nat) : List (Int × Int) := (List.range (m - 1)).map fun (i : Nat) => ((m : Int) - 1, (i : Int))
def found (web : Web) (m : Nat) : Found := (reach web (begin m)).getD []
def Good (web : Web) (m : Nat) : Prop := (WebOk web ∧ SetOk web.length (begin m)) ∧ web.length = m ∧ reach web (begin m) = some (found web m) ∧ (found web m).length ≤ 1000 ∧ ∀ kv ∈ found web m, kv.1 ≠ []
instance (web : Web) (m : Nat) : Decidable (Good web m) := by unfold Good; infer_instance
theorem good_all : ∀ m, m < 6 → 2 ≤ m → Good (table m) m ∧ Good (stairs m) m ∧ Good (star m) m := by decide +kernel
theorem by_all : ∀ m, m < 6 → 2 ≤ m → ByOk m (cTable m) (table m) ∧ ByOk m (cStairs m) (stairs m) ∧ ByOk m (cStar m) (star m) := by decide +kernel
def upto (F : Found) (c : Int) : List Pset := (F.filter fun kv => decide (kv.2 ≤ c)).map (·.1)
def wish (F : Found) (up down : Pset) : List Pset := (F.filter fun kv => fits kv.1 up down).map (·.1)
def least (F : Found) (c : Int) : Option (Int × Pset) := match fewPairs F c with
  | [] => none
  | p :: r => some (minP p r)
def most (F : Found) (down : Pset) : Option (Int × Pset) := match savePairs F down with
  | [] => none
  | p :: r => some (-(minP p r).1, (minP p r).2)
theorem table1 : ∀ m, m < 6 → 2 ≤ m → ∀ c, c < 4 → (upto (found (table m) m) (c : Nat)).length = (if 0 < c then m else 1) ∧
    least (found (table m) m) (c : Nat) = some (if 0 < c then (1, [(m : Int) - 1]) else ((m : Int), begin m)) := by decide +kernel
theorem table2 : ∀ m, m < 6 → 2 ≤ m → callsTab m (found (table m) m) = List.replicate (m - 1) (some 1) ++ [none] ∧ most (found (table m) m) [0] = some ((m : Int) - 1, (begin m).drop 1) ∧ most (found (table m) m) [(m : Int) - 1] = none := by decide +kernel
def OneOf (F : Found) (up down : Pset) (k : Int) : Prop := k ∈ (F.filter fun kv => fits kv.1 up down).map (·.2) ∧ ∀ y ∈ (F.filter fun kv => fits kv.1 up down).map (·.2), k ≤ y
instance (F : Found) (up down : Pset) (k : Int) : Decidable (OneOf F up down k) := by unfold OneOf; infer_instance
theorem table3 : ∀ m, m < 6 → 2 ≤ m → ∀ u, u < m → ∀ d, d < m → ((found (table m) m).any fun kv => fits kv.1 [(u : Int)] [(d : Int)]) = decide (d < u) ∧ (d < u → OneOf (found (table m) m) [(u : Int)] [(d : Int)] 1) ∧
    SetOk m [(u : Int)] ∧ SetOk m [(d : Int)] := by decide +kernel
def sizes (m : Nat) : List Int := (List.range m).map fun k => chs ((m : Int) - 1) k
def Tops (F : Found) (m : Nat) : Prop := ((m : Int) - 1) ∈ F.map (fun kv : Pset × Int => kv.2) ∧ (∀ y ∈ F.map (fun kv : Pset × Int => kv.2), y ≤ (m : Int) - 1) ∧ ((List.range (((m : Int) - 1) + 1).toNat).map fun (k : Nat) => (((F.map (fun kv : Pset × Int => kv.2)).count (k : Int) : Nat) : Int)) = sizes m
instance (F : Found) (m : Nat) : Decidable (Tops F m) := by unfold Tops; infer_instance
theorem stairs1 : ∀ m, m < 6 → 2 ≤ m → Tops (found (stairs m) m) m ∧ callsTab m (found (stairs m) m) = List.replicate (m - 1) (some 1) ++ [none] := by decide +kernel
theorem stairs2 : ∀ m, m < 6 → 2 ≤ m → ∀ c, c < 4 → ((upto (found (stairs m) m) (c : Nat)).length : Int) = ((sizes m).take (c + 1)).sum ∧ (least (found (stairs m) m) (c : Nat)).map (·.1) = some (if 1 > (m : Int) - (c : Nat) then 1 else (m : Int) - (c : Nat)) := by decide +kernel
def subs : List Int → List (List Int)
  | [] => [[]]
  | x :: r => subs r ++ (subs r).map (x :: ·)
theorem subs_nil : ∀ l : List Int, [] ∈ subs l
  | [] => List.mem_singleton.mpr rfl
  | x :: r => List.mem_append.mpr (.inl (subs_nil r))
theorem subs_snoc (x : Int) : ∀ {l s : List Int}, s ∈ subs l → s ∈ subs (l ++ [x]) ∧ s ++ [x] ∈ subs (l ++ [x])
  | [], s, h => by
    rw [List.mem_singleton.mp h]
    exact ⟨by simp [subs], by simp [subs]⟩
  | y :: l, s, h => by
    show s ∈ subs (l ++ [x]) ++ (subs (l ++ [x])).map (y :: ·) ∧ s ++ [x] ∈ subs (l ++ [x]) ++ (subs (l ++ [x])).map (y :: ·)
    rcases List.mem_append.mp h with h | h
    · obtain ⟨a, b⟩ := subs_snoc x h
      exact ⟨List.mem_append.mpr (.inl a), List.mem_append.mpr (.inl b)⟩
    · obtain ⟨t, ht, rfl⟩ := List.mem_map.mp h
      obtain ⟨a, b⟩ := subs_snoc x ht
      exact ⟨List.mem_append.mpr (.inr (List.mem_map.mpr ⟨t, a, rfl⟩)), List.mem_append.mpr (.inr (List.mem_map.mpr ⟨t ++ [x], b, rfl⟩))⟩
def rest (m : Nat) (s : Pset) : Pset := (begin m).filter fun p => !s.contains p
theorem stairs3 : ∀ m, m < 6 → 2 ≤ m → ∀ s ∈ subs ((begin m).dropLast), SetOk m s ∧ SetOk m (rest m s) ∧ ((found (stairs m) m).any fun kv => fits kv.1 (rest m s) s) = true ∧ OneOf (found (stairs m) m) (rest m s) s s.length ∧
    wish (found (stairs m) m) (rest m s) s = [rest m s] ∧ most (found (stairs m) m) s = some (((rest m s).length : Int), rest m s) := by decide +kernel
theorem star1 : ∀ m, m < 6 → 2 ≤ m → upto (found (star m) m) 5 = [begin m, [(m : Int) - 1]] ∧ most (found (star m) m) [0] = some (1, [(m : Int) - 1]) ∧ (m ≠ 2 → ((found (star m) m).any fun kv => fits kv.1 [0] [1]) = false) ∧ SetOk m [0] ∧ SetOk m [1] ∧ SetOk m [(m : Int) - 1] := by decide +kernel
def outOf : Option (Int × Pset) → PyData
  | none => .none
  | some p => enc2 p
theorem most_is {F : Found} {down : Pset} {o : Option (Int × Pset)} (h : most F down = o) : saveMost (savePairs F down) = outOf o := by
  subst h
  unfold most saveMost
  cases savePairs F down <;> rfl
theorem least_is {F : Found} {c : Int} {q : Int × Pset} (h : least F c = some q) : ∃ p r, fewPairs F c = p :: r ∧ minP p r = q := by
  unfold least at h
  cases hf : fewPairs F c with
  | nil => rw [hf] at h; exact nomatch h
  | cons p r => rw [hf] at h; exact ⟨p, r, rfl, Option.some.inj h⟩
end TallR

set_option Elab.async false
set_option linter.all false
set_option maxRecDepth 100000
set_option maxHeartbeats 4000000
namespace TallR
open PySem PySem.Spec PyProof.Rows L2
open Evl (Ex)
open Tall
/-! ### t * k for 1 ≤ k -/
def rRepA (K : PySem.W.Frag) : R2 := fun x y H Q => ∃ l k xs, x = .ref l ∧ y = .int k ∧ H l = some (.tup xs) ∧ xs ≠ [] ∧ 1 ≤ k ∧ k ≤ 1000 ∧ xs.length ≤ 1000 ∧ ∀ p H', Ex H H' → H' p = some (.tup (List.replicate k.toNat xs).flatten) → Q (.ref p) H'
theorem op_repA {X : Cx} : OpR X (binaryOp .Mult) (rRepA X.K) := by
  intro pins s σ H x y v u Q I rx ry h
  obtain ⟨l, k, xs, rfl, rfl, hl, hne, h1, h2, hz, q⟩ := h
  by_cases hk : k = 1
  · subst hk
    refine op_repT1 pins s σ H _ _ v u Q I rx ry ⟨l, xs, rfl, rfl, SqT.of hl, q l H (Evl.Ex.refl H) ?_⟩
    rw [hl]
    simp
  · exact op_repT pins s σ H _ _ v u Q I rx ry ⟨l, k, xs, rfl, rfl, SqT.of hl, hne, by omega, h2, hz, fun p np => q p _ (Evl.Ex.new np) upd_same⟩
section
variable {X : Cx} (K : PySem.W.Frag)
theorem kSum (hc : X.calm = true := by rfl) (h : X.K = K := by rfl) : CallR X (.builtin "sum") (rSum K) := by subst h; exact cr_sum hc
theorem kRepA (h : X.K = K := by rfl) : OpR X (binaryOp .Mult) (rRepA K) := by subst h; exact op_repA
theorem kCatA (h : X.K = K := by rfl) : OpR X (binaryOp .Add) (rCatA K) := by subst h; exact op_catA
theorem kSlA (h : X.K = K := by rfl) : SlR X (rSlA K) := by subst h; exact sl_tupA
theorem kSlL (h : X.K = K := by rfl) : SlR X (rSlL K) := by subst h; exact sl_list
end
def cutI (s : List Int) (lo hi : Option Int) : List Int := (s.drop (HT.sIx s.length 0 lo)).take (HT.sIx s.length s.length hi - HT.sIx s.length 0 lo)
theorem cutV_ints (s : List Int) (lo hi : Option Int) : cutV (s.map V.int) lo hi = (cutI s lo hi).map V.int := by
  unfold cutV cutI
  rw [List.length_map, List.map_take, List.map_drop]
theorem cutI_tail (s : List Int) : cutI s (some 1) none = s.drop 1 := by
  unfold cutI
  rw [show HT.sIx s.length 0 (some 1) = min 1 s.length from HT.sIx_nat s.length 0 1, HT.sIx_none]
  cases s with
  | nil => rfl
  | cons x r =>
    rw [show min 1 (x :: r).length = 1 by rw [List.length_cons]; omega]
    show (List.take ((x :: r).length - 1) r) = r
    rw [List.length_cons, Nat.add_sub_cancel]
    exact List.take_length
theorem cutI_init (s : List Int) : cutI s none (some (-1)) = s.dropLast := by
  unfold cutI
  rw [HT.sIx_none, List.drop_zero, List.dropLast_eq_take]
  congr 1
  show (if (-1 : Int) < 0 then ((-1 : Int) + (s.length : Int)).toNat else min (-1 : Int).toNat s.length) - 0 = s.length - 1
  rw [if_pos (by decide)]
  omega
theorem cutI_take (s : List Int) (c : Nat) : cutI s none (some ((c : Nat) : Int)) = s.take c := by
  unfold cutI
  rw [HT.sIx_none, List.drop_zero, HT.sIx_nat, Nat.sub_zero]
  rcases Nat.le_total c s.length with h | h
  · rw [Nat.min_eq_left h]
  · rw [Nat.min_eq_right h, List.take_length, List.take_of_length_le h]
section
variable {K : PySem.W.Frag} {σ : L2.St} {H : Hp} {ta tb te tl tx : TE} {t u : TT} {a b : Bool} {d e : PyData} {i j : Int} {D : Ends} {tu tw tz : TS}
theorem t_same (ha : EvD ta σ H d) (hb : EvD tb σ H d) (hs : SeqAt.shaped d = true) : EvT (tTest (tOp (rNeD K) ta tb)) σ H false := by
  have h := d_neD (K := K) ha hb hs hs
  rw [eqv_shaped hs] at h
  exact t_test h
theorem t_sameI (ha : EvD ta σ H (.int i)) (hb : EvD tb σ H (.int i)) : EvT (tTest (tOp rNe ta tb)) σ H false := by
  have h := d_neI ha hb
  rw [decide_eq_true rfl] at h
  exact t_test h
theorem t_sameB (ha : EvD ta σ H (.bool a)) (hb : EvD tb σ H (.bool a)) : EvT (tTest (tOp rNe ta tb)) σ H false := by
  have h := d_neB ha hb
  rw [decide_eq_true rfl] at h
  exact t_test h
theorem t_sameL {ds : List PyData} (ha : EvL ta σ H ds) (hb : EvL tb σ H ds) (hs : SeqAt.shaped (.list ds) = true) : EvT (tTest (tOp (rNeD K) ta tb)) σ H false := by
  have h := d_neLL (K := K) ha hb hs hs
  rw [eqv_shaped hs] at h
  exact t_test h
theorem d_isNotN (ha : EvD ta σ H .none) : EvD (tOp (fun x y H Q => y = V.non ∧ Q (.bl (!decide (x = V.non))) H) ta (tC .non)) σ H (.bool false) := fun H1 e Q q =>
  ha H1 e _ fun v H2 e2 hv => by
    cases hv
    exact ⟨rfl, q _ H2 e2 (.bl _)⟩
theorem d_max2 (ha : EvD ta σ H (.int i)) (hb : EvD tb σ H (.int j)) : EvD (tCB (fun xs H Q => ∃ i j, xs = [V.int i, V.int j] ∧ Q (.int (if j > i then j else i)) H) (tCons ta (tCons tb tNil))) σ H (.int (if j > i then j else i)) := fun H1 e Q q =>
  ha H1 e _ fun v H2 e2 hv => hb H2 (e.trans e2.t) _ fun w H3 e3 hw => by
    cases hv; cases hw
    exact ⟨i, j, rfl, q _ H3 (e2.trans e3) (.int _)⟩
theorem d_negc : EvD (tUn (rU fun i => .int (-i)) (tC (.int 1))) σ H (.int (-1)) := fun H1 e Q q => ⟨1, rfl, q _ H1 (Ex.refl H1) (.int _)⟩
theorem d_tupRg {n : Nat} (h : EvD te σ H (.int (n : Int))) (hn : n ≤ 1000) : EvD (tTupRg (tRg1 te)) σ H (encS (begin n)) := fun H1 e Q q => h H1 e _ fun v H2 e2 hv => by
  cases hv
  refine ⟨(n : Int), rfl, RgOk.of_le (by omega) (by omega) (by omega) (by omega), fun p np => q _ _ (e2.trans (Evl.Ex.new np)) (Dt.ofSet ?_)⟩
  rw [upd_same]
  unfold rgV begin
  rw [List.map_map, Int.sub_zero, Int.toNat_natCast]
  congr 2
  refine List.map_congr_left fun k _ => ?_
  show V.int (0 + (k : Int)) = V.int (Int.ofNat k)
  rw [Int.zero_add]
  rfl
/-- parts of a slice -/
def EvO (to : TO) (σ : L2.St) (H : Hp) (o : Option Int) : Prop := ∀ H1, ExT H H1 → ∀ Q : Option Int → Hp → Prop, (∀ H2, Ex H1 H2 → Q o H2) → to σ H1 Q
theorem eo_none : EvO tNoPart σ H none := fun H1 _ _ q => q H1 (Ex.refl H1)
theorem eo_some (h : EvD te σ H (.int i)) : EvO (tPart te) σ H (some i) := fun H1 e _ q => h H1 e _ fun v H2 e2 hv => by
  cases hv
  exact ⟨i, rfl, q H2 e2⟩
theorem d_slA {s : List Int} {tlo thi : TO} {lo hi : Option Int} (h : EvD te σ H (encS s)) (h1 : EvO tlo σ H lo) (h2 : EvO thi σ H hi) : EvD (tSl (rSlA K) te tlo thi) σ H (encS (cutI s lo hi)) := fun H1 e Q q =>
  h H1 e _ fun v H2 e2 hv => h1 H2 (e.trans e2.t) _ fun H3 e3 => h2 H3 (e.trans (e2.trans e3).t) _ fun H4 e4 => by
    obtain ⟨t, rfl, ht⟩ := (hv.mono (e3.trans e4).t).set
    refine ⟨t, _, rfl, SqT.of ht, fun hw => q _ H4 ((e2.trans e3).trans e4) (Dt.ofSet ?_), fun _ p np => q _ _ (((e2.trans e3).trans e4).trans (Evl.Ex.new np)) (Dt.ofSet ?_)⟩
    · rw [ht, ← cutV_ints]
      unfold cutV
      rw [hw.1, hw.2, List.drop_zero, Nat.sub_zero, List.take_length]
    · rw [upd_same, cutV_ints]
/-- (1,) * k + (None,) -/
theorem d_ones {k : Nat} (hk : 1 ≤ k ∧ k ≤ 100) (h : EvD te σ H (.int (k : Int))) : EvD (tOp (rCatA K) (tOp (rRepA K) (tTup (tCons (tC (.int 1)) tNil)) te) (tTup (tCons (tC .non) tNil))) σ H (.tuple ((List.replicate k (some (1 : Int)) ++ [none]).map oD)) := fun H1 e Q q => by
  refine ⟨(show 1 ≤ sizeLine by decide), fun p np => ?_⟩
  refine h _ (e.trans (ExT.new np)) _ fun v H2 e2 hv => ?_
  cases hv
  have e12 := (Evl.Ex.new (o := .tup [.int 1]) np).trans e2
  refine ⟨p, (k : Int), [.int 1], rfl, rfl, e2 _ _ upd_same, by simp, by omega, by omega, by simp, fun p2 H3 e3 h3 => ?_⟩
  refine ⟨(show 1 ≤ sizeLine by decide), fun p4 np4 => ?_⟩
  have e4 := Evl.Ex.new (o := .tup [V.non]) np4
  rw [Int.toNat_natCast, flat_one] at h3
  have hne : List.replicate k (V.int 1) ≠ [] := fun z => by
    have := congrArg List.length z
    rw [List.length_replicate] at this
    exact absurd this (by show k ≠ 0; omega)
  refine ⟨p2, p4, _, _, rfl, rfl, SqT.of (e4 _ _ h3), SqT.of upd_same, ?_, fun z => absurd z hne, fun _ (z : [V.non] = []) => (nomatch z), fun _ _ p5 np5 => q _ _ (((e12.trans e3).trans e4).trans (Evl.Ex.new np5)) (.tup upd_same ?_)⟩
  · rw [List.length_replicate]
    exact Evl.sz_of (by show k + 1 ≤ 100000; omega)
  · have := dt_opts (H := upd (upd H3 p4 (.tup [V.non])) p5 (.tup (List.replicate k (V.int 1) ++ [V.non]))) (List.replicate k (some (1 : Int)) ++ [none])
    rw [List.map_append, List.map_replicate] at this
    exact this
/-- over range(lo, hi) -/
theorem l_lcR2 {ta : TA} {lo hi : Int} {n j : Nat} {vs : List Nat} (gd : Nat → PyData) (h : EvA ta σ H [.int lo, .int hi]) (hn : (hi - lo).toNat = n) (hb : 0 ≤ lo ∧ lo ≤ 1000 ∧ 0 ≤ hi ∧ hi ≤ 1000) (hz : n ≤ 1000) (hw : ∀ x, wipe ((wipe σ vs).set j (some x)) vs = wipe σ vs)
    (he : ∀ k H1, k < n → ExT H H1 → EvD te ((wipe σ vs).set j (some (.int (lo + (k : Nat))))) H1 (gd k)) :
    EvL (tLc (iRng2 ta) (gName j) tYes te vs) σ H ((List.range n).map gd) := fun H0 e0 Q q => h H0 e0 _ fun us H1 e1 hv => by
  obtain ⟨v, u, rfl, h1, h2⟩ := hv.two
  cases h1
  cases h2
  refine ⟨lo, hi, rfl, ⟨by omega, by omega, by omega, by omega⟩, fun Dl hD => ?_⟩
  rw [hn]
  refine lc_gen (xs := List.range n) (walk_range (lo := lo) (n := n)) List.length_range hz (fun x w H' => w = .int (lo + (x : Nat))) H1 (fun H' x => trivial) (fun i Hx w H' ex hi y => ?_) (fun _ => true) gd hD (fun x w H' hx ex hR Q' q' => ?_) (fun acc H' ex ha hacc => ?_)
  · obtain ⟨rfl, rfl⟩ := y
    exact ⟨Evl.Ex.refl _, i, by rw [List.getElem?_range hi], rfl⟩
  · subst hR
    have hx' : x < n := List.mem_range.mp hx
    exact q' _ H' (hw _) (Evl.Ex.refl _) t_yes (fun hf => (he x H' hx' (e0.trans (e1.trans ex).t)).x)
  · rw [filter_yes] at hacc
    exact q Dl acc H' (Evl.fresh_back e1 hD) (e1.trans ex) ha hacc
/-! ### the draws -/
def RowAt (K : PySem.W.Frag) (s : Addr) (ns : List Int) (r : Addr) (H : Hp) : Prop := ∃ i e t, H r = some (rowO s i e t) ∧ SqS K H r s (ns.map V.int) ∧ 0 ≤ i
theorem RowAt.go {s r : Addr} {ns : List Int} {H' : Hp} (h : RowAt K s ns r H) (e : Ex H H') : RowAt K s ns r H' :=
  let ⟨i, x, t, h1, h2, h4⟩ := h
  ⟨i, x, t, e _ _ h1, h2.but e.but, h4⟩
theorem RowAt.kt {s r : Addr} {ns : List Int} {H' : Hp} (h : RowAt K s ns r H) (e : ExBut r H H') : ExT H H' :=
  let ⟨_, _, _, h1, _⟩ := h
  e.t h1
theorem c_taken {s r : Addr} {ns : List Int} {tn : TE} {n : Int} {E : XK} {Q : VK} (h1 : σ[1]? = some (some (.ref r))) (hr : RowAt K s ns r H) (hn : EvX tn σ H (.int n)) (hb : 1 ≤ n ∧ n ≤ 5)
    (q : ∀ d H', 0 ≤ d → d < n → ExBut r H H' → RowAt K s ns r H' → Q (.int d) H') : tCall (spTaken K) [] E (tCons (tVar 1) (tCons tn tNil)) σ H Q :=
  ⟨.ref r, h1, hn H (Ex.refl H) _ fun v H1 e hv => by
    cases hv
    obtain ⟨i, x, t, h2, h3, h5⟩ := hr.go e
    exact ⟨r, s, ns, i, x, t, n, rfl, h2, h3, h5, hb, fun d i' x' t' H' d0 d1 i0 eb hr' => q d H' d0 d1 (e.but.trans eb) ⟨i', x', t', hr', h3.but eb, i0⟩⟩⟩
theorem q_triple {s r : Addr} {ns : List Int} {E E' : XK} (h1 : σ[1]? = some (some (.ref r))) (hr : RowAt K s ns r H)
    (k : ∀ (a b : Int) (l p : Addr) H', (0 ≤ a ∧ a < 4) → (0 ≤ b ∧ b < 4) → H' l = some (.lst []) → RowAt K s ns r H' → tz D (((σ.set 2 (some (.int (2 + a)))).set 3 (some (.ref l))).set 4 (some (.int b))) H') :
    tSeq (tAsg (tTup (tCons (tOp (rI0 fun i j => .int (i + j)) (tC (.int 2)) (tCall (spTaken K) [] E (tCons (tVar 1) (tCons (tC (.int 4)) tNil)))) (tCons (tLst tNil) (tCons (tCall (spTaken K) [] E' (tCons (tVar 1) (tCons (tC (.int 4)) tNil))) tNil)))) (gTup K 3 (gCons (gName 2) (gCons (gName 3) (gCons (gName 4) gNil))))) tz D σ H := by
  have main : tCall (spTaken K) [] E (tCons (tVar 1) (tCons (tC (.int 4)) tNil)) σ H fun y H1 => rI0 (fun i j => .int (i + j)) (.int 2) y H1 fun x H2 => tLst tNil σ H2 fun l H3 => tCall (spTaken K) [] E' (tCons (tVar 1) (tCons (tC (.int 4)) tNil)) σ H3 fun z H4 =>
      3 ≤ sizeLine ∧ ∀ p, H4 p = none → gTup K 3 (gCons (gName 2) (gCons (gName 3) (gCons (gName 4) gNil))) (.ref p) σ (upd H4 p (.tup [x, l, z])) fun σ2 H5 => tz D σ2 H5 := by
    refine c_taken h1 hr (fun H1 e Q q => q _ H1 (Ex.refl H1) (.int 4)) ⟨by decide, by decide⟩ fun a H1 a0 a1 e1 r1 => ⟨2, a, rfl, rfl, ⟨Nat.zero_le _, fun l nl => ?_⟩⟩
    have r2 := r1.go (Evl.Ex.new (o := .lst []) nl)
    have hl : (upd H1 l (.lst [])) l = some (.lst []) := upd_same
    have hlr : l ≠ r := fun z => by
      obtain ⟨_, _, _, h, _⟩ := r1
      rw [z, h] at nl
      exact nomatch nl
    generalize upd H1 l (.lst []) = G at *
    refine c_taken h1 r2 (fun H1 e Q q => q _ H1 (Ex.refl H1) (.int 4)) ⟨by decide, by decide⟩ fun b H2 b0 b1 e2 r3 => ⟨by decide, fun p np => ?_⟩
    have r4 := r3.go (Evl.Ex.new (o := .tup [.int (2 + a), .ref l, .int b]) np)
    refine ⟨p, [.int (2 + a), .ref l, .int b], rfl, SqT.of upd_same, rfl, .int (2 + a), [.ref l, .int b], rfl, .ref l, [.int b], rfl, .int b, [], rfl, rfl, ?_⟩
    exact k a b l p _ ⟨a0, a1⟩ ⟨b0, b1⟩ (Evl.Ex.new np _ _ (e2 _ _ hlr hl)) r4
  exact main
/-- a, b = taken, taken -/
theorem q_parT {s r : Addr} {ns : List Int} {E E' : XK} {m : Int} {x y : Nat} (h1 : σ[1]? = some (some (.ref r))) (h2 : σ[2]? = some (some (.int m))) (hm : 1 ≤ m ∧ m ≤ 5) (hr : RowAt K s ns r H)
    (k : ∀ (a b : Int) H', (0 ≤ a ∧ a < m) → (0 ≤ b ∧ b < m) → ExBut r H H' → RowAt K s ns r H' → tz D ((σ.set x (some (.int a))).set y (some (.int b))) H') :
    tSeq (tPar x y (tCons (tCall (spTaken K) [] E (tCons (tVar 1) (tCons (tVar 2) tNil))) (tCons (tCall (spTaken K) [] E' (tCons (tVar 1) (tCons (tVar 2) tNil))) tNil))) tz D σ H := by
  have main : tCall (spTaken K) [] E (tCons (tVar 1) (tCons (tVar 2) tNil)) σ H fun v H1 => tCall (spTaken K) [] E' (tCons (tVar 1) (tCons (tVar 2) tNil)) σ H1 fun w H2 => ∃ v' w', [v, w] = [v', w'] ∧ tz D ((σ.set x (some v')).set y (some w')) H2 := by
    refine c_taken h1 hr (EvD.x (d_var h2 (.int _))) hm fun a H1 a0 a1 e1 r1 => ?_
    exact c_taken h1 r1 (EvD.x (d_var h2 (.int _))) hm fun b H2 b0 b1 e2 r2 => ⟨_, _, rfl, k a b H2 ⟨a0, a1⟩ ⟨b0, b1⟩ (e1.trans e2) r2⟩
  exact main
/-! ### the webs -/
theorem x_by {E : XK} {n : Nat} {cs : List (Int × Int)} {W : Web} {tc : TE} (h2 : σ[2]? = some (some (.int (n : Int)))) (hc : ∀ H1, Ex H H1 → ∀ Q : VK, (∀ a xs H2, Ex H1 H2 → H2 a = some (.lst xs) → DtAll H2 xs (cs.map encQ) → Q (.ref a) H2) → tc σ H1 Q) (hb : ByOk n cs W) :
    EvX (tCall spBy [] E (tCons (tVar 2) (tCons tc tNil))) σ H (encW W) := fun H1 e Q q => ⟨.int (n : Int), h2, hc H1 e _ fun a xs H2 e2 ha hx => ⟨n, a, xs, cs, W, rfl, ha, hx, hb, fun v H3 e3 hv => q v H3 (e2.trans e3) hv⟩⟩
theorem q_asgX {i : Nat} (h : EvX te σ H d) (k : ∀ v H1, Ex H H1 → Dt H1 v d → tz D (σ.set i (some v)) H1) : tSeq (tAsg te (gName i)) tz D σ H := h H (Ex.refl H) _ fun v H1 e hv => k v H1 e hv
theorem q_parX {x y : Nat} (ha : EvX ta σ H d) (hb : EvX tb σ H e) (k : ∀ v w H1, Ex H H1 → Dt H1 v d → Dt H1 w e → tz D ((σ.set x (some v)).set y (some w)) H1) : tSeq (tPar x y (tCons ta (tCons tb tNil))) tz D σ H :=
  ha H (Ex.refl H) _ fun v H1 e1 hv => hb H1 e1 _ fun w H2 e2 hw => ⟨v, w, rfl, k v w H2 (e1.trans e2) (hv.mono e2.t) hw⟩
theorem q_notX (h : EvTx t σ H false) (k : ∀ H1, Ex H H1 → tz D σ H1) : tSeq (tIfS t tu tNext) tz D σ H := s_ifx (D := { D with nx := tz D }) h (fun e => nomatch e) fun _ => k
theorem tx_same (ha : EvX ta σ H d) (hb : EvX tb σ H d) (hs : SeqAt.shaped d = true) : EvTx (tTest (tOp (rNeD K) ta tb)) σ H false := fun H1 e Q q =>
  ha H1 e _ fun v H2 e2 hv => hb H2 (e.trans e2) _ fun w H3 e3 hw => ⟨d, d, (hv.mono e3.t).dp, hw.dp, hs, hs, false, by rw [eqv_shaped hs]; rfl, q H3 (e2.trans e3)⟩
theorem tx_sameI (ha : EvX ta σ H (.int i)) (hb : EvX tb σ H (.int i)) : EvTx (tTest (tOp rNe ta tb)) σ H false := fun H1 e Q q =>
  ha H1 e _ fun v H2 e2 hv => hb H2 (e.trans e2) _ fun w H3 e3 hw => by
    cases hv; cases hw
    exact ⟨rfl, false, by rw [decide_eq_true rfl]; rfl, q H3 (e2.trans e3)⟩
/-- tuple(xs), sum(xs[:k]) of a list that stands at a -/
theorem x_tupleV {l : Nat} {p : Addr} {xs : List V} {ds : List PyData} (hv : σ[l]? = some (some (.ref p))) (hl : H p = some (.lst xs)) (hx : DtAll H xs ds) :
    EvX (tCB (fun xs H Q => ∃ p ys, xs = [V.ref p] ∧ ((SqL K H p ys ∧ ∀ l, H l = none → Q (.ref l) (upd H l (.tup ys))) ∨ (SqT K H p ys ∧ Q (.ref p) H))) (tCons (tVar l) tNil)) σ H (.tuple ds) := fun H1 e Q q =>
  ⟨.ref p, hv, p, xs, rfl, .inl ⟨SqL.of (e _ _ hl), fun q' nq => q _ _ (Evl.Ex.new nq) (.tup upd_same ((hx.mono e.t).mono (ExT.new nq)))⟩⟩
theorem x_sumV {l : Nat} {p : Addr} {s : List Int} {tlo thi : TO} {lo hi : Option Int} (hv : σ[l]? = some (some (.ref p))) (hl : H p = some (.lst (s.map V.int))) (h1 : EvO tlo σ H lo) (h2 : EvO thi σ H hi) :
    EvX (tCB (rSum K) (tCons (tSl (rSlL K) (tVar l) tlo thi) tNil)) σ H (.int (cutI s lo hi).sum) := fun H1 e Q q =>
  ⟨.ref p, hv, h1 H1 e.t _ fun H2 e2 => h2 H2 (e.trans e2).t _ fun H3 e3 => ⟨p, s.map V.int, rfl, SqL.of ((e2.trans e3) _ _ (e _ _ hl)), fun p2 np2 => ⟨p2, cutI s lo hi, rfl, SqL.of (by rw [upd_same, cutV_ints]), q _ _ ((e2.trans e3).trans (Evl.Ex.new np2)) (.int _)⟩⟩⟩
/-- tuple([x for x in t if taken(row, 2) == 0]) -/
theorem q_people {s r : Addr} {ns ps : List Int} {E : XK} {tl : TE} {i : Nat} (h1 : σ[1]? = some (some (.ref r))) (hr : RowAt K s ns r H) (hz : ps.length ≤ 1000) (h5 : σ.length = 18) (ht : EvD tl σ H (encS ps))
    (k : ∀ v sub H', sub ∈ subs ps → ExBut r H H' → RowAt K s ns r H' → Dt H' v (encS sub) → tz D (σ.set i (some v)) H') :
    tSeq (tAsg (tCB (fun xs H Q => ∃ p ys, xs = [V.ref p] ∧ ((SqL K H p ys ∧ ∀ l, H l = none → Q (.ref l) (upd H l (.tup ys))) ∨ (SqT K H p ys ∧ Q (.ref p) H)))
      (tCons (tLc (iTup K tl) (gName 5) (tTest (tOp rEq (tCall (spTaken K) [] E (tCons (tVar 1) (tCons (tC (.int 2)) tNil))) (tC (.int 0)))) (tVar 5) [5]) tNil)) (gName i)) tz D σ H := by
  refine ht H (ExT.refl H) _ fun v H1 e1 hv => ?_
  obtain ⟨a, rfl, ha⟩ := hv.set
  refine ⟨a, rfl, ⟨_, SqT.of ha⟩, fun Dl nD => ?_⟩
  have hr1 := hr.go e1
  have nDr : Dl ≠ r := fun z => by
    obtain ⟨_, _, _, h, _⟩ := hr1
    rw [z, h] at nD
    exact nomatch nD
  have hset : ∀ x : V, ((wipe σ [5]).set 5 (some x))[1]? = some (some (.ref r)) := fun x => by
    show ((σ.set 5 none).set 5 (some x))[1]? = _
    rw [List.getElem?_set_ne (by decide), List.getElem?_set_ne (by decide)]
    exact h1
  have hset5 : ∀ x : V, ((wipe σ [5]).set 5 (some x))[5]? = some (some x) := fun x => by
    show ((σ.set 5 none).set 5 (some x))[5]? = _
    rw [List.getElem?_set_self (by rw [List.length_set, h5]; decide)]
  have hwipe : ∀ x : V, wipe ((wipe σ [5]).set 5 (some x)) [5] = wipe σ [5] := fun x => by
    show ((σ.set 5 none).set 5 (some x)).set 5 none = σ.set 5 none
    rw [List.set_set, List.set_set]
  have har : a ≠ r := by
    obtain ⟨_, _, _, h, _⟩ := hr1
    exact ne_of ha h (fun z => nomatch z)
  have hold : ∀ H' : Hp, (∀ b o, b ≠ r → b ≠ Dl → H1 b = some o → H' b = some o) → H' a = some (.tup (ps.map V.int)) := fun H' e => e a _ har (ne_of_none ha nD) ha
  have mkRow : ∀ H' : Hp, (∀ b o, b ≠ r → b ≠ Dl → H1 b = some o → H' b = some o) → (∃ i x t, H' r = some (rowO s i x t) ∧ 0 ≤ i) → RowAt K s ns r H' := fun H' e ⟨i, x, t, g1, g2⟩ => by
    obtain ⟨_, _, _, _, f2, _⟩ := hr1
    refine ⟨i, x, t, g1, f2.elim (fun f => .inl ⟨f.1, ?_⟩) .inr, g2⟩
    obtain ⟨f3, f2⟩ := f
    exact f2.elim (fun h => .inl (h.elim (fun h => .inl (e _ _ f3 (ne_of_none h nD) h)) fun ⟨o, h⟩ => .inr ⟨o, e _ _ f3 (ne_of_none h nD) h⟩)) fun h => .inr h
  refine lc_it (walk_tup (K := K) (a := a) (xs := ps.map V.int)) (fun i H' => (∀ b o, b ≠ r → b ≠ Dl → H1 b = some o → H' b = some o) ∧ RowAt K s ns r H' ∧ ∃ sub, sub ∈ subs (ps.take i) ∧ H' Dl = some (.lst (sub.map V.int)))
    ⟨fun b o n1 n2 hb => by rw [upd_ne n2]; exact hb, hr1.go (Evl.Ex.new nD), [], subs_nil _, upd_same⟩ (fun i H' _ p => SqT.of (hold H' p.1)) (fun i x H2 H3 hi p y => ?_) (fun H' p => ?_)
  · obtain ⟨p1, p2, sub, p3, p4⟩ := p
    obtain ⟨rfl, hx⟩ := y
    rw [List.getElem?_map] at hx
    cases hpi : ps[i]? with
    | none => rw [hpi] at hx; exact nomatch hx
    | some z =>
      rw [hpi] at hx
      obtain rfl := Option.some.inj hx
      have htk : ps.take (i + 1) = ps.take i ++ [z] := by rw [List.take_add_one, hpi]; rfl
      have hsub : sub.length ≤ 1000 := by
        have : ∀ (l s : List Int), s ∈ subs l → s.length ≤ l.length := fun l => by
          induction l with
          | nil => intro s hs; rw [List.mem_singleton.mp hs]; exact Nat.le_refl _
          | cons x l ih =>
            intro s hs
            rcases List.mem_append.mp hs with hs | hs
            · exact Nat.le_succ_of_le (ih s hs)
            · obtain ⟨t, ht, rfl⟩ := List.mem_map.mp hs
              exact Nat.succ_le_succ (ih t ht)
        have h6 := this _ _ p3
        rw [List.length_take] at h6
        omega
      refine ⟨hwipe _, ?_⟩
      have main : tCall (spTaken K) [] E (tCons (tVar 1) (tCons (tC (.int 2)) tNil)) ((wipe σ [5]).set 5 (some (.int z))) H3 fun y H4 => rEq y (.int 0) H4 fun c H5 => ∃ b, c = .bl b ∧ (if b = true then tVar 5 ((wipe σ [5]).set 5 (some (.int z))) H5 fun y H4 => ∃ acc, H4 Dl = some (.lst acc) ∧ acc.length < sizeLine ∧
            ((∀ b o, b ≠ r → b ≠ Dl → H1 b = some o → (upd H4 Dl (.lst (acc ++ [y]))) b = some o) ∧ RowAt K s ns r (upd H4 Dl (.lst (acc ++ [y]))) ∧ ∃ sub, sub ∈ subs (ps.take (i + 1)) ∧ (upd H4 Dl (.lst (acc ++ [y]))) Dl = some (.lst (sub.map V.int)))
          else ((∀ b o, b ≠ r → b ≠ Dl → H1 b = some o → H5 b = some o) ∧ RowAt K s ns r H5 ∧ ∃ sub, sub ∈ subs (ps.take (i + 1)) ∧ H5 Dl = some (.lst (sub.map V.int)))) := by
        refine c_taken (hset _) p2 (fun H1 e Q q => q _ H1 (Ex.refl H1) (.int 2)) ⟨by decide, by decide⟩ fun d H4 d0 d1 e4 r4 => ⟨rfl, _, rfl, ?_⟩
        have hD4 := e4 _ _ nDr p4
        have hs2 := subs_snoc z p3
        rw [← htk] at hs2
        by_cases hc : decide (V.int d = V.int 0) = true
        · rw [if_pos hc]
          refine ⟨.int z, hset5 _, sub.map V.int, hD4, by rw [List.length_map]; exact Evl.sz_lt (by omega), fun b o n1 n2 hb => ?_, ?_, sub ++ [z], hs2.2, ?_⟩
          · rw [upd_ne n2]
            exact e4 _ _ n1 (p1 b o n1 n2 hb)
          · obtain ⟨i1, x1, t1, g1, g2, g4⟩ := r4
            refine mkRow _ (fun b o n1 n2 hb => ?_) ⟨i1, x1, t1, by rw [upd_ne (fun z => nDr z.symm)]; exact g1, g4⟩
            rw [upd_ne n2]
            exact e4 _ _ n1 (p1 b o n1 n2 hb)
          · rw [upd_same, List.map_append]
            rfl
        · rw [if_neg hc]
          exact ⟨fun b o n1 n2 hb => e4 _ _ n1 (p1 b o n1 n2 hb), r4, sub, hs2.1, hD4⟩
      exact main
  · obtain ⟨p1, p2, sub, p3, p4⟩ := p
    rw [List.take_of_length_le (by rw [List.length_map]; exact Nat.le_refl _)] at p3
    refine ⟨Dl, sub.map V.int, rfl, .inl ⟨SqL.of p4, fun l nl => ?_⟩⟩
    have nDH : H Dl = none := Evl.fresh_back e1 nD
    exact k _ sub _ p3 (fun b o n1 hb => Evl.Ex.new nl _ _ (p1 b o n1 (ne_of_none hb nDH) (e1 _ _ hb))) (p2.go (Evl.Ex.new nl)) (Dt.ofSet upd_same)
end
end TallR

set_option Elab.async false
set_option linter.all false
set_option maxRecDepth 100000
set_option maxHeartbeats 4000000
namespace TallR
open PySem PySem.Spec PyProof.Rows L2
open Evl (Ex)
open Tall
abbrev sLaw : Stmt := topS 37
theorem scLaw : FnScope ["_law_script", "_law_row", "_law_many", "_law_couples", "_law_calls", "_law_one", "_law_table", "_law_begin", "_law_up", "_law_down", "_law_stairs", "_law_sizes", "_law_people", "_law_rest", "_law_star", "_law_other", "_law_at", "_law_size"] ["_law_script"] (defScope sLaw) := ⟨rfl, rfl, rfl, by decide +kernel, rfl, by decide +kernel, by decide +kernel⟩
structure Gs (P : Program) (w : World) (K : PySem.W.Frag) (mg : Str → Option Value) (base : Heap) (k : Nat) : Prop where
  tk : Ok P w K mg base k "_law_taken" ["_law_row", "_law_many"] (spTaken K)
  wb : Ok P w K mg base k "_law_by" ["_law_many", "_law_couples"] spBy
  co : Ok P w K mg base k "_law_choose" ["_law_many", "_law_some"] (spR RChoose)
  rb : Ok P w K mg base k "reached_by" ["web", "standing", "many"] (spL RReachedBy)
  fb : Ok P w K mg base k "fewest_by" ["web", "standing", "many"] (spR RFewestBy)
  ct : Ok P w K mg base k "calls_table" ["web", "standing"] (spR RCallsTable)
  sm : Ok P w K mg base k "save_most" ["web", "standing", "down"] (spR RSaveMost)
  ch : Ok P w K mg base k "can_have" ["web", "standing", "up", "down"] (spR RCanHave)
  th : Ok P w K mg base k "calls_to_have" ["web", "standing", "up", "down"] (spR RCallsToHave)
  ly : Ok P w K mg base k "layers" ["web", "standing"] (spR RLayers)
  wy : Ok P w K mg base k "ways_to_have" ["web", "standing", "up", "down"] (spL RWaysToHave)
def spLaw (K : PySem.W.Frag) : Sp := fun vs H Q _ => ∃ (a : Addr) (ns : List Int), vs = [.ref a] ∧ SqL K H a (ns.map V.int) ∧ ns.length ≤ 63 ∧ ∀ H', Q (.bl true) H'
/-! ### data that is compared -/
theorem shaped_setsL (L : List Pset) : SeqAt.shaped (.list (L.map encS)) = true := by
  have h1 : ∀ L : List Pset, PyData.canLayAll0 (L.map encS) = true := fun L => by
    induction L with
    | nil => simp [PyData.canLayAll0]
    | cons s L ih =>
      show PyData.canLayAll0 (encS s :: L.map encS) = true
      rw [PyData.canLayAll0, ih]
      simp [PyData.canLay0, canLay_ints]
  have h2 : ∀ L : List Pset, PyData.depthAll (L.map encS) ≤ 1 := fun L => by
    induction L with
    | nil => simp [PyData.depthAll]
    | cons s L ih =>
      show PyData.depthAll (encS s :: L.map encS) ≤ 1
      rw [PyData.depthAll]
      have : (encS s).depth ≤ 1 := by simp [PyData.depth, PySem.W.depth_ints]
      omega
  unfold SeqAt.shaped
  have a : PyData.canLay0 (.list (L.map encS)) = true := by rw [PyData.canLay0]; exact h1 L
  have b : PyData.depth (.list (L.map encS)) ≤ 64 := by
    have := h2 L
    rw [PyData.depth]
    omega
  rw [a, decide_eq_true b]
  rfl
theorem shaped_opts (T : List (Option Int)) : SeqAt.shaped (.tuple (T.map oD)) = true := by
  have h1 : ∀ T : List (Option Int), PyData.canLayAll0 (T.map oD) = true := fun T => by
    induction T with
    | nil => simp [PyData.canLayAll0]
    | cons s T ih =>
      show PyData.canLayAll0 (oD s :: T.map oD) = true
      rw [PyData.canLayAll0, ih]
      cases s <;> simp [oD, PyData.canLay0]
  have h2 : ∀ T : List (Option Int), PyData.depthAll (T.map oD) ≤ 0 := fun T => by
    induction T with
    | nil => simp [PyData.depthAll]
    | cons s T ih =>
      show PyData.depthAll (oD s :: T.map oD) ≤ 0
      rw [PyData.depthAll]
      have : (oD s).depth ≤ 0 := by cases s <;> simp [oD, PyData.depth]
      omega
  unfold SeqAt.shaped
  have a : PyData.canLay0 (.tuple (T.map oD)) = true := by rw [PyData.canLay0]; exact h1 T
  have b : PyData.depth (.tuple (T.map oD)) ≤ 64 := by
    have := h2 T
    rw [PyData.depth]
    omega
  rw [a, decide_eq_true b]
  rfl
theorem DtAll.app {H : Hp} : ∀ {ds es : List PyData} {xs ys : List V}, DtAll H xs ds → DtAll H ys es → DtAll H (xs ++ ys) (ds ++ es)
  | [], _, _, _, h, e => by cases h; exact e
  | d :: ds, _, _, _, h, e => by
    cases h with
    | cons h1 h2 => exact .cons h1 (h2.app e)
section
variable {K : PySem.W.Frag} {σ : L2.St} {H : Hp} {te : TE} {D : Ends}
theorem s_cat {l : Addr} {i : Nat} {xs : List V} {ds es : List PyData} (h3 : σ[i]? = some (some (.ref l))) (hl : H l = some (.lst xs)) (hx : DtAll H xs ds) (hb : EvL te σ H es) (hz : ds.length + es.length ≤ 100000)
    (k : ∀ p ys H', Ex H H' → H' p = some (.lst ys) → DtAll H' ys (ds ++ es) → D.nx (σ.set i (some (.ref p))) H') : tAsg (tOp rCat (tVar i) te) (gName i) D σ H :=
  ⟨.ref l, h3, hb H (ExT.refl H) _ fun a ys H2 na e2 ha hy => ⟨l, a, xs, ys, rfl, rfl, e2 _ _ hl, ha, by rw [hx.len, hy.len]; exact Evl.sz_of hz, fun p np => k p _ _ (e2.trans (Evl.Ex.new np)) upd_same (((hx.mono e2.t).app hy).mono (ExT.new np))⟩⟩
end
def cUp (m i : Nat) : List (Int × Int) := ((List.range i).map fun (i : Nat) => (List.range (m - (i + 1))).map fun (j : Nat) => ((i : Int), ((i + 1 : Nat) : Int) + (j : Int))).flatten
theorem cUp_succ (m i : Nat) : cUp m (i + 1) = cUp m i ++ (List.range (m - (i + 1))).map fun (j : Nat) => ((i : Int), ((i + 1 : Nat) : Int) + (j : Int)) := by
  unfold cUp
  rw [List.range_succ, List.map_append, List.flatten_append]
  simp
theorem cUp_len (m : Nat) : ∀ i, (cUp m i).length ≤ i * m
  | 0 => Nat.zero_le _
  | i + 1 => by
    have := cUp_len m i
    rw [cUp_succ, List.length_append, List.length_map, List.length_range, Nat.add_mul]
    omega
theorem reached_len (F : Found) (c : Int) : ((reachedBy F c).map encS).length = (upto F c).length := by
  unfold reachedBy upto
  rw [List.length_map, List.length_mergeSort]
theorem ways_one {F : Found} {up down s : Pset} (h : wish F up down = [s]) : (waysToHave F up down).map encS = [encS s] := by
  have : waysToHave F up down = (wish F up down).mergeSort (PySem.W.dataLe false encS) := rfl
  rw [this, h, List.mergeSort_singleton]
  rfl
section
variable {P : Program} {w : World} {K : PySem.W.Frag} {mg : Str → Option Value} {base : Heap}
theorem ok_law {f : Addr} {fd : FuncData} {k : Nat} (B : Bl mg) (F : Fun K "law" "law" sLaw f fd) (G : Gs P w K mg base k) : FnOk P w K mg base CX0 (k + 1) f fd ["_law_script"] (spLaw K) := by
  refine F.ok scLaw (fun vs H Q E ⟨_, _, h, _⟩ => by rw [h]; rfl) (fun cdv A outer s H vs Q E hr h => ?_)
  obtain ⟨sc, ns, rfl, hS, hlen, q⟩ := h
  have nd := scLaw.nd
  refine ⟨_, (pss_cons (ps_set (i := 1) nd rfl (.inr rfl) (pe_lst (pa_cons (pv 0) (pa_cons pe_int (pa_cons pe_int (pa_cons pe_int pa_nil))))))
    (pss_cons (ps_asg (pe_tup (pa_cons (pe_op op_add pe_int (pe_do G.tk hr (by rfl) (pa_cons (pv 1) (pa_cons pe_int pa_nil)))) (pa_cons (pe_lst pa_nil) (pa_cons (pe_do G.tk hr (by rfl) (pa_cons (pv 1) (pa_cons pe_int pa_nil))) pa_nil)))) (kPgTup K (n := 3) rfl (pgs_cons (pg_name (i := 2) nd rfl (Or.inr rfl)) (pgs_cons (pg_name (i := 3) nd rfl (Or.inl rfl)) (pgs_cons (pg_name (i := 4) nd rfl (Or.inl rfl)) pgs_nil)))))
    (pss_cons (ps_for PassesOwn.never rfl (pi_range1 (by rfl) B.range (pa_cons (pv 2) pa_nil)) (pg_name (i := 5) nd rfl (Or.inr rfl)) (pss_one (ps_set (i := 3) nd rfl (.inl rfl) (pe_op op_cat (pv 3) (pe_lc (own := [("_law_other", 15)]) (g := gName 15) (by rfl) nd (pi_range2 (by rfl) B.range (pa_cons (pe_op op_add (pv 5) pe_int) (pa_cons (pv 2) pa_nil))) (blkOk_by (N := ["_law_script", "_law_row", "_law_many", "_law_couples", "_law_calls", "_law_one", "_law_table", "_law_begin", "_law_up", "_law_down", "_law_stairs", "_law_sizes", "_law_people", "_law_rest", "_law_star", "_law_other", "_law_at", "_law_size"]) (sc := defScope sLaw) (by decide +kernel)) (fun _ _ _ _ _ => pg_name (i := 15) nd rfl (Or.inl rfl)) (fun _ _ _ _ _ => pts_nil) (fun _ _ _ _ _ => (pe_tup (pa_cons (pv 5) (pa_cons (pv 15) pa_nil)))))))))
    (pss_cons (ps_par (i := 6) (j := 7) rfl nd rfl rfl (by decide) rfl rfl (pa_cons (pe_do G.wb hr (by rfl) (pa_cons (pv 2) (pa_cons (pv 3) pa_nil))) (pa_cons (pe_tupRg rfl (by rfl) B.tup (prg_1 (by rfl) B.range (pv 2))) pa_nil)) (by rfl))
    (pss_cons (ps_if (pt_cmpR op_ne (pe_callB (kLen K) (by rfl) B.len PySem.boot_len (pa_cons (pe_do G.rb hr (by rfl) (pa_cons (pv 6) (pa_cons (pv 7) (pa_cons (pv 4) pa_nil)))) pa_nil)) (pe_ifExp (pt_cmpR op_gt (pv 4) pe_int (nomark _)) (pv 2) pe_int) (nomark _)) pss_never pss_nil)
    (pss_cons (ps_if (pt_cmpR (kNeD K hr.units) (pe_do G.fb hr (by rfl) (pa_cons (pv 6) (pa_cons (pv 7) (pa_cons (pv 4) pa_nil)))) (pe_ifExp (pt_cmpR op_gt (pv 4) pe_int (nomark _)) (pe_tup (pa_cons pe_int (pa_cons (pe_tup (pa_cons (pe_op op_sub (pv 2) pe_int) pa_nil)) pa_nil))) (pe_tup (pa_cons (pv 2) (pa_cons (pv 7) pa_nil)))) (nomark _)) pss_never pss_nil)
    (pss_cons (ps_if (pt_cmpR (kNeD K hr.units) (pe_do G.ct hr (by rfl) (pa_cons (pv 6) (pa_cons (pv 7) pa_nil))) (pe_op (kCatA K) (pe_op (kRepA K) (pe_tup (pa_cons pe_int pa_nil)) (pe_op op_sub (pv 2) pe_int)) (pe_tup (pa_cons pe_non pa_nil))) (nomark _)) pss_never pss_nil)
    (pss_cons (ps_if (pt_cmpR (kNeD K hr.units) (pe_do G.sm hr (by rfl) (pa_cons (pv 6) (pa_cons (pv 7) (pa_cons (pe_tup (pa_cons pe_int pa_nil)) pa_nil)))) (pe_tup (pa_cons (pe_op op_sub (pv 2) pe_int) (pa_cons (pe_slice (kSlA K) (pv 7) (po_some pe_int) po_none) pa_nil))) (nomark _)) pss_never pss_nil)
    (pss_cons (ps_if (pt_cmpR op_notN (pe_do G.sm hr (by rfl) (pa_cons (pv 6) (pa_cons (pv 7) (pa_cons (pe_tup (pa_cons (pe_op op_sub (pv 2) pe_int) pa_nil)) pa_nil)))) pe_non (nomark _)) pss_never pss_nil)
    (pss_cons (ps_par (i := 8) (j := 9) rfl nd rfl rfl (by decide) rfl rfl (pa_cons (pe_do G.tk hr (by rfl) (pa_cons (pv 1) (pa_cons (pv 2) pa_nil))) (pa_cons (pe_do G.tk hr (by rfl) (pa_cons (pv 1) (pa_cons (pv 2) pa_nil))) pa_nil)) (by rfl))
    (pss_cons (ps_if (pt_cmpR op_ne (pe_do G.ch hr (by rfl) (pa_cons (pv 6) (pa_cons (pv 7) (pa_cons (pe_tup (pa_cons (pv 8) pa_nil)) (pa_cons (pe_tup (pa_cons (pv 9) pa_nil)) pa_nil))))) (pe_cmpR op_lt (pv 9) (pv 8) (nomark _)) (nomark _)) pss_never pss_nil)
    (pss_cons (ps_if (PW.pt (pw_and (pt_cmpR op_lt (pv 9) (pv 8) (nomark _)) (pw_and1 (pt_cmpR op_ne (pe_do G.th hr (by rfl) (pa_cons (pv 6) (pa_cons (pv 7) (pa_cons (pe_tup (pa_cons (pv 8) pa_nil)) (pa_cons (pe_tup (pa_cons (pv 9) pa_nil)) pa_nil))))) pe_int (nomark _))))) pss_never pss_nil)
    (pss_cons (ps_set (i := 10) nd rfl (.inl rfl) (pe_do G.wb hr (by rfl) (pa_cons (pv 2) (pa_cons (pe_lc (own := [("_law_at", 16)]) (g := gName 16) (by rfl) nd (pi_range1 (by rfl) B.range (pa_cons (pe_op op_sub (pv 2) pe_int) pa_nil)) (blkOk_by (N := ["_law_script", "_law_row", "_law_many", "_law_couples", "_law_calls", "_law_one", "_law_table", "_law_begin", "_law_up", "_law_down", "_law_stairs", "_law_sizes", "_law_people", "_law_rest", "_law_star", "_law_other", "_law_at", "_law_size"]) (sc := defScope sLaw) (by decide +kernel)) (fun _ _ _ _ _ => pg_name (i := 16) nd rfl (Or.inl rfl)) (fun _ _ _ _ _ => pts_nil) (fun _ _ _ _ _ => (pe_tup (pa_cons (pv 16) (pa_cons (pe_op op_add (pv 16) pe_int) pa_nil))))) pa_nil))))
    (pss_cons (ps_setLc (i := 11) (own := [("_law_size", 17)]) (g := gName 17) rfl nd rfl rfl (sw_true rfl rfl rfl (by decide +kernel)) (pi_range1 (by rfl) B.range (pa_cons (pv 2) pa_nil)) (blkOk_by (N := ["_law_script", "_law_row", "_law_many", "_law_couples", "_law_calls", "_law_one", "_law_table", "_law_begin", "_law_up", "_law_down", "_law_stairs", "_law_sizes", "_law_people", "_law_rest", "_law_star", "_law_other", "_law_at", "_law_size"]) (sc := defScope sLaw) (by decide +kernel)) (fun _ _ _ _ _ => pg_name (i := 17) nd rfl (Or.inl rfl)) (fun _ _ _ _ _ => pts_nil) (fun _ _ _ _ _ => (pe_do G.co hr (by rfl) (pa_cons (pe_op op_sub (pv 2) pe_int) (pa_cons (pv 17) pa_nil)))))
    (pss_cons (ps_if (pt_cmpR (kNeD K hr.units) (pe_do G.ly hr (by rfl) (pa_cons (pv 10) (pa_cons (pv 7) pa_nil))) (pe_callTy (kTuple K) (by rfl) B.tup (by decide +kernel) (pa_cons (pv 11) pa_nil)) (nomark _)) pss_never pss_nil)
    (pss_cons (ps_if (pt_cmpR op_ne (pe_callB (kLen K) (by rfl) B.len PySem.boot_len (pa_cons (pe_do G.rb hr (by rfl) (pa_cons (pv 10) (pa_cons (pv 7) (pa_cons (pv 4) pa_nil)))) pa_nil)) (pe_callB (kSum K) (by rfl) B.sum (by decide +kernel) (pa_cons (pe_slice (kSlL K) (pv 11) po_none (po_some (pe_op op_add (pv 4) pe_int))) pa_nil)) (nomark _)) pss_never pss_nil)
    (pss_cons (ps_if (pt_cmpR op_ne (pe_ix (kIxT K) (pe_do G.fb hr (by rfl) (pa_cons (pv 10) (pa_cons (pv 7) (pa_cons (pv 4) pa_nil)))) pe_int (fun _ _ => rfl)) (pe_callB (call_max2 rfl) (by rfl) B.max (by decide +kernel) (pa_cons (pe_op op_sub (pv 2) (pv 4)) (pa_cons pe_int pa_nil))) (nomark _)) pss_never pss_nil)
    (pss_cons (ps_set (i := 12) nd rfl (.inr rfl) (pe_callTy (kTuple K) (by rfl) B.tup (by decide +kernel) (pa_cons (pe_lc (own := [("_law_one", 5)]) (g := gName 5) (by rfl) nd (kPiT K (pe_slice (kSlA K) (pv 7) po_none (po_some (pe_un un_neg pe_int)))) (blkOk_by (N := ["_law_script", "_law_row", "_law_many", "_law_couples", "_law_calls", "_law_one", "_law_table", "_law_begin", "_law_up", "_law_down", "_law_stairs", "_law_sizes", "_law_people", "_law_rest", "_law_star", "_law_other", "_law_at", "_law_size"]) (sc := defScope sLaw) (by decide +kernel)) (fun _ _ _ _ _ => pg_name (i := 5) nd rfl (Or.inl rfl)) (fun _ _ _ _ _ => pts_one (pt_cmpR op_eq (pe_do G.tk hr (by rfl) (pa_cons (pv 1) (pa_cons pe_int pa_nil))) pe_int (nomark _))) (fun _ _ _ _ _ => (pv 5))) pa_nil)))
    (pss_cons (ps_set (i := 13) nd rfl (.inl rfl) (pe_callTy (kTuple K) (by rfl) B.tup (by decide +kernel) (pa_cons (pe_lc (own := [("_law_one", 5)]) (g := gName 5) (by rfl) nd (kPiT K (pv 7)) (blkOk_by (N := ["_law_script", "_law_row", "_law_many", "_law_couples", "_law_calls", "_law_one", "_law_table", "_law_begin", "_law_up", "_law_down", "_law_stairs", "_law_sizes", "_law_people", "_law_rest", "_law_star", "_law_other", "_law_at", "_law_size"]) (sc := defScope sLaw) (by decide +kernel)) (fun _ _ _ _ _ => pg_name (i := 5) nd rfl (Or.inl rfl)) (fun _ _ _ _ _ => pts_one (pt_cmpR (kNotIn K) (pv 5) (pv 12) (by rfl))) (fun _ _ _ _ _ => (pv 5))) pa_nil)))
    (pss_cons (ps_if (PW.pt (pw_or (pt_not (pt_val (pe_do G.ch hr (by rfl) (pa_cons (pv 10) (pa_cons (pv 7) (pa_cons (pv 13) (pa_cons (pv 12) pa_nil))))))) (pw_or1 (pt_cmpR op_ne (pe_do G.th hr (by rfl) (pa_cons (pv 10) (pa_cons (pv 7) (pa_cons (pv 13) (pa_cons (pv 12) pa_nil))))) (pe_callB (kLen K) (by rfl) B.len PySem.boot_len (pa_cons (pv 12) pa_nil)) (nomark _))))) pss_never pss_nil)
    (pss_cons (ps_if (pt_cmpR (kNeD K hr.units) (pe_do G.wy hr (by rfl) (pa_cons (pv 10) (pa_cons (pv 7) (pa_cons (pv 13) (pa_cons (pv 12) pa_nil))))) (pe_lst (pa_cons (pv 13) pa_nil)) (nomark _)) pss_never pss_nil)
    (pss_cons (ps_if (pt_cmpR (kNeD K hr.units) (pe_do G.sm hr (by rfl) (pa_cons (pv 10) (pa_cons (pv 7) (pa_cons (pv 12) pa_nil)))) (pe_tup (pa_cons (pe_callB (kLen K) (by rfl) B.len PySem.boot_len (pa_cons (pv 13) pa_nil)) (pa_cons (pv 13) pa_nil))) (nomark _)) pss_never pss_nil)
    (pss_cons (ps_if (pt_cmpR (kNeD K hr.units) (pe_do G.ct hr (by rfl) (pa_cons (pv 10) (pa_cons (pv 7) pa_nil))) (pe_op (kCatA K) (pe_op (kRepA K) (pe_tup (pa_cons pe_int pa_nil)) (pe_op op_sub (pv 2) pe_int)) (pe_tup (pa_cons pe_non pa_nil))) (nomark _)) pss_never pss_nil)
    (pss_cons (ps_set (i := 14) nd rfl (.inl rfl) (pe_do G.wb hr (by rfl) (pa_cons (pv 2) (pa_cons (pe_lc (own := [("_law_one", 5)]) (g := gName 5) (by rfl) nd (pi_range1 (by rfl) B.range (pa_cons (pe_op op_sub (pv 2) pe_int) pa_nil)) (blkOk_by (N := ["_law_script", "_law_row", "_law_many", "_law_couples", "_law_calls", "_law_one", "_law_table", "_law_begin", "_law_up", "_law_down", "_law_stairs", "_law_sizes", "_law_people", "_law_rest", "_law_star", "_law_other", "_law_at", "_law_size"]) (sc := defScope sLaw) (by decide +kernel)) (fun _ _ _ _ _ => pg_name (i := 5) nd rfl (Or.inl rfl)) (fun _ _ _ _ _ => pts_nil) (fun _ _ _ _ _ => (pe_tup (pa_cons (pe_op op_sub (pv 2) pe_int) (pa_cons (pv 5) pa_nil))))) pa_nil))))
    (pss_cons (ps_if (pt_cmpR (kNeD K hr.units) (pe_do G.rb hr (by rfl) (pa_cons (pv 14) (pa_cons (pv 7) (pa_cons pe_int pa_nil)))) (pe_callB (kSortSets K hr.units) (by rfl) B.sorted (by decide +kernel) (pa_cons (pe_lst (pa_cons (pv 7) (pa_cons (pe_tup (pa_cons (pe_op op_sub (pv 2) pe_int) pa_nil)) pa_nil))) pa_nil)) (nomark _)) pss_never pss_nil)
    (pss_cons (ps_if (pt_cmpR (kNeD K hr.units) (pe_do G.sm hr (by rfl) (pa_cons (pv 14) (pa_cons (pv 7) (pa_cons (pe_tup (pa_cons pe_int pa_nil)) pa_nil)))) (pe_tup (pa_cons pe_int (pa_cons (pe_tup (pa_cons (pe_op op_sub (pv 2) pe_int) pa_nil)) pa_nil))) (nomark _)) pss_never pss_nil)
    (pss_one (ps_ret (pe_or (pe_cmpR op_eq (pv 2) pe_int (nomark _)) (pe_one (pe_not (pe_do G.ch hr (by rfl) (pa_cons (pv 14) (pa_cons (pv 7) (pa_cons (pe_tup (pa_cons pe_int pa_nil)) (pa_cons (pe_tup (pa_cons pe_int pa_nil)) pa_nil)))))))))))))))))))))))))))))))))))), ?_⟩
  refine ⟨.ref sc, rfl, (show 4 ≤ sizeLine by decide), fun r nr => ?_⟩
  have row : RowAt K sc ns r (upd H r (rowO sc 0 9984 0)) := ⟨0, 9984, 0, upd_same, SqS.new hS nr, Int.le_refl _⟩
  generalize upd H r (.lst [.ref sc, .int 0, .int 9984, .int 0]) = H1 at *
  refine q_triple rfl row fun a b l p H2 ha hb hl row2 => ?_
  clear row
  obtain ⟨m, hma, hm2, hm6⟩ : ∃ m : Nat, 2 + a = (m : Int) ∧ 2 ≤ m ∧ m < 6 := ⟨(2 + a).toNat, by omega, by omega, by omega⟩
  obtain ⟨c, hcb, hc4⟩ : ∃ c : Nat, b = (c : Int) ∧ c < 4 := ⟨b.toNat, by omega, by omega⟩
  rw [hma, hcb]
  clear hma hcb ha hb
  -- the couples
  refine Evl.q_forR1 (n := (m : Int)) (Evl.ea_cons (Evl.ev_var rfl) Evl.ea_nil) ⟨by omega, by omega⟩
    (fun i σ' H' => ∃ l xs x5, σ' = [some (.ref sc), some (.ref r), some (.int (m : Int)), some (.ref l), some (.int (c : Int)), x5, none, none, none, none, none, none, none, none, none, none, none, none] ∧ RowAt K sc ns r H' ∧ H' l = some (.lst xs) ∧ DtAll H' xs ((cUp m i).map encQ))
    (fun H3 e3 => ⟨l, [], none, rfl, row2.go e3, e3 _ _ hl, .nil⟩) (fun i σ' H3 hi hp => ?_) (fun σ' H3 hp => ?_)
  · obtain ⟨l, xs, x5, rfl, row, hl, hx⟩ := hp
    have h1 := cUp_len m i
    have h2 : i * m ≤ 6 * 6 := Nat.mul_le_mul (by omega) (by omega)
    refine s_cat (l := l) (i := 3) (xs := xs) (ds := (cUp m i).map encQ) rfl hl hx (l_lcR2 (n := m - (i + 1)) (fun k => encQ ((i : Int), ((i : Int) + 1) + (k : Int))) (a_cons (d_add (d_var rfl (.int _)) d_int) (a_cons (d_var rfl (.int _)) a_nil)) (by omega) ⟨by omega, by omega, by omega, by omega⟩ (by omega) (fun _ => rfl)
      (fun k H4 hk e4 => d_tup (a_cons (d_var rfl (.int _)) (a_cons (d_var rfl (.int _)) a_nil)) (by decide : 2 ≤ 100000))) (by rw [List.length_map, List.length_map, List.length_range]; omega) fun p ys H4 e4 hp hy => ⟨p, ys, some (.int (i : Int)), rfl, row.go e4, hp, ?_⟩
    rw [cUp_succ, List.map_append, List.map_map]
    exact hy
  obtain ⟨l, xs, x5, rfl, row, hl, hx⟩ := hp
  rw [Int.toNat_natCast] at hx
  change DtAll H3 xs ((cTable m).map encQ) at hx
  clear row2
  obtain ⟨byT, byS, byU⟩ := by_all m hm6 hm2
  obtain ⟨⟨okT, lenT, rT, fT, neT⟩, ⟨okS, lenS, rS, fS, neS⟩, ⟨okU, lenU, rU, fU, neU⟩⟩ := good_all m hm6 hm2
  refine q_parX (x_by rfl (fun H4 e Q q => ⟨.ref l, rfl, q l xs H4 (Ex.refl _) (e _ _ hl) (hx.mono e.t)⟩) byT) (EvD.x (d_tupRg (d_var rfl (.int _)) (by omega))) fun vT vB H4 e4 hT hB => ?_
  replace row := row.go e4
  clear hl hx
  have hm1 : ∀ {σ : L2.St} {H : Hp}, σ[2]? = some (some (.int (m : Int))) → EvD (tOp (rI0 fun i j => .int (i - j)) (tVar 2) (tC (.int 1))) σ H (.int ((m - 1 : Nat) : Int)) := fun h => (d_sub (d_var h (.int _)) d_int).is (congrArg PyData.int (by omega))
  obtain ⟨t1a, t1b⟩ := table1 m hm6 hm2 c hc4
  obtain ⟨t2a, t2b, t2c⟩ := table2 m hm6 hm2
  obtain ⟨u1, u2, u3, u4, u5, u6⟩ := star1 m hm6 hm2
  -- len(reached_by(table, begin, calls))
  refine q_not (t_sameI (i := (((if 0 < c then m else 1) : Nat) : Int)) (EvD.is (d_cl (l_call (a_cons (d_var rfl hT) (a_cons (d_var rfl hB) (a_cons (d_var rfl (.int _)) a_nil))) (sl_L ⟨table m, begin m, (c : Int), _, rfl, okT, ⟨by omega, by omega⟩, rT, fT, neT, rfl⟩)) cl_len) (by rw [reached_len, t1a]))
    (d_if (t_test (d_gt (d_var rfl (.int _)) d_int)) (fun hb => (d_var rfl (.int _)).is (by rw [if_pos (by have := of_decide_eq_true hb; omega)])) (fun hb => d_int.is (by rw [if_neg (by have := of_decide_eq_false hb; omega)]; rfl)))) fun H5 e5 => ?_
  replace hT := hT.mono e5.t
  replace hB := hB.mono e5.t
  replace row := row.go e5
  -- fewest_by(table, begin, calls)
  obtain ⟨p1, r1, f1, f2⟩ := least_is t1b
  refine q_not (t_same (d := enc2 (if 0 < c then (1, [(m : Int) - 1]) else ((m : Int), begin m))) (d_call (a_cons (d_var rfl hT) (a_cons (d_var rfl hB) (a_cons (d_var rfl (.int _)) a_nil))) (sd_R ⟨table m, begin m, (c : Int), _, p1, r1, rfl, okT, ⟨by omega, by omega⟩, rT, fT, f1, by rw [f2]⟩))
    (d_if (t_test (d_gt (d_var rfl (.int _)) d_int)) (fun hb => (d_tup (a_cons d_int (a_cons (d_tup (a_cons (d_sub (d_var rfl (.int _)) d_int) a_nil) (by decide : 1 ≤ 100000)) a_nil)) (by decide : 2 ≤ 100000)).is (by rw [if_pos (by have := of_decide_eq_true hb; omega)]; rfl))
      (fun hb => (d_tup (a_cons (d_var rfl (.int _)) (a_cons (d_var rfl hB) a_nil)) (by decide : 2 ≤ 100000)).is (by rw [if_neg (by have := of_decide_eq_false hb; omega)]))) (shaped_enc2 _)) fun H6 e6 => ?_
  replace hT := hT.mono e6.t
  replace hB := hB.mono e6.t
  replace row := row.go e6
  -- calls_table(table, begin)
  refine q_not (t_same (d_call (a_cons (d_var rfl hT) (a_cons (d_var rfl hB) a_nil)) (sd_R ⟨table m, begin m, _, rfl, okT, rT, fT, by rw [lenT, t2a]⟩)) (d_ones ⟨by omega, by omega⟩ (hm1 rfl)) (shaped_opts _)) fun H7 e7 => ?_
  replace hT := hT.mono e7.t
  replace hB := hB.mono e7.t
  replace row := row.go e7
  -- save_most(table, begin, (0,))
  refine q_not (t_same (d := enc2 ((m : Int) - 1, (begin m).drop 1)) (d_call (a_cons (d_var rfl hT) (a_cons (d_var rfl hB) (a_cons (d_tup (a_cons d_int a_nil) (by decide : 1 ≤ 100000)) a_nil))) (sd_R ⟨table m, begin m, [0], _, rfl, okT, by rw [lenT]; exact u4, rT, fT, (most_is t2b).symm⟩))
    ((d_tup (a_cons (d_sub (d_var rfl (.int _)) d_int) (a_cons (d_slA (d_var rfl hB) (eo_some d_int) eo_none) a_nil)) (by decide : 2 ≤ 100000)).is (by rw [cutI_tail])) (shaped_enc2 _)) fun H8 e8 => ?_
  replace hT := hT.mono e8.t
  replace hB := hB.mono e8.t
  replace row := row.go e8
  -- save_most(table, begin, (many - 1,))
  refine q_not (t_test (d_isNotN (d_call (a_cons (d_var rfl hT) (a_cons (d_var rfl hB) (a_cons (d_tup (a_cons (d_sub (d_var rfl (.int _)) d_int) a_nil) (by decide : 1 ≤ 100000)) a_nil))) (sd_R ⟨table m, begin m, [(m : Int) - 1], _, rfl, okT, by rw [lenT]; exact u6, rT, fT, (most_is t2c).symm⟩)))) fun H9 e9 => ?_
  replace hT := hT.mono e9.t
  replace hB := hB.mono e9.t
  replace row := row.go e9
  -- up, down
  refine q_parT rfl rfl ⟨by omega, by omega⟩ row fun a b H10 ha hb e10 row10 => ?_
  replace hT := hT.mono (row.kt e10)
  replace hB := hB.mono (row.kt e10)
  replace row := row10
  obtain ⟨u, hu, hum⟩ : ∃ u : Nat, a = (u : Int) ∧ u < m := ⟨a.toNat, by omega, by omega⟩
  obtain ⟨d, hd, hdm⟩ : ∃ d : Nat, b = (d : Int) ∧ d < m := ⟨b.toNat, by omega, by omega⟩
  rw [hu, hd]
  obtain ⟨v1, v2, v3, v4⟩ := table3 m hm6 hm2 u hum d hdm
  have hd1 : ∀ {σ : L2.St} {H : Hp} {i : Nat} {z : Int}, σ[i]? = some (some (.int z)) → EvD (tTup (tCons (tVar i) tNil)) σ H (encS [z]) := fun h => d_tup (a_cons (d_var h (.int _)) a_nil) (by decide : 1 ≤ 100000)
  have hlt : decide ((d : Int) < (u : Int)) = decide (d < u) := decide_eq_decide.mpr Int.ofNat_lt
  -- can_have(table, begin, (up,), (down,))
  refine q_not (t_sameB (a := decide ((d : Int) < (u : Int))) (d_call (a_cons (d_var rfl hT) (a_cons (d_var rfl hB) (a_cons (hd1 rfl) (a_cons (hd1 rfl) a_nil)))) (sd_R ⟨table m, begin m, [(u : Int)], [(d : Int)], _, rfl, okT, by rw [lenT]; exact v3, by rw [lenT]; exact v4, rT, fT, by rw [v1, hlt]⟩))
    (d_lt (d_var rfl (.int _)) (d_var rfl (.int _)))) fun H11 e11 => ?_
  replace hT := hT.mono e11.t
  replace hB := hB.mono e11.t
  replace row := row.go e11
  -- calls_to_have(table, begin, (up,), (down,))
  refine q_not (EvT.is (t_and (b := false) (t_test (d_lt (d_var rfl (.int _)) (d_var rfl (.int _)))) fun hb => t_sameI (i := 1) (d_call (a_cons (d_var rfl hT) (a_cons (d_var rfl hB) (a_cons (hd1 rfl) (a_cons (hd1 rfl) a_nil)))) (sd_R ⟨table m, begin m, [(u : Int)], [(d : Int)], _, 1, rfl, okT, by rw [lenT]; exact v3, by rw [lenT]; exact v4, rT, fT,
    (v2 (by have := of_decide_eq_true hb; omega)).1, (v2 (by have := of_decide_eq_true hb; omega)).2, rfl⟩)) d_int) (Bool.and_false _)) fun H12 e12 => ?_
  replace hB := hB.mono e12.t
  replace row := row.go e12
  -- stairs
  have hcp : ∀ {g : Nat → Int × Int} {n : Nat}, ((List.range n).filter fun _ => true).map (fun k => encQ (g k)) = ((List.range n).map g).map encQ := by intro g n; rw [filter_yes, List.map_map]; rfl
  refine q_asgX (x_by rfl (fun H13 e Q q => l_lcR (fun _ => true) (fun k => encQ ((k : Int), (k : Int) + 1)) (a_cons (hm1 rfl) a_nil) (by omega) (fun _ => rfl) (fun _ _ _ _ => t_yes)
    (fun k H14 hk e14 _ => d_tup (a_cons (d_var rfl (.int _)) (a_cons (d_add (d_var rfl (.int _)) d_int) a_nil)) (by decide : 2 ≤ 100000)) H13 e.t Q fun a xs H14 _ e2 h hx => q a xs H14 e2 h (by rw [hcp] at hx; exact hx)) byS) fun vS H13 e13 hT => ?_
  replace hB := hB.mono e13.t
  replace row := row.go e13
  -- sizes
  refine q_asgL (EvL.is (l_lcR (n := m) (fun _ => true) (fun k => .int (chs ((m : Int) - 1) k)) (a_cons (d_var rfl (.int _)) a_nil) (by omega) (fun _ => rfl) (fun _ _ _ _ => t_yes)
    (fun k H14 hk e14 _ => d_call (a_cons (d_sub (d_var rfl (.int _)) d_int) (a_cons (d_var rfl (.int _)) a_nil)) (sd_R ⟨(m : Int) - 1, k, rfl, ⟨by omega, by omega⟩, by omega, rfl⟩))) (show _ = (sizes m).map PyData.int by rw [filter_yes]; unfold sizes; rw [List.map_map]; rfl)) fun az xz H14 nz e14 haz hxz => ?_
  obtain rfl := hxz.ints
  replace hT := hT.mono e14.t
  replace hB := hB.mono e14.t
  replace row := row.go e14
  obtain ⟨⟨w1, w2, w3⟩, w4⟩ := stairs1 m hm6 hm2
  obtain ⟨w5, w6⟩ := stairs2 m hm6 hm2 c hc4
  -- layers(stairs, begin)
  refine q_notX (tx_same (d := encS (sizes m)) (EvD.x (d_call (a_cons (d_var rfl hT) (a_cons (d_var rfl hB) a_nil)) (sd_R ⟨stairs m, begin m, _, (m : Int) - 1, rfl, okS, rS, fS, w1, w2, ⟨by omega, by omega⟩, by rw [w3]⟩))) (x_tupleV (p := az) rfl haz hxz) (shaped_set _)) fun H15 e15 => ?_
  replace haz := e15 _ _ haz
  replace hT := hT.mono e15.t
  replace hB := hB.mono e15.t
  replace row := row.go e15
  -- len(reached_by(stairs, begin, calls))
  refine q_notX (tx_sameI (EvD.x (EvD.is (d_cl (l_call (a_cons (d_var rfl hT) (a_cons (d_var rfl hB) (a_cons (d_var rfl (.int _)) a_nil))) (sl_L ⟨stairs m, begin m, (c : Int), _, rfl, okS, ⟨by omega, by omega⟩, rS, fS, neS, rfl⟩)) cl_len) (show _ = PyData.int (cutI (sizes m) none (some (((c + 1 : Nat)) : Int))).sum by rw [reached_len, w5, cutI_take])))
    (x_sumV (p := az) rfl haz eo_none (eo_some ((d_add (d_var rfl (.int _)) d_int).is (congrArg PyData.int (by omega)))))) fun H16 e16 => ?_
  replace hT := hT.mono e16.t
  replace hB := hB.mono e16.t
  replace row := row.go e16
  -- fewest_by(stairs, begin, calls)[0]
  obtain ⟨ql, hql, hq1⟩ := Option.map_eq_some_iff.mp w6
  obtain ⟨p2, r2, g1, g2⟩ := least_is hql
  refine q_not (t_sameI (d_ix (n := 0) (d_call (a_cons (d_var rfl hT) (a_cons (d_var rfl hB) (a_cons (d_var rfl (.int _)) a_nil))) (sd_R ⟨stairs m, begin m, (c : Int), _, p2, r2, rfl, okS, ⟨by omega, by omega⟩, rS, fS, g1, rfl⟩)) d_int rfl (by rw [g2, hq1]; rfl))
    (d_max2 (d_sub (d_var rfl (.int _)) (d_var rfl (.int _))) d_int)) fun H17 e17 => ?_
  replace hT := hT.mono e17.t
  replace hB := hB.mono e17.t
  replace row := row.go e17
  -- people
  refine q_people rfl row (ps := (begin m).dropLast) (by unfold begin; rw [List.length_dropLast, List.length_map, List.length_range]; omega) rfl ((d_slA (d_var rfl hB) eo_none (eo_some d_negc)).is (by rw [cutI_init])) fun vP sub H18 hsub e18 row18 hP => ?_
  replace hT := hT.mono (row.kt e18)
  replace hB := hB.mono (row.kt e18)
  replace row := row18
  obtain ⟨y1, y2, y3, y4, y5, y6⟩ := stairs3 m hm6 hm2 sub hsub
  -- rest
  refine q_asg (EvD.is (d_cl (l_lcT (K := K) (enc := PyData.int) (fun p => !sub.contains p) PyData.int (d_var rfl hB) (by unfold begin; rw [List.length_map, List.length_range]; omega) (fun _ => rfl)
    (fun a v H19 ha e19 hv => t_test (d_notIn (d_var rfl hv) (d_var rfl (hP.mono e19)))) (fun a v H19 ha e19 hv _ => d_var rfl hv)) cl_tuple) (show _ = encS (rest m sub) from rfl)) fun vR H19 e19 hR => ?_
  replace hT := hT.mono e19.t
  replace hB := hB.mono e19.t
  replace hP := hP.mono e19.t
  replace row := row.go e19
  -- can_have, calls_to_have
  refine q_not (EvT.is (t_or (b := false) (t_not (t_B (d_call (a_cons (d_var rfl hT) (a_cons (d_var rfl hB) (a_cons (d_var rfl hR) (a_cons (d_var rfl hP) a_nil)))) (sd_R ⟨stairs m, begin m, rest m sub, sub, _, rfl, okS, by rw [lenS]; exact y2, by rw [lenS]; exact y1, rS, fS, by rw [y3]⟩))))
    fun _ => t_sameI (d_call (a_cons (d_var rfl hT) (a_cons (d_var rfl hB) (a_cons (d_var rfl hR) (a_cons (d_var rfl hP) a_nil)))) (sd_R ⟨stairs m, begin m, rest m sub, sub, _, (sub.length : Int), rfl, okS, by rw [lenS]; exact y2, by rw [lenS]; exact y1, rS, fS, y4.1, y4.2, rfl⟩))
      ((d_cb (a_cons (d_var rfl hP) a_nil) cd_len).is (by rw [List.length_map]))) rfl) fun H20 e20 => ?_
  replace hT := hT.mono e20.t
  replace hB := hB.mono e20.t
  replace hP := hP.mono e20.t
  replace hR := hR.mono e20.t
  -- ways_to_have
  refine q_not (t_sameL (EvL.is (l_call (a_cons (d_var rfl hT) (a_cons (d_var rfl hB) (a_cons (d_var rfl hR) (a_cons (d_var rfl hP) a_nil)))) (sl_L ⟨stairs m, begin m, rest m sub, sub, _, rfl, okS, by rw [lenS]; exact y2, by rw [lenS]; exact y1, rS, fS, neS, rfl⟩)) (ways_one y5))
    (l_lst (a_cons (d_var rfl hR) a_nil) (by decide : 1 ≤ 100000)) (shaped_setsL [rest m sub])) fun H21 e21 => ?_
  replace hT := hT.mono e21.t
  replace hB := hB.mono e21.t
  replace hP := hP.mono e21.t
  replace hR := hR.mono e21.t
  -- save_most(stairs, begin, people)
  refine q_not (t_same (d := enc2 (((rest m sub).length : Int), rest m sub)) (d_call (a_cons (d_var rfl hT) (a_cons (d_var rfl hB) (a_cons (d_var rfl hP) a_nil))) (sd_R ⟨stairs m, begin m, sub, _, rfl, okS, by rw [lenS]; exact y1, rS, fS, (most_is y6).symm⟩))
    ((d_tup (a_cons (d_cb (a_cons (d_var rfl hR) a_nil) cd_len) (a_cons (d_var rfl hR) a_nil)) (by decide : 2 ≤ 100000)).is (by rw [List.length_map])) (shaped_enc2 _)) fun H22 e22 => ?_
  replace hT := hT.mono e22.t
  replace hB := hB.mono e22.t
  -- calls_table(stairs, begin)
  refine q_not (t_same (d_call (a_cons (d_var rfl hT) (a_cons (d_var rfl hB) a_nil)) (sd_R ⟨stairs m, begin m, _, rfl, okS, rS, fS, by rw [lenS, w4]⟩)) (d_ones ⟨by omega, by omega⟩ (hm1 rfl)) (shaped_opts _)) fun H23 e23 => ?_
  replace hB := hB.mono e23.t
  -- star
  refine q_asgX (x_by rfl (fun H13 e Q q => l_lcR (fun _ => true) (fun k => encQ ((m : Int) - 1, (k : Int))) (a_cons (hm1 rfl) a_nil) (by omega) (fun _ => rfl) (fun _ _ _ _ => t_yes)
    (fun k H14 hk e14 _ => d_tup (a_cons (d_sub (d_var rfl (.int _)) d_int) (a_cons (d_var rfl (.int _)) a_nil)) (by decide : 2 ≤ 100000)) H13 e.t Q fun a xs H14 _ e2 h hx => q a xs H14 e2 h (by rw [hcp] at hx; exact hx)) byU) fun vU H24 e24 hT => ?_
  replace hB := hB.mono e24.t
  -- reached_by(star, begin, 5)
  have hru : (reachedBy (found (star m) m) 5).map encS = ([begin m, [(m : Int) - 1]].mergeSort (PySem.W.dataLe false encS)).map encS := by
    have : reachedBy (found (star m) m) 5 = (upto (found (star m) m) 5).mergeSort (PySem.W.dataLe false encS) := rfl
    rw [this, u1]
  refine q_not (t_sameL (EvL.is (l_call (a_cons (d_var rfl hT) (a_cons (d_var rfl hB) (a_cons d_int a_nil))) (sl_L ⟨star m, begin m, 5, _, rfl, okU, ⟨by decide, by decide⟩, rU, fU, neU, rfl⟩)) hru)
    (l_sortSets (l_lst (a_cons (d_var rfl hB) (a_cons (d_tup (a_cons (d_sub (d_var rfl (.int _)) d_int) a_nil) (by decide : 1 ≤ 100000)) a_nil)) (by decide : 2 ≤ 100000)) (by decide : 2 ≤ 1000) (fun b hb => ?_)) (shaped_setsL _)) fun H25 e25 => ?_
  · rcases List.mem_cons.mp hb with rfl | hb
    · intro z
      have := congrArg List.length z
      unfold begin at this
      rw [List.length_map, List.length_range] at this
      exact absurd this (by show m ≠ 0; omega)
    · rw [List.mem_singleton.mp hb]
      exact List.cons_ne_nil _ _
  replace hT := hT.mono e25.t
  replace hB := hB.mono e25.t
  -- save_most(star, begin, (0,))
  refine q_not (t_same (d := enc2 (1, [(m : Int) - 1])) (d_call (a_cons (d_var rfl hT) (a_cons (d_var rfl hB) (a_cons (d_tup (a_cons d_int a_nil) (by decide : 1 ≤ 100000)) a_nil))) (sd_R ⟨star m, begin m, [0], _, rfl, okU, by rw [lenU]; exact u4, rU, fU, (most_is u2).symm⟩))
    (d_tup (a_cons d_int (a_cons (d_tup (a_cons (d_sub (d_var rfl (.int _)) d_int) a_nil) (by decide : 1 ≤ 100000)) a_nil)) (by decide : 2 ≤ 100000)) (shaped_enc2 _)) fun H26 e26 => ?_
  replace hT := hT.mono e26.t
  replace hB := hB.mono e26.t
  -- many == 2 or not can_have(star, begin, (0,), (1,))
  refine s_ret (EvD.is (d_or (b := true) (d_eqI (d_var rfl (.int _)) d_int) fun hb => (d_not (d_call (a_cons (d_var rfl hT) (a_cons (d_var rfl hB) (a_cons (d_tup (a_cons d_int a_nil) (by decide : 1 ≤ 100000)) (a_cons (d_tup (a_cons d_int a_nil) (by decide : 1 ≤ 100000)) a_nil)))) (sd_R ⟨star m, begin m, [0], [1], _, rfl, okU, by rw [lenU]; exact u4, by rw [lenU]; exact u5, rU, fU, rfl⟩))).is
    (by rw [u3 (fun z => by have := of_decide_eq_false hb; omega)]; rfl)) (by rw [Bool.or_true])) fun v H27 e27 hv => ?_
  cases hv
  exact q H27
end
end TallR

set_option Elab.async false
set_option linter.all false
set_option maxRecDepth 100000
set_option maxHeartbeats 4000000
namespace TallR
open PySem PySem.Spec PyProof.Rows L2
/-! ### what the top has left, by name -/
structure DefAt (K : PySem.W.Frag) (x : Str) (st : Stmt) (f : Addr) : Prop where
  ns : PySem.W.nsIn K mainGlobals x = some (some (.ref f))
  code : ∃ fd, Fun K x x st f fd
theorem defAt {K : PySem.W.Frag} {x : Str} {st : Stmt} {f : Addr} {oc kV dc pm cd ct : Value} {od an : Option Addr} {sl : Array (Option Value)} (a : PySem.W.nsIn K mainGlobals x = some (some (.ref f)))
    (l : K.lookup f = some ⟨oc, od, .func (PySem.W.fnOf x x (defArgs st) (defBody st) (defScope st) .none kV dc pm an cd ct), sl⟩) (c : PySem.W.codeIn K cd x = true) (k : PySem.W.keepIn K (.ref f) = true) : DefAt K x st f := ⟨a, _, fun_mk l c k⟩
theorem binds_of {K : PySem.W.Frag} {x : Str} {st : Stmt} {f : Addr} {fd : FuncData} {ps : List Str} (F : Fun K x x st f fd)
    (h : ∀ (kV doc pm : Value) (an : Option Addr) (cdv ct : Value) (us : List Value), us.length = ps.length → bindArgs (PySem.W.fnOf x x (defArgs st) (defBody st) (defScope st) .none kV doc pm an cdv ct) ⟨us, []⟩ = pure (ps.zip us)) : Binds K fd ps [] := F.binds h
section
variable {P : Program} {w : World} {K : PySem.W.Frag} {mg : Str → Option Value} {base h : Heap}
theorem okOf {x : Str} {st : Stmt} {f : Addr} {k : Nat} {ps : List Str} {sp : Sp} (X : K.In h) (G : h.Ns mainGlobals mg) (D : DefAt K x st f) (hb : ∀ fd, Fun K x x st f fd → Binds K fd ps []) (ok : ∀ fd, Fun K x x st f fd → FnOk P w K mg base CX0 k f fd ps sp) : Ok P w K mg base k x ps sp :=
  let ⟨fd, F⟩ := D.code
  ⟨f, fd, hb fd F, PySem.W.mg_of X G D.ns, F.kp, ok fd F⟩
end
theorem all_mk {l : PySem.W.OpenLaw} {w : World} {K : PySem.W.Frag} {h : Heap} {mg : Str → Option Value} {fa : Addr} (X : K.In h) (G : h.Ns mainGlobals mg) (hfa : mg "law" = some (.ref fa))
    {f1 f2 f3 f4 f5 f6 f7 f8 f9 f10 f11 f12 f13 f14 f15 f16 f17 f18 f19 f20 f21 f22 f23 f24 : Addr} {tN : Tok}
    (D1 : DefAt K "is_integer" sIsInteger f1)
    (D2 : DefAt K "is_in" sIsIn f2)
    (D3 : DefAt K "is_list" sIsList f3)
    (D4 : DefAt K "is_set" sIsSet f4)
    (D5 : DefAt K "need_people" sNeedPeople f5)
    (D6 : DefAt K "need_many" sNeedMany f6)
    (D7 : DefAt K "need_web" sNeedWeb f7)
    (D8 : DefAt K "need_state" sNeedState f8)
    (D9 : DefAt K "call_in" sCallIn f9)
    (D10 : DefAt K "movers_in" sMoversIn f10)
    (D11 : DefAt K "reached_from" sReachedFrom f11)
    (D12 : DefAt K "fits_wish" sFitsWish f12)
    (D13 : DefAt K "reached_by" sReachedBy f13)
    (D14 : DefAt K "can_have" sCanHave f14)
    (D15 : DefAt K "calls_to_have" sCallsToHave f15)
    (D16 : DefAt K "fewest_by" sFewestBy f16)
    (D17 : DefAt K "ways_to_have" sWaysToHave f17)
    (D18 : DefAt K "save_most" sSaveMost f18)
    (D19 : DefAt K "calls_table" sCallsTable f19)
    (D20 : DefAt K "layers" sLayers f20)
    (D21 : DefAt K "_law_taken" sTaken f21)
    (D22 : DefAt K "_law_choose" sChoose f22)
    (D23 : DefAt K "_law_by" sBy f23)
    (D24 : DefAt K "law" sLaw f24)
    (aN : PySem.W.nsIn K mainGlobals "MOST_PEOPLE" = some (some (.int 7 tN)))
    (z1 : PySem.W.nsIn K mainGlobals "isinstance" = some none)
    (z2 : PySem.W.nsIn K mainGlobals "int" = some none)
    (z3 : PySem.W.nsIn K mainGlobals "bool" = some none)
    (z4 : PySem.W.nsIn K mainGlobals "tuple" = some none)
    (z5 : PySem.W.nsIn K mainGlobals "len" = some none)
    (z6 : PySem.W.nsIn K mainGlobals "all" = some none)
    (z7 : PySem.W.nsIn K mainGlobals "any" = some none)
    (z8 : PySem.W.nsIn K mainGlobals "list" = some none)
    (z9 : PySem.W.nsIn K mainGlobals "sorted" = some none)
    (z10 : PySem.W.nsIn K mainGlobals "set" = some none)
    (z11 : PySem.W.nsIn K mainGlobals "enumerate" = some none)
    (z12 : PySem.W.nsIn K mainGlobals "range" = some none)
    (z13 : PySem.W.nsIn K mainGlobals "max" = some none)
    (z14 : PySem.W.nsIn K mainGlobals "min" = some none)
    (z15 : PySem.W.nsIn K mainGlobals "sum" = some none) :
    ∃ fd : FuncData, (∀ (s : Shared) (v : Value), BindsTo s fd ⟨[v], []⟩ [("_law_script", v)]) ∧ ∀ base : Heap, K.In base → base.Ns mainGlobals mg → FnOk l.prog w K mg base CX0 6 fa fd ["_law_script"] (spLaw K) := by
  have e := hfa.symm.trans (PySem.W.mg_of X G D24.ns)
  cases e
  have B : Bl mg := ⟨PySem.W.mg_none_of X G z1, PySem.W.mg_none_of X G z2, PySem.W.mg_none_of X G z3, PySem.W.mg_none_of X G z4, PySem.W.mg_none_of X G z5, PySem.W.mg_none_of X G z6, PySem.W.mg_none_of X G z7, PySem.W.mg_none_of X G z8, PySem.W.mg_none_of X G z9, PySem.W.mg_none_of X G z10, PySem.W.mg_none_of X G z11, PySem.W.mg_none_of X G z12, PySem.W.mg_none_of X G z13, PySem.W.mg_none_of X G z14, PySem.W.mg_none_of X G z15⟩
  have mN : ∃ t, mg "MOST_PEOPLE" = some (.int 7 t) := ⟨tN, PySem.W.mg_of X G aN⟩
  obtain ⟨fd, FL⟩ := D24.code
  refine ⟨fd, fun s v => ?_, fun base _ _ => ?_⟩
  · obtain ⟨oc, od, kV, dc, pm, an, cd, ct, sl, rfl, lk, hc⟩ := FL.ex
    exact .of_eq rfl
  have G1 : Ok l.prog w K mg base 1 "is_integer" ["value"] (spR RIsInteger) := okOf X G D1 (fun fd F => binds_of F fun _ _ _ _ _ _ us hl => match us, hl with | [_], _ => rfl) fun fd F1 => ok_isInteger F1 B
  have G2 : Ok l.prog w K mg base 2 "is_in" ["value", "least", "most"] (spR RIsIn) := okOf X G D2 (fun fd F => binds_of F fun _ _ _ _ _ _ us hl => match us, hl with | [_, _, _], _ => rfl) fun fd F2 => ok_isIn F2 (G1.mono (by decide))
  have G3 : Ok l.prog w K mg base 2 "is_list" ["value", "least", "most"] (spR RIsList) := okOf X G D3 (fun fd F => binds_of F fun _ _ _ _ _ _ us hl => match us, hl with | [_, _, _], _ => rfl) fun fd F3 => ok_isList F3 B
  have G4 : Ok l.prog w K mg base 3 "is_set" ["web", "people"] (spR RIsSet) := okOf X G D4 (fun fd F => binds_of F fun _ _ _ _ _ _ us hl => match us, hl with | [_, _], _ => rfl) fun fd F4 => ok_isSet B F4 (G2.mono (by decide)) (G3.mono (by decide))
  have G5 : Ok l.prog w K mg base 4 "need_people" ["web", "people"] (spR RNeedSet) := okOf X G D5 (fun fd F => binds_of F fun _ _ _ _ _ _ us hl => match us, hl with | [_, _], _ => rfl) fun fd F5 => ok_needPeople F5 (G4.mono (by decide))
  have G6 : Ok l.prog w K mg base 4 "need_many" ["many"] (spR RNeedMany) := okOf X G D6 (fun fd F => binds_of F fun _ _ _ _ _ _ us hl => match us, hl with | [_], _ => rfl) fun fd F6 => ok_needMany F6 (G2.mono (by decide))
  have G7 : Ok l.prog w K mg base 3 "need_web" ["web"] (spR RNeedWeb) := okOf X G D7 (fun fd F => binds_of F fun _ _ _ _ _ _ us hl => match us, hl with | [_], _ => rfl) fun fd F7 => ok_needWeb B mN F7 (G2.mono (by decide)) (G3.mono (by decide))
  have G8 : Ok l.prog w K mg base 4 "need_state" ["web", "standing"] (spR RNeedState) := okOf X G D8 (fun fd F => binds_of F fun _ _ _ _ _ _ us hl => match us, hl with | [_, _], _ => rfl) fun fd F8 => ok_needState F8 (G4.mono (by decide)) (G7.mono (by decide))
  have G9 : Ok l.prog w K mg base 1 "call_in" ["web", "standing", "person"] (spR RCallIn) := okOf X G D9 (fun fd F => binds_of F fun _ _ _ _ _ _ us hl => match us, hl with | [_, _, _], _ => rfl) fun fd F9 => ok_callIn B F9
  have G10 : Ok l.prog w K mg base 1 "movers_in" ["web", "standing"] (spL RMoversIn) := okOf X G D10 (fun fd F => binds_of F fun _ _ _ _ _ _ us hl => match us, hl with | [_, _], _ => rfl) fun fd F10 => ok_moversIn B F10
  have G11 : Ok l.prog w K mg base 4 "reached_from" ["web", "standing"] (spReach) := okOf X G D11 (fun fd F => binds_of F fun _ _ _ _ _ _ us hl => match us, hl with | [_, _], _ => rfl) fun fd F11 => ok_reachedFrom B F11 (G10.mono (by decide)) (G9.mono (by decide))
  have G12 : Ok l.prog w K mg base 4 "fits_wish" ["here", "up", "down"] (spR RFitsWish) := okOf X G D12 (fun fd F => binds_of F fun _ _ _ _ _ _ us hl => match us, hl with | [_, _, _], _ => rfl) fun fd F12 => ok_fitsWish B F12
  have G13 : Ok l.prog w K mg base 5 "reached_by" ["web", "standing", "many"] (spL RReachedBy) := okOf X G D13 (fun fd F => binds_of F fun _ _ _ _ _ _ us hl => match us, hl with | [_, _, _], _ => rfl) fun fd F13 => ok_reachedBy B F13 G8 G6 G11
  have G14 : Ok l.prog w K mg base 5 "can_have" ["web", "standing", "up", "down"] (spR RCanHave) := okOf X G D14 (fun fd F => binds_of F fun _ _ _ _ _ _ us hl => match us, hl with | [_, _, _, _], _ => rfl) fun fd F14 => ok_canHave B F14 G8 G5 G11 G12
  have G15 : Ok l.prog w K mg base 5 "calls_to_have" ["web", "standing", "up", "down"] (spR RCallsToHave) := okOf X G D15 (fun fd F => binds_of F fun _ _ _ _ _ _ us hl => match us, hl with | [_, _, _, _], _ => rfl) fun fd F15 => ok_callsToHave B F15 G8 G5 G11 G12
  have G16 : Ok l.prog w K mg base 5 "fewest_by" ["web", "standing", "many"] (spR RFewestBy) := okOf X G D16 (fun fd F => binds_of F fun _ _ _ _ _ _ us hl => match us, hl with | [_, _, _], _ => rfl) fun fd F16 => ok_fewestBy B F16 G8 G6 G11
  have G17 : Ok l.prog w K mg base 5 "ways_to_have" ["web", "standing", "up", "down"] (spL RWaysToHave) := okOf X G D17 (fun fd F => binds_of F fun _ _ _ _ _ _ us hl => match us, hl with | [_, _, _, _], _ => rfl) fun fd F17 => ok_waysToHave B F17 G8 G5 G11 G12
  have G18 : Ok l.prog w K mg base 5 "save_most" ["web", "standing", "down"] (spR RSaveMost) := okOf X G D18 (fun fd F => binds_of F fun _ _ _ _ _ _ us hl => match us, hl with | [_, _, _], _ => rfl) fun fd F18 => ok_saveMost B F18 G8 G5 G11 G12
  have G19 : Ok l.prog w K mg base 5 "calls_table" ["web", "standing"] (spR RCallsTable) := okOf X G D19 (fun fd F => binds_of F fun _ _ _ _ _ _ us hl => match us, hl with | [_, _], _ => rfl) fun fd F19 => ok_callsTable B F19 G8 G11
  have G20 : Ok l.prog w K mg base 5 "layers" ["web", "standing"] (spR RLayers) := okOf X G D20 (fun fd F => binds_of F fun _ _ _ _ _ _ us hl => match us, hl with | [_, _], _ => rfl) fun fd F20 => ok_layers B F20 G8 G11
  have G21 : Ok l.prog w K mg base 5 "_law_taken" ["_law_row", "_law_many"] (spTaken K) := okOf X G D21 (fun fd F => binds_of F fun _ _ _ _ _ _ us hl => match us, hl with | [_, _], _ => rfl) fun fd F21 => ok_taken B F21
  have G22 : Ok l.prog w K mg base 5 "_law_choose" ["_law_many", "_law_some"] (spR RChoose) := okOf X G D22 (fun fd F => binds_of F fun _ _ _ _ _ _ us hl => match us, hl with | [_, _], _ => rfl) fun fd F22 => ok_choose B F22
  have G23 : Ok l.prog w K mg base 5 "_law_by" ["_law_many", "_law_couples"] (spBy) := okOf X G D23 (fun fd F => binds_of F fun _ _ _ _ _ _ us hl => match us, hl with | [_, _], _ => rfl) fun fd F23 => ok_by B F23
  exact ok_law B FL ⟨G21, G23, G22, G13, G16, G19, G18, G14, G15, G20, G17⟩
end TallR
open PySem PySem.W PyProof.Rows
set_option maxHeartbeats 0 in
theorem PySem.Challenge.cw_tallsits_k84_whole_plans_on_known_webs_holds : PySem.Challenge.rw_tallsits_k84_whole_plans_on_known_webs.Holds := by
  w_on; o_law; k_head; (case hw => w_witness2)
  k_fill
  refine L2.walk_of (l := PySem.Challenge.rw_tallsits_k84_whole_plans_on_known_webs) (n := 63) (k := 6) (x := "_law_script") (CX := fun _ => L2.CX0) (sp := fun w => TallR.spLaw _) rfl (by decide) rfl ⟨rfl, by decide, by decide⟩ (fun w h Y => PySem.W.kIn_of Y) ?F (fun _ _ a ns hl _ hS => ⟨a, ns, rfl, hS, hl, fun _ => rfl⟩) (fun _ _ _ _ _ h => h)
  case F =>
    intro w mg fa h KX G hmg
    refine' TallR.all_mk KX G hmg (TallR.defAt ?a1 ?l1 ?c1 ?k1) (TallR.defAt ?a2 ?l2 ?c2 ?k2) (TallR.defAt ?a3 ?l3 ?c3 ?k3) (TallR.defAt ?a4 ?l4 ?c4 ?k4) (TallR.defAt ?a5 ?l5 ?c5 ?k5) (TallR.defAt ?a6 ?l6 ?c6 ?k6) (TallR.defAt ?a7 ?l7 ?c7 ?k7) (TallR.defAt ?a8 ?l8 ?c8 ?k8) (TallR.defAt ?a9 ?l9 ?c9 ?k9) (TallR.defAt ?a10 ?l10 ?c10 ?k10) (TallR.defAt ?a11 ?l11 ?c11 ?k11) (TallR.defAt ?a12 ?l12 ?c12 ?k12) (TallR.defAt ?a13 ?l13 ?c13 ?k13) (TallR.defAt ?a14 ?l14 ?c14 ?k14) (TallR.defAt ?a15 ?l15 ?c15 ?k15) (TallR.defAt ?a16 ?l16 ?c16 ?k16) (TallR.defAt ?a17 ?l17 ?c17 ?k17) (TallR.defAt ?a18 ?l18 ?c18 ?k18) (TallR.defAt ?a19 ?l19 ?c19 ?k19) (TallR.defAt ?a20 ?l20 ?c20 ?k20) (TallR.defAt ?a21 ?l21 ?c21 ?k21) (TallR.defAt ?a22 ?l22 ?c22 ?k22) (TallR.defAt ?a23 ?l23 ?c23 ?k23) (TallR.defAt ?a24 ?l24 ?c24 ?k24) ?aN ?z1 ?z2 ?z3 ?z4 ?z5 ?z6 ?z7 ?z8 ?z9 ?z10 ?z11 ?z12 ?z13 ?z14 ?z15
    (case a1 => k_is); (case l1 => k_is); (case c1 => k_is); (case k1 => k_is)
    (case a2 => k_is); (case l2 => k_is); (case c2 => k_is); (case k2 => k_is)
    (case a3 => k_is); (case l3 => k_is); (case c3 => k_is); (case k3 => k_is)
    (case a4 => k_is); (case l4 => k_is); (case c4 => k_is); (case k4 => k_is)
    (case a5 => k_is); (case l5 => k_is); (case c5 => k_is); (case k5 => k_is)
    (case a6 => k_is); (case l6 => k_is); (case c6 => k_is); (case k6 => k_is)
    (case a7 => k_is); (case l7 => k_is); (case c7 => k_is); (case k7 => k_is)
    (case a8 => k_is); (case l8 => k_is); (case c8 => k_is); (case k8 => k_is)
    (case a9 => k_is); (case l9 => k_is); (case c9 => k_is); (case k9 => k_is)
    (case a10 => k_is); (case l10 => k_is); (case c10 => k_is); (case k10 => k_is)
    (case a11 => k_is); (case l11 => k_is); (case c11 => k_is); (case k11 => k_is)
    (case a12 => k_is); (case l12 => k_is); (case c12 => k_is); (case k12 => k_is)
    (case a13 => k_is); (case l13 => k_is); (case c13 => k_is); (case k13 => k_is)
    (case a14 => k_is); (case l14 => k_is); (case c14 => k_is); (case k14 => k_is)
    (case a15 => k_is); (case l15 => k_is); (case c15 => k_is); (case k15 => k_is)
    (case a16 => k_is); (case l16 => k_is); (case c16 => k_is); (case k16 => k_is)
    (case a17 => k_is); (case l17 => k_is); (case c17 => k_is); (case k17 => k_is)
    (case a18 => k_is); (case l18 => k_is); (case c18 => k_is); (case k18 => k_is)
    (case a19 => k_is); (case l19 => k_is); (case c19 => k_is); (case k19 => k_is)
    (case a20 => k_is); (case l20 => k_is); (case c20 => k_is); (case k20 => k_is)
    (case a21 => k_is); (case l21 => k_is); (case c21 => k_is); (case k21 => k_is)
    (case a22 => k_is); (case l22 => k_is); (case c22 => k_is); (case k22 => k_is)
    (case a23 => k_is); (case l23 => k_is); (case c23 => k_is); (case k23 => k_is)
    (case a24 => k_is); (case l24 => k_is); (case c24 => k_is); (case k24 => k_is)
    (case aN => k_is)
    (case z1 => k_is)
    (case z2 => k_is)
    (case z3 => k_is)
    (case z4 => k_is)
    (case z5 => k_is)
    (case z6 => k_is)
    (case z7 => k_is)
    (case z8 => k_is)
    (case z9 => k_is)
    (case z10 => k_is)
    (case z11 => k_is)
    (case z12 => k_is)
    (case z13 => k_is)
    (case z14 => k_is)
    (case z15 => k_is)
