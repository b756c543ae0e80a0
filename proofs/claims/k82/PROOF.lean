import PyProof.Rows.All
import Wide.All
import OpenK.AllK
import Wide.FinOn
import HandS.ForMost
import HandS.DictTup
import HandS.TupSets
import HandS.HotCalls
import HandS.ExcIs
import HandS.IsInst
import HandS.ExcOwn
import HandS.Walk
import HandS.ExcValue
import HandS.Conv
import KE.KDictSum
import KE.SortData
import KE.KDictWalk
import KE.KDictCopyH
import HandS.WordsExc
import KE.DataEq
import PySem.Challenge.RW_saywell_k82_whole_who_saw_what
set_option Elab.async false
set_option linter.all false
set_option maxRecDepth 100000
set_option maxHeartbeats 4000000
namespace K82
open PySem PySem.Spec PyProof.Rows L2

abbrev St := L2.St
/-! ## d.update(e), int or text keys; tuple keys -/
theorem mergeK_eq (a b : List (Key × V)) : mergeK a b = b.foldl (fun acc kv => putK acc kv.1 kv.2) a := rfl
def mergeT (kvs more : List (List Key × V)) : List (List Key × V) := more.foldl (fun acc kv => putK acc kv.1 kv.2) kvs
theorem length_mergeT : ∀ (more kvs : List (List Key × V)), (mergeT kvs more).length ≤ kvs.length + more.length
  | [], kvs => Nat.le_refl _
  | p :: r, kvs => by
    have h1 := length_mergeT r (putK kvs p.1 p.2)
    have h2 := length_putK kvs p.1 p.2
    show (mergeT (putK kvs p.1 p.2) r).length ≤ kvs.length + (r.length + 1)
    omega
theorem kt_merge {H : Hp} : ∀ {more : List (List Key × V)} {ys : List (List Key × Addr × Value)} {kvs : List (List Key × V)} {xs : List (List Key × Addr × Value)},
    KT H more ys → KT H kvs xs → KT H (mergeT kvs more) (storedAllH xs ys) := by
  intro more ys kvs xs h
  induction h generalizing kvs xs with
  | nil => intro h'; exact h'
  | @cons p q ps qs hp _ ih =>
    intro h'
    obtain ⟨e, hb, rv⟩ := hp
    have st : KT H (putK kvs p.1 p.2) (storedH xs q.1 q.2.1 q.2.2) := by
      rw [← e]
      exact KT.put h' p.1 hb rv
    exact ih st
section
variable {X : Cx}
/-- d.update(e), two dicts of ints and texts -/
def rUpdK : V → List V → Hp → VK → Prop := fun x xs H Q => ∃ (d o : Addr) (kvs more : List (Key × V)), x = .ref d ∧ xs = [.ref o] ∧ d ≠ o ∧ H d = some (.dK kvs) ∧ H o = some (.dK more) ∧
  kvs.length + more.length ≤ sizeLine ∧ Q .non (upd H d (.dK (mergeK kvs more)))
theorem mt_updK : MtR X "dict.update" rUpdK := by
  intro pins s σ H x xs v us Q I rx rxs h
  obtain ⟨d, o, kvs, more, rfl, rfl, hne, hd, ho, hl, q⟩ := h
  cases rx
  rw [Vals.ref1 rxs]
  obtain ⟨_, y1, vs1, r1, d1⟩ := dk_of I.hok hd
  obtain ⟨_, y2, vs2, r2, d2⟩ := dk_of I.hok ho
  have hlen : vs1.length + vs2.length ≤ sizeLine := by
    rw [← r1.length, ← r2.length]
    exact hl
  refine call_meetsIn PySem.F.slot_dict_update d1.typeIs PySem.F.entry_dict_update (PySem.F.args_dict_update_2 _ _) (meets_dict_update (mixKind X.prog X.w) d o hne y2)
    ⟨vs1, vs2, d1, d2, hlen, fun h' hd' _ hs => ?_⟩
  have there : ∃ ob, h'.get? d = some ob := let ⟨ob, _, _, e, _⟩ := hd'; ⟨ob, e⟩
  have hz : (mergeK kvs more).length ≤ sizeLine := Nat.le_trans (length_mergeK more kvs) hl
  exact ⟨.non, _, d_write (t' := s.toks) I (by rw [hd]; exact True.intro) hs there (dk_new hz y1 (KV.merge r2 r1) hd'), rfl, q⟩
/-- d.update(e), tuple keys; d not empty -/
def rUpdT : V → List V → Hp → VK → Prop := fun x xs H Q => ∃ (d o : Addr) (kvs more : List (List Key × V)), x = .ref d ∧ xs = [.ref o] ∧ d ≠ o ∧ H d = some (.dT kvs) ∧ H o = some (.dT more) ∧
  kvs ≠ [] ∧ kvs.length + more.length ≤ sizeLine ∧ Q .non (upd H d (.dT (mergeT kvs more)))
theorem mt_updT (hu : X.A.units + 1 < cLine) : MtR X "dict.update" rUpdT := by
  intro pins s σ H x xs v us Q I rx rxs h
  obtain ⟨d, o, kvs, more, rfl, rfl, hne, hd, ho, hk, hl, q⟩ := h
  cases rx
  rw [Vals.ref1 rxs]
  obtain ⟨_, y1, xs1, r1, d1⟩ := dt_of I.hok hd
  obtain ⟨_, y2, xs2, r2, d2⟩ := dt_of I.hok ho
  have e1 : kvs.length = xs1.length := Paired.length r1
  have e2 : more.length = xs2.length := Paired.length r2
  have hx : xs1 ≠ [] := fun z => hk (by rw [z] at e1; exact List.eq_nil_of_length_eq_zero e1)
  refine call_update_dictH (knd := tupleKind (mixKind X.prog X.w)) (tupleKind_room_in1 hu) hne y2 d1 d2 (.inl hx) (by rw [← e1, ← e2]; exact hl) fun h' hd' _ hs => ?_
  obtain ⟨ob, es, ep, hq, h2, h3, h4, _, h5⟩ := hd'
  have hz : (mergeT kvs more).length ≤ sizeLine := Nat.le_trans (length_mergeT more kvs) hl
  have nt : ∀ c ys, H c = some (.tup ys) → upd H d (.dT (mergeT kvs more)) c = some (.tup ys) := fun c ys ec => by
    rw [upd_ne (ne_of ec hd (fun z => nomatch z))]
    exact ec
  exact ⟨.non, _, d_write (t' := s.toks) (ob := .dT (mergeT kvs more)) I (by rw [hd]; exact True.intro) hs ⟨ob, hq⟩ ⟨hz, y1, _, (kt_merge r2 r1).keeps nt, ob, es, ep, hq, h2, h3, h4, h5⟩, rfl, q⟩
end
end K82

set_option Elab.async false
set_option linter.all false
set_option maxRecDepth 100000
set_option maxHeartbeats 4000000
namespace K82
open PySem PySem.Spec PyProof.Rows L2

/-! ## a locked dict with tuple keys: its values, its items -/
section
variable {X : Cx} {pins : List (Addr × Obj)} {σ : St} {H : Hp} {s : Shared} {d : Addr} {o : Obj}
theorem lockedT {kvs : List (List Key × V)} (I : Inv X pins σ H s) (h : H d = some (.frz o (.dT kvs))) :
    (d == sysModules) = false ∧ ∃ (es : Array DictEntry) (ep : Nat), o.data = .dict es ep ∧ s.heap.DictRaw d es ep ∧ es.size = kvs.length ∧
      ∀ (i : Nat) (hi : i < es.size) (k : List Key) (v : V), kvs[i]? = some (k, v) → RelV v es[i].val ∧ ∃ q, es[i].key = .ref q ∧ H q = some (.tup (k.map kV)) := by
  have ob := I.hok d _ h
  obtain ⟨hget, _, hs, xs, pr, o', es, ep, ho, hx, hdt, he, _⟩ := ob
  have eo : o' = o := Option.some.inj (ho.symm.trans hget)
  subst eo
  have n1 : es.size = xs.length := size_of_entries he
  have n2 : kvs.length = xs.length := Paired.length pr
  refine ⟨hs, es, ep, hdt, ⟨o', ho, hx, hdt⟩, n1.trans n2.symm, fun i hi k v e => ?_⟩
  obtain ⟨b, hb, e1, e2, e3⟩ := paired_get pr e
  have q := entry_at he i
  rw [hb, Array.getElem?_eq_getElem hi] at q
  have q' : es[i] = entryOfKey (tupleKind (mixKind X.prog X.w)) b := Option.some.inj q
  rw [q']
  exact ⟨e3, b.2.1, rfl, e2⟩
end

def VwT (d : Addr) (o : Obj) (kvs : List (List Key × V)) : It where
  go := fun i H => H d = some (.frz o (.dT kvs)) ∧ i < kvs.length
  yld := fun i H x H' => H' = H ∧ ∃ k, kvs[i]? = some (k, x)
  stop := fun i H => H d = some (.frz o (.dT kvs)) ∧ kvs.length ≤ i
def ItmT (d : Addr) (o : Obj) (kvs : List (List Key × V)) : It where
  go := fun i H => H d = some (.frz o (.dT kvs)) ∧ i < kvs.length
  yld := fun i H x H' => ∃ T k v q, kvs[i]? = some (k, v) ∧ x = .ref T ∧ H T = none ∧ H q = some (.tup (k.map kV)) ∧ H' = upd H T (.tup [.ref q, v])
  stop := fun i H => H d = some (.frz o (.dT kvs)) ∧ kvs.length ≤ i

theorem same_dict {o : Obj} {es es' : Array DictEntry} {ep ep' : Nat} (h : o.data = .dict es ep) (h' : o.data = .dict es' ep') : es = es' ∧ ep = ep' := by
  have e := h.symm.trans h'
  injection e with e1 e2
  exact ⟨e1, e2⟩
section
variable {P : Program} {w : World} {K : PySem.W.Frag} {tg : Expr} {d : Addr} {o : Obj} {es : Array DictEntry} {ep : Nat}
theorem turn_valsT {kvs : List (List Key × V)} (it : Addr) (hod : o.data = .dict es ep) : Turn P w K tg (VwT d o kvs) [it] it (fun i h => h.IsValIter it d i kvs.length ep) where
  mem := List.mem_singleton.mpr rfl
  obj := fun i h st b hb => by
    have e := List.mem_singleton.mp hb
    rw [e]
    obtain ⟨oi, e1, _, dd⟩ := st
    exact ⟨oi, e1, fun v z => nomatch dd.symm.trans z⟩
  keep := fun i h h' st k => st.at fun oi e => k it (List.mem_singleton.mpr rfl) oi e
  item := by
    intro X hP hw hK hc i pins s σ H E I hf st hg
    cases hP; cases hw; cases hK
    have F := hf it (List.mem_singleton.mpr rfl)
    obtain ⟨hs, es', ep', hdt, raw, hsz, ent⟩ := lockedT I hg.1
    obtain ⟨e1, e2⟩ := same_dict hod hdt
    subst e1; subst e2
    have hi : i < es.size := by rw [hsz]; exact hg.2
    have hkv : kvs[i]? = some kvs[i] := List.getElem?_eq_getElem hg.2
    obtain ⟨rv, _⟩ := ent i hi kvs[i].1 kvs[i].2 hkv
    rw [← hsz] at st
    refine wpAny_pyNext_values_item_raw st raw hi fun h' st' sb => ?_
    have I1 : Inv X pins σ H { s with heap := h' } := I.turned (t' := s.toks) (fun b ob hb e => (sb.2 b hb).trans e) F.1 F.2.1 F.2.2.2.1 F.2.2.2.2.1 F.2.2.2.2.2
    obtain ⟨oi, eo, ec, ed⟩ := id st'
    refine ⟨es[i].val, rfl, go_of (s := { s with heap := h' }) eo ec ed (by decide) ⟨kvs[i].2, H, I1, rv, ⟨rfl, kvs[i].1, hkv⟩, ?_, fun b hb => (hf b hb).1⟩⟩
    show h'.IsValIter it d (i + 1) kvs.length ep
    rw [← hsz]
    exact st'
  done := by
    intro X hP hw hK hc i pins s σ H E I hf st hg
    cases hP; cases hw; cases hK
    have F := hf it (List.mem_singleton.mpr rfl)
    obtain ⟨hs, es', ep', hdt, raw, hsz, ent⟩ := lockedT I hg.1
    obtain ⟨e1, e2⟩ := same_dict hod hdt
    subst e1; subst e2
    rw [← hsz] at st
    exact wpAny_pyNext_values_end_raw (I.ok.hd hc) st raw (by rw [hsz]; exact hg.2) fun h' eb => ⟨rfl, I.turned (t' := s.toks) (fun b ob hb e => eb b ob hb e) F.1 F.2.1 F.2.2.2.1 F.2.2.2.2.1 F.2.2.2.2.2⟩
  self := fun A i s Q E st h => wpAny_pyIter_valiter st h
theorem turn_itemsT {kvs : List (List Key × V)} {elts : List Expr} {kk : Nat} {tpos : Pos} (it : Addr) (hod : o.data = .dict es ep) :
    Turn P w K (.Tuple elts kk tpos) (ItmT d o kvs) [it] it (fun i h => ∃ ok ov, IsItemIter h it d i kvs.length ep ok ov) where
  mem := List.mem_singleton.mpr rfl
  obj := fun i h st b hb => by
    have e := List.mem_singleton.mp hb
    rw [e]
    obtain ⟨_, _, e1⟩ := st
    exact ⟨_, e1, fun v z => nomatch z⟩
  keep := fun i h h' ⟨ok, ov, e⟩ k => ⟨ok, ov, k it (List.mem_singleton.mpr rfl) _ e⟩
  item := by
    intro X hP hw hK hc i pins s σ H E I hf st hg
    cases hP; cases hw; cases hK
    obtain ⟨hs, es', ep', hdt, raw, hsz, ent⟩ := lockedT I hg.1
    obtain ⟨e1, e2⟩ := same_dict hod hdt
    subst e1; subst e2
    have hi : i < es.size := by rw [hsz]; exact hg.2
    have hkv : kvs[i]? = some kvs[i] := List.getElem?_eq_getElem hg.2
    obtain ⟨rv, q, ek, hq⟩ := ent i hi kvs[i].1 kvs[i].2 hkv
    obtain ⟨ok, ov, st⟩ := st
    rw [← hsz] at st
    have hlt : it < s.heap.objs.size := Heap.lt_size st
    refine wpAny_pyNext_items_item_raw st raw hi fun h' hout hT hz hk => ?_
    refine ⟨_, rfl, wpAny_letOwnedTupleGo_items (s := { s with heap := h' }) hout fun h'' st'' sb => ?_⟩
    have hT2 : h''.get? s.heap.objs.size = some { cls := .type "tuple", data := .seq #[es[i].key, es[i].val] } := (sb.2 _ (Nat.ne_of_gt hlt)).trans hT
    have new : ObjOk X.prog X.w (upd H s.heap.objs.size (.tup [.ref q, kvs[i].2])) h'' s.heap.objs.size (.tup [.ref q, kvs[i].2]) :=
      ⟨by show 2 ≤ sizeLine; decide, [es[i].key, es[i].val], .cons ek (.cons rv .nil), ⟨_, hT2, rfl, _, rfl⟩⟩
    have I1 : Inv X pins σ (upd H s.heap.objs.size (.tup [.ref q, kvs[i].2])) { s with heap := h'' } :=
      I.turnedNew (t' := s.toks) (ch := [it]) (fun b ob hb e => (sb.2 b fun z => hb (List.mem_singleton.mpr z)).trans (hk b ob (fun z => hb (List.mem_singleton.mpr z)) e)) hf (Nat.le_refl _) new
    refine ⟨.ref s.heap.objs.size, _, I1, rfl, ⟨_, kvs[i].1, kvs[i].2, q, hkv, rfl, I.hok.fresh (Nat.le_refl _), hq, rfl⟩, ⟨es[i].key, es[i].val, ?_⟩, fun b hb => ?_⟩
    · rw [← hsz]
      exact st''
    · have e := List.mem_singleton.mp hb
      rw [e, upd_ne (Nat.ne_of_lt hlt)]
      exact (hf it (List.mem_singleton.mpr rfl)).1
  done := by
    intro X hP hw hK hc i pins s σ H E I hf st hg
    cases hP; cases hw; cases hK
    have F := hf it (List.mem_singleton.mpr rfl)
    obtain ⟨hs, es', ep', hdt, raw, hsz, ent⟩ := lockedT I hg.1
    obtain ⟨e1, e2⟩ := same_dict hod hdt
    subst e1; subst e2
    obtain ⟨ok, ov, st⟩ := st
    rw [← hsz] at st
    exact wpAny_pyNext_items_end_raw (I.ok.hd hc) st raw (by rw [hsz]; exact hg.2) fun h' eb => ⟨rfl, I.turned (t' := s.toks) (fun b ob hb e => eb b ob hb e) F.1 F.2.1 F.2.2.2.1 F.2.2.2.2.1 F.2.2.2.2.2⟩
  self := fun A i s Q E ⟨_, _, e⟩ h => PySem.W.kcp_self e h
end
def iValsT (td : TE) : TI := fun σ H R => td σ H fun x H1 => ∃ d o kvs, x = .ref d ∧ H1 d = some (.frz o (.dT kvs)) ∧ R (VwT d o kvs) H1
def iItemsT (td : TE) : TI := fun σ H R => td σ H fun x H1 => ∃ d o kvs, x = .ref d ∧ H1 d = some (.frz o (.dT kvs)) ∧ R (ItmT d o kvs) H1
section
variable {X : Cx} {tg e : Expr} {td : TE} {apos cpos : Pos}
theorem raw_plain {s : Shared} {d : Addr} {es : Array DictEntry} {ep : Nat} (raw : s.heap.DictRaw d es ep) : ∀ a, Value.ref d = .ref a → ∃ ob, s.heap.get? a = some ob ∧ ob.dict = none := fun a z => by
  cases z
  obtain ⟨o, ho, hx, _⟩ := raw
  exact ⟨o, ho, hx.2.1⟩
theorem pi_valuesT (he : PE X e td) (hbase : attributeBase e "values" X.env (eval e X.env) = eval e X.env := by rfl) (hline : (apos.endLine == cpos.line) = true := by rfl) :
    PI X tg (.Call (.Attribute e "values" apos) [] [] cpos) (iValsT td) := by
  refine ⟨fun pins s σ H R I h => ?_⟩
  refine wpAny_Call_method (T := "dict") (id := "dict.values") hbase rfl hline F.plainAttrs_dict F.slot_dict_values F.type_dict_values (thn (he.run pins s σ H _ I h) fun u s1 ⟨x, H1, I1, rx, d, o, kvs, ex, hd, q⟩ => ?_)
  subst ex
  obtain rfl : u = Value.ref d := rx
  obtain ⟨hs, es, ep, hdt, raw, hsz, ent⟩ := lockedT I1 hd
  refine ⟨raw.typeIs, raw_plain raw, ?_⟩
  have I2 : Inv X pins σ H1 { s1 with heap := s1.heap.push { cls := .type "dict_values", data := .fields #[.ref d] } } := I1.kept (t' := s1.toks) fun b ob q => Heap.get?_push_of_some _ q
  have raw2 : (s1.heap.push { cls := .type "dict_values", data := .fields #[.ref d] }).DictRaw d es ep := raw.at fun _ e => Heap.get?_push_of_some _ e
  have fin : wpAny (model X.prog X.w) X.A (pyIter (.ref s1.heap.objs.size)) (PIE X pins σ tg R) X.xe { s1 with heap := s1.heap.push { cls := .type "dict_values", data := .fields #[.ref d] } } := by
    refine wpAny_pyIter_values_raw (d := d) ⟨_, Heap.get?_push_size _ rfl, rfl, rfl⟩ raw2 (pi_one (tk := s1.toks) I2 _ (turn_valsT _ hdt) ⟨_, Heap.get?_push_size _ rfl, rfl, ?_⟩ q)
    rw [hsz] <;> rfl
  show wpAny _ _ (callWith cpos (.builtin "dict.values") [.ref d] [] []) _ X.xe s1
  exact method_meetsIn F.slot_dict_values F.entry_dict_values rfl (PySem.evalArgs_none ⟨rfl, raw.typeIs, F.args_dict_values_1 _, _, meets_dict_values_raw d hs, ⟨es, ep, raw⟩, fin⟩)
theorem pi_itemsT {elts : List Expr} {kk : Nat} {tpos : Pos} (he : PE X e td) (hbase : attributeBase e "items" X.env (eval e X.env) = eval e X.env := by rfl) (hline : (apos.endLine == cpos.line) = true := by rfl) :
    PI X (.Tuple elts kk tpos) (.Call (.Attribute e "items" apos) [] [] cpos) (iItemsT td) := by
  refine ⟨fun pins s σ H R I h => ?_⟩
  refine wpAny_Call_method (T := "dict") (id := "dict.items") hbase rfl hline F.plainAttrs_dict F.slot_dict_items F.type_dict_items (thn (he.run pins s σ H _ I h) fun u s1 ⟨x, H1, I1, rx, d, o, kvs, ex, hd, q⟩ => ?_)
  subst ex
  obtain rfl : u = Value.ref d := rx
  obtain ⟨hs, es, ep, hdt, raw, hsz, ent⟩ := lockedT I1 hd
  refine ⟨raw.typeIs, raw_plain raw, ?_⟩
  have I2 : Inv X pins σ H1 { s1 with heap := s1.heap.push { cls := .type "dict_items", data := .fields #[.ref d] } } := I1.kept (t' := s1.toks) fun b ob q => Heap.get?_push_of_some _ q
  have raw2 : (s1.heap.push { cls := .type "dict_items", data := .fields #[.ref d] }).DictRaw d es ep := raw.at fun _ e => Heap.get?_push_of_some _ e
  have fin : wpAny (model X.prog X.w) X.A (pyIter (.ref s1.heap.objs.size)) (PIE X pins σ (.Tuple elts kk tpos) R) X.xe { s1 with heap := s1.heap.push { cls := .type "dict_items", data := .fields #[.ref d] } } := by
    refine wpAny_pyIter_items_raw (d := d) ⟨_, Heap.get?_push_size _ rfl, rfl, rfl⟩ raw2 (pi_one (tk := s1.toks) I2 _ (turn_itemsT _ hdt) ⟨.none, .none, ?_⟩ q)
    rw [hsz]
    exact Heap.get?_push_size _ rfl
  show wpAny _ _ (callWith cpos (.builtin "dict.items") [.ref d] [] []) _ X.xe s1
  exact method_meetsIn F.slot_dict_items F.entry_dict_items rfl (PySem.evalArgs_none ⟨rfl, raw.typeIs, F.args_dict_items_1 _, _, meets_dict_items_raw d hs, ⟨es, ep, raw⟩, fin⟩)
end
theorem walk_valsT {d : Addr} {o : Obj} {kvs : List (List Key × V)} : Walk (VwT d o kvs) kvs.length (fun H => H d = some (.frz o (.dT kvs))) (fun i H x H' => H' = H ∧ ∃ k, kvs[i]? = some (k, x)) :=
  ⟨fun i H hi hG => ⟨hG, hi⟩, fun H hG => ⟨hG, Nat.le_refl _⟩, fun i H x H' hi hG y => y⟩
theorem walk_itemsT {d : Addr} {o : Obj} {kvs : List (List Key × V)} : Walk (ItmT d o kvs) kvs.length (fun H => H d = some (.frz o (.dT kvs)))
    (fun i H x H' => ∃ T k v q, kvs[i]? = some (k, v) ∧ x = .ref T ∧ H T = none ∧ H q = some (.tup (k.map kV)) ∧ H' = upd H T (.tup [.ref q, v])) :=
  ⟨fun i H hi hG => ⟨hG, hi⟩, fun H hG => ⟨hG, Nat.le_refl _⟩, fun i H x H' hi hG y => y⟩
end K82

set_option Elab.async false
set_option linter.all false
set_option maxRecDepth 100000
set_option maxHeartbeats 4000000
namespace K82
open PySem PySem.Spec PyProof.Rows L2

/-! ## sets of tuples of ints and texts: what the model asks of the members -/
abbrev Tk (P : Program) (w : World) (h : Heap) (k : List Key) (a : Addr) : Prop := IsTupleKey (mixKind P w) h k a
abbrev tkh (P : Program) (w : World) (k : List Key) : Int := tupleKeyHash (mixKind P w) k
/-- an int or a text -/
def Leaf (v : Value) : Prop := (∃ i t, v = .int i t) ∨ ∃ x t, v = .str x t
section
variable {P : Program} {w : World} {A : Around} {E : Value → Shared → Prop} {s : Shared}
theorem leaves {k : List Key} {vs : List Value} (h : ItemsAre (mixKind P w) k vs) : ∀ v ∈ vs, Leaf v := by
  induction h with
  | nil => exact fun v hv => nomatch hv
  | cons hk _ ih =>
    intro v hv
    rcases List.mem_cons.mp hv with e | hm
    · subst e
      rcases keyIs_shape hk with ⟨i, t, _, e⟩ | ⟨x, t, _, e⟩
      · exact .inl ⟨i, t, e⟩
      · exact .inr ⟨x, t, e⟩
    · exact ih v hm
theorem leaf_class {v : Value} (n : Nat) (h : Leaf v) : ofAClassStatement n v = pure false := by
  rcases h with ⟨_, _, rfl⟩ | ⟨_, _, rfl⟩ <;> cases n <;> rfl
theorem leaf_byValue {v : Value} (n : Nat) (h : Leaf v) : ∃ b, hashByValue n v = pure b := by
  rcases h with ⟨_, _, rfl⟩ | ⟨_, _, rfl⟩
  · exact ⟨true, by cases n <;> rfl⟩
  · exact ⟨false, by cases n <;> rfl⟩
/-- a tuple of leaves is no statement's class -/
theorem tup_class {k : List Key} {b : Addr} {Q : Bool → Shared → Prop} (hk : Tk P w s.heap k b) (h : Q false s) : wpAny (model P w) A (ofAClassStatement 8 (.ref b)) Q E s := by
  have ht := hk.typeIs
  obtain ⟨o, its, n, ho, _, hd, hi⟩ := hk
  unfold ofAClassStatement
  refine wpAny_bind (wpAny_typeOf ht ?_)
  simp only [show (("tuple" : String) == "tuple") = true from by decide, if_true]
  refine wpAny_bind (wpAny_pure ?_)
  simp only [Bool.not_true, Bool.false_eq_true, if_false]
  refine wpAny_bind (wpAny_seqItems ho hd ?_)
  refine wpAny_bind ?_
  show wpAny _ _ (forIn its _ _) _ _ s
  rw [← Array.forIn_toList]
  refine wpAny_forIn_list _ (fun rest acc s1 => acc.1 = none ∧ s1 = s ∧ ∀ v ∈ rest, Leaf v) _ ?_ ?_ _ _ ⟨rfl, rfl, leaves hi⟩
  · intro v rest acc s1 ⟨ha, hs, hl⟩
    subst hs
    rw [leaf_class _ (hl v List.mem_cons_self)]
    refine wpAny_bind (wpAny_pure ?_)
    simp only [Bool.false_eq_true, if_false]
    exact wpAny_pure ⟨rfl, rfl, fun u hu => hl u (List.mem_cons_of_mem _ hu)⟩
  · intro acc s1 ⟨ha, hs, _⟩
    subst hs
    obtain ⟨a1, a2⟩ := acc
    have e : a1 = none := ha
    subst e
    exact wpAny_pure h
/-- whether its hash is by value: one or the other -/
theorem tup_byValue {k : List Key} {b : Addr} {Q : Bool → Shared → Prop} (hk : Tk P w s.heap k b) (h : ∀ c, Q c s) : wpAny (model P w) A (hashByValue 8 (.ref b)) Q E s := by
  have ht := hk.typeIs
  obtain ⟨o, its, n, ho, _, hd, hi⟩ := hk
  unfold hashByValue
  refine wpAny_bind (wpAny_specialOf ht F.slot_tuple_hash.lookup ?_)
  show wpAny _ _ (seqItems? (.ref b) >>= _) _ _ s
  refine wpAny_bind (wpAny_seqItems ho hd ?_)
  refine wpAny_bind ?_
  show wpAny _ _ (forIn its _ _) _ _ s
  rw [← Array.forIn_toList]
  refine wpAny_forIn_list _ (fun rest acc s1 => s1 = s ∧ ∀ v ∈ rest, Leaf v) _ ?_ ?_ _ _ ⟨rfl, leaves hi⟩
  · intro v rest acc s1 ⟨hs, hl⟩
    subst hs
    obtain ⟨c, ec⟩ := leaf_byValue (7 : Nat) (hl v List.mem_cons_self)
    rw [ec]
    refine wpAny_bind (wpAny_pure ?_)
    cases c with
    | true =>
      simp only [Bool.not_true, Bool.false_eq_true, if_false]
      exact wpAny_pure ⟨rfl, fun u hu => hl u (List.mem_cons_of_mem _ hu)⟩
    | false =>
      simp only [Bool.not_false, if_true]
      exact wpAny_pure (wpAny_pure (h false))
  · intro acc s1 ⟨hs, _⟩
    subst hs
    obtain ⟨a1, a2⟩ := acc
    cases a1 with
    | none => exact wpAny_pure (h true)
    | some c => exact wpAny_pure (h c)
end
end K82

set_option Elab.async false
set_option linter.all false
set_option maxRecDepth 100000
set_option maxHeartbeats 4000000
namespace K82
open PySem PySem.Spec PyProof.Rows L2

section
variable {P : Program} {w : World} {A : Around} {E : Value → Shared → Prop} {s : Shared}
/-- comparing tuples of leaves shows nothing of the table -/
theorem tup_unseen {k : List Key} {b : Addr} {Q : Bool → Shared → Prop} (hk : Tk P w s.heap k b) {ys : List Value} (hy : ∀ y ∈ ys, ∃ k' c, y = Value.ref c ∧ Tk P w s.heap k' c) (h : Q false s) :
    wpAny (model P w) A (searchCouldBeSeen (.ref b) ys) Q E s := by
  unfold searchCouldBeSeen
  refine wpAny_bind ?_
  refine wpAny_forIn_list _ (fun rest acc s1 => acc.1 = none ∧ s1 = s ∧ ∀ y ∈ rest, ∃ k' c, y = Value.ref c ∧ Tk P w s.heap k' c) _ ?_ ?_ _ _ ⟨rfl, rfl, hy⟩
  · intro v rest acc s1 ⟨ha, hs, hl⟩
    subst hs
    obtain ⟨k2, c, rfl, hc⟩ := hl v List.mem_cons_self
    have tail : ∀ y ∈ rest, ∃ k' c, y = Value.ref c ∧ Tk P w s1.heap k' c := fun u hu => hl u (List.mem_cons_of_mem _ hu)
    dsimp only
    rcases Bool.eq_false_or_eq_true (b == c || (carriedByValue (.ref b) && carriedByValue (.ref c))) with hv | hv
    · exact wp_if_pos hv (wpAny_pure ⟨rfl, rfl, tail⟩)
    · refine wp_if_neg (by rw [hv]; exact Bool.false_ne_true) ?_
      refine wpAny_bind (wpAny_eqIsQuiet_tuple hk ?_)
      simp only [Bool.not_true, Bool.false_eq_true, if_false]
      refine wpAny_bind (wpAny_eqIsQuiet_tuple hc ?_)
      simp only [Bool.not_true, Bool.false_eq_true, if_false]
      refine wpAny_bind (tup_class hk ?_)
      simp only [Bool.false_eq_true, if_false]
      refine wpAny_bind (tup_class hc ?_)
      simp only [Bool.false_eq_true, if_false]
      exact wpAny_pure ⟨rfl, rfl, tail⟩
  · intro acc s1 ⟨ha, hs, _⟩
    subst hs
    obtain ⟨a1, a2⟩ := acc
    have e : a1 = none := ha
    subst e
    exact wpAny_pure h
end

/-! ## the set's table: what stands, in the order of the slots -/
abbrev Row := Addr × List Key
def cellsOf (P : Program) (w : World) (L : List Row) : List (Int × Value) := L.map fun r => (tkh P w r.2, Value.ref r.1)
structure Tset (P : Program) (w : World) (h : Heap) (a : Addr) (L : List Row) (es : Array (Int × Value)) (ep : Nat) (t : SetTable) : Prop where
  obj : ∃ o, h.get? a = some o ∧ o.ExactSet ∧ o.data = .set es ep t
  cells : es.toList = cellsOf P w L
  tab : TabOk t (L.map fun r => tkh P w r.2)
  once : (L.map (·.2)).Nodup
  keys : ∀ r ∈ L, Tk P w h r.2 r.1
  order : w.params.followText "set-order" = true ∨ t.led = true
  room : L.length * 5 < t.mask * 3
  few : L.length < 64
theorem cellsOf_length (P : Program) (w : World) (L : List Row) : (cellsOf P w L).length = L.length := List.length_map _
theorem size_of_cells {P : Program} {w : World} {L : List Row} {es : Array (Int × Value)} (h : es.toList = cellsOf P w L) : es.size = L.length := by
  rw [← Array.length_toList, h, cellsOf_length]
theorem cell_at {P : Program} {w : World} {L : List Row} {es : Array (Int × Value)} (h : es.toList = cellsOf P w L) {i : Nat} {r : Row} (e : L[i]? = some r) : es[i]? = some (tkh P w r.2, Value.ref r.1) := by
  rw [← Array.getElem?_toList, h, cellsOf, List.getElem?_map, e, Option.map_some]
theorem fits_of {t : SetTable} {hs : List Int} {n : Nat} (T : TabOk t hs) (hn : hs.length = n) (hr : n * 5 < t.mask * 3) : t.fits n = true := by
  have h1 := T.sz
  unfold SetTable.fits SetTable.fill
  rw [T.dm, Bool.and_eq_true, beq_iff_eq, decide_eq_true_eq]
  refine ⟨h1.trans hn, ?_⟩
  show t.place.size + 0 ≤ t.mask
  omega
section
variable {P : Program} {w : World} {h : Heap} {a : Addr} {L : List Row} {es : Array (Int × Value)} {ep : Nat} {t : SetTable}
theorem Tset.hlen (R : Tset P w h a L es ep t) : (L.map fun r => tkh P w r.2).length = es.size := by
  rw [List.length_map, size_of_cells R.cells]
theorem Tset.fits (R : Tset P w h a L es ep t) : t.fits es.size = true :=
  fits_of R.tab R.hlen (by rw [size_of_cells R.cells]; exact R.room)
theorem Tset.stays (R : Tset P w h a L es ep t) : ¬ t.gaveWay = true := by
  unfold SetTable.gaveWay
  rw [mask_odd R.tab.mok]
  decide
theorem Tset.placed (R : Tset P w h a L es ep t) : t.place.toList.length = L.length := by
  rw [Array.length_toList, R.tab.sz, List.length_map]
end

/-! ## the search -/
/-- the c-th place that a search for the hash h looks at -/
abbrev stop (m : Nat) (h : Int) (c : Nat) : SetTable.Probe := nth m (runAt m (SetTable.bits h % (m + 1)) (SetTable.bits h)) c
theorem stop_more (m : Nat) (h : Int) (c q : Nat) : nth m (stop m h c) q = stop m h (c + q) := (nth_add m c _ q).symm
theorem nth_undug {m : Nat} : ∀ (n : Nat) (p : SetTable.Probe), p.dummy = none → (nth m p n).dummy = none
  | 0, _, h => h
  | n + 1, p, h => nth_undug n (adv m p) (by unfold adv; split <;> exact h)
/-- no row of this hash stands on the way between c and d -/
def Passed (t : SetTable) (P : Program) (w : World) (L : List Row) (h : Int) (c d : Nat) : Prop :=
  ∀ q, c ≤ q → q < d → ∀ (i : Nat) (r : Row), t.place.toList[i]? = some (way t.mask h q) → L[i]? = some r → tkh P w r.2 ≠ h
theorem probe_from {P : Program} {w : World} {hp : Heap} {a : Addr} {L : List Row} {es : Array (Int × Value)} {ep : Nat} {t : SetTable} (R : Tset P w hp a L es ep t) {h : Int} {K c : Nat} (hKf : K < 10 * SetTable.turns t.mask)
    (hK : way t.mask h K ∉ t.place.toList) (hKb : ∀ j, j < K → way t.mask h j ∈ t.place.toList) (hc : c ≤ K) :
    (∃ (q i : Nat) (r : Row), c ≤ q ∧ q < K ∧ t.place.toList[i]? = some (way t.mask h q) ∧ L[i]? = some r ∧ tkh P w r.2 = h ∧ Passed t P w L h c q ∧
      t.probe (fun i => (es[i]?.map (·.1)).getD 0) h (stop t.mask h c) = some (.candidate (way t.mask h q) i (stop t.mask h (q + 1)))) ∨
    (Passed t P w L h c K ∧ t.probe (fun i => (es[i]?.map (·.1)).getD 0) h (stop t.mask h c) = some (.empty (way t.mask h K) none)) := by
  have hj : ∀ q, (nth t.mask (stop t.mask h c) q).j = way t.mask h (c + q) := fun q => by rw [stop_more]
  have hash : ∀ (i : Nat) (r : Row), L[i]? = some r → (fun i => (es[i]?.map (·.1)).getD 0) i = tkh P w r.2 := fun i r e => by
    show (es[i]?.map (·.1)).getD 0 = _
    rw [cell_at R.cells e]
    all_goals rfl
  have eK : c + (K - c) = K := Nat.add_sub_cancel' hc
  have sp := go_spec t R.tab.ris R.tab.dm (fun i => (es[i]?.map (·.1)).getD 0) h (10 * SetTable.turns t.mask) (K - c) (stop t.mask h c) (nth_undug c _ rfl) (by omega)
    (fun q hq => by rw [hj]; exact hKb _ (by omega)) (by rw [hj, eK]; exact hK)
  rcases sp with ⟨q, i, hq, hi, hh, hno, hpr⟩ | ⟨hno, hpr⟩
  · left
    rw [hj] at hi
    have hil : i < L.length := by
      rw [← R.placed]
      exact (List.getElem?_eq_some_iff.mp hi).1
    have er : L[i]? = some L[i] := List.getElem?_eq_getElem hil
    refine ⟨c + q, i, L[i], Nat.le_add_right _ _, by omega, hi, er, (hash i _ er).symm.trans hh, fun q' h1 h2 i' r' hi' er' z => ?_, ?_⟩
    · refine hno (q' - c) i' (by omega) ?_ ((hash i' r' er').trans z)
      rw [hj, Nat.add_sub_cancel' h1]
      exact hi'
    · rw [hj, stop_more] at hpr
      exact hpr
  · right
    refine ⟨fun q' h1 h2 i' r' hi' er' z => ?_, ?_⟩
    · refine hno (q' - c) i' (by omega) ?_ ((hash i' r' er').trans z)
      rw [hj, Nat.add_sub_cancel' h1]
      exact hi'
    · rw [hj, eK] at hpr
      exact hpr
end K82

set_option Elab.async false
set_option linter.all false
set_option maxRecDepth 100000
set_option maxHeartbeats 4000000
namespace K82
open PySem PySem.Spec PyProof.Rows L2

section
variable {P : Program} {w : World} {A : Around} {E : Value → Shared → Prop} {s : Shared} {a : Addr} {L : List Row} {es : Array (Int × Value)} {ep : Nat} {t : SetTable}
/-- the search goes along the way from its c-th stop; what has the key has not been passed -/
theorem seek (R : Tset P w s.heap a L es ep t) {x : Addr} {k : List Key} (hx : Tk P w s.heap k x) (hu : A.units < cLine) {K : Nat} (hKf : K < 10 * SetTable.turns t.mask)
    (hK : way t.mask (tkh P w k) K ∉ t.place.toList) (hKb : ∀ j, j < K → way t.mask (tkh P w k) j ∈ t.place.toList) {Q : SetFound → Shared → Prop}
    (found : k ∈ L.map (·.2) → Q (.there none) s) (lacks : k ∉ L.map (·.2) → Q (.free (way t.mask (tkh P w k) K) false) s) :
    ∀ (fuel c : Nat) (at_ : Option SetTable.Probe), at_.getD (t.probeStart (tkh P w k)) = stop t.mask (tkh P w k) c → c ≤ K → K - c < fuel →
      (∀ (i : Nat) (r : Row), L[i]? = some r → r.2 = k → ∃ c', c ≤ c' ∧ c' < K ∧ t.place.toList[i]? = some (way t.mask (tkh P w k) c')) →
      wpAny (model P w) A (setSearchFrom a (.ref x) (tkh P w k) true fuel at_) Q E s := by
  intro fuel
  induction fuel with
  | zero => exact fun c _ _ _ hf => absurd hf (Nat.not_lt_zero _)
  | succ fuel ih =>
    intro c at_ hst hc hf ahead
    obtain ⟨o, ho, hex, hd⟩ := R.obj
    rw [setSearchFrom_succ]
    refine wpAny_bind (wpAny_setState_of ho hd R.fits ?_)
    dsimp only
    refine wp_if_neg R.stays ?_
    try refine wpAny_bind (wpAny_pure ?_)
    rw [hst]
    rcases probe_from R hKf hK hKb hc with ⟨q, i, r, hq1, hq2, hi, hr, hh, pass, hpr⟩ | ⟨pass, hpr⟩
    · rw [hpr]
      dsimp only
      have rest : wpAny (model P w) A (searchRest a (.ref x) (tkh P w k) true fuel es t (way t.mask (tkh P w k) q) i (stop t.mask (tkh P w k) (q + 1))) Q E s := by
        have live : t.slot (way t.mask (tkh P w k) q) = .live i := slot_live R.tab.ris hi
        have he := cell_at R.cells hr
        have hm : r ∈ L := List.mem_of_getElem? hr
        unfold searchRest
        rw [he]
        dsimp only
        refine wpAny_bind (wpAny_holding (wpAny_eqBool_tuple hu (R.keys r hm) hx ?_))
        refine wpAny_bind (wpAny_setState_of ho hd R.fits ?_)
        dsimp only
        by_cases same : r.2 = k
        · refine wp_if_pos (by rw [decide_eq_true same]; rfl) (wpAny_pure (found ?_))
          exact List.mem_map.mpr ⟨r, hm, same⟩
        · refine wp_if_neg (by rw [decide_eq_false same]; simp) ?_
          try refine wpAny_bind (wpAny_pure ?_)
          rw [sameMem]
          dsimp only
          simp only [if_true, live, he]
          refine wpAny_bind (wpAny_isSame_ref_self (wpAny_bind (wpAny_pure ?_)))
          simp only [if_true]
          refine wp_if_neg (by rw [decide_eq_false same]; simp) ?_
          refine ih (q + 1) _ rfl (by omega) (by omega) fun i2 r2 h2 k2 => ?_
          obtain ⟨c', b1, b2, b3⟩ := ahead i2 r2 h2 k2
          refine ⟨c', ?_, b2, b3⟩
          rcases Nat.lt_trichotomy c' q with z | z | z
          · exact absurd (congrArg (tkh P w) k2) (pass c' b1 z i2 r2 b3 h2)
          · rw [z] at b3
            have l2 := slot_live R.tab.ris b3
            rw [live] at l2
            injection l2 with l2
            rw [← l2, hr] at h2
            exact absurd ((congrArg Prod.snd (Option.some.inj h2)).trans k2) same
          · exact z
      by_cases hl : t.led = true
      · refine wp_if_neg (by rw [hl]; decide) ?_
        try refine wpAny_bind (wpAny_pure ?_)
        exact rest
      · refine wp_if_pos (by simp [hl]) ?_
        refine wpAny_bind (tup_unseen hx (fun y hy => ?_) ?_)
        · obtain ⟨e, he, ee⟩ := List.mem_map.mp hy
          have hin : e ∈ es.toList := by
            have z : e ∈ es ∧ e.1 = tkh P w k := by simpa using he
            exact Array.mem_toList_iff.mpr z.1
          rw [R.cells] at hin
          obtain ⟨r2, m2, e2⟩ := List.mem_map.mp hin
          exact ⟨r2.2, r2.1, by rw [← ee, ← e2], R.keys r2 m2⟩
        · refine wp_if_neg Bool.false_ne_true ?_
          try refine wpAny_bind (wpAny_pure ?_)
          exact rest
    · rw [hpr]
      dsimp only
      refine wpAny_pure (lacks fun hm => ?_)
      obtain ⟨r2, m2, k2⟩ := List.mem_map.mp hm
      obtain ⟨i2, hi2, e2⟩ := List.getElem_of_mem m2
      have h2 : L[i2]? = some r2 := by rw [List.getElem?_eq_getElem hi2, e2]
      obtain ⟨c', b1, b2, b3⟩ := ahead i2 r2 h2 k2
      exact pass c' b1 b2 i2 r2 b3 h2 (congrArg (tkh P w) k2)

theorem search_set (R : Tset P w s.heap a L es ep t) {x : Addr} {k : List Key} (hx : Tk P w s.heap k x) (hu : A.units < cLine) {Q : SetFound → Shared → Prop}
    (found : k ∈ L.map (·.2) → Q (.there none) s)
    (lacks : ∀ K, k ∉ L.map (·.2) → way t.mask (tkh P w k) K ∉ t.place.toList → (∀ c, c < K → way t.mask (tkh P w k) c ∈ t.place.toList) → Q (.free (way t.mask (tkh P w k) K) false) s) :
    wpAny (model P w) A (setSearch a (.ref x) (tkh P w k) true) Q E s := by
  have room := R.room
  obtain ⟨K, hKf, hK, hKb⟩ := R.tab.first (by rw [List.length_map]; omega) (tkh P w k)
  have few : K < 100000 := by
    have z : SetTable.turns t.mask ≤ 142 := by
      unfold SetTable.turns
      rcases R.tab.mok with e | e | e <;> rw [e] <;> decide
    omega
  refine seek R hx hu hKf hK hKb found (fun hn => lacks K hn hK hKb) 100000 0 none rfl (Nat.zero_le _) (by omega) fun i r hr hk => ?_
  have hi : (L.map fun r => tkh P w r.2)[i]? = some (tkh P w k) := by rw [List.getElem?_map, hr, Option.map_some, hk]
  have hl : i < t.place.toList.length := by
    rw [R.placed]
    exact (List.getElem?_eq_some_iff.mp hr).1
  have hj := List.getElem?_eq_getElem hl
  obtain ⟨c, hc, e⟩ := R.tab.before hK hi hj
  exact ⟨c, Nat.zero_le _, hc, by rw [hj, e]⟩
end
end K82

set_option Elab.async false
set_option linter.all false
set_option maxRecDepth 100000
set_option maxHeartbeats 4000000
namespace K82
open PySem PySem.Spec PyProof.Rows L2

/-! ## the table laid anew; adding -/
theorem take_range_filterMap {α : Type} (L : List α) : ∀ n, n ≤ L.length → (List.range n).filterMap (fun i => L[i]?) = L.take n
  | 0, _ => rfl
  | n + 1, hn => by
    rw [List.range_succ, List.filterMap_append, take_range_filterMap L n (Nat.le_of_succ_le hn), List.take_succ, List.getElem?_eq_getElem hn]
    rw [List.filterMap_cons_some (List.getElem?_eq_getElem hn), List.filterMap_nil]
    rfl
theorem pick_rows {P : Program} {w : World} {L : List Row} {es : Array (Int × Value)} (hr : es.toList = cellsOf P w L) : ∀ l : List Nat, (∀ i ∈ l, i < L.length) →
    l.filterMap (fun i => es[i]?) = cellsOf P w (l.filterMap fun i => L[i]?) ∧ ((l.filterMap fun i => L[i]?).map fun r => tkh P w r.2) = l.map fun i => (es.map (·.1)).getD i 0 := by
  intro l
  induction l with
  | nil => exact fun _ => ⟨rfl, rfl⟩
  | cons i l ih =>
    intro hl
    have hi : i < L.length := hl i List.mem_cons_self
    have eL : L[i]? = some L[i] := List.getElem?_eq_getElem hi
    have ee := cell_at hr eL
    obtain ⟨i1, i2⟩ := ih fun j hj => hl j (List.mem_cons_of_mem _ hj)
    have eh : (es.map (·.1)).getD i 0 = tkh P w (L[i]).2 := by
      have z : (es.map (·.1))[i]? = some (tkh P w (L[i]).2) := by rw [Array.getElem?_map, ee, Option.map_some]
      rw [Array.getD_eq_getD_getElem?, z, Option.getD_some]
    rw [List.filterMap_cons_some ee, List.filterMap_cons_some eL, i1]
    refine ⟨rfl, ?_⟩
    rw [List.map_cons, List.map_cons, i2, eh]
theorem rows_ordered {P : Program} {w : World} {L : List Row} {es : Array (Int × Value)} {order : Array Nat} (hr : es.toList = cellsOf P w L) (hp : order.toList.Perm (List.range L.length)) :
    ∃ M, (order.filterMap (es[·]?)).toList = cellsOf P w M ∧ M.Perm L ∧ (M.map fun r => tkh P w r.2) = order.toList.map fun i => (es.map (·.1)).getD i 0 := by
  obtain ⟨h1, h2⟩ := pick_rows hr order.toList fun i hi => List.mem_range.mp (hp.mem_iff.mp hi)
  refine ⟨_, ?_, ?_, h2⟩
  · rw [Array.toList_filterMap]
    exact h1
  · have q := hp.filterMap fun i => L[i]?
    rw [take_range_filterMap L L.length (Nat.le_refl _), List.take_length] at q
    exact q

/-- the set's object is changed, a tuple isn't it -/
theorem tk_but {P : Program} {w : World} {h h' : Heap} {k : List Key} {a b : Addr} {o : Obj} {es : Array (Int × Value)} {ep : Nat} {t : SetTable} (x : Tk P w h k b) (ho : h.get? a = some o) (hd : o.data = .set es ep t) (hs : Heap.SameBut a h h') : Tk P w h' k b := by
  obtain ⟨ob, its, n, hob, hc, hdb, hi⟩ := x
  refine ⟨ob, its, n, (hs.2 b fun z => ?_).trans hob, hc, hdb, hi⟩
  rw [z, ho] at hob
  cases hob
  rw [hd] at hdb
  cases hdb
theorem tk_kept {P : Program} {w : World} {h h' : Heap} {k : List Key} {b : Addr} (x : Tk P w h k b) (hk : ∀ c o, h.get? c = some o → h'.get? c = some o) : Tk P w h' k b := by
  obtain ⟨ob, its, n, hob, r⟩ := x
  exact ⟨ob, its, n, hk b ob hob, r⟩
section
variable {P : Program} {w : World} {A : Around} {E : Value → Shared → Prop} {s : Shared} {a : Addr} {L : List Row} {es : Array (Int × Value)} {ep : Nat} {t : SetTable}
theorem lay_anew {o : Obj} (ho : s.heap.get? a = some o) (hex : o.ExactSet) (hd : o.data = .set es ep t) (hc : es.toList = cellsOf P w L) (T : TabOk t (L.map fun r => tkh P w r.2)) (hfit : es.size ≤ t.mask)
    (once : (L.map (·.2)).Nodup) (keys : ∀ r ∈ L, Tk P w s.heap r.2 r.1) (ord : w.params.followText "set-order" = true ∨ t.led = true) (few : L.length < 64) {wanted M : Nat}
    (hw : SetTable.sizeAbove wanted - 1 = M) (hM : MaskOk M) (hw2 : SetTable.sizeAbove wanted ≤ 128) (hn : L.length * 5 < M * 3) {Q : Unit → Shared → Prop}
    (hQ : ∀ h' L' es' ep' t', Heap.SameBut a s.heap h' → Tset P w h' a L' es' ep' t' → L'.Perm L → Q () { s with heap := h' }) : wpAny (model P w) A (setRelay a wanted) Q E s := by
  have hsz := size_of_cells hc
  have hf : t.fits es.size = true := by
    have z := T.sz
    rw [List.length_map] at z
    unfold SetTable.fits SetTable.fill
    rw [T.dm, Bool.and_eq_true, beq_iff_eq, decide_eq_true_eq]
    refine ⟨z.trans hsz.symm, ?_⟩
    show t.place.size + 0 ≤ t.mask
    omega
  obtain ⟨t2, order, e, hp, T2, em, el, _, _⟩ := relaid_ok t (hs := es.map (·.1)) (wanted := wanted) hw hM (by rw [Array.size_map, hsz]; omega)
  rw [Array.size_map, hsz] at hp
  obtain ⟨M2, r1, r2, r3⟩ := rows_ordered hc hp
  rw [← r3] at T2
  have hs2 : (order.filterMap (es[·]?)).size = es.size := by rw [size_of_cells r1, r2.length_eq, hsz]
  rw [setRelay_eq]
  refine wpAny_bind (wpAny_setState_of ho hd hf ?_)
  dsimp only
  refine wp_if_neg (by rw [sizeLine_eq]; omega) ?_
  try refine wpAny_bind (wpAny_pure ?_)
  rw [e]
  dsimp only
  refine wpAny_bind ?_
  refine wp_if_neg (by rw [hs2]; simp) ?_
  try refine wpAny_bind (wpAny_pure ?_)
  refine wpAny_pure ?_
  dsimp only
  refine wpAny_storeSet_of ho hd ?_ (by rw [hs2, hsz, sizeLine_eq]; omega)
  have sb : Heap.SameBut a s.heap (s.heap.update a (Obj.putSet (order.filterMap (es[·]?)) t2)) := Heap.SameBut.update ..
  refine hQ _ M2 (order.filterMap (es[·]?)) (ep + 1) t2 sb ?_ r2
  exact { obj := ⟨_, store_at ho hd, ⟨hex.1, hex.2.1, hex.2.2⟩, rfl⟩, cells := r1, tab := T2, once := (r2.map (·.2)).nodup_iff.mpr once, keys := fun r hr => tk_but (keys r (r2.mem_iff.mp hr)) ho hd sb,
          order := by rw [el]; exact ord, room := by rw [r2.length_eq, em]; exact hn, few := by rw [r2.length_eq]; exact few }

theorem tab_plain {t : SetTable} {hs : List Int} (T : TabOk t hs) (b : Bool) : TabOk { t with plain := b } hs := ⟨T.ris, T.dm, T.sz, T.mok, T.bd, T.reach⟩
/-- the steps behind the search, when the slot is free -/
theorem put_set (R : Tset P w s.heap a L es ep t) {x : Addr} {k : List Key} (hx : Tk P w s.heap k x) (hnew : k ∉ L.map (·.2)) (few : L.length + 1 < 64) {K : Nat} (hK : way t.mask (tkh P w k) K ∉ t.place.toList)
    (hb : ∀ c, c < K → way t.mask (tkh P w k) c ∈ t.place.toList) (pl : Bool) {Q : Bool → Shared → Prop}
    (hQ : ∀ h' L' es' ep' t', Heap.SameBut a s.heap h' → Tset P w h' a L' es' ep' t' → L'.Perm ((x, k) :: L) → Q true { s with heap := h' }) :
    wpAny (model P w) A (do
      storeSet a (SetTable.insertAt es (t.put (way t.mask (tkh P w k) K)).2 (tkh P w k, .ref x)) { (t.put (way t.mask (tkh P w k) K)).1 with plain := pl }
      if !false && ({ (t.put (way t.mask (tkh P w k) K)).1 with plain := pl } : SetTable).tooFull then setRelay a (SetTable.grown (es.size + 1))
      return true) Q E s := by
  obtain ⟨o, ho, hex, hd⟩ := R.obj
  have hsz := size_of_cells R.cells
  have room := R.room
  obtain ⟨q1, q2, q3, q4, q5, q6, q7, q8, q9⟩ := R.tab.put hK hb
  generalize hpt : t.put (way t.mask (tkh P w k) K) = pt at q1 q3 q4 q5 q6 q7 q8 q9 ⊢
  obtain ⟨t1, p⟩ := pt
  dsimp only at q1 q3 q4 q5 q6 q7 q8 q9 ⊢
  rw [List.length_map] at q9
  have hin : (SetTable.insertAt es p (tkh P w k, Value.ref x)).toList = cellsOf P w (L.take p ++ (x, k) :: L.drop p) := by
    rw [SetTable.toList_insertAt, R.cells]
    unfold cellsOf
    rw [List.map_append, List.map_cons, List.map_take, List.map_drop]
  have pm : (L.take p ++ (x, k) :: L.drop p).Perm ((x, k) :: L) := put_perm L p (x, k)
  have tab1 : TabOk { t1 with plain := pl } ((L.take p ++ (x, k) :: L.drop p).map fun r => tkh P w r.2) := by
    have z : (L.take p ++ (x, k) :: L.drop p).map (fun r => tkh P w r.2) = (L.map fun r => tkh P w r.2).take p ++ tkh P w k :: (L.map fun r => tkh P w r.2).drop p := by
      rw [List.map_append, List.map_cons, List.map_take, List.map_drop]
    rw [z]
    subst q1
    exact tab_plain q3 pl
  generalize L.take p ++ (x, k) :: L.drop p = L1 at hin pm tab1
  have len1 : L1.length = L.length + 1 := pm.length_eq
  have sz1 : (SetTable.insertAt es p (tkh P w k, Value.ref x)).size = L.length + 1 := by rw [size_of_cells hin, len1]
  have once1 : (L1.map (·.2)).Nodup := by
    refine (pm.map (·.2)).nodup_iff.mpr ?_
    rw [List.map_cons]
    exact List.nodup_cons.mpr ⟨hnew, R.once⟩
  generalize SetTable.insertAt es p (tkh P w k, Value.ref x) = es1 at hin sz1 ⊢
  refine wpAny_bind (wpAny_storeSet_of ho hd ?_ (by rw [sz1, sizeLine_eq]; omega))
  have sb : Heap.SameBut a s.heap (s.heap.update a (Obj.putSet es1 { t1 with plain := pl })) := Heap.SameBut.update ..
  have ho1 := store_at (es' := es1) (t' := { t1 with plain := pl }) ho hd
  generalize s.heap.update a (Obj.putSet es1 { t1 with plain := pl }) = h1 at sb ho1 ⊢
  have keys1 : ∀ r ∈ L1, Tk P w h1 r.2 r.1 := fun r hr => by
    rcases List.mem_cons.mp (pm.mem_iff.mp hr) with e | hm
    · rw [e]
      exact tk_but hx ho hd sb
    · exact tk_but (R.keys r hm) ho hd sb
  have ord1 : w.params.followText "set-order" = true ∨ t1.led = true := by rw [q5]; exact R.order
  by_cases full : ({ t1 with plain := pl } : SetTable).tooFull = true
  · have f2 : (L.length + 1) * 5 ≥ t1.mask * 3 := by
      have z := full
      unfold SetTable.tooFull at z
      rw [decide_eq_true_eq] at z
      have z2 : ({ t1 with plain := pl } : SetTable).fill = L.length + 1 := q9
      rw [z2] at z
      exact z
    have two : (t.mask = 7 ∧ L.length = 4) ∨ (t.mask = 31 ∧ L.length = 18) := by
      rcases R.tab.mok with e | e | e
      · exact .inl ⟨e, by rw [q4, e] at f2; rw [e] at room; omega⟩
      · exact .inr ⟨e, by rw [q4, e] at f2; rw [e] at room; omega⟩
      · exact absurd f2 (by rw [q4, e]; omega)
    first
      | (refine wpAny_bind ?_; refine wp_if_pos (by rw [full]; rfl) ?_)
      | (refine wp_if_pos (by rw [full]; rfl) ?_; refine wpAny_bind ?_)
    rw [hsz]
    have go : ∀ M, SetTable.sizeAbove (SetTable.grown (L.length + 1)) - 1 = M → MaskOk M → SetTable.sizeAbove (SetTable.grown (L.length + 1)) ≤ 128 → (L.length + 1) * 5 < M * 3 → L.length + 1 ≤ t.mask →
        wpAny (model P w) A (setRelay a (SetTable.grown (L.length + 1))) (fun _ s' => wpAny (model P w) A (pure true) Q E s') E { s with heap := h1 } := fun M m1 m2 m3 m4 m5 =>
      lay_anew (s := { s with heap := h1 }) ho1 ⟨hex.1, hex.2.1, hex.2.2⟩ rfl hin tab1 (by rw [sz1]; show L.length + 1 ≤ t1.mask; rw [q4]; exact m5) once1 keys1 ord1 (by rw [len1]; exact few) m1 m2 m3 (by rw [len1]; exact m4)
        fun h2 L2 es2 ep2 t2 sb2 R2 pm2 => wpAny_pure (hQ h2 L2 es2 ep2 t2 (sb.trans sb2) R2 (pm2.trans pm))
    rcases two with ⟨e1, e2⟩ | ⟨e1, e2⟩
    · exact go 31 (by rw [e2, size_20]) (.inr (.inl rfl)) (by rw [e2, size_20]; decide) (by omega) (by omega)
    · exact go 127 (by rw [e2, size_76]) (.inr (.inr rfl)) (by rw [e2, size_76]; decide) (by omega) (by omega)
  · first
      | refine wp_if_neg (by simp [full]) ?_
      | (refine wpAny_bind ?_; refine wp_if_neg (by simp [full]) ?_; refine wpAny_pure ?_)
    have f2 : (L.length + 1) * 5 < t1.mask * 3 := by
      have z := full
      unfold SetTable.tooFull at z
      rw [decide_eq_true_eq] at z
      have z2 : ({ t1 with plain := pl } : SetTable).fill = L.length + 1 := q9
      rw [z2] at z
      exact Nat.lt_of_not_le z
    exact wpAny_pure (hQ h1 L1 es1 (ep + 1) _ sb
      { obj := ⟨_, ho1, ⟨hex.1, hex.2.1, hex.2.2⟩, rfl⟩, cells := hin, tab := tab1, once := once1, keys := keys1, order := ord1, room := by rw [len1]; exact f2, few := by rw [len1]; exact few } pm)

theorem add_set (R : Tset P w s.heap a L es ep t) {x : Addr} {k : List Key} (hx : Tk P w s.heap k x) (hu : A.units < cLine) (few : L.length + 1 < 64) {Q : Bool → Shared → Prop}
    (there : k ∈ L.map (·.2) → Q false s)
    (hQ : k ∉ L.map (·.2) → ∀ h' L' es' ep' t', Heap.SameBut a s.heap h' → Tset P w h' a L' es' ep' t' → L'.Perm ((x, k) :: L) → Q true { s with heap := h' }) :
    wpAny (model P w) A (setAddHashed a (.ref x) (tkh P w k)) Q E s := by
  obtain ⟨o, ho, hex, hd⟩ := R.obj
  unfold setAddHashed
  refine wpAny_holding ?_
  rw [show (100000 : Nat) = 99999 + 1 from rfl, setAddHashedIn_succ]
  refine wpAny_bind (wpAny_setState_of ho hd R.fits ?_)
  dsimp only
  refine wp_if_neg (by simp [byScan, Value.scannable]) ?_
  try refine wpAny_bind (wpAny_pure ?_)
  refine wpAny_bind (search_set R hx hu (fun hm => ?_) fun K hm hK hb => ?_)
  · dsimp only
    exact wpAny_pure (there hm)
  · dsimp only
    refine wpAny_bind (wpAny_setState_of ho hd R.fits ?_)
    dsimp only
    have fin : ∀ pl : Bool, wpAny (model P w) A (do
      storeSet a (SetTable.insertAt es (t.put (way t.mask (tkh P w k) K)).2 (tkh P w k, .ref x)) { (t.put (way t.mask (tkh P w k) K)).1 with plain := pl }
      if !false && ({ (t.put (way t.mask (tkh P w k) K)).1 with plain := pl } : SetTable).tooFull then setRelay a (SetTable.grown (es.size + 1))
      return true) Q E s := fun pl => put_set R hx hm few hK hb pl (hQ hm)
    by_cases hp : (t.put (way t.mask (tkh P w k) K)).1.plain = true
    · have byv : ∀ c : Bool, wpAny (model P w) A (do
          let t1 := if c then (t.put (way t.mask (tkh P w k) K)).1 else { (t.put (way t.mask (tkh P w k) K)).1 with plain := false }
          storeSet a (SetTable.insertAt es (t.put (way t.mask (tkh P w k) K)).2 (tkh P w k, .ref x)) t1
          if !false && t1.tooFull then setRelay a (SetTable.grown (es.size + 1))
          return true) Q E s := fun c => by
        cases c with
        | false => exact fin false
        | true =>
          have z := fin true
          have e : ({ (t.put (way t.mask (tkh P w k) K)).1 with plain := true } : SetTable) = (t.put (way t.mask (tkh P w k) K)).1 := by
            rw [← hp]
          rw [e] at z
          exact z
      first
        | (refine wpAny_bind ?_; refine wp_if_pos hp ?_; exact tup_byValue hx byv)
        | exact wp_if_pos hp (wpAny_bind (tup_byValue hx byv))
    · have hp2 : (t.put (way t.mask (tkh P w k) K)).1.plain = false := by
        cases z : (t.put (way t.mask (tkh P w k) K)).1.plain with
        | true => exact absurd z hp
        | false => rfl
      have z := fin false
      have e : ({ (t.put (way t.mask (tkh P w k) K)).1 with plain := false } : SetTable) = (t.put (way t.mask (tkh P w k) K)).1 := by
        rw [← hp2]
      rw [e] at z
      first
        | (refine wpAny_bind ?_; refine wp_if_neg hp ?_; exact wpAny_pure z)
        | exact wp_if_neg hp (wpAny_bind (wpAny_pure z))
end
end K82

set_option Elab.async false
set_option linter.all false
set_option maxRecDepth 100000
set_option maxHeartbeats 4000000
namespace K82
open PySem PySem.Spec PyProof.Rows L2

/-- what a set holds of the first i rows that it was given -/
structure From (rs : List Row) (i : Nat) (L : List Row) : Prop where
  some_ : ∀ r ∈ L, r ∈ rs.take i
  each : ∀ r ∈ rs.take i, r.2 ∈ L.map (·.2)
  few : L.length ≤ i
theorem From.start (rs : List Row) : From rs 0 [] := ⟨fun _ h => absurd h (List.not_mem_nil), fun _ h => absurd h (by rw [List.take_zero]; exact List.not_mem_nil), Nat.le_refl _⟩
theorem take_one_more {α : Type} {l : List α} {i : Nat} {x : α} (h : l[i]? = some x) : l.take (i + 1) = l.take i ++ [x] := by
  rw [List.take_succ, h, Option.toList_some]
theorem From.again {rs L : List Row} {i : Nat} {r : Row} (g : From rs i L) (h : rs[i]? = some r) (hm : r.2 ∈ L.map (·.2)) : From rs (i + 1) L := by
  refine ⟨fun q hq => ?_, fun q hq => ?_, Nat.le_succ_of_le g.few⟩
  · rw [take_one_more h]
    exact List.mem_append_left _ (g.some_ q hq)
  · rw [take_one_more h] at hq
    rcases List.mem_append.mp hq with z | z
    · exact g.each q z
    · rw [List.mem_singleton.mp z]
      exact hm
theorem From.added {rs L L' : List Row} {i : Nat} {r : Row} (g : From rs i L) (h : rs[i]? = some r) (pm : L'.Perm (r :: L)) : From rs (i + 1) L' := by
  refine ⟨fun q hq => ?_, fun q hq => ?_, by rw [pm.length_eq]; exact Nat.succ_le_succ g.few⟩
  · rw [take_one_more h]
    rcases List.mem_cons.mp (pm.mem_iff.mp hq) with z | z
    · rw [z]
      exact List.mem_append_right _ (List.mem_singleton.mpr rfl)
    · exact List.mem_append_left _ (g.some_ q z)
  · rw [take_one_more h] at hq
    refine (pm.map (·.2)).mem_iff.mpr ?_
    rw [List.map_cons]
    rcases List.mem_append.mp hq with z | z
    · exact List.mem_cons_of_mem _ (g.each q z)
    · rw [List.mem_singleton.mp z]
      exact List.mem_cons_self
section
variable {P : Program} {w : World} {A : Around} {E : Value → Shared → Prop} {s : Shared}
abbrev newSet (w : World) : Obj := { cls := .type "set", dict := none, data := .set #[] 0 (.fresh 0 0 (!w.params.followText "set-order")) }
theorem tset_new {h : Heap} {a : Addr} (ho : h.get? a = some (newSet w)) : Tset P w h a [] #[] 0 (.fresh 0 0 (!w.params.followText "set-order")) where
  obj := ⟨_, ho, ⟨rfl, rfl, rfl⟩, rfl⟩
  cells := rfl
  tab := ⟨List.Pairwise.nil, rfl, rfl, .inl rfl, fun x hx => (nomatch hx), fun i h j hi => by simp at hi⟩
  once := List.nodup_nil
  keys := fun r hr => nomatch hr
  order := by
    cases z : w.params.followText "set-order"
    · exact .inr rfl
    · exact .inl rfl
  room := by show 0 * 5 < 7 * 3; decide
  few := by show 0 < 64; decide
theorem Tset.moved {h h' : Heap} {a : Addr} {L : List Row} {es : Array (Int × Value)} {ep : Nat} {t : SetTable} (R : Tset P w h a L es ep t) (ha : ∀ o, h.get? a = some o → h'.get? a = some o) (hk : ∀ r ∈ L, Tk P w h' r.2 r.1) : Tset P w h' a L es ep t :=
  let ⟨o, ho, r⟩ := R.obj
  { R with obj := ⟨o, ha o ho, r⟩, keys := hk }

/-- the loop behind set(..): all rows are added -/
theorem fill_set {I : Addr} {fp wr : List Addr} {G : Array GenState → Array GenState → Prop} {n : Nat} {Pv : Nat → Value → Prop} {St : Nat → Shared → Prop} {R : Result → Shared → Prop}
    (W : WalksS P w A.in1 I fp wr G n Pv St) (S : Addr) (hSf : S ∉ fp) (rs : List Row) (hn : n = rs.length) (few : rs.length < 64) (val : ∀ i v, Pv i v → ∃ r, rs[i]? = some r ∧ v = .ref r.1)
    (h0 : Heap) (hk : ∀ r ∈ rs, Tk P w h0 r.2 r.1) (hS0 : h0.get? S = none) (hw0 : ∀ b ∈ wr, h0.get? b = none) (hu : A.in1.units < cLine) :
    ∀ (m i : Nat) (s : Shared), n - i = m → i ≤ n → St i s → (∀ b o, h0.get? b = some o → s.heap.get? b = some o) → (∃ L es ep t, Tset P w s.heap S L es ep t ∧ From rs i L) →
      (∀ s' L es ep t, Moved (S :: wr) G s s' → Tset P w s'.heap S L es ep t → From rs n L → (∀ b o, h0.get? b = some o → s'.heap.get? b = some o) → R (.ok (.ret .none)) s') →
      codeAny (model P w) A (.builtin "set.update.loop" ⟨[.ref S, .ref I], []⟩) R s := by
  have notw : S ∉ wr := fun h => hSf (W.sub _ h)
  have up : ∀ b ∈ wr, b ∈ S :: wr := fun b hb => List.mem_cons_of_mem _ hb
  have stay : ∀ {s s' : Shared}, Moved wr G s s' → (∀ b o, h0.get? b = some o → s.heap.get? b = some o) → ∀ b o, h0.get? b = some o → s'.heap.get? b = some o := fun hm q b o e =>
    hm.heap b o (fun hb => nomatch (hw0 b hb).symm.trans e) (q b o e)
  have now : ∀ {s' : Shared} {L : List Row} {i : Nat}, From rs i L → (∀ b o, h0.get? b = some o → s'.heap.get? b = some o) → ∀ r ∈ L, Tk P w s'.heap r.2 r.1 := fun g q r hr =>
    tk_kept (hk r (List.mem_of_mem_take (g.some_ r hr))) q
  intro m
  induction m with
  | zero =>
    intro i s hm hi hst hq ⟨L, es, ep, t, hS, g⟩ hR
    have e : i = n := by omega
    rw [e] at hst g
    refine codeAny_builtin F.entry_set_update_loop ?_
    rw [Around.under_plainId F.plain_set_update_loop _]
    show wpAny _ A.in1 (pyNext (.ref I) >>= _) _ _ s
    refine wpAny_bind (W.done s _ _ hst fun s' mv => ?_)
    show wpAny _ A.in1 (ret Value.none) _ _ s'
    have hq' := stay mv hq
    exact wpAny_pure (hR s' L es ep t (mv.mono up) (hS.moved (fun o e => mv.heap S o notw e) (now g hq')) g hq')
  | succ m ih =>
    intro i s hm hi hst hq ⟨L, es, ep, t, hS, g⟩ hR
    have hlt : i < n := by omega
    refine codeAny_builtin F.entry_set_update_loop ?_
    rw [Around.under_plainId F.plain_set_update_loop _]
    show wpAny _ A.in1 (pyNext (.ref I) >>= _) _ _ s
    refine wpAny_bind (W.item i s _ _ hlt hst fun v s' hP hst' mv => ?_)
    obtain ⟨r, hr, rfl⟩ := val i v hP
    have hq' := stay mv hq
    have hS' : Tset P w s'.heap S L es ep t := hS.moved (fun o e => mv.heap S o notw e) (now g hq')
    have hx : Tk P w s'.heap r.2 r.1 := tk_kept (hk r (List.mem_of_getElem? hr)) hq'
    have small : L.length + 1 < 64 := by have := g.few; omega
    have next : ∀ (b : Bool) (h' : Heap) L' es' ep' t', Heap.SameBut S s'.heap h' → Tset P w h' S L' es' ep' t' → From rs (i + 1) L' →
        wpAny (model P w) A.in1 (again (.builtin "set.update.loop" ⟨[.ref S, .ref I], []⟩))
          (fun fin s₂ => match fin with | .done f => R (.ok f) s₂ | .again c' => c'.quiet = true ∧ codeAny (model P w) A c' R s₂) (fun e s₂ => R (.error e) s₂) { s' with heap := h', toks := s'.toks + (r.2.length + 1) } := fun b h' L' es' ep' t' sb R2 g2 => by
      have hq2 : ∀ b o, h0.get? b = some o → h'.get? b = some o := fun b o e => (sb.2 b fun z => by rw [z, hS0] at e; cases e).trans (hq' b o e)
      refine wpAny_pure ⟨plainId_quiet F.plain_set_update_loop _, ih (i + 1) _ (by omega) hlt (W.frame _ s' _ _ hst' (Nat.le_add_right _ _) fun b hb o e => ?_) hq2 ⟨L', es', ep', t', R2, g2⟩ fun s2 L2 es2 ep2 t2 mv2 R3 g3 hq3 => ?_⟩
      · exact (sb.2 b fun z => hSf (z ▸ hb)).trans e
      · refine hR s2 L2 es2 ep2 t2 (Moved.trans W.gtrans ((mv.mono up).then_heap (Nat.le_add_right _ _) fun b o hb e => ?_) mv2) R3 g3 hq3
        exact (sb.2 b fun z => hb (by rw [z]; exact List.mem_cons_self)).trans e
    show wpAny _ A.in1 (holding [Value.ref r.1] (setAdd S (.ref r.1)) >>= _) _ _ s'
    refine wpAny_bind (wpAny_holding ?_)
    unfold setAdd
    refine wpAny_holding ?_
    refine wpAny_bind (wpAny_pyHash_tuple hu hx ?_)
    refine add_set (s := { s' with toks := s'.toks + (r.2.length + 1) }) hS' hx hu small (fun hm => ?_) fun hm h' L' es' ep' t' sb R2 pm => ?_
    · exact next false s'.heap L es ep t (Heap.SameBut.refl S s'.heap) hS' (g.again hr hm)
    · exact next true h' L' es' ep' t' sb R2 (g.added hr pm)
end
end K82

set_option Elab.async false
set_option linter.all false
set_option maxRecDepth 100000
set_option maxHeartbeats 4000000
namespace K82
open PySem PySem.Spec PyProof.Rows L2

section
variable {P : Program} {w : World} {A : Around} {E : Value → Shared → Prop} {s : Shared}
/-- the heap when the loop begins: the new set, the list's iterator -/
abbrev setBegun (w : World) (h : Heap) (l : Addr) : Heap := (h.push (newSet w)).push { cls := .type "list_iterator", data := .fields #[.ref l, .int 0 0] }
/-- set(l), whatever its loop does: Z of the heap behind -/
theorem call_set_by {l : Addr} {items : Array Value} {Z : Heap → Nat → Prop} {Q : Value → Shared → Prop} (hl : s.heap.IsList l items)
    (loop : ∀ {R : Result → Shared → Prop}, (∀ h' tk, Z h' tk → R (.ok (.ret .none)) { s with heap := h', toks := tk }) →
      codeAny (model P w) A.in1.in1 (.builtin "set.update.loop" ⟨[.ref s.heap.objs.size, .ref (s.heap.objs.size + 1)], []⟩) R { s with heap := setBegun w s.heap l })
    (h : ∀ h' tk, Z h' tk → Q (.ref s.heap.objs.size) { s with heap := h', toks := tk }) :
    wpAny (model P w) A (call (.type "set") [.ref l]) Q E s := by
  obtain ⟨c, tl, hmro⟩ := F.called_set.mro
  have m1 := F.called_set.made
  have m2 := F.called_set.sub
  have m3 := F.called_set.notType
  have m4 := F.called_set.canCreate
  have m5 := F.typeCall_set_1 (.ref l)
  have hS : (s.heap.push (newSet w)).get? s.heap.objs.size = some (newSet w) := Heap.get?_push_size _ rfl
  have hT : Shared.TypeIs { s with heap := s.heap.push (newSet w) } (.ref s.heap.objs.size) "set" := ⟨_, hS, rfl⟩
  have m6 := F.called_set.init.lookup
  have m7 := F.called_set.init.bind (.ref s.heap.objs.size)
  refine wpAny_call (codeAny_of_tree ?_)
  show wpAny _ _ (callAny (.type "set") _) _ _ _
  refine wpAny_pure ⟨Code.quiet_builtin _ (by decide +kernel), codeAny_builtin F.entry_type_call ?_⟩
  rw [Around.under_plain (weight_type_call_type "set" [.ref l] []) rfl]
  repeat (any_goals (first | assumption | wp_step))
  refine codeAny_mono (code_set_led1 (.ref l) (E := E) (Q₁ := fun obj s₁ => obj = .ref s.heap.objs.size ∧ s₁ = { s with heap := s.heap.push (newSet w) }) ⟨rfl, rfl⟩) fun r s₁ hr => ?_
  match r, hr with
  | .error _, hr => exact hr
  | .ok .next, hr => exact hr.elim
  | .ok .brk, hr => exact hr.elim
  | .ok .cont, hr => exact hr.elim
  | .ok (.ret obj), hr =>
    obtain ⟨rfl, rfl⟩ := hr
    repeat (any_goals (first | assumption | wp_step))
    refine codeAny_mono (codeAny_call_builtin (R := wants (fun r s₂ => r = .none ∧ ∃ h' tk, s₂ = { s with heap := h', toks := tk } ∧ Z h' tk) E) F.called_set.init.plain F.entry_set_init (check_set_init_1 hT ?_)) fun r₂ s₂ hr₂ => ?_
    · obtain ⟨ol, hol, hcl, nl, hdl⟩ := hl
      obtain ⟨ocls, odict, odata, oslots⟩ := ol
      cases (show ocls = .type "list" from hcl)
      cases (show odata = .seq items nl from hdl)
      have hol' : (s.heap.push (newSet w)).get? l = some { cls := .type "list", dict := odict, data := .seq items nl, slots := oslots } := Heap.get?_push_of_some _ hol
      have hsls := F.sub_list_set
      have hslf := F.sub_list_frozenset
      have hne : (Value.type "list" == Value.type "dict") = false := by decide
      have hl1 : (s.heap.push (newSet w)).IsList l items := ⟨_, hol', rfl, nl, rfl⟩
      unfold Builtin.«set.__init__» noKeywords Builtin.Frozenset.updateFrom
      generalize hPI : pyIter = PI
      wp_walk
      subst hPI
      refine wpAny_pyIter_list hl1 ?_
      refine wpAny_bind (wpAny_runValue ?_)
      have z1 : (s.heap.push (newSet w)).objs.size = s.heap.objs.size + 1 := Heap.size_push ..
      have L := loop (R := fun r s' => ∃ h' tk, r = .ok (.ret .none) ∧ s' = { s with heap := h', toks := tk } ∧ Z h' tk) fun h' tk z => ⟨h', tk, rfl, rfl, z⟩
      rw [← z1] at L
      refine codeAny_mono L fun r s' hq => ?_
      obtain ⟨h', tk, rfl, rfl, z⟩ := hq
      refine wpAny_pure ?_
      show wpAny _ _ (ret Value.none) _ _ _
      exact wpAny_pure ⟨rfl, h', tk, rfl, z⟩
    · match r₂, hr₂ with
      | .error _, hr₂ => exact hr₂
      | .ok .next, hr₂ => exact hr₂.elim
      | .ok .brk, hr₂ => exact hr₂.elim
      | .ok .cont, hr₂ => exact hr₂.elim
      | .ok (.ret r), hr₂ =>
        obtain ⟨rfl, h', tk, rfl, z⟩ := hr₂
        repeat (any_goals (first | assumption | wp_step))
        exact h _ _ z
end
end K82

set_option Elab.async false
set_option linter.all false
set_option maxRecDepth 100000
set_option maxHeartbeats 4000000
namespace K82
open PySem PySem.Spec PyProof.Rows L2

/-! ## the order of pairs of texts -/
abbrev Pr := Str × Str
def encP (p : Pr) : PyData := .tuple [.str p.1, .str p.2]
def leP : Pr → Pr → Bool := W.dataLe false encP
theorem leP_total : W.TotalLe leP := by
  unfold leP W.dataLe
  exact W.sortLe_total _ _ _
theorem lt_or_eq_cps (x y : Str) : x.cps.toList < y.cps.toList ∨ x = y ∨ y.cps.toList < x.cps.toList := by
  rcases Classical.em (x.cps.toList < y.cps.toList) with h | h
  · exact .inl h
  · rcases Classical.em (y.cps.toList < x.cps.toList) with h2 | h2
    · exact .inr (.inr h2)
    · exact .inr (.inl (W.str_of_cps (List.le_antisymm (List.not_lt.mp h2) (List.not_lt.mp h))))
theorem ltP_eq (a b : Pr) : W.dataLt (encP a) (encP b) = if a.1 = b.1 then decide (a.2.cps.toList < b.2.cps.toList) else decide (a.1.cps.toList < b.1.cps.toList) := by
  unfold encP
  rw [W.dataLt_pair (by simp [W.alike]) (by simp [W.alike])]
  have e1 : ∀ x y : Str, PyData.eqv (.str x) (.str y) = decide (x = y) := fun x y => by
    by_cases e : x = y
    · simp [PyData.eqv, e]
    · simp [PyData.eqv, e]
  rw [e1, e1]
  by_cases h : a.1 = b.1
  · rw [if_pos (by simpa using h), if_pos h]
    by_cases h2 : a.2 = b.2
    · rw [if_pos (by simpa using h2), h2]
      exact (decide_eq_false (List.lt_irrefl _)).symm
    · rw [if_neg (by simpa using h2), W.dataLt_str]
  · rw [if_neg (by simpa using h), if_neg h, W.dataLt_str]
theorem leP_anti {a b : Pr} (h : leP a b = true) (h' : leP b a = true) : a = b := by
  have g : ∀ x y : Pr, leP x y = true → W.dataLt (encP y) (encP x) = false := fun x y q => by
    have z : leP x y = !W.dataLt (encP y) (encP x) := rfl
    rw [z] at q
    simpa using q
  have h1 := g _ _ h
  have h2 := g _ _ h'
  rw [ltP_eq] at h1 h2
  by_cases e : a.1 = b.1
  · rw [if_pos e] at h2
    rw [if_pos e.symm] at h1
    rcases lt_or_eq_cps a.2 b.2 with z | z | z
    · exact absurd z (of_decide_eq_false h2)
    · exact Prod.ext e z
    · exact absurd z (of_decide_eq_false h1)
  · rw [if_neg e] at h2
    rw [if_neg fun z => e z.symm] at h1
    rcases lt_or_eq_cps a.1 b.1 with z | z | z
    · exact absurd z (of_decide_eq_false h2)
    · exact absurd z e
    · exact absurd z (of_decide_eq_false h1)
/-- in order, each once -/
structure Neat (l : List Pr) : Prop where
  up : l.Pairwise fun a b => leP a b = true
  once : l.Nodup
theorem Neat.tail {a : Pr} {l : List Pr} (h : Neat (a :: l)) : Neat l := ⟨(List.pairwise_cons.mp h.up).2, (List.nodup_cons.mp h.once).2⟩
theorem neat_one : ∀ {l m : List Pr}, Neat l → Neat m → (∀ p, p ∈ l ↔ p ∈ m) → l = m
  | [], [], _, _, _ => rfl
  | [], b :: m, _, _, h => absurd ((h b).mpr List.mem_cons_self) List.not_mem_nil
  | a :: l, [], _, _, h => absurd ((h a).mp List.mem_cons_self) List.not_mem_nil
  | a :: l, b :: m, nl, nm, h => by
    have up1 := (List.pairwise_cons.mp nl.up).1
    have up2 := (List.pairwise_cons.mp nm.up).1
    have e : a = b := by
      rcases List.mem_cons.mp ((h a).mp List.mem_cons_self) with z | z
      · exact z
      · rcases List.mem_cons.mp ((h b).mpr List.mem_cons_self) with y | y
        · exact y.symm
        · exact leP_anti (up1 b y) (up2 a z)
    subst e
    have o1 := (List.nodup_cons.mp nl.once).1
    have o2 := (List.nodup_cons.mp nm.once).1
    rw [neat_one nl.tail nm.tail fun p => ⟨fun hp => ?_, fun hp => ?_⟩]
    · rcases List.mem_cons.mp ((h p).mp (List.mem_cons_of_mem _ hp)) with z | z
      · rw [z] at hp
        exact absurd hp o1
      · exact z
    · rcases List.mem_cons.mp ((h p).mpr (List.mem_cons_of_mem _ hp)) with z | z
      · rw [z] at hp
        exact absurd hp o2
      · exact z
/-- each member once -/
def each1 {α : Type} [DecidableEq α] : List α → List α
  | [] => []
  | a :: l => if a ∈ l then each1 l else a :: each1 l
theorem mem_each1 {α : Type} [DecidableEq α] {x : α} : ∀ {l : List α}, x ∈ each1 l ↔ x ∈ l
  | [] => Iff.rfl
  | a :: l => by
    unfold each1
    by_cases h : a ∈ l
    · rw [if_pos h, mem_each1]
      refine ⟨fun z => List.mem_cons_of_mem _ z, fun z => ?_⟩
      rcases List.mem_cons.mp z with e | e
      · rw [e]
        exact h
      · exact e
    · rw [if_neg h, List.mem_cons, List.mem_cons, mem_each1]
theorem nodup_each1 {α : Type} [DecidableEq α] : ∀ l : List α, (each1 l).Nodup
  | [] => List.nodup_nil
  | a :: l => by
    unfold each1
    by_cases h : a ∈ l
    · rw [if_pos h]
      exact nodup_each1 l
    · rw [if_neg h]
      exact List.nodup_cons.mpr ⟨fun z => h (mem_each1.mp z), nodup_each1 l⟩
/-- the members of a list, in order, each once -/
def neat (l : List Pr) : List Pr := (each1 l).mergeSort leP
theorem neat_neat (l : List Pr) : Neat (neat l) := by
  refine ⟨W.sort_pairwise leP_total _, ?_⟩
  exact (List.mergeSort_perm _ _).nodup_iff.mpr (nodup_each1 l)
theorem mem_neat {l : List Pr} {p : Pr} : p ∈ neat l ↔ p ∈ l := by
  unfold neat
  rw [List.mem_mergeSort, mem_each1]
theorem neat_of {l m : List Pr} (h : Neat m) (hm : ∀ p, p ∈ m ↔ p ∈ l) : m = neat l :=
  neat_one h (neat_neat l) fun p => (hm p).trans mem_neat.symm
theorem neat_congr {l m : List Pr} (h : ∀ p, p ∈ l ↔ p ∈ m) : neat l = neat m :=
  neat_of (neat_neat l) fun p => mem_neat.trans (h p)
end K82

set_option Elab.async false
set_option linter.all false
set_option maxRecDepth 100000
set_option maxHeartbeats 4000000
namespace K82
open PySem PySem.Spec PyProof.Rows L2

/-! ## sorting tuples of two texts -/
/-- the key of a pair -/
def pk (p : Pr) : List Key := [.inr p.1, .inr p.2]
theorem pk_inj {p q : Pr} (h : pk p = pk q) : p = q := by
  unfold pk at h
  injection h with h1 h2
  injection h2 with h2 _
  injection h1 with h1
  injection h2 with h2
  exact Prod.ext h1 h2
theorem pk_map (p : Pr) : (pk p).map kV = [.str p.1, .str p.2] := rfl
/-- a tuple of two texts, at an address -/
abbrev At := Addr × Pr
abbrev leA : At → At → Bool := fun x y => leP x.2 y.2
theorem reads_pair {P : Program} {w : World} {h : Heap} {b : At} (x : Tk P w h (pk b.2) b.1) : Reads h (.ref b.1) (encP b.2) [] := by
  obtain ⟨o, its, n, ho, hc, hd, hi⟩ := x
  have key : ∃ t u, its.toList = [.str b.2.1 t, .str b.2.2 u] := by
    have hi' : ItemsAre (mixKind P w) [.inr b.2.1, .inr b.2.2] its.toList := hi
    generalize its.toList = l at hi'
    cases hi' with
    | cons h1 r =>
      cases r with
      | cons h2 r2 =>
        cases r2
        obtain ⟨t, e1⟩ := Value.isStrOf_shape (x := b.2.1) (show Value.isStrOf b.2.1 _ = true from h1)
        obtain ⟨u, e2⟩ := Value.isStrOf_shape (x := b.2.2) (show Value.isStrOf b.2.2 _ = true from h2)
        exact ⟨t, u, by rw [e1, e2]⟩
  obtain ⟨t, u, e⟩ := key
  refine .tuple (as := []) ho hc hd ?_
  rw [e]
  exact .cons (as := []) (.str _ _) (.cons (as := []) (.str _ _) .nil)
section
variable {P : Program} {w : World} {A : Around} {E : Value → Shared → Prop} {s : Shared}
theorem alike_pairs (bs : List At) : W.AllAlike (bs.map fun b => encP b.2) := W.AllAlike.of fun b b' => by simp [encP, W.alike, W.alikeAll]
theorem sortable_pairs (bs : List At) : W.Sortable (bs.map fun b => encP b.2) := W.Sortable.tuples fun b => ⟨_, _, rfl⟩
theorem depth_pair (p : Pr) : (encP p).depth = 1 := by simp [encP, PyData.depth, PyData.depthAll]
theorem each_refs (bs : List At) : W.EachIs (fun (v : Value) (b : At) => v = .ref b.1) (bs.map fun b => Value.ref b.1) bs := by
  induction bs with
  | nil => exact .nil
  | cons b bs ih => exact .cons rfl ih
theorem refs_each : ∀ {vs : List Value} {bs : List At}, W.EachIs (fun (v : Value) (b : At) => v = .ref b.1) vs bs → vs = bs.map fun b => Value.ref b.1
  | _, _, .nil => rfl
  | _, _, .cons h t => by rw [List.map_cons, refs_each t, h]
theorem each_reads {h : Heap} : ∀ {bs : List At}, (∀ b ∈ bs, Tk P w h (pk b.2) b.1) → W.EachIs (fun (v : Value) (b : At) => ∃ as, Reads h v (encP b.2) as) (bs.map fun b => Value.ref b.1) bs
  | [], _ => .nil
  | b :: bs, hk => .cons ⟨[], reads_pair (hk b List.mem_cons_self)⟩ (each_reads fun c hc => hk c (List.mem_cons_of_mem _ hc))
theorem each_reads_but {h : Heap} {a : Addr} : ∀ {bs : List At}, (∀ b ∈ bs, Tk P w h (pk b.2) b.1) → W.EachIs (fun (v : Value) (b : At) => ∃ as, Reads h v (encP b.2) as ∧ ¬ a ∈ as) (bs.map fun b => Value.ref b.1) bs
  | [], _ => .nil
  | b :: bs, hk => .cons ⟨[], reads_pair (hk b List.mem_cons_self), List.not_mem_nil⟩ (each_reads_but fun c hc => hk c (List.mem_cons_of_mem _ hc))
theorem dataLe_at (bs : List At) : W.dataLe false (fun b : At => encP b.2) = leA := rfl
/-- l.sort() -/
theorem sort_at {a : Addr} {bs : List At} {n : Nat} {Q : Value → Shared → Prop} (ho : s.heap.get? a = some (seqObj "list" (bs.map fun b => Value.ref b.1).toArray n)) (hk : ∀ b ∈ bs, Tk P w s.heap (pk b.2) b.1)
    (hl : bs.length ≤ sizeLine) (hu : A.units + 2 < cLine)
    (h : Q .none { s with heap := sortedHeap s.heap a (bs.map fun b => Value.ref b.1) ((bs.mergeSort leA).map fun b => Value.ref b.1).toArray }) :
    wpAny (model P w) A (call (.builtin "list.sort") [.ref a]) Q E s := by
  refine W.list_sort_data (enc := fun b : At => encP b.2) (R := fun (v : Value) (b : At) => v = .ref b.1) ho (each_refs bs) (each_reads_but hk) (alike_pairs bs) (sortable_pairs bs) hl (fun b _ => by rw [depth_pair]; exact hu) fun out _ ho2 => ?_
  have e : out = (bs.mergeSort leA).map fun b => Value.ref b.1 := refs_each ho2
  rw [e]
  exact h
/-- sorted(l) of a list -/
theorem sorted_at {l : Addr} {bs : List At} {Q : Value → Shared → Prop} (hl : s.heap.IsList l (bs.map fun b => Value.ref b.1).toArray) (hk : ∀ b ∈ bs, Tk P w s.heap (pk b.2) b.1)
    (hn : bs.length ≤ sizeLine) (hu : A.units + 3 < cLine)
    (h : Q (.ref (s.heap.objs.size + 1)) { s with heap := sortedAll s.heap (bs.map fun b => Value.ref b.1) ((bs.mergeSort leA).map fun b => Value.ref b.1).toArray }) :
    wpAny (model P w) A (call (.builtin "sorted") [.ref l]) Q E s := by
  refine W.sorted_data (enc := fun b : At => encP b.2) (R := fun (v : Value) (b : At) => v = .ref b.1) hl (each_refs bs) (each_reads hk) (alike_pairs bs) (sortable_pairs bs) hn (fun b _ => by rw [depth_pair]; exact hu) fun out _ ho2 => ?_
  have e : out = (bs.mergeSort leA).map fun b => Value.ref b.1 := refs_each ho2
  rw [e]
  exact h
/-- sorted(x), x collected into a list of pairs -/
theorem sorted_by {a : Addr} {Q : Value → Shared → Prop} (hu : A.units + 3 < cLine)
    {C : List At → Prop} (gather : ∀ {R : List Value → Shared → Prop}, (∀ s' bs, (∀ b o, s.heap.get? b = some o → s'.heap.get? b = some o) → s'.gens = s.gens → s'.os = s.os →
      C bs → R (bs.map fun b => Value.ref b.1) s') → wpAny (model P w) A.in1 (collect (.ref a)) R E s)
    (hk : ∀ bs, C bs → bs.length ≤ sizeLine ∧ ∀ b ∈ bs, Tk P w s.heap (pk b.2) b.1)
    (h : ∀ s' p bs c, C bs → (∀ b o, s.heap.get? b = some o → s'.heap.get? b = some o) → s'.gens = s.gens → s'.os = s.os → s.heap.get? p = none →
      s'.heap.get? p = some (seqObj "list" ((bs.mergeSort leA).map fun b => Value.ref b.1).toArray c) → Q (.ref p) s') :
    wpAny (model P w) A (call (.builtin "sorted") [.ref a]) Q E s := by
  refine Calls.call_function_entry kind_sorted plain_sorted entry_sorted (args_sorted1 _) ?_
  unfold Builtin.«sorted»
  refine wpAny_bind (m := checkCount "sorted" 1 1 _) (wpAny_pure ?_)
  refine wpAny_bind (wpAny_mono (gather (R := fun vs s' => ∃ bs, vs = bs.map (fun b => Value.ref b.1) ∧ (∀ b o, s.heap.get? b = some o → s'.heap.get? b = some o) ∧ s'.gens = s.gens ∧ s'.os = s.os ∧ C bs)
    fun s' bs k g o c => ⟨bs, rfl, k, g, o, c⟩) (fun vs s1 q => ?_) fun _ _ q => q)
  obtain ⟨bs, rfl, k1, g1, o1, hC⟩ := q
  have hz : s.heap.get? s1.heap.objs.size = none := by
    cases e : s.heap.get? s1.heap.objs.size with
    | none => rfl
    | some u => exact absurd (Heap.lt_size (k1 _ _ e)) (Nat.lt_irrefl _)
  obtain ⟨hn, hk⟩ := hk bs hC
  refine wpAny_bind (wpAny_newList ?_ (by rw [List.length_map]; exact hn))
  have hL : (s1.heap.push (seqObj "list" (bs.map fun b => Value.ref b.1).toArray 0)).get? s1.heap.objs.size = some (seqObj "list" (bs.map fun b => Value.ref b.1).toArray 0) := Heap.get?_push_size _ rfl
  refine wpAny_bind (wpAny_holding (sort_at (s := { s1 with heap := s1.heap.push (seqObj "list" (bs.map fun b => Value.ref b.1).toArray 0) }) hL
    (fun b hb => tk_kept (hk b hb) fun c u e => Heap.get?_push_of_some _ (k1 c u e)) hn (by show A.units + 1 + 2 < cLine; omega) ?_))
  obtain ⟨c, hc⟩ := sortedHeap_at (vs := bs.map fun b => Value.ref b.1) (out := ((bs.mergeSort leA).map fun b => Value.ref b.1).toArray) hL
  refine wpAny_pure ⟨_, rfl, h _ s1.heap.objs.size bs c hC (fun b u e => ?_) g1 o1 hz hc⟩
  have q := k1 b u e
  have lt := Heap.lt_size q
  show (sortedHeap (s1.heap.push (seqObj "list" (bs.map fun b => Value.ref b.1).toArray 0)) s1.heap.objs.size (bs.map fun b => Value.ref b.1) ((bs.mergeSort leA).map fun b => Value.ref b.1).toArray).get? b = some u
  rw [sortedHeap_old (Nat.ne_of_lt lt) (by rw [size_push']; exact Nat.lt_succ_of_lt lt)]
  exact Heap.get?_push_of_some _ q
end
end K82

set_option Elab.async false
set_option linter.all false
set_option maxRecDepth 100000
set_option maxHeartbeats 4000000
namespace K82
open PySem PySem.Spec PyProof.Rows L2

/-! ## set(l), sorted(set), sorted(l), sorted(d): tuples of two texts -/
def rowsP (bs : List At) : List Row := bs.map fun b => (b.1, pk b.2)
/-- the set at a without its tuples -/
def SetP (P : Program) (w : World) (h : Heap) (a : Addr) (L : List At) : Prop :=
  ∃ (es : Array (Int × Value)) (ep : Nat) (t : SetTable), (∃ o, h.get? a = some o ∧ o.ExactSet ∧ o.data = .set es ep t) ∧ es.toList = cellsOf P w (rowsP L) ∧ TabOk t ((rowsP L).map fun r => tkh P w r.2) ∧
    (L.map (·.2)).Nodup ∧ (w.params.followText "set-order" = true ∨ t.led = true) ∧ L.length * 5 < t.mask * 3 ∧ L.length < 64
def SetPO (P : Program) (w : World) (a : Addr) (L : List At) : HO := .ext fun h => SetP P w h a L
theorem rowsP_keys (L : List At) : (rowsP L).map (·.2) = (L.map (·.2)).map pk := by
  unfold rowsP
  rw [List.map_map, List.map_map]
  rfl
theorem nodup_pk {l : List Pr} (h : l.Nodup) : (l.map pk).Nodup := by
  refine List.pairwise_map.mpr (List.Pairwise.imp (fun hn e => hn (pk_inj e)) h)
theorem nodup_of_pk {l : List Pr} (h : (l.map pk).Nodup) : l.Nodup := (List.pairwise_map.mp h).imp fun hn e => hn (congrArg pk e)
theorem setP_whole {P : Program} {w : World} {h : Heap} {a : Addr} {L : List At} (x : SetP P w h a L) (hk : ∀ b ∈ L, Tk P w h (pk b.2) b.1) : ∃ es ep t, Tset P w h a (rowsP L) es ep t := by
  obtain ⟨es, ep, t, h1, h2, h3, h4, h5, h6, h7⟩ := x
  refine ⟨es, ep, t, h1, h2, h3, ?_, fun r hr => ?_, h5, by unfold rowsP; rw [List.length_map]; exact h6, by unfold rowsP; rw [List.length_map]; exact h7⟩
  · rw [rowsP_keys]
    exact nodup_pk h4
  · obtain ⟨b, hb, e⟩ := List.mem_map.mp hr
    rw [← e]
    exact hk b hb
theorem setP_ok {P : Program} {w : World} {H : Hp} {h : Heap} {a : Addr} {L : List At} (x : SetP P w h a L) : ObjOk P w H h a (SetPO P w a L) := by
  have ⟨es, ep, t, ⟨o, ho, r⟩, q⟩ := x
  refine ⟨x, ⟨o, ho⟩, fun h1 h2 y k => ?_⟩
  obtain ⟨es', ep', t', ⟨o', ho', r'⟩, q'⟩ := y
  exact ⟨es', ep', t', ⟨o', k o' ho', r'⟩, q'⟩
theorem rows_pairs {bs : List At} : ∀ {L : List Row}, (∀ r ∈ L, r ∈ rowsP bs) → ∃ M : List At, L = rowsP M ∧ ∀ b ∈ M, b ∈ bs
  | [], _ => ⟨[], rfl, fun _ h => absurd h List.not_mem_nil⟩
  | r :: L, h => by
    obtain ⟨M, e, hM⟩ := rows_pairs (bs := bs) (L := L) fun q hq => h q (List.mem_cons_of_mem _ hq)
    obtain ⟨b, hb, eb⟩ := List.mem_map.mp (h r List.mem_cons_self)
    refine ⟨b :: M, ?_, fun c hc => ?_⟩
    · rw [e, ← eb]
      rfl
    · rcases List.mem_cons.mp hc with z | z
      · rw [z]
        exact hb
      · exact hM c z
theorem refs_rel : ∀ (bs : List At), Vals (bs.map fun b => V.ref b.1) (bs.map fun b => Value.ref b.1)
  | [] => .nil
  | _ :: bs => .cons rfl (refs_rel bs)
theorem refs_of : ∀ {bs : List At} {us : List Value}, Vals (bs.map fun b => V.ref b.1) us → us = bs.map fun b => Value.ref b.1
  | [], _, .nil => rfl
  | b :: bs, _, .cons r t => by
    cases r
    rw [refs_of t]
    rfl
/-- the pairs stand at their addresses -/
def Pairs (K : PySem.W.Frag) (H : Hp) (bs : List At) : Prop := ∀ b ∈ bs, SqT K H b.1 [.str b.2.1, .str b.2.2]
section
variable {X : Cx}
theorem Inv.tk {pins : List (Addr × Obj)} {σ : St} {H : Hp} {s : Shared} {b : Addr} {k : List Key} (I : Inv X pins σ H s) (h : SqT X.K H b (k.map kV)) : Tk X.prog X.w s.heap k b := by
  obtain ⟨its, r, ⟨o, ho, hc, n, hd⟩, _⟩ := I.tuple h
  exact ⟨o, its.toArray, n, ho, hc, hd, by simpa using items_are r⟩
/-- set(l) -/
def rSetP (K : PySem.W.Frag) (P : Program) (w : World) : List V → Hp → VK → Prop := fun xs H Q => ∃ (l : Addr) (bs : List At), xs = [V.ref l] ∧ SqL K H l (bs.map fun b => V.ref b.1) ∧ Pairs K H bs ∧ bs.length < 64 ∧
  ∀ a L, H a = none → (∀ b ∈ L, b ∈ bs) → (∀ b ∈ bs, b.2 ∈ L.map (·.2)) → (L.map (·.2)).Nodup → Q (.ref a) (upd H a (SetPO P w a L))
theorem cr_setP (hc : X.calm = true) (hu : X.A.units + 64 < cLine) : CallR X (.type "set") (rSetP X.K X.prog X.w) := by
  intro pins s σ H xs us Q I r h
  obtain ⟨l, bs, rfl, hl, hk, hf, q⟩ := h
  rw [Vals.ref1 r]
  obtain ⟨its, rv, pl, hz⟩ := I.list hl
  have hits := refs_of rv
  subst hits
  have hn : H s.heap.objs.size = none := I.hok.fresh (Nat.le_refl _)
  have keys : ∀ q ∈ rowsP bs, Tk X.prog X.w s.heap q.2 q.1 := fun q hq => by
    obtain ⟨b, hb, e⟩ := List.mem_map.mp hq
    rw [← e]
    exact Inv.tk I (k := pk b.2) (hk b hb)
  have lt : l < s.heap.objs.size := let ⟨_, e, _⟩ := pl.isList; Heap.lt_size e
  have free : ∀ b, s.heap.objs.size ≤ b → s.heap.get? b = none := fun b hb => Heap.get?_none_of_le hb
  refine call_set_by (P := X.prog) (w := X.w) (Z := fun h' tk => (∀ b o, s.heap.get? b = some o → h'.get? b = some o) ∧ ∃ L es ep t, Tset X.prog X.w h' s.heap.objs.size L es ep t ∧ From (rowsP bs) (rowsP bs).length L) pl.isList (fun {R} hR => ?_) fun h' tk ⟨k, L, es, ep, t, T, g⟩ => ?_
  · have hh : X.A.in1.in1.in1.handled = none := I.ok.hd hc
    have hne : l ≠ s.heap.objs.size + 1 := Nat.ne_of_lt (Nat.lt_succ_of_lt lt)
    have W := (Walks.list (prog := X.prog) (w := X.w) (A := X.A.in1.in1.in1) hh (s.heap.objs.size + 1) l hne (bs.map fun b => Value.ref b.1).toArray).toS
    have z1 : (s.heap.push (newSet X.w)).objs.size = s.heap.objs.size + 1 := Heap.size_push ..
    have it : (setBegun X.w s.heap l).get? (s.heap.objs.size + 1) = some { cls := .type "list_iterator", data := .fields #[.ref l, .int 0 0] } := by
      rw [← z1]
      exact Heap.get?_push_size _ rfl
    have lst : (setBegun X.w s.heap l).IsList l (bs.map fun b => Value.ref b.1).toArray := (pl.isList.push _).push _
    have old : ∀ b o, s.heap.get? b = some o → (setBegun X.w s.heap l).get? b = some o := fun b o e => Heap.get?_push_of_some _ (Heap.get?_push_of_some _ e)
    have theSet : (setBegun X.w s.heap l).get? s.heap.objs.size = some (newSet X.w) := Heap.get?_push_of_some _ (Heap.get?_push_size _ rfl)
    refine fill_set W s.heap.objs.size ?_ (rowsP bs) ?_ ?_ ?_ s.heap keys (free _ (Nat.le_refl _)) (fun b hb => free b ?_) (by show X.A.units + 1 + 1 + 1 < cLine; omega)
      ((bs.map fun b => Value.ref b.1).toArray.size - 0) 0 { s with heap := setBegun X.w s.heap l } rfl (Nat.zero_le _) ⟨⟨_, it, rfl, rfl⟩, lst⟩ old ⟨[], #[], 0, _, tset_new theSet, From.start _⟩ fun s' L es ep t mv T g kept => ?_
    · intro hm
      rcases List.mem_cons.mp hm with z | z
      · exact absurd z (Nat.ne_of_lt (Nat.lt_succ_self _))
      · exact absurd (List.mem_singleton.mp z) (Nat.ne_of_gt lt)
    · unfold rowsP
      simp
    · unfold rowsP
      rw [List.length_map]
      exact hf
    · intro i v hv
      have hv2 : (bs.map fun b => Value.ref b.1)[i]? = some v := by simpa using hv
      rw [List.getElem?_map] at hv2
      cases e : bs[i]? with
      | none =>
        rw [e] at hv2
        cases hv2
      | some b =>
        rw [e] at hv2
        refine ⟨(b.1, pk b.2), ?_, (Option.some.inj hv2).symm⟩
        unfold rowsP
        rw [List.getElem?_map, e]
        rfl
    · rw [List.mem_singleton.mp hb]
      exact Nat.le_succ _
    · obtain ⟨h', g2, d', tk', os'⟩ := s'
      have e1 : g2 = s.gens := mv.gens
      have e2 : d' = s.drawn := mv.drawn
      have e3 : os' = s.os := mv.os
      subst e1
      subst e2
      subst e3
      refine hR h' tk' ⟨kept, L, es, ep, t, T, ?_⟩
      have e : (bs.map fun b => Value.ref b.1).toArray.size = (rowsP bs).length := by unfold rowsP; simp
      rw [← e]
      exact g
  · obtain ⟨M, eM, hM⟩ := rows_pairs (bs := bs) fun r hr => List.mem_of_mem_take (g.some_ r hr)
    subst eM
    have sp : SetP X.prog X.w h' s.heap.objs.size M := by
      refine ⟨es, ep, t, T.obj, T.cells, T.tab, nodup_of_pk ?_, T.order, ?_, ?_⟩
      · rw [← rowsP_keys]
        exact T.once
      · have := T.room
        unfold rowsP at this
        rw [List.length_map] at this
        exact this
      · have := T.few
        unfold rowsP at this
        rw [List.length_map] at this
        exact this
    have all : ∀ b ∈ bs, b.2 ∈ M.map (·.2) := fun b hb => by
      have z := g.each (b.1, pk b.2) (by rw [List.take_length]; exact List.mem_map.mpr ⟨b, hb, rfl⟩)
      rw [rowsP_keys] at z
      obtain ⟨p, hp, e⟩ := List.mem_map.mp z
      rw [← pk_inj e]
      exact hp
    exact ⟨.ref s.heap.objs.size, _, I.laid (t' := tk) k (Nat.le_refl _) (setP_ok sp), rfl, q _ M hn hM all sp.choose_spec.choose_spec.choose_spec.2.2.2.1⟩

/-- what a sort hands back: a new list of the same tuples, their pairs in order -/
def SortedTo (bs : List At) (H : Hp) (Q : VK) : Prop := ∀ (out : List At) (p : Addr), out.Perm bs → (out.map (·.2)).Pairwise (fun a b => leP a b = true) → H p = none → Q (.ref p) (upd H p (.lst (out.map fun b => V.ref b.1)))
theorem sortA_pairwise (bs : List At) : ((bs.mergeSort leA).map (·.2)).Pairwise (fun a b => leP a b = true) := by
  refine List.pairwise_map.mpr ?_
  exact W.sort_pairwise (le := leA) ⟨fun a b c => leP_total.trans a.2 b.2 c.2, fun a b => leP_total.total a.2 b.2⟩ bs
theorem sorted_lay {pins : List (Addr × Obj)} {σ : St} {H : Hp} {s s' : Shared} {p : Addr} {bs : List At} {c : Nat} {Q : VK} (I : Inv X pins σ H s) (k : ∀ b o, s.heap.get? b = some o → s'.heap.get? b = some o) (g : s'.gens = s.gens) (o : s'.os = s.os)
    (hp : s.heap.get? p = none) (hg : s'.heap.get? p = some (seqObj "list" ((bs.mergeSort leA).map fun b => Value.ref b.1).toArray c)) (hn : bs.length ≤ sizeLine) (q : SortedTo bs H Q) : EP X pins σ Q (.ref p) s' := by
  have hf : H p = none := I.hok.gone hp
  have pm : (bs.mergeSort leA).Perm bs := List.mergeSort_perm _ _
  have hlen : ((bs.mergeSort leA).map fun b => V.ref b.1).length ≤ sizeLine := by rw [List.length_map, pm.length_eq]; exact hn
  have J : Inv X pins σ (upd H p (.lst ((bs.mergeSort leA).map fun b => V.ref b.1))) { s with heap := s'.heap, gens := s'.gens, drawn := s'.drawn, toks := s'.toks } :=
    I.call (ch := []) (Un.laidN k hp hf) (I.hok.laidN k hf ⟨hlen, _, c, refs_rel _, hg⟩) (by rw [g]; exact I.bare) (fun _ z => (nomatch z))
  have e : s' = { s with heap := s'.heap, gens := s'.gens, drawn := s'.drawn, toks := s'.toks } := by
    cases s'
    cases s
    cases o
    rfl
  rw [e]
  exact ⟨.ref p, _, J, rfl, q _ p pm (sortA_pairwise bs) hf⟩
/-- sorted(set) -/
def rSortedSet (K : PySem.W.Frag) (P : Program) (w : World) : List V → Hp → VK → Prop := fun vs H Q => ∃ (a : Addr) (L : List At), vs = [V.ref a] ∧ H a = some (SetPO P w a L) ∧ Pairs K H L ∧ SortedTo L H Q
theorem cr_sortedSet (hc : X.calm = true) (hu : X.A.units + 64 < cLine) : CallR X (.builtin "sorted") (rSortedSet X.K X.prog X.w) := by
  intro pins s σ H vs us Q I r h
  obtain ⟨a, L, rfl, ha, hk, q⟩ := h
  rw [Vals.ref1 r]
  have keys : ∀ b ∈ L, Tk X.prog X.w s.heap (pk b.2) b.1 := fun b hb => Inv.tk I (k := pk b.2) (hk b hb)
  have sp : SetP X.prog X.w s.heap a L := (I.hok a _ ha).1
  obtain ⟨es, ep, t, T⟩ := setP_whole sp keys
  obtain ⟨o, ho, hex, hd⟩ := T.obj
  have small : L.length < 64 := by
    have := T.few
    unfold rowsP at this
    rw [List.length_map] at this
    exact this
  have sz : es.size = L.length := by
    rw [size_of_cells T.cells]
    unfold rowsP
    rw [List.length_map]
  refine sorted_by (P := X.prog) (w := X.w) (C := fun bs => bs.Perm L) (by omega) (fun {R} hR => ?_) (fun bs pm => ⟨?_, fun b hb => keys b (pm.mem_iff.mp hb)⟩) fun s' p bs c pm k g os hp hg => ?_
  · refine collect_set (A := X.A.in1) (I.ok.hd hc) ⟨o, ho, hex.1, hd⟩ T.fits (by rw [sz]; unfold scanBound; omega) T.tab.ris T.order fun s1 vs k1 hz g1 o1 pm => ?_
    have e2 : es.toList.map (·.2) = L.map fun b => Value.ref b.1 := by
      rw [T.cells]
      unfold cellsOf rowsP
      rw [List.map_map, List.map_map]
      rfl
    rw [e2] at pm
    obtain ⟨bs, pb, eb⟩ := perm_lift (fun b : At => Value.ref b.1) pm L rfl
    rw [← eb]
    exact hR s1 bs k1 g1 o1 pb
  · rw [pm.length_eq, sizeLine_eq]
    omega
  · exact sorted_lay I k g os hp hg (by rw [pm.length_eq, sizeLine_eq]; omega) fun out p pm2 up hp2 => q out p (pm2.trans pm) up hp2
/-- sorted(l), a list -/
def rSortedAt (K : PySem.W.Frag) : List V → Hp → VK → Prop := fun vs H Q => ∃ (l : Addr) (bs : List At), vs = [V.ref l] ∧ SqL K H l (bs.map fun b => V.ref b.1) ∧ Pairs K H bs ∧ SortedTo bs H Q
theorem cr_sortedAt (hu : X.A.units + 64 < cLine) : CallR X (.builtin "sorted") (rSortedAt X.K) := by
  intro pins s σ H vs us Q I r h
  obtain ⟨l, bs, rfl, hl, hk, q⟩ := h
  rw [Vals.ref1 r]
  obtain ⟨its, rv, pl, hz⟩ := I.list hl
  have hits := refs_of rv
  subst hits
  have hn : bs.length ≤ sizeLine := by
    rw [List.length_map] at hz
    exact hz
  obtain ⟨c, hc⟩ := sortedAll_at s.heap (bs.map fun b => Value.ref b.1) ((bs.mergeSort leA).map fun b => Value.ref b.1).toArray
  refine sorted_at (P := X.prog) (w := X.w) pl.isList (fun b hb => Inv.tk I (k := pk b.2) (hk b hb)) hn (by omega) ?_
  exact sorted_lay (s' := { s with heap := sortedAll s.heap (bs.map fun b => Value.ref b.1) ((bs.mergeSort leA).map fun b => Value.ref b.1).toArray }) I (fun b o e => sortedAll_old e) rfl rfl (Heap.get?_none_of_le (Nat.le_succ _)) hc hn q
end
end K82

set_option Elab.async false
set_option linter.all false
set_option maxRecDepth 100000
set_option maxHeartbeats 4000000
namespace K82
open PySem PySem.Spec PyProof.Rows L2

/-- a dict whose keys are pairs of texts -/
def kvP (es : List (Pr × V)) : List (List Key × V) := es.map fun e => (pk e.1, e.2)
section
variable {X : Cx}
theorem keys_at {H : Hp} : ∀ {es : List (Pr × V)} {xs : List (List Key × Addr × Value)}, KT H (kvP es) xs →
    ∃ bs : List At, xs.map (fun x => x.2.1) = bs.map (·.1) ∧ bs.map (·.2) = es.map (·.1) ∧ ∀ b ∈ bs, H b.1 = some (.tup ((pk b.2).map kV)) := by
  intro es
  induction es with
  | nil =>
    intro xs h
    have h' : KT H [] xs := h
    cases h'
    exact ⟨[], rfl, rfl, fun _ z => absurd z List.not_mem_nil⟩
  | cons e es ih =>
    intro xs h
    have h' : KT H ((pk e.1, e.2) :: kvP es) xs := h
    cases h' with
    | @cons _ q _ qs h1 t =>
      obtain ⟨e1, e2, e3⟩ := h1
      obtain ⟨bs, b1, b2, b3⟩ := ih t
      refine ⟨(q.2.1, e.1) :: bs, ?_, ?_, fun b hb => ?_⟩
      · rw [List.map_cons, List.map_cons, b1]
      · rw [List.map_cons, List.map_cons, b2]
      · rcases List.mem_cons.mp hb with z | z
        · rw [z]
          exact e2
        · exact b3 b z
/-- sorted(d), d's keys pairs of texts: a new list of the keys' tuples -/
def rSortedD : List V → Hp → VK → Prop := fun vs H Q => ∃ (d : Addr) (es : List (Pr × V)), vs = [V.ref d] ∧ Rd H d (.dT (kvP es)) ∧
  ∀ (out : List At) (p : Addr), (out.map (·.2)).Perm (es.map (·.1)) → (out.map (·.2)).Pairwise (fun a b => leP a b = true) → (∀ b ∈ out, H b.1 = some (.tup ((pk b.2).map kV))) → H p = none → Q (.ref p) (upd H p (.lst (out.map fun b => V.ref b.1)))
theorem cr_sortedD (hc : X.calm = true) (hu : X.A.units + 64 < cLine) : CallR X (.builtin "sorted") rSortedD := by
  intro pins s σ H vs us Q I r h
  obtain ⟨d, es, rfl, hd, q⟩ := h
  rw [Vals.ref1 r]
  obtain ⟨z, hs, xs, pr, o, ents, ep, ho, hx, hdt, he, hn⟩ := (show ObjOk X.prog X.w H s.heap d (.dT (kvP es)) from hd.ok I.hok)
  obtain ⟨bs, b1, b2, b3⟩ := keys_at pr
  have l1 : ents.size = xs.length := size_of_entries he
  have l2 : (kvP es).length = xs.length := Paired.length pr
  have l3 : bs.length = xs.length := by
    have := congrArg List.length b1
    rw [List.length_map, List.length_map] at this
    exact this.symm
  refine sorted_by (P := X.prog) (w := X.w) (C := fun cs => cs = bs) (by omega) (fun {R} hR => ?_) (fun cs e => ?_) fun s' p cs c e k g os hp hg => ?_
  · refine PySem.W.kdu_collect (A := X.A.in1) (kdl_raw hs hx hdt) (I.ok.hd hc) ho (by rw [l1, ← l2]; exact z) fun h' tk acc kp it => ?_
    have ea : acc.toList = bs.map fun b => Value.ref b.1 := by
      have e2 : bs.map (fun b => Value.ref b.1) = (xs.map fun x => x.2.1).map Value.ref := by rw [b1, List.map_map]; rfl
      rw [e2, List.map_map]
      apply List.ext_getElem?
      intro j
      rw [List.getElem?_map]
      cases hj : acc.toList[j]? with
      | none =>
        have h1 := List.getElem?_eq_none_iff.mp hj
        rw [Array.length_toList, it.1, l1] at h1
        rw [List.getElem?_eq_none h1]
        rfl
      | some v =>
        obtain ⟨en, hen, hv⟩ := it.2 j v (by rw [← Array.getElem?_toList]; exact hj)
        have qe := entry_at he j
        rw [hen] at qe
        cases hb : xs[j]? with
        | none =>
          rw [hb] at qe
          cases qe
        | some b =>
          rw [hb] at qe
          have e3 : en = entryOfKey (tupleKind (mixKind X.prog X.w)) b := Option.some.inj qe
          rw [hv, e3]
          rfl
    rw [ea]
    exact hR { s with heap := h', toks := tk } bs kp rfl rfl rfl
  · subst e
    refine ⟨by rw [l3, ← l2]; exact z, fun b hb => ?_⟩
    exact Inv.tk I (k := pk b.2) (SqT.of (b3 b hb))
  · subst e
    refine sorted_lay I k g os hp hg (by rw [l3, ← l2]; exact z) fun out p pm up hp2 => q out p ?_ up (fun b hb => b3 b (pm.mem_iff.mp hb)) hp2
    have := pm.map (·.2)
    rw [b2] at this
    exact this
end
end K82

set_option Elab.async false
set_option linter.all false
set_option maxRecDepth 100000
set_option maxHeartbeats 4000000
namespace K82
open PySem PySem.Spec PyProof.Rows L2

/-! ## dicts as lists of pairs: what has a key -/
section
variable {κ : Type} [DecidableEq κ]
def has (kvs : List (κ × V)) (k : κ) : Prop := k ∈ kvs.map (·.1)
theorem has_iff {kvs : List (κ × V)} {k : κ} : (valV kvs k).isSome = true ↔ has kvs k := by
  rw [← valV_any]
  unfold has
  rw [List.any_eq_true, List.mem_map]
  constructor
  · rintro ⟨p, hp, e⟩
    exact ⟨p, hp, of_decide_eq_true e⟩
  · rintro ⟨p, hp, e⟩
    exact ⟨p, hp, decide_eq_true e⟩
theorem has_put {kvs : List (κ × V)} {k j : κ} {v : V} : has (putK kvs k v) j ↔ j = k ∨ has kvs j := by
  rw [← has_iff, ← has_iff, valV_put]
  by_cases e : j = k
  · rw [if_pos e]
    exact ⟨fun _ => .inl e, fun _ => rfl⟩
  · rw [if_neg e]
    exact ⟨fun h => .inr h, fun h => h.resolve_left e⟩
theorem not_has {kvs : List (κ × V)} {k : κ} : valV kvs k = none ↔ ¬ has kvs k := by
  rw [← has_iff]
  cases valV kvs k <;> simp
theorem keys_put {kvs : List (κ × V)} {k : κ} {v : V} (h : has kvs k) : (putK kvs k v).map (·.1) = kvs.map (·.1) := by
  unfold putK
  rw [valV_any, if_pos (has_iff.mpr h), List.map_map]
  refine List.map_congr_left fun p _ => ?_
  show (if p.1 = k then (p.1, v) else p).1 = p.1
  split <;> rfl
theorem keys_put_new {kvs : List (κ × V)} {k : κ} {v : V} (h : ¬ has kvs k) : (putK kvs k v).map (·.1) = kvs.map (·.1) ++ [k] := by
  rw [putK_new v (not_has.mpr h), List.map_append]
  rfl
theorem once_put {kvs : List (κ × V)} (k : κ) (v : V) (h : (kvs.map (·.1)).Nodup) : ((putK kvs k v).map (·.1)).Nodup := by
  by_cases c : has kvs k
  · rw [keys_put c]
    exact h
  · exact nd_putK v h (not_has.mpr c)
theorem len_le_of {l m : List κ} (hn : l.Nodup) (hs : ∀ x ∈ l, x ∈ m) : l.length ≤ m.length := by
  induction l generalizing m with
  | nil => exact Nat.zero_le _
  | cons a l ih =>
    have hd := List.nodup_cons.mp hn
    have ha : a ∈ m := hs a List.mem_cons_self
    have h2 := ih (m := m.erase a) hd.2 fun x hx => by
      have hxa : x ≠ a := fun e => hd.1 (e ▸ hx)
      exact (List.mem_erase_of_ne hxa).mpr (hs x (List.mem_cons_of_mem _ hx))
    rw [List.length_erase_of_mem ha] at h2
    have : 0 < m.length := List.length_pos_of_mem ha
    rw [List.length_cons]
    omega
end
theorem has_merge {kvs more : List (List Key × V)} {j : List Key} : has (mergeT kvs more) j ↔ has kvs j ∨ has more j := by
  unfold mergeT
  induction more generalizing kvs with
  | nil => exact ⟨.inl, fun h => h.resolve_right fun z => absurd z List.not_mem_nil⟩
  | cons p r ih =>
    rw [List.foldl_cons, ih, has_put]
    unfold has
    rw [List.map_cons, List.mem_cons]
    constructor
    · rintro ((h | h) | h)
      · exact .inr (.inl h)
      · exact .inl h
      · exact .inr (.inr h)
    · rintro (h | h | h)
      · exact .inl (.inr h)
      · exact .inl (.inl h)
      · exact .inr h
theorem once_merge {kvs more : List (List Key × V)} (h : (kvs.map (·.1)).Nodup) : ((mergeT kvs more).map (·.1)).Nodup := by
  unfold mergeT
  induction more generalizing kvs with
  | nil => exact h
  | cons p r ih =>
    rw [List.foldl_cons]
    exact ih (once_put p.1 p.2 h)
theorem has_mergeK {kvs more : List (Key × V)} {j : Key} : has (mergeK kvs more) j ↔ has kvs j ∨ has more j := by
  unfold mergeK
  induction more generalizing kvs with
  | nil => exact ⟨.inl, fun h => h.resolve_right fun z => absurd z List.not_mem_nil⟩
  | cons p r ih =>
    rw [List.foldl_cons, ih, has_put]
    unfold has
    rw [List.map_cons, List.mem_cons]
    constructor
    · rintro ((h | h) | h)
      · exact .inr (.inl h)
      · exact .inl h
      · exact .inr (.inr h)
    · rintro (h | h | h)
      · exact .inl (.inr h)
      · exact .inl (.inl h)
      · exact .inr h
theorem once_mergeK {kvs more : List (Key × V)} (h : (kvs.map (·.1)).Nodup) : ((mergeK kvs more).map (·.1)).Nodup := by
  unfold mergeK
  induction more generalizing kvs with
  | nil => exact h
  | cons p r ih =>
    rw [List.foldl_cons]
    exact ih (once_put p.1 p.2 h)

/-! ## writings -/
structure Wr where
  mark : List Key
  words : Str
  made : Str
  seen : List (List Key × V)
def Wr.pair (x : Wr) : Pr := (x.words, x.made)
/-- a writing at its address -/
abbrev AW := Addr × Wr
/-- what is seen by the next one -/
def seenM (ws : List AW) : List (List Key × V) := ws.foldl (fun acc p => mergeT (putK acc p.2.mark (.bl true)) p.2.seen) []
theorem seenM_more {ws : List AW} {i : Nat} {p : AW} (h : ws[i]? = some p) : seenM (ws.take (i + 1)) = mergeT (putK (seenM (ws.take i)) p.2.mark (.bl true)) p.2.seen := by
  unfold seenM
  rw [take_one_more h, List.foldl_append]
  rfl
theorem has_seenM {ws : List AW} {k : List Key} : has (seenM ws) k ↔ ∃ p ∈ ws, k = p.2.mark ∨ has p.2.seen k := by
  have key : ∀ (ws : List AW) (acc : List (List Key × V)), has (ws.foldl (fun acc p => mergeT (putK acc p.2.mark (.bl true)) p.2.seen) acc) k ↔ has acc k ∨ ∃ p ∈ ws, k = p.2.mark ∨ has p.2.seen k := by
    intro ws
    induction ws with
    | nil => exact fun acc => ⟨.inl, fun h => h.resolve_right fun ⟨_, z, _⟩ => absurd z List.not_mem_nil⟩
    | cons q r ih =>
      intro acc
      rw [List.foldl_cons, ih, has_merge, has_put]
      constructor
      · rintro (((h | h) | h) | ⟨p, hp, h⟩)
        · exact .inr ⟨q, List.mem_cons_self, .inl h⟩
        · exact .inl h
        · exact .inr ⟨q, List.mem_cons_self, .inr h⟩
        · exact .inr ⟨p, List.mem_cons_of_mem _ hp, h⟩
      · rintro (h | ⟨p, hp, h⟩)
        · exact .inl (.inl (.inr h))
        · rcases List.mem_cons.mp hp with e | hp
          · subst e
            rcases h with h | h
            · exact .inl (.inl (.inl h))
            · exact .inl (.inr h)
          · exact .inr ⟨p, hp, h⟩
  unfold seenM
  rw [key]
  exact ⟨fun h => h.resolve_left fun z => absurd z List.not_mem_nil, .inr⟩
theorem once_seenM (ws : List AW) : ((seenM ws).map (·.1)).Nodup := by
  have key : ∀ (ws : List AW) (acc : List (List Key × V)), (acc.map (·.1)).Nodup → ((ws.foldl (fun acc p => mergeT (putK acc p.2.mark (.bl true)) p.2.seen) acc).map (·.1)).Nodup := by
    intro ws
    induction ws with
    | nil => exact fun acc h => h
    | cons q r ih => exact fun acc h => ih _ (once_merge (once_put _ _ h))
  exact key ws [] List.nodup_nil
/-- all marks that come up lie among those of M -/
structure Among (M : List (List Key)) (ws : List AW) : Prop where
  few : M.length ≤ 1000
  mark : ∀ p ∈ ws, p.2.mark ∈ M
  seen : ∀ p ∈ ws, ∀ k, has p.2.seen k → k ∈ M
  slen : ∀ p ∈ ws, p.2.seen.length ≤ 1000
theorem Among.len {M : List (List Key)} {ws : List AW} (h : Among M ws) : (seenM ws).length ≤ M.length := by
  rw [← List.length_map (f := (·.1))]
  refine len_le_of (once_seenM ws) fun k hk => ?_
  obtain ⟨p, hp, e | e⟩ := has_seenM.mp hk
  · rw [e]
    exact h.mark p hp
  · exact h.seen p hp k e
theorem Among.sub {M : List (List Key)} {ws vs : List AW} (h : Among M ws) (hs : ∀ p ∈ vs, p ∈ ws) : Among M vs :=
  ⟨h.few, fun p hp => h.mark p (hs p hp), fun p hp => h.seen p (hs p hp), fun p hp => h.slen p (hs p hp)⟩

/-! ## unseen -/
/-- the dict of all writings by their marks -/
def addE (E : List AW) (p : AW) : List AW := if E.any (fun q => decide (q.2.mark = p.2.mark)) then E else E ++ [p]
def allE (ws : List AW) : List AW := ws.foldl addE []
def markKV (E : List AW) : List (List Key × V) := E.map fun p => (p.2.mark, .ref p.1)
/-- one mark, one writing -/
def OneMark (ws : List AW) : Prop := ∀ p ∈ ws, ∀ q ∈ ws, p.2.mark = q.2.mark → p = q
theorem allE_more {ws : List AW} {i : Nat} {p : AW} (h : ws[i]? = some p) : allE (ws.take (i + 1)) = addE (allE (ws.take i)) p := by
  unfold allE
  rw [take_one_more h, List.foldl_append]
  rfl
theorem mem_allE {ws : List AW} (h1 : OneMark ws) : ∀ {p : AW}, p ∈ allE ws ↔ p ∈ ws := by
  have key : ∀ (vs acc : List AW), (∀ p ∈ vs, p ∈ ws) → (∀ p ∈ acc, p ∈ ws) → ∀ p, p ∈ vs.foldl addE acc ↔ p ∈ acc ∨ p ∈ vs := by
    intro vs
    induction vs with
    | nil => exact fun acc _ _ p => ⟨.inl, fun h => h.resolve_right List.not_mem_nil⟩
    | cons q r ih =>
      intro acc hv ha p
      have hq := hv q List.mem_cons_self
      rw [List.foldl_cons]
      by_cases c : acc.any (fun x => decide (x.2.mark = q.2.mark)) = true
      · have e : addE acc q = acc := by unfold addE; rw [if_pos c]
        rw [e, ih acc (fun x hx => hv x (List.mem_cons_of_mem _ hx)) ha]
        refine ⟨fun h => h.imp_right (List.mem_cons_of_mem _), fun h => ?_⟩
        rcases h with h | h
        · exact .inl h
        · rcases List.mem_cons.mp h with z | z
          · obtain ⟨x, hx, ex⟩ := List.any_eq_true.mp c
            rw [z, ← h1 x (ha x hx) q hq (of_decide_eq_true ex)]
            exact .inl hx
          · exact .inr z
      · have e : addE acc q = acc ++ [q] := by unfold addE; rw [if_neg c]
        rw [e, ih (acc ++ [q]) (fun x hx => hv x (List.mem_cons_of_mem _ hx)) fun x hx => by
          rcases List.mem_append.mp hx with z | z
          · exact ha x z
          · rw [List.mem_singleton.mp z]
            exact hq]
        rw [List.mem_append, List.mem_singleton, List.mem_cons]
        constructor
        · rintro ((h | h) | h)
          · exact .inl h
          · exact .inr (.inl h)
          · exact .inr (.inr h)
        · rintro (h | h | h)
          · exact .inl (.inl h)
          · exact .inl (.inr h)
          · exact .inr h
  intro p
  unfold allE
  rw [key ws [] (fun p h => h) (fun p h => absurd h List.not_mem_nil)]
  exact ⟨fun h => h.resolve_left List.not_mem_nil, .inr⟩
theorem allE_len : ∀ ws : List AW, (allE ws).length ≤ ws.length := by
  have key : ∀ (vs acc : List AW), (vs.foldl addE acc).length ≤ acc.length + vs.length := by
    intro vs
    induction vs with
    | nil => exact fun acc => Nat.le_refl _
    | cons q r ih =>
      intro acc
      rw [List.foldl_cons, List.length_cons]
      have h := ih (addE acc q)
      have h2 : (addE acc q).length ≤ acc.length + 1 := by
        unfold addE
        split
        · exact Nat.le_succ _
        · rw [List.length_append]
          exact Nat.le_refl _
      omega
  intro ws
  have := key ws []
  unfold allE
  rw [List.length_nil] at this
  omega
/-- every[one.mark] = one -/
theorem markKV_put {ws E : List AW} {p : AW} (h1 : OneMark ws) (hE : ∀ q ∈ E, q ∈ ws) (hp : p ∈ ws) : putK (markKV E) p.2.mark (.ref p.1) = markKV (addE E p) := by
  have e1 : ((markKV E).any fun kv => decide (kv.1 = p.2.mark)) = E.any fun q => decide (q.2.mark = p.2.mark) := by
    unfold markKV
    rw [List.any_map]
    rfl
  unfold putK addE
  rw [e1]
  by_cases c : E.any (fun q => decide (q.2.mark = p.2.mark)) = true
  · rw [if_pos c, if_pos c]
    unfold markKV
    rw [List.map_map]
    refine List.map_congr_left fun q hq => ?_
    show (if q.2.mark = p.2.mark then (q.2.mark, V.ref p.1) else (q.2.mark, V.ref q.1)) = (q.2.mark, V.ref q.1)
    split
    · rename_i z
      rw [h1 q (hE q hq) p hp z]
    · rfl
  · rw [if_neg c, if_neg c]
    unfold markKV
    rw [List.map_append]
    rfl
/-- those that no one has seen -/
def unseenM (E : List AW) : List AW := E.filter fun p => !E.any fun q => (valV q.2.seen p.2.mark).isSome
/-- what unseen hands back of ws -/
structure Unseen (ws out : List AW) : Prop where
  mem : ∀ p, p ∈ out ↔ p ∈ ws ∧ ∀ q ∈ ws, ¬ has q.2.seen p.2.mark
  len : out.length ≤ ws.length
  once : (out.map fun p => p.2.mark).Nodup
theorem allE_once (ws : List AW) : ((allE ws).map fun p => p.2.mark).Nodup := by
  have key : ∀ (vs acc : List AW), (acc.map fun p => p.2.mark).Nodup → ((vs.foldl addE acc).map fun p => p.2.mark).Nodup := by
    intro vs
    induction vs with
    | nil => exact fun acc h => h
    | cons q r ih =>
      intro acc h
      rw [List.foldl_cons]
      refine ih _ ?_
      unfold addE
      split
      · exact h
      · rename_i c
        rw [List.map_append]
        refine nd_snoc h fun hm => c ?_
        obtain ⟨x, hx, ex⟩ := List.mem_map.mp hm
        exact List.any_eq_true.mpr ⟨x, hx, decide_eq_true ex⟩
  exact key ws [] List.nodup_nil
theorem unseen_spec {ws : List AW} (h1 : OneMark ws) : Unseen ws (unseenM (allE ws)) where
  mem := fun p => by
    unfold unseenM
    rw [List.mem_filter, mem_allE h1]
    refine and_congr_right fun _ => ?_
    rw [Bool.not_eq_true', Bool.eq_false_iff, Ne, List.any_eq_true]
    constructor
    · intro h q hq z
      exact h ⟨q, (mem_allE h1).mpr hq, has_iff.mpr z⟩
    · rintro h ⟨q, hq, z⟩
      exact h q ((mem_allE h1).mp hq) (has_iff.mp z)
  len := Nat.le_trans (List.length_filter_le _ _) (allE_len ws)
  once := (allE_once ws).sublist (List.Sublist.map _ List.filter_sublist)
end K82

set_option Elab.async false
set_option linter.all false
set_option maxRecDepth 100000
set_option maxHeartbeats 4000000
namespace K82
open PySem PySem.Spec PyProof.Rows L2

/-! ## the text by places -/
def top (i : Nat) : Stmt := PySem.Challenge.pw_saywell_k82_whole_who_saw_what.main.body.getD i (.Pass ⟨0, 0, 0, 0⟩)
abbrev sWInit : Stmt := inClass (top 17) 0
abbrev sSeen : Stmt := top 18
abbrev sUnseen : Stmt := top 19
abbrev sUnlike : Stmt := top 20
abbrev sBInit : Stmt := inClass (top 22) 0
abbrev sWrite : Stmt := inClass (top 22) 1
abbrev sTakeIn : Stmt := inClass (top 22) 2
abbrev sTold : Stmt := inClass (top 22) 3
abbrev sClashes : Stmt := inClass (top 22) 4
abbrev sWriting : Stmt := inClass (top 22) 5

/-! ## what stands in the heap -/
/-- a writing's fields -/
def wf (m : Addr) (x y : Str) (d : Addr) : List (Str × V) := [("mark", .ref m), ("words", .str x), ("made_from", .str y), ("seen", .ref d)]
theorem wf_mark (m : Addr) (x y : Str) (d : Addr) : List.lookup ("mark" : Str) (wf m x y d) = some (V.ref m) := rfl
theorem wf_words (m : Addr) (x y : Str) (d : Addr) : List.lookup ("words" : Str) (wf m x y d) = some (V.str x) := rfl
theorem wf_made (m : Addr) (x y : Str) (d : Addr) : List.lookup ("made_from" : Str) (wf m x y d) = some (V.str y) := rfl
theorem wf_seen (m : Addr) (x y : Str) (d : Addr) : List.lookup ("seen" : Str) (wf m x y d) = some (V.ref d) := rfl
/-- a writing at a -/
def WrAt (CW : Addr) (F : Hp) (a : Addr) (x : Wr) : Prop := ∃ dx m d, F a = some (.ins CW dx (wf m x.words x.made d)) ∧ F m = some (.tup (x.mark.map kV)) ∧ F d = some (.dT x.seen)
theorem WrAt.mono {CW : Addr} {F G : Hp} {a : Addr} {x : Wr} (h : WrAt CW F a x) (s : Same F G) : WrAt CW G a x :=
  let ⟨dx, m, d, h1, h2, h3⟩ := h
  ⟨dx, m, d, s _ _ h1, s _ _ h2, s _ _ h3⟩
def WrsAt (CW : Addr) (F : Hp) (ws : List AW) : Prop := ∀ p ∈ ws, WrAt CW F p.1 p.2
theorem WrsAt.mono {CW : Addr} {F G : Hp} {ws : List AW} (h : WrsAt CW F ws) (s : Same F G) : WrsAt CW G ws := fun p hp => (h p hp).mono s
abbrev refs (ws : List AW) : List V := ws.map fun p => V.ref p.1
theorem refs_at_i {ws : List AW} {i : Nat} {x : V} (h : (refs ws)[i]? = some x) : ∃ p, ws[i]? = some p ∧ x = .ref p.1 := by
  rw [List.getElem?_map] at h
  cases e : ws[i]? with
  | none =>
    rw [e] at h
    cases h
  | some p =>
    rw [e] at h
    exact ⟨p, rfl, (Option.some.inj h).symm⟩
/-- what the top has written of the class Writing -/
structure TxtW (K : PySem.W.Frag) (mg : Str → Option Value) (CW : Addr) : Prop where
  cl : Cls K CW
  nM : NoAttr K CW "mark"
  nW : NoAttr K CW "words"
  nF : NoAttr K CW "made_from"
  nS : NoAttr K CW "seen"
  mg : mg "Writing" = some (.ref CW)

/-! ## seen_by_next -/
def spSeen (K : PySem.W.Frag) (CW : Addr) : Sp := fun vs H Q _ => ∃ (l : Addr) (ws : List AW) (M : List (List Key)), vs = [.ref l] ∧ SqL K H l (refs ws) ∧ WrsAt CW H ws ∧ Among M ws ∧
  ∀ p, H p = none → Q (.ref p) (upd H p (.dT (seenM ws)))
theorem scSeen : FnScope ["writings", "found", "one"] ["writings"] (defScope sSeen) := ⟨rfl, rfl, rfl, by decide +kernel, rfl, by decide +kernel, by decide +kernel⟩
section
variable {P : Program} {w : World} {K : PySem.W.Frag} {mg : Str → Option Value} {base : Heap}
theorem ok_seen {f CW : Addr} {fd : FuncData} (F : Fun K "seen_by_next" "seen_by_next" sSeen f fd) (T : TxtW K mg CW) : FnOk P w K mg base CX0 1 f fd ["writings"] (spSeen K CW) := by
  refine F.ok scSeen (fun vs H Q E h => ?_) (fun cdv A outer s H vs Q E hr h => ?_)
  · obtain ⟨l, ws, M, rfl, _⟩ := h
    rfl
  · obtain ⟨l, ws, M, rfl, hl, hw, hM, k⟩ := h
    have hu := hu_of hr
    refine ⟨_, pss_cons (ps_set (i := 1) scSeen.nd rfl (Or.inl rfl) pe_dnewT)
      (pss_cons (ps_for PassesOwn.never rfl (pi_list (pv 0)) (pg_name (i := 2) scSeen.nd rfl (Or.inl rfl))
        (pss_cons (ps_dput hu (pv 1) (pe_fld (pv 2) rfl) pe_bl rfl)
          (pss_one (ps_expr (pe_bm PySem.F.plainAttrs_dict PySem.F.slot_dict_update PySem.F.type_dict_update (mt_updT hu) (pv 1) (pa_cons (pe_fld (pv 2) rfl) pa_nil))))))
      (pss_one (ps_ret (pv 1)))), ?_⟩
    intro d hd
    have same : ∀ kvs, Same H (upd H d (.dT kvs)) := fun kvs b o e => by
      rw [upd_ne (ne_of_none e hd)]
      exact e
    refine ⟨_, rfl, l, rfl, ⟨_, (same []).seq hl⟩, for_list (K := K) (a := l) (xs := refs ws)
      (fun i σ H' => ∃ v : Option V, σ = [some (.ref l), some (.ref d), v] ∧ H' = upd H d (.dT (seenM (ws.take i)))) ⟨none, rfl, rfl⟩
      (fun i σ H' _ ⟨_, _, e⟩ => by rw [e]; exact (same _).seq hl) ?_ ?_⟩
    · rintro i x σ H' hi ⟨v, rfl, rfl⟩
      obtain ⟨p, hp, rfl⟩ := refs_at_i hi
      have hm : p ∈ ws := List.mem_of_getElem? hp
      obtain ⟨dx, m, e, h1, h2, h3⟩ := hw p hm
      have n3 : d ≠ e := (ne_of_none h3 hd).symm
      have g1 : ∀ kvs, upd H d (.dT kvs) p.1 = some (.ins CW dx (wf m p.2.words p.2.made e)) := fun kvs => same kvs _ _ h1
      have g2 : ∀ kvs, upd H d (.dT kvs) m = some (.tup (p.2.mark.map kV)) := fun kvs => same kvs _ _ h2
      have g3 : ∀ kvs, upd H d (.dT kvs) e = some (.dT p.2.seen) := fun kvs => same kvs _ _ h3
      have len1 : (seenM (ws.take i)).length ≤ 1000 := Nat.le_trans (hM.sub fun q hq => List.mem_of_mem_take hq).len hM.few
      have len2 : (putK (seenM (ws.take i)) p.2.mark (.bl true)).length ≤ 1001 := Nat.le_trans (length_putK _ _ _) (Nat.succ_le_succ len1)
      have len3 : p.2.seen.length ≤ 1000 := hM.slen p hm
      refine ⟨_, rfl, _, rfl, p.1, CW, dx, _, _, rfl, g1 _, T.cl, T.nM, wf_mark _ _ _ _, d, _, rfl, DPut.t upd_same (g2 _) (small1000 len1), ?_⟩
      rw [upd_upd]
      refine ⟨_, rfl, .inr (.inr (.inl ⟨rfl, .inr ⟨_, upd_same⟩⟩)), _, rfl, p.1, CW, dx, _, _, rfl, g1 _, T.cl, T.nS, wf_seen _ _ _ _, d, e, _, _, rfl, rfl, n3, upd_same, g3 _, ?_, ?_, ?_⟩
      · intro z
        have c : has (putK (seenM (ws.take i)) p.2.mark (.bl true)) p.2.mark := has_put.mpr (.inl rfl)
        rw [z] at c
        exact absurd c List.not_mem_nil
      · rw [sizeLine_eq]
        omega
      · rw [upd_upd]
        exact ⟨_, rfl, by rw [seenM_more hp]⟩
    · rintro σ H' ⟨v, rfl, rfl⟩
      have e : ws.take (refs ws).length = ws := by rw [List.length_map, List.take_length]
      rw [e]
      exact ⟨_, rfl, k d hd⟩
end
end K82

set_option Elab.async false
set_option linter.all false
set_option maxRecDepth 100000
set_option maxHeartbeats 4000000
namespace K82
open PySem PySem.Spec PyProof.Rows L2

theorem _root_.L2.Same.new {H H' : Hp} {p : Addr} {o : HO} (s : Same H H') (h : H' p = none) : Same H (upd H' p o) := fun b u e => by
  rw [upd_ne (ne_of_none (s b u e) h)]
  exact s b u e
theorem _root_.L2.Same.over {H H' : Hp} {p : Addr} {o : HO} (s : Same H H') (h : H p = none) : Same H (upd H' p o) := fun b u e => by
  rw [upd_ne (ne_of_none e h)]
  exact s b u e
theorem if_yes {b : Bool} {A B : Prop} (h : b = true) (x : A) : if b = true then A else B := by
  rw [if_pos h]
  exact x
/-- a comprehension without a test -/
theorem yes_if {σ : St} {H : Hp} {A B : Hp → Prop} (h : A H) : tYes σ H (fun b H3 => if b = true then A H3 else B H3) := by
  show (if true = true then A H else B H)
  rw [if_pos rfl]
  exact h
theorem if_no {b : Bool} {A B : Prop} (h : ¬ b = true) (x : B) : if b = true then A else B := by
  rw [if_neg h]
  exact x
theorem markKV_at {E : List AW} {i : Nat} {k : List Key} {v : V} (h : (markKV E)[i]? = some (k, v)) : ∃ p, E[i]? = some p ∧ k = p.2.mark ∧ v = .ref p.1 := by
  unfold markKV at h
  rw [List.getElem?_map] at h
  cases e : E[i]? with
  | none =>
    rw [e] at h
    cases h
  | some p =>
    rw [e] at h
    have z := Option.some.inj h
    injection z with z1 z2
    exact ⟨p, rfl, z1.symm, z2.symm⟩
theorem refs_add (a b : List AW) : refs (a ++ b) = refs a ++ refs b := List.map_append
theorem length_markKV (E : List AW) : (markKV E).length = E.length := List.length_map _

/-! ## unseen -/
def spUnseen (K : PySem.W.Frag) (CW : Addr) : Sp := fun vs H Q _ => ∃ (l : Addr) (ws : List AW), vs = [.ref l] ∧ SqL K H l (refs ws) ∧ WrsAt CW H ws ∧ OneMark ws ∧ ws.length ≤ 1000 ∧
  ∀ H' p out, Same H H' → H p = none → H' p = some (.lst (refs out)) → Unseen ws out → Q (.ref p) H'
abbrev nUnseen : List Str := ["writings", "every", "one", "found", "mark", "other"]
theorem scUnseen : FnScope nUnseen ["writings"] (defScope sUnseen) := ⟨rfl, rfl, rfl, by decide +kernel, rfl, by decide +kernel, by decide +kernel⟩
section
variable {P : Program} {w : World} {K : PySem.W.Frag} {mg : Str → Option Value} {base : Heap}
theorem ok_unseen {f CW : Addr} {fd : FuncData} (F : Fun K "unseen" "unseen" sUnseen f fd) (T : TxtW K mg CW) (mAny : mg "any" = none) : FnOk P w K mg base CX0 1 f fd ["writings"] (spUnseen K CW) := by
  refine F.ok scUnseen (fun vs H Q E h => ?_) (fun cdv A outer s H vs Q E hr h => ?_)
  · obtain ⟨l, ws, rfl, _⟩ := h
    rfl
  · obtain ⟨l, ws, rfl, hl, hw, h1, hlen, k⟩ := h
    have hu := hu_of hr
    refine ⟨_, pss_cons (ps_set (i := 1) scUnseen.nd rfl (Or.inl rfl) pe_dnewT)
      (pss_cons (ps_for PassesOwn.never rfl (pi_list (pv 0)) (pg_name (i := 2) scUnseen.nd rfl (Or.inl rfl))
        (pss_one (ps_dput hu (pv 1) (pe_fld (pv 2) rfl) (pv 2) rfl)))
      (pss_cons (ps_set (i := 3) scUnseen.nd rfl (Or.inl rfl) (pe_lst pa_nil))
      (pss_cons (ps_lock (ps_for PassesOwn.never rfl (pi_itemsT (pv 1)) (pg_tup rfl (pgs_cons (pg_name (i := 4) scUnseen.nd rfl (Or.inr rfl)) (pgs_cons (pg_name (i := 2) scUnseen.nd rfl (Or.inl rfl)) pgs_nil)))
        (pss_one (ps_if (pt_not (pt_val (pe_callB (cr_any rfl) rfl mAny (by decide +kernel) (pa_cons
            (pe_lc (own := [("other", 5)]) (g := gName 5) (tt := tYes) (te := tDIn (tVar 4) (tFld K (tVar 5) "seen")) rfl scUnseen.nd (pi_valuesT (pv 1)) (blkOk_by (own := [("other", 5)]) (N := nUnseen) (sc := defScope sUnseen) (by decide +kernel))
              (fun _ _ _ _ _ => pg_name (i := 5) scUnseen.nd rfl (Or.inl rfl)) (fun _ _ _ _ _ => pts_nil) (fun _ _ _ _ _ => by exact pe_cmp (pc_din hu (pv 4) (pe_fld (pv 5) rfl)))) pa_nil))))
          (pss_one (ps_expr (pe_bm PySem.F.plainAttrs_list PySem.F.slot_list_append PySem.F.type_list_append mt_append (pv 3) (pa_cons (pv 2) pa_nil)))) pss_nil))))
      (pss_one (ps_ret (pv 3)))))), ?_⟩
    intro d hd
    have same : ∀ kvs, Same H (upd H d (.dT kvs)) := fun kvs => (Same.refl H).over hd
    refine ⟨_, rfl, l, rfl, ⟨_, (same []).seq hl⟩, for_list (K := K) (a := l) (xs := refs ws)
      (fun i σ H' => ∃ v : Option V, σ = [some (.ref l), some (.ref d), v, none, none, none] ∧ H' = upd H d (.dT (markKV (allE (ws.take i))))) ⟨none, rfl, rfl⟩
      (fun i σ H' _ ⟨_, _, e⟩ => by rw [e]; exact (same _).seq hl) ?_ ?_⟩
    · rintro i x σ H' hi ⟨v, rfl, rfl⟩
      obtain ⟨p, hp, rfl⟩ := refs_at_i hi
      have hm : p ∈ ws := List.mem_of_getElem? hp
      obtain ⟨dx, m, e, g1, g2, g3⟩ := hw p hm
      have len1 : (markKV (allE (ws.take i))).length ≤ 1000 := by
        rw [length_markKV]
        exact Nat.le_trans (allE_len _) (Nat.le_trans (by rw [List.length_take]; exact Nat.min_le_right _ _) hlen)
      refine ⟨_, rfl, _, rfl, _, rfl, p.1, CW, dx, _, _, rfl, same _ _ _ g1, T.cl, T.nM, wf_mark _ _ _ _, d, _, rfl, DPut.t upd_same (same _ _ _ g2) (small1000 len1), some (V.ref p.1), rfl, ?_⟩
      have om : OneMark (ws.take i) := fun a ha b hb => h1 a (List.mem_of_mem_take ha) b (List.mem_of_mem_take hb)
      rw [upd_upd, markKV_put (ws := ws) h1 (fun q hq => List.mem_of_mem_take ((mem_allE om).mp hq)) hm, allE_more hp]
    · rintro σ H' ⟨v, rfl, rfl⟩
      have e : ws.take (refs ws).length = ws := by rw [List.length_map, List.take_length]
      rw [e]
      have mE : ∀ q, q ∈ allE ws ↔ q ∈ ws := fun q => mem_allE h1
      have lenE : (allE ws).length ≤ 1000 := Nat.le_trans (allE_len ws) hlen
      have fin := unseen_spec h1
      unfold unseenM at fin
      generalize hE : allE ws = E at mE lenE fin ⊢
      refine ⟨Nat.zero_le _, fun p hp => ?_⟩
      have npd : p ≠ d := fun z => by rw [z, upd_same] at hp; cases hp
      have hp0 : H p = none := by rw [upd_ne npd] at hp; exact hp
      have s2 : Same H (upd (upd H d (.dT (markKV E))) p (.lst [])) := ((Same.refl H).over hd).over hp0
      refine ⟨d, .dT (markKV E), (by rw [upd_ne npd.symm, upd_same]), True.intro, fun od => ?_⟩
      refine ⟨_, rfl, d, od, markKV E, rfl, upd_same, for_it walk_itemsT
        (fun i σ H' => ∃ v2 v4 : Option V, σ = [some (.ref l), some (.ref d), v2, some (.ref p), v4, none] ∧ Same H H' ∧ H' d = some (.frz od (.dT (markKV E))) ∧
          H' p = some (.lst (refs ((E.take i).filter fun x => !E.any fun y => (valV y.2.seen x.2.mark).isSome))))
        ⟨v, none, rfl, s2.over hd, upd_same, ?_⟩ (fun i σ H' _ ⟨_, _, _, _, h, _⟩ => h) ?_ ?_⟩
      · rw [upd_ne npd, upd_same]
        rfl
      · rintro i x σ H1 H2 hi ⟨v2, v4, rfl, sH, hfd, hfp⟩ ⟨Ti, key, v, q, hkv, rfl, hT, hq, rfl⟩
        obtain ⟨me, hme, rfl, rfl⟩ := markKV_at hkv
        have hmE : me ∈ E := List.mem_of_getElem? hme
        have nTd : d ≠ Ti := ne_of_none hfd hT
        have nTp : p ≠ Ti := ne_of_none hfp hT
        have nTq : q ≠ Ti := ne_of_none hq hT
        have sT : Same H1 (upd H1 Ti (.tup [.ref q, .ref me.1])) := (Same.refl H1).new hT
        refine ⟨Ti, _, rfl, SqT.of upd_same, rfl, _, _, rfl, _, _, rfl, rfl, ?_⟩
        -- any([..])
        refine ⟨_, rfl, d, od, markKV E, rfl, (by rw [upd_ne nTd]; exact hfd), fun D hD => ?_⟩
        have hD1 : H1 D = none := sT.free hD
        have nDd : d ≠ D := ne_of_none hfd hD1
        have nDp : p ≠ D := ne_of_none hfp hD1
        have nDq : q ≠ D := ne_of_none hq hD1
        refine lc_it walk_valsT (fun j H' => Same H1 H' ∧ H' D = some (.lst ((E.take j).map fun y => V.bl (valV y.2.seen me.2.mark).isSome))) ⟨sT.over hD1, upd_same⟩ (fun j H' _ h => h.1 _ _ hfd) ?_ ?_
        · rintro j x H3 H4 hj ⟨sD, hDl⟩ ⟨rfl, key2, hkv2⟩
          obtain ⟨y, hy, _, rfl⟩ := markKV_at hkv2
          have hyE : y ∈ E := List.mem_of_getElem? hy
          obtain ⟨dx, m, e2, g1, g2, g3⟩ := (hw y ((mE y).mp hyE)).mono (sH.trans sD)
          have lenD : ((E.take j).map fun y => V.bl (valV y.2.seen me.2.mark).isSome).length < sizeLine := by
            rw [List.length_map]
            exact small1000 (Nat.le_trans (by rw [List.length_take]; exact Nat.min_le_right _ _) lenE)
          refine ⟨rfl, ?_⟩
          refine yes_if ?_
          refine ⟨_, rfl, _, rfl, y.1, CW, dx, _, _, rfl, g1, T.cl, T.nS, wf_seen _ _ _ _, e2, _, rfl, DGet.t g3 (sD _ _ hq), _, hDl, lenD, sD.over hD1, ?_⟩
          rw [upd_same, take_one_more hy, List.map_append]
          rfl
        · rintro H3 ⟨sD, hDl⟩
          rw [length_markKV, List.take_length] at hDl
          refine ⟨D, E.map fun y => (valV y.2.seen me.2.mark).isSome, rfl, SqL.of (by rw [hDl, List.map_map]; rfl), _, rfl, ?_⟩
          have ea : (E.map fun y => (valV y.2.seen me.2.mark).isSome).any id = E.any fun y => (valV y.2.seen me.2.mark).isSome := by rw [List.any_map]; rfl
          have hp3 := sD _ _ hfp
          have hd3 := sD _ _ hfd
          have lenF : ((E.take i).filter fun x => !E.any fun y => (valV y.2.seen x.2.mark).isSome).length ≤ 1000 :=
            Nat.le_trans (List.length_filter_le _ _) (Nat.le_trans (by rw [List.length_take]; exact Nat.min_le_right _ _) lenE)
          have step : (E.take (i + 1)).filter (fun x => !E.any fun y => (valV y.2.seen x.2.mark).isSome) = (E.take i).filter (fun x => !E.any fun y => (valV y.2.seen x.2.mark).isSome) ++
              (if (!E.any fun y => (valV y.2.seen me.2.mark).isSome) = true then [me] else []) := by
            rw [take_one_more hme, List.filter_append, List.filter_cons]
            rfl
          rw [ea]
          by_cases c : (!E.any fun y => (valV y.2.seen me.2.mark).isSome) = true
          · rw [if_pos c] at step
            refine if_yes c ⟨_, rfl, .inl ⟨rfl, _, SqL.of hp3⟩, _, rfl, p, _, _, rfl, rfl, hp3, ?_, ?_⟩
            · rw [List.length_map]
              exact small1000 lenF
            · refine ⟨some (V.ref me.1), some (V.ref q), rfl, (sH.trans sD).over hp0, by rw [upd_ne npd.symm]; exact hd3, ?_⟩
              rw [upd_same, step, refs_add]
              rfl
          · rw [if_neg c] at step
            refine if_no c ⟨some (V.ref me.1), some (V.ref q), rfl, sH.trans sD, hd3, ?_⟩
            rw [step, List.append_nil]
            exact hp3
      · rintro σ H' ⟨v2, v4, rfl, sH, hfd, hfp⟩
        rw [length_markKV, List.take_length] at hfp
        refine ⟨hfd, _, rfl, k _ p _ (sH.over hd) hp0 ?_ fin⟩
        rw [upd_ne npd]
        exact hfp
end
end K82

set_option Elab.async false
set_option linter.all false
set_option maxRecDepth 100000
set_option maxHeartbeats 4000000
namespace K82
open PySem PySem.Spec PyProof.Rows L2

abbrev atRefs (bs : List At) : List V := bs.map fun b => V.ref b.1
theorem atRefs_add (a b : List At) : atRefs (a ++ b) = atRefs a ++ atRefs b := List.map_append
/-- tuples of two texts, made between H and H' -/
def Made (H H' : Hp) (bs : List At) : Prop := ∀ b ∈ bs, H b.1 = none ∧ H' b.1 = some (.tup [.str b.2.1, .str b.2.2])
theorem Made.more {H H' H2 : Hp} {bs : List At} (m : Made H H' bs) (s : Same H' H2) : Made H H2 bs := fun b hb => ⟨(m b hb).1, s _ _ (m b hb).2⟩
theorem Made.earlier {H0 H H' : Hp} {bs : List At} (m : Made H H' bs) (s : Same H0 H) : Made H0 H' bs := fun b hb => ⟨s.free (m b hb).1, (m b hb).2⟩
theorem perm_neat {bs out L : List At} (h1 : ∀ b ∈ L, b ∈ bs) (h2 : ∀ b ∈ bs, b.2 ∈ L.map (·.2)) (h3 : (L.map (·.2)).Nodup) (pm : out.Perm L) (up : (out.map (·.2)).Pairwise fun a b => leP a b = true) :
    out.map (·.2) = neat (bs.map (·.2)) ∧ ∀ b ∈ out, b ∈ bs := by
  refine ⟨neat_of ⟨up, (pm.map (·.2)).nodup_iff.mpr h3⟩ fun p => ?_, fun b hb => h1 b (pm.mem_iff.mp hb)⟩
  rw [(pm.map (·.2)).mem_iff]
  constructor
  · intro hp
    obtain ⟨b, hb, e⟩ := List.mem_map.mp hp
    exact List.mem_map.mpr ⟨b, h1 b hb, e⟩
  · intro hp
    obtain ⟨b, hb, e⟩ := List.mem_map.mp hp
    rw [← e]
    exact h2 b hb

/-! ## unlike -/
def spUnlike (K : PySem.W.Frag) (CW : Addr) : Sp := fun vs H Q _ => ∃ (l : Addr) (ws : List AW), vs = [.ref l] ∧ SqL K H l (refs ws) ∧ WrsAt CW H ws ∧ ws.length < 64 ∧
  ∀ H' p out, Same H H' → H p = none → H' p = some (.lst (atRefs out)) → out.map (·.2) = neat (ws.map fun x => x.2.pair) → Made H H' out → Q (.ref p) H'
abbrev nUnlike : List Str := ["writings", "one"]
theorem scUnlike : FnScope nUnlike ["writings"] (defScope sUnlike) := ⟨rfl, rfl, rfl, by decide +kernel, rfl, by decide +kernel, by decide +kernel⟩
section
variable {P : Program} {w : World} {K : PySem.W.Frag} {mg : Str → Option Value} {base : Heap}
theorem ok_unlike {f CW : Addr} {fd : FuncData} (F : Fun K "unlike" "unlike" sUnlike f fd) (T : TxtW K mg CW) (mSorted : mg "sorted" = none) (mSet : mg "set" = none) : FnOk P w K mg base CX0 1 f fd ["writings"] (spUnlike K CW) := by
  refine F.ok scUnlike (fun vs H Q E h => ?_) (fun cdv A outer s H vs Q E hr h => ?_)
  · obtain ⟨l, ws, rfl, _⟩ := h
    rfl
  · obtain ⟨l, ws, rfl, hl, hw, hlen, k⟩ := h
    have hu := hr.units
    refine ⟨_, pss_one (ps_ret (pe_callB (cr_sortedSet rfl hu) rfl mSorted (by decide +kernel) (pa_cons (pe_callTy (cr_setP rfl hu) rfl mSet (by decide +kernel) (pa_cons
      (pe_lc (own := [("one", 1)]) (g := gName 1) (tt := tYes) (te := tTup (tCons (tFld K (tVar 1) "words") (tCons (tFld K (tVar 1) "made_from") tNil))) rfl scUnlike.nd (pi_list (pv 0))
        (blkOk_by (own := [("one", 1)]) (N := nUnlike) (sc := defScope sUnlike) (by decide +kernel)) (fun _ _ _ _ _ => pg_name (i := 1) scUnlike.nd rfl (Or.inl rfl)) (fun _ _ _ _ _ => pts_nil)
        (fun _ _ _ _ _ => by exact pe_tup (pa_cons (pe_fld (pv 1) rfl) (pa_cons (pe_fld (pv 1) rfl) pa_nil)))) pa_nil)) pa_nil))), ?_⟩
    refine ⟨_, rfl, l, rfl, ⟨_, hl⟩, fun D hD => ?_⟩
    refine lc_list (K := K) (a := l) (xs := refs ws) (fun i H' => ∃ bs : List At, Same H H' ∧ H' D = some (.lst (atRefs bs)) ∧ bs.map (·.2) = (ws.take i).map (fun x => x.2.pair) ∧ Made H H' bs)
      ⟨[], (Same.refl H).over hD, upd_same, rfl, fun _ z => absurd z List.not_mem_nil⟩ (fun i H' _ ⟨_, sH, _⟩ => sH.seq hl) ?_ ?_
    · rintro i x H1 hi ⟨bs, sH, hDl, hb, hm⟩
      obtain ⟨p, hp, rfl⟩ := refs_at_i hi
      obtain ⟨dx, m, e, g1, g2, g3⟩ := (hw p (List.mem_of_getElem? hp)).mono sH
      refine ⟨rfl, ?_⟩
      refine yes_if ?_
      refine ⟨_, rfl, p.1, CW, dx, _, _, rfl, g1, T.cl, T.nW, wf_words _ _ _ _, _, rfl, p.1, CW, dx, _, _, rfl, g1, T.cl, T.nF, wf_made _ _ _ _, (by show 2 ≤ sizeLine; decide), fun t ht => ?_⟩
      have nt : D ≠ t := ne_of_none hDl ht
      have sT : Same H (upd H1 t (.tup [.str p.2.words, .str p.2.made])) := sH.new ht
      have lb : bs.length = (ws.take i).length := by
        have := congrArg List.length hb
        rw [List.length_map, List.length_map] at this
        exact this
      refine ⟨_, (upd_ne nt).trans hDl, ?_, bs ++ [(t, p.2.pair)], sT.over hD, ?_, ?_, ?_⟩
      · rw [List.length_map, lb]
        exact small1000 (Nat.le_trans (by rw [List.length_take]; exact Nat.min_le_right _ _) (by omega))
      · rw [upd_same, atRefs_add]
        rfl
      · rw [List.map_append, hb, take_one_more hp, List.map_append]
        rfl
      · intro b hb2
        rcases List.mem_append.mp hb2 with z | z
        · refine ⟨(hm b z).1, ?_⟩
          have n1 : b.1 ≠ D := fun q => by
            have := (hm b z).2
            rw [q, hDl] at this
            cases this
          rw [upd_ne n1, upd_ne (ne_of_none (hm b z).2 ht)]
          exact (hm b z).2
        · rw [List.mem_singleton.mp z]
          refine ⟨sH.free ht, ?_⟩
          rw [upd_ne nt.symm, upd_same]
          rfl
    · rintro H1 ⟨bs, sH, hDl, hb, hm⟩
      rw [List.length_map, List.take_length] at hb
      have lb : bs.length = ws.length := by
        have := congrArg List.length hb
        rw [List.length_map, List.length_map] at this
        exact this
      refine ⟨D, bs, rfl, SqL.of hDl, fun b hb2 => SqT.of (hm b hb2).2, by rw [lb]; exact hlen, fun a L ha h1 h2 h3 => ?_⟩
      have sA : Same H1 (upd H1 a (SetPO P w a L)) := (Same.refl H1).new ha
      refine ⟨a, L, rfl, upd_same, fun b hb2 => SqT.of (sA _ _ (hm b (h1 b hb2)).2), fun out q pm up hq => ?_⟩
      obtain ⟨e1, e2⟩ := perm_neat h1 h2 h3 pm up
      have sQ : Same H1 (upd (upd H1 a (SetPO P w a L)) q (.lst (atRefs out))) := sA.new hq
      refine k _ q out (sH.trans sQ) ((sH.trans sA).free hq) upd_same (by rw [e1, hb]) fun b hb2 => ?_
      exact ⟨(hm b (e2 b hb2)).1, sQ _ _ (hm b (e2 b hb2)).2⟩

/-! ## Writing(mark, words, made_from, seen) -/
def spWInit (CW : Addr) : Sp := fun vs H Q _ => ∃ (p dx m d : Addr) (x y : Str), vs = [.ref p, .ref m, .str x, .str y, .ref d] ∧ H p = some (.ins CW dx []) ∧ Q .non (upd H p (.ins CW dx (wf m x y d)))
theorem scWInit : FnScope ["self", "mark", "words", "made_from", "seen"] ["self", "mark", "words", "made_from", "seen"] (defScope sWInit) := ⟨rfl, rfl, rfl, by decide +kernel, rfl, by decide +kernel, by decide +kernel⟩
theorem ok_winit {f CW : Addr} {fd : FuncData} (F : Fun K "__init__" "Writing.__init__" sWInit f fd) (T : TxtW K mg CW) : FnOk P w K mg base CX0 1 f fd ["self", "mark", "words", "made_from", "seen"] (spWInit CW) := by
  refine F.ok scWInit (fun vs H Q E h => ?_) (fun cdv A outer s H vs Q E hr h => ?_)
  · obtain ⟨p, dx, m, d, x, y, rfl, _⟩ := h
    rfl
  · obtain ⟨p, dx, m, d, x, y, rfl, hp, k⟩ := h
    refine ⟨_, pss_cons (ps_fld (pv 0) (pv 1) rfl) (pss_cons (ps_fld (pv 0) (pv 2) rfl) (pss_cons (ps_fld (pv 0) (pv 3) rfl) (pss_one (ps_fld (pv 0) (pv 4) rfl)))), ?_⟩
    refine ⟨_, rfl, _, rfl, p, CW, dx, _, rfl, hp, T.cl, T.nM, (by show 0 < 1000; decide), ?_⟩
    refine ⟨_, rfl, _, rfl, p, CW, dx, _, rfl, upd_same, T.cl, T.nW, (by show 1 < 1000; decide), ?_⟩
    rw [upd_upd]
    refine ⟨_, rfl, _, rfl, p, CW, dx, _, rfl, upd_same, T.cl, T.nF, (by show 2 < 1000; decide), ?_⟩
    rw [upd_upd]
    refine ⟨_, rfl, _, rfl, p, CW, dx, _, rfl, upd_same, T.cl, T.nS, (by show 3 < 1000; decide), ?_⟩
    rw [upd_upd]
    exact k
end
end K82

set_option Elab.async false
set_option linter.all false
set_option maxRecDepth 100000
set_option maxHeartbeats 4000000
namespace K82
open PySem PySem.Spec PyProof.Rows L2

/-! ## books -/
/-- a book's fields -/
def bf (hand : Str) (n : Int) (d : Addr) : List (Str × V) := [("hand", .str hand), ("many", .int n), ("held", .ref d)]
theorem bf_hand (h : Str) (n : Int) (d : Addr) : List.lookup ("hand" : Str) (bf h n d) = some (V.str h) := rfl
theorem bf_many (h : Str) (n : Int) (d : Addr) : List.lookup ("many" : Str) (bf h n d) = some (V.int n) := rfl
theorem bf_held (h : Str) (n : Int) (d : Addr) : List.lookup ("held" : Str) (bf h n d) = some (V.ref d) := rfl
structure TxtB (K : PySem.W.Frag) (mg : Str → Option Value) (CB : Addr) : Prop where
  cl : Cls K CB
  nH : NoAttr K CB "hand"
  nM : NoAttr K CB "many"
  nD : NoAttr K CB "held"
  mg : mg "Book" = some (.ref CB)
/-- what is new -/
def New (H H' : Hp) : Hp := fun b => match H b with
  | some _ => none
  | none => H' b
theorem new_of {H H' : Hp} {b : Addr} {o : HO} (h : H b = none) (h' : H' b = some o) : New H H' b = some o := by
  unfold New
  rw [h]
  exact h'
theorem of_new {H H' : Hp} {b : Addr} {o : HO} (h : New H H' b = some o) : H b = none ∧ H' b = some o := by
  unfold New at h
  cases e : H b with
  | none =>
    rw [e] at h
    exact ⟨rfl, h⟩
  | some u =>
    rw [e] at h
    cases h
/-- all but p and d are as they were -/
def But (p d : Addr) (H H' : Hp) : Prop := ∀ b o, H b = some o → b ≠ p → b ≠ d → H' b = some o
theorem New.from_ {H H1 H' : Hp} (s : ∀ b, H b = none → H1 b = none → H' b = none) {b : Addr} {o : HO} (h : New H1 H' b = some o) (hb : H b = none) : New H H' b = some o := new_of hb (of_new h).2
/-- the list that a book holds of a piece -/
def HeldList (H : Hp) (kvs : List (List Key × V)) (p : Pr) (ws : List AW) : Prop :=
  (valV kvs (pk p) = none ∧ ws = []) ∨ ∃ l, valV kvs (pk p) = some (.ref l) ∧ H l = some (.lst (refs ws))

def spBInit (CB : Addr) : Sp := fun vs H Q _ => ∃ (p dx : Addr) (hand : Str), vs = [.ref p, .str hand] ∧ H p = some (.ins CB dx []) ∧
  ∀ H' d, H d = none → (∀ b, b ≠ p → b ≠ d → H' b = H b) → H' p = some (.ins CB dx (bf hand 0 d)) → H' d = some (.dT []) → Q .non H'
theorem scBInit : FnScope ["self", "hand"] ["self", "hand"] (defScope sBInit) := ⟨rfl, rfl, rfl, by decide +kernel, rfl, by decide +kernel, by decide +kernel⟩
abbrev nWrite : List Str := ["self", "tongue", "key", "text", "first", "piece", "seen"]
theorem scWrite : FnScope nWrite ["self", "tongue", "key", "text", "first"] (defScope sWrite) := ⟨rfl, rfl, rfl, by decide +kernel, rfl, by decide +kernel, by decide +kernel⟩
def spWrite (CB CW : Addr) : Sp := fun vs H Q _ => ∃ (p dx d : Addr) (hand : Str) (n : Int) (kvs : List (List Key × V)) (tongue key text first : Str) (ws : List AW) (M : List (List Key)),
  vs = [.ref p, .str tongue, .str key, .str text, .str first] ∧ H p = some (.ins CB dx (bf hand n d)) ∧ H d = some (.dT kvs) ∧ HeldList H kvs (tongue, key) ws ∧ WrsAt CW H ws ∧ Among M ws ∧ kvs.length ≤ 1000 ∧
  ∀ H' l a, But p d H H' → H' p = some (.ins CB dx (bf hand (n + 1) d)) → H' d = some (.dT (putK kvs (pk (tongue, key)) (.ref l))) → New H H' l = some (.lst [.ref a]) →
    WrAt CW (New H H') a ⟨[.inr hand, .inl (n + 1)], text, first, seenM ws⟩ → Q .non H'
section
variable {P : Program} {w : World} {K : PySem.W.Frag} {mg : Str → Option Value} {base : Heap}
theorem ok_binit {f CB : Addr} {fd : FuncData} (F : Fun K "__init__" "Book.__init__" sBInit f fd) (T : TxtB K mg CB) : FnOk P w K mg base CX0 1 f fd ["self", "hand"] (spBInit CB) := by
  refine F.ok scBInit (fun vs H Q E h => ?_) (fun cdv A outer s H vs Q E hr h => ?_)
  · obtain ⟨p, dx, hand, rfl, _⟩ := h
    rfl
  · obtain ⟨p, dx, hand, rfl, hp, k⟩ := h
    refine ⟨_, pss_cons (ps_fld (pv 0) (pv 1) rfl) (pss_cons (ps_fld (pv 0) pe_int rfl) (pss_one (ps_fld (pv 0) pe_dnewT rfl))), ?_⟩
    refine ⟨_, rfl, _, rfl, p, CB, dx, _, rfl, hp, T.cl, T.nH, (by show 0 < 1000; decide), ?_⟩
    refine ⟨_, rfl, p, CB, dx, _, rfl, upd_same, T.cl, T.nM, (by show 1 < 1000; decide), ?_⟩
    rw [upd_upd]
    intro d hd
    have npd : p ≠ d := fun z => by rw [← z, upd_same] at hd; cases hd
    have hd0 : H d = none := by rw [upd_ne npd.symm] at hd; exact hd
    refine ⟨_, rfl, p, CB, dx, _, rfl, (upd_ne npd).trans upd_same, T.cl, T.nD, (by show 2 < 1000; decide), ?_⟩
    refine k _ d hd0 (fun b h1 h2 => by rw [upd_ne h1, upd_ne h2, upd_ne h1]) upd_same ?_
    rw [upd_ne npd.symm, upd_same]
theorem ok_write {f CB CW fS fI : Addr} {fd fdS fdI : FuncData} (F : Fun K "write" "Book.write" sWrite f fd) (T : TxtB K mg CB) (W : TxtW K mg CW)
    (FS : Fun K "seen_by_next" "seen_by_next" sSeen fS fdS) (bS : Binds K fdS ["writings"] []) (gS : mg "seen_by_next" = some (.ref fS))
    (M : Mk K CW fI) (FI : Fun K "__init__" "Writing.__init__" sWInit fI fdI) (bI : Binds K fdI ["self", "mark", "words", "made_from", "seen"] []) :
    FnOk P w K mg base CX0 3 f fd ["self", "tongue", "key", "text", "first"] (spWrite CB CW) := by
  have GS : FnOk P w K mg base CX0 1 fS fdS ["writings"] (spSeen K CW) := ok_seen FS W
  have GI : FnOk P w K mg base CX0 1 fI fdI ["self", "mark", "words", "made_from", "seen"] (spWInit CW) := ok_winit FI W
  refine F.ok scWrite (fun vs H Q E h => ?_) (fun cdv A outer s H vs Q E hr h => ?_)
  · obtain ⟨p, dx, d, hand, n, kvs, tongue, key, text, first, ws, M, rfl, _⟩ := h
    rfl
  · obtain ⟨p, dx, d, hand, n, kvs, tongue, key, text, first, ws, M', rfl, hp, hd, hh, hw, hM, hlen, k⟩ := h
    have hu := hu_of hr
    have hr1 : Room 1 _ := hr.mono (by decide)
    refine ⟨_, pss_cons (ps_set (i := 5) scWrite.nd rfl (Or.inl rfl) (pe_tup (pa_cons (pv 1) (pa_cons (pv 2) pa_nil))))
      (pss_cons (ps_set (i := 6) scWrite.nd rfl (Or.inl rfl) (pe_call GS hr1 rfl gS FS.kp bS .nil pass0 (pa_cons (pe_dget2 hu (pe_fld (pv 0) rfl) (pv 5) (pe_lst pa_nil) ⟨rfl, rfl, rfl, rfl⟩) pa_nil)))
      (pss_cons (ps_fldaug (pv 0) pe_int in_add)
      (pss_one (ps_dput hu (pe_fld (pv 0) rfl) (pv 5) (pe_lst (pa_cons (pe_make M GI hr rfl W.mg bI .nil pass0 (pa_cons (pe_tup (pa_cons (pe_fld (pv 0) rfl) (pa_cons (pe_fld (pv 0) rfl) pa_nil))) (pa_cons (pv 3) (pa_cons (pv 4) (pa_cons (pv 6) pa_nil))))) pa_nil)) rfl)))), ?_⟩
    have npd : p ≠ d := ne_of hp hd (fun z => nomatch z)
    -- piece = (tongue, key)
    refine ⟨_, rfl, _, rfl, (by show 2 ≤ sizeLine; decide), fun t ht => ?_⟩
    have s1 : Same H (upd H t (.tup [.str tongue, .str key])) := (Same.refl H).new ht
    have t1 : upd H t (.tup [.str tongue, .str key]) t = some (.tup ((pk (tongue, key)).map kV)) := upd_same
    generalize upd H t (.tup [.str tongue, .str key]) = H1 at s1 t1 ⊢
    -- seen = seen_by_next(self.held.get(piece, []))
    refine ⟨_, rfl, p, CB, dx, _, _, rfl, s1 _ _ hp, T.cl, T.nD, bf_held _ _ _, d, rfl, .inr ⟨_, .inl (s1 _ _ hd)⟩, _, rfl, Nat.zero_le _, fun e he => ?_⟩
    have s2 : Same H1 (upd H1 e (.lst [])) := (Same.refl H1).new he
    have e2 : upd H1 e (.lst []) e = some (.lst (refs [])) := upd_same
    generalize upd H1 e (.lst []) = H2 at s2 e2 ⊢
    have s02 : Same H H2 := s1.trans s2
    refine ⟨valV kvs (pk (tongue, key)), DGet.t (s02 _ _ hd) (s2 _ _ t1), ?_⟩
    obtain ⟨l, hl1, hl2⟩ : ∃ l, (valV kvs (pk (tongue, key))).getD (.ref e) = .ref l ∧ H2 l = some (.lst (refs ws)) := by
      rcases hh with ⟨h1, h2⟩ | ⟨l, h1, h2⟩
      · exact ⟨e, by rw [h1]; rfl, by rw [h2]; exact e2⟩
      · exact ⟨l, by rw [h1]; rfl, s02 _ _ h2⟩
    refine ⟨l, ws, M', by rw [hl1]; rfl, SqL.of hl2, hw.mono s02, hM, fun sd hsd => ?_⟩
    have s3 : Same H2 (upd H2 sd (.dT (seenM ws))) := (Same.refl H2).new hsd
    have sd3 : upd H2 sd (.dT (seenM ws)) sd = some (.dT (seenM ws)) := upd_same
    have sd0 : H sd = none := s02.free hsd
    generalize upd H2 sd (.dT (seenM ws)) = H3 at s3 sd3 ⊢
    have s03 : Same H H3 := s02.trans s3
    have t3 := s3 _ _ (s2 _ _ t1)
    have npt : t ≠ p := (ne_of_none hp ht).symm
    have nps : sd ≠ p := (ne_of_none hp sd0).symm
    -- self.many += 1
    refine ⟨_, rfl, p, CB, dx, _, _, rfl, s03 _ _ hp, T.cl, T.nM, bf_many _ _ _, _, _, rfl, rfl, dx, _, s03 _ _ hp, (by show 3 < 1000; decide), ?_⟩
    have pf4 : putF "many" (V.int (n + 1)) (bf hand n d) = bf hand (n + 1) d := rfl
    rw [pf4]
    have b4 : ∀ b o, H3 b = some o → b ≠ p → upd H3 p (.ins CB dx (bf hand (n + 1) d)) b = some o := fun b o q z => by rw [upd_ne z]; exact q
    have p4 : upd H3 p (.ins CB dx (bf hand (n + 1) d)) p = some (.ins CB dx (bf hand (n + 1) d)) := upd_same
    have f4 : ∀ b, upd H3 p (.ins CB dx (bf hand (n + 1) d)) b = none → H b = none := fun b q => by
      by_cases z : b = p
      · rw [z, p4] at q
        cases q
      · rw [upd_ne z] at q
        exact s03.free q
    generalize upd H3 p (.ins CB dx (bf hand (n + 1) d)) = H4 at b4 p4 f4 ⊢
    -- self.held[piece] = [Writing((self.hand, self.many), text, first, seen)]
    refine ⟨_, rfl, p, CB, dx, _, _, rfl, p4, T.cl, T.nH, bf_hand _ _ _, _, rfl, p, CB, dx, _, _, rfl, p4, T.cl, T.nM, bf_many _ _ _, (by show 2 ≤ sizeLine; decide), fun m hm => ?_⟩
    have s5 : Same H4 (upd H4 m (.tup [.str hand, .int (n + 1)])) := (Same.refl H4).new hm
    have m5 : upd H4 m (.tup [.str hand, .int (n + 1)]) m = some (.tup [.str hand, .int (n + 1)]) := upd_same
    have m0 : H m = none := f4 _ hm
    generalize upd H4 m (.tup [.str hand, .int (n + 1)]) = H5 at s5 m5 ⊢
    refine ⟨_, rfl, _, rfl, _, rfl, fun a dx' ha hdx nda => ?_⟩
    have s6 : Same H5 (upd (upd H5 dx' (.own a)) a (.ins CW dx' [])) := ((Same.refl H5).new hdx).over ha
    refine ⟨a, dx', m, sd, text, first, rfl, upd_same, rfl, ?_⟩
    rw [upd_upd]
    have s7 : Same H5 (upd (upd H5 dx' (.own a)) a (.ins CW dx' (wf m text first sd))) := ((Same.refl H5).new hdx).over ha
    have a7 : upd (upd H5 dx' (.own a)) a (.ins CW dx' (wf m text first sd)) a = some (.ins CW dx' (wf m text first sd)) := upd_same
    have a0 : H a = none := f4 _ (s5.free ha)
    generalize upd (upd H5 dx' (.own a)) a (.ins CW dx' (wf m text first sd)) = H7 at s7 a7 ⊢
    refine ⟨(by show 1 ≤ sizeLine; decide), fun ll hll => ?_⟩
    have s47 : Same H4 H7 := s5.trans s7
    have s8 : Same H7 (upd H7 ll (.lst [.ref a])) := (Same.refl H7).new hll
    have l8 : upd H7 ll (.lst [.ref a]) ll = some (.lst [.ref a]) := upd_same
    have l0 : H ll = none := f4 _ (s47.free hll)
    generalize upd H7 ll (.lst [.ref a]) = H8 at s8 l8 ⊢
    have s48 : Same H4 H8 := s47.trans s8
    have d8 : H8 d = some (.dT kvs) := s48 _ _ (b4 _ _ (s03 _ _ hd) npd.symm)
    have t8 := s48 _ _ (b4 _ _ t3 npt)
    have p8 := s48 _ _ p4
    refine ⟨_, rfl, p, CB, dx, _, _, rfl, p8, T.cl, T.nD, bf_held _ _ _, _, rfl, d, _, rfl, DPut.t d8 t8 (small1000 hlen), ?_⟩
    refine k _ ll a (fun b o q h1 h2 => ?_) ((upd_ne npd).trans p8) upd_same (new_of l0 ?_) ⟨dx', m, sd, new_of a0 ?_, new_of m0 ?_, new_of sd0 ?_⟩
    · rw [upd_ne h2]
      exact s48 _ _ (b4 _ _ (s03 _ _ q) h1)
    · rw [upd_ne (ne_of_none hd l0).symm]
      exact l8
    · rw [upd_ne (ne_of_none hd a0).symm]
      exact s8 _ _ a7
    · rw [upd_ne (ne_of_none hd m0).symm]
      exact s8 _ _ (s7 _ _ m5)
    · rw [upd_ne (ne_of_none hd sd0).symm]
      exact s48 _ _ (b4 _ _ sd3 nps)
end
end K82

set_option Elab.async false
set_option linter.all false
set_option maxRecDepth 100000
set_option maxHeartbeats 4000000
namespace K82
open PySem PySem.Spec PyProof.Rows L2

/-! ## a dict of pieces, by its pairs -/
abbrev Pcs (es : List (Pr × V)) : List Pr := es.map (·.1)
theorem valV_kvP (es : List (Pr × V)) (p : Pr) : valV (kvP es) (pk p) = valV es p := by
  induction es with
  | nil => rfl
  | cons e es ih =>
    show valV ((pk e.1, e.2) :: kvP es) (pk p) = valV (e :: es) p
    by_cases h : e.1 = p
    · rw [valV_pos (by rw [h]), valV_pos h]
    · rw [valV_neg (fun z => h (pk_inj z)), valV_neg h, ih]
theorem put_kvP (es : List (Pr × V)) (p : Pr) (v : V) : putK (kvP es) (pk p) v = kvP (putK es p v) := by
  have e1 : ((kvP es).any fun kv => decide (kv.1 = pk p)) = es.any fun kv => decide (kv.1 = p) := by
    rw [valV_any, valV_any, valV_kvP]
  unfold putK
  rw [e1]
  by_cases c : (es.any fun kv => decide (kv.1 = p)) = true
  · rw [if_pos c, if_pos c]
    unfold kvP
    rw [List.map_map, List.map_map]
    refine List.map_congr_left fun e _ => ?_
    show (if pk e.1 = pk p then (pk e.1, v) else (pk e.1, e.2)) = (pk (if e.1 = p then (e.1, v) else e).1, (if e.1 = p then (e.1, v) else e).2)
    by_cases h : e.1 = p
    · rw [if_pos h, if_pos (congrArg pk h)]
    · rw [if_neg h, if_neg fun z => h (pk_inj z)]
  · rw [if_neg c, if_neg c]
    unfold kvP
    rw [List.map_append]
    rfl
theorem val_mem {es : List (Pr × V)} {p : Pr} {v : V} (h : valV es p = some v) : (p, v) ∈ es := by
  unfold valV at h
  obtain ⟨e, he, rfl⟩ := Option.map_eq_some_iff.mp h
  have h1 := List.find?_some he
  have h2 : e.1 = p := of_decide_eq_true h1
  rw [← h2]
  exact List.mem_of_find?_eq_some he
theorem mem_val {es : List (Pr × V)} (hn : (Pcs es).Nodup) {e : Pr × V} (h : e ∈ es) : valV es e.1 = some e.2 := by
  induction es with
  | nil => exact absurd h List.not_mem_nil
  | cons x es ih =>
    have hd := List.nodup_cons.mp hn
    rcases List.mem_cons.mp h with z | z
    · rw [z]
      exact valV_pos rfl
    · have ne : ¬ x.1 = e.1 := fun q => hd.1 (List.mem_map.mpr ⟨e, z, q.symm⟩)
      rw [valV_neg ne]
      exact ih hd.2 z
theorem mem_put {es : List (Pr × V)} {p : Pr} {v : V} (hn : (Pcs es).Nodup) {e : Pr × V} (h : e ∈ putK es p v) : e = (p, v) ∨ (e ∈ es ∧ e.1 ≠ p) := by
  have h1 := mem_val (once_put p v hn) h
  rw [valV_put] at h1
  by_cases c : e.1 = p
  · rw [if_pos c] at h1
    exact .inl (Prod.ext c (Option.some.inj h1).symm)
  · rw [if_neg c] at h1
    exact .inr ⟨val_mem h1, c⟩
/-- what a book holds: f of each piece -/
structure HeldIs (H : Hp) (es : List (Pr × V)) (f : Pr → List AW) : Prop where
  once : (Pcs es).Nodup
  each : ∀ e ∈ es, ∃ l, e.2 = .ref l ∧ H l = some (.lst (refs (f e.1)))
  out : ∀ q, q ∉ Pcs es → f q = []
theorem HeldIs.list {H : Hp} {es : List (Pr × V)} {f : Pr → List AW} (h : HeldIs H es f) (p : Pr) : HeldList H (kvP es) p (f p) := by
  unfold HeldList
  rw [valV_kvP]
  cases e : valV es p with
  | none => exact .inl ⟨rfl, h.out p (not_has.mp e)⟩
  | some v =>
    obtain ⟨l, e1, e2⟩ := h.each _ (val_mem e)
    exact .inr ⟨l, congrArg some e1, e2⟩
theorem HeldIs.mono {H H' : Hp} {es : List (Pr × V)} {f : Pr → List AW} (h : HeldIs H es f) (s : ∀ b xs, H b = some (.lst xs) → H' b = some (.lst xs)) : HeldIs H' es f :=
  ⟨h.once, fun e he => let ⟨l, e1, e2⟩ := h.each e he; ⟨l, e1, s _ _ e2⟩, h.out⟩
/-- es2, g: what es, f holds behind joining the pieces qs of f2 -/
structure Merged (N : Hp) (es : List (Pr × V)) (f f2 : Pr → List AW) (qs : List Pr) (es2 : List (Pr × V)) (g : Pr → List AW) : Prop where
  once : (Pcs es2).Nodup
  keys : ∀ q, q ∈ Pcs es2 ↔ q ∈ Pcs es ∨ q ∈ qs
  old : ∀ e ∈ es2, e.1 ∉ qs → e ∈ es
  new : ∀ e ∈ es2, e.1 ∈ qs → ∃ l, e.2 = .ref l ∧ N l = some (.lst (refs (g e.1)))
  res : ∀ q ∈ qs, Unseen (f q ++ f2 q) (g q)
  out : ∀ q, q ∉ qs → g q = f q
  len : es2.length ≤ es.length + qs.length

def spTakeIn (CB CW : Addr) : Sp := fun vs H Q _ => ∃ (F : Hp) (p dx d p' dx' d' : Addr) (hand hand' : Str) (n n' : Int) (es es' : List (Pr × V)) (f f' : Pr → List AW),
  vs = [.ref p, .ref p'] ∧ H p = some (.ins CB dx (bf hand n d)) ∧ H d = some (.dT (kvP es)) ∧ HeldIs H es f ∧ H p' = some (.ins CB dx' (bf hand' n' d')) ∧ H d' = some (.dT (kvP es')) ∧ HeldIs H es' f' ∧ d ≠ d' ∧ Same F H ∧ F d = none ∧ F d' = none ∧
  (∀ q, WrsAt CW F (f q ++ f' q) ∧ OneMark (f q ++ f' q) ∧ (f q ++ f' q).length ≤ 1000) ∧ es.length + es'.length ≤ 1000 ∧
  ∀ H' es2 g, But d d H H' → H' d = some (.dT (kvP es2)) → Merged (New H H') es f f' (Pcs es') es2 g → Q .non H'
abbrev nTakeIn : List Str := ["self", "other", "piece", "writings", "mine"]
theorem scTakeIn : FnScope nTakeIn ["self", "other"] (defScope sTakeIn) := ⟨rfl, rfl, rfl, by decide +kernel, rfl, by decide +kernel, by decide +kernel⟩
theorem kvP_at {es : List (Pr × V)} {i : Nat} {k : List Key} {v : V} (h : (kvP es)[i]? = some (k, v)) : ∃ e, es[i]? = some e ∧ k = pk e.1 ∧ v = e.2 := by
  unfold kvP at h
  rw [List.getElem?_map] at h
  cases e : es[i]? with
  | none =>
    rw [e] at h
    cases h
  | some p =>
    rw [e] at h
    have z := Option.some.inj h
    injection z with z1 z2
    exact ⟨p, rfl, z1.symm, z2.symm⟩
theorem take_fresh {es : List (Pr × V)} (hn : (Pcs es).Nodup) {i : Nat} {e : Pr × V} (h : es[i]? = some e) : e.1 ∉ Pcs (es.take i) := by
  intro hm
  have h2 : (es.take (i + 1)).map (·.1) = (es.take i).map (·.1) ++ [e.1] := by
    rw [take_one_more h, List.map_append]
    rfl
  have h3 : ((es.take (i + 1)).map (·.1)).Nodup := hn.sublist ((List.take_sublist _ _).map _)
  rw [h2] at h3
  exact (List.nodup_append.mp h3).2.2 _ hm _ List.mem_cons_self rfl
section
variable {P : Program} {w : World} {K : PySem.W.Frag} {mg : Str → Option Value} {base : Heap}
theorem ok_takeIn {f CB CW fU : Addr} {fd fdU : FuncData} (F : Fun K "take_in" "Book.take_in" sTakeIn f fd) (T : TxtB K mg CB) (W : TxtW K mg CW) (mAny : mg "any" = none)
    (FU : Fun K "unseen" "unseen" sUnseen fU fdU) (bU : Binds K fdU ["writings"] []) (gU : mg "unseen" = some (.ref fU)) :
    FnOk P w K mg base CX0 2 f fd ["self", "other"] (spTakeIn CB CW) := by
  have GU : FnOk P w K mg base CX0 1 fU fdU ["writings"] (spUnseen K CW) := ok_unseen FU W mAny
  refine F.ok scTakeIn (fun vs H Q E h => ?_) (fun cdv A outer s H vs Q E hr h => ?_)
  · obtain ⟨F0, p, dx, d, p', dx', d', hand, hand', n, n', es, es', f, f', rfl, _⟩ := h
    rfl
  · obtain ⟨F0, p, dx, d, p', dx', d', hand, hand', n, n', es, es', f, f', rfl, hp, hd, hf, hp', hd', hf', ndd, sF, f0d, f0d', hw, hlen, k⟩ := h
    have hu := hu_of hr
    refine ⟨_, pss_one (ps_lock (ps_for PassesOwn.never rfl (pi_itemsT (pe_fld (pv 1) rfl)) (pg_tup rfl (pgs_cons (pg_name (i := 2) scTakeIn.nd rfl (Or.inl rfl)) (pgs_cons (pg_name (i := 3) scTakeIn.nd rfl (Or.inl rfl)) pgs_nil)))
      (pss_cons (ps_set (i := 4) scTakeIn.nd rfl (Or.inl rfl) (pe_dget2 hu (pe_fld (pv 0) rfl) (pv 2) (pe_lst pa_nil) ⟨rfl, rfl, rfl, rfl⟩))
      (pss_one (ps_dput hu (pe_fld (pv 0) rfl) (pv 2) (pe_call GU hr rfl gU FU.kp bU .nil pass0 (pa_cons (pe_op op_cat (pv 4) (pv 3)) pa_nil)) rfl))))), ?_⟩
    refine ⟨d', .dT (kvP es'), hd', True.intro, fun od => ?_⟩
    have npd' : p ≠ d' := ne_of hp hd' (fun z => nomatch z)
    have npd : p ≠ d := ne_of hp hd (fun z => nomatch z)
    have npd2 : p' ≠ d' := ne_of hp' hd' (fun z => nomatch z)
    have npd3 : p' ≠ d := ne_of hp' hd (fun z => nomatch z)
    refine ⟨_, rfl, p', CB, dx', _, _, rfl, (upd_ne npd2).trans hp', T.cl, T.nD, bf_held _ _ _, d', od, kvP es', rfl, upd_same, for_it walk_itemsT
      (fun i σ H' => ∃ (v2 v3 v4 : Option V) (es2 : List (Pr × V)) (g : Pr → List AW), σ = [some (.ref p), some (.ref p'), v2, v3, v4] ∧ H' d' = some (.frz od (.dT (kvP es'))) ∧ (∀ b o, H b = some o → b ≠ d → b ≠ d' → H' b = some o) ∧
        H' d = some (.dT (kvP es2)) ∧ Merged (New H H') es f f' (Pcs (es'.take i)) es2 g)
      ⟨none, none, none, es, f, rfl, upd_same, fun b o q h1 h2 => by rw [upd_ne h2]; exact q, (upd_ne ndd).trans hd,
        ⟨hf.once, fun q => ⟨.inl, fun z => z.resolve_right List.not_mem_nil⟩, fun e he _ => he, fun e _ z => absurd z List.not_mem_nil, fun q z => absurd z List.not_mem_nil, fun q _ => rfl, Nat.le_refl _⟩⟩
      (fun i σ H' _ ⟨_, _, _, _, _, _, h, _⟩ => h) ?_ ?_⟩
    · rintro i x σ H1 H2 hi ⟨v2, v3, v4, es2, g, rfl, hfd, hb, h1d, mg1⟩ ⟨Ti, key, v, q, hkv, rfl, hT, hq, rfl⟩
      obtain ⟨e, he, rfl, rfl⟩ := kvP_at hkv
      have hem : e ∈ es' := List.mem_of_getElem? he
      obtain ⟨l', el', hl'⟩ := hf'.each e hem
      rw [el']
      have nlst : ∀ (l : Addr) (xs : List V), H l = some (.lst xs) → H1 l = some (.lst xs) := fun l xs z => hb l _ z (ne_of z hd (fun y => nomatch y)) (ne_of z hd' (fun y => nomatch y))
      have sT : Same H1 (upd H1 Ti (.tup [.ref q, .ref l'])) := (Same.refl H1).new hT
      have hT2 : upd H1 Ti (.tup [.ref q, .ref l']) Ti = some (.tup [.ref q, .ref l']) := upd_same
      generalize upd H1 Ti (.tup [.ref q, .ref l']) = H2 at sT hT2 ⊢
      refine ⟨Ti, _, rfl, SqT.of hT2, rfl, _, _, rfl, _, _, rfl, rfl, ?_⟩
      -- mine = self.held.get(piece, [])
      have p1 : H1 p = some (.ins CB dx (bf hand n d)) := hb p _ hp npd npd'
      refine ⟨_, rfl, p, CB, dx, _, _, rfl, sT _ _ p1, T.cl, T.nD, bf_held _ _ _, d, rfl, .inr ⟨_, .inl (sT _ _ h1d)⟩, _, rfl, Nat.zero_le _, fun c hc => ?_⟩
      have s3 : Same H2 (upd H2 c (.lst [])) := (Same.refl H2).new hc
      have c3 : upd H2 c (.lst []) c = some (.lst (refs [])) := upd_same
      generalize upd H2 c (.lst []) = H3 at s3 c3 ⊢
      have s13 : Same H1 H3 := sT.trans s3
      refine ⟨valV (kvP es2) (pk e.1), DGet.t (s13 _ _ h1d) (s13 _ _ hq), ?_⟩
      have fresh : e.1 ∉ Pcs (es'.take i) := take_fresh hf'.once he
      obtain ⟨l, hl1, hl2⟩ : ∃ l, (valV (kvP es2) (pk e.1)).getD (.ref c) = .ref l ∧ H3 l = some (.lst (refs (f e.1))) := by
        rw [valV_kvP]
        cases hv : valV es2 e.1 with
        | none =>
          refine ⟨c, rfl, ?_⟩
          have h0 : f e.1 = [] := hf.out e.1 fun z => not_has.mp hv ((mg1.keys e.1).mpr (.inl z))
          rw [h0]
          exact c3
        | some v =>
          obtain ⟨l, e1, e2⟩ := hf.each _ (mg1.old _ (val_mem hv) fresh)
          exact ⟨l, e1, s13 _ _ (nlst _ _ e2)⟩
      -- self.held[piece] = unseen(mine + writings)
      have l'3 : H3 l' = some (.lst (refs (f' e.1))) := s13 _ _ (nlst _ _ hl')
      obtain ⟨w1, w2, w3⟩ := hw e.1
      have sF1 : Same F0 H1 := fun b o z => hb b o (sF b o z) (ne_of_none z f0d) (ne_of_none z f0d')
      refine ⟨_, rfl, _, rfl, l, l', _, _, by exact hl1, rfl, hl2, l'3, ?_, fun c4 hc4 => ?_⟩
      · rw [List.length_append] at w3
        rw [List.length_map, List.length_map, sizeLine_eq]
        omega
      · rw [← refs_add]
        have s4 : Same H3 (upd H3 c4 (.lst (refs (f e.1 ++ f' e.1)))) := (Same.refl H3).new hc4
        have c44 : upd H3 c4 (.lst (refs (f e.1 ++ f' e.1))) c4 = some (.lst (refs (f e.1 ++ f' e.1))) := upd_same
        generalize upd H3 c4 (.lst (refs (f e.1 ++ f' e.1))) = H4 at s4 c44 ⊢
        have s14 : Same H1 H4 := s13.trans s4
        refine ⟨c4, f e.1 ++ f' e.1, rfl, SqL.of c44, w1.mono (sF1.trans s14), w2, w3, fun H5 r out s5 hr0 hr5 un => ?_⟩
        have s15 : Same H1 H5 := s14.trans s5
        have r1 : H1 r = none := s14.free hr0
        have lenI : (Pcs (es'.take i)).length ≤ es'.length := by
          rw [List.length_map, List.length_take]
          exact Nat.min_le_right _ _
        have len2 : (kvP es2).length ≤ 1000 := by
          unfold kvP
          rw [List.length_map]
          have := mg1.len
          omega
        have nr : ∀ b, H b ≠ none → H1 b = none → b = d ∨ b = d' := fun b z y => by
          cases hb2 : H b with
          | none => exact absurd hb2 z
          | some o =>
            by_cases c1 : b = d
            · exact .inl c1
            · by_cases c2 : b = d'
              · exact .inr c2
              · rw [hb b o hb2 c1 c2] at y
                cases y
        have r0 : H r = none := by
          cases hb2 : H r with
          | none => rfl
          | some o =>
            rcases nr r (by rw [hb2]; exact fun z => nomatch z) r1 with z | z
            · rw [z, h1d] at r1
              cases r1
            · rw [z, hfd] at r1
              cases r1
        refine ⟨_, rfl, p, CB, dx, _, _, rfl, s15 _ _ p1, T.cl, T.nD, bf_held _ _ _, _, rfl, d, _, rfl, DPut.t (s15 _ _ h1d) (s15 _ _ hq) (small1000 len2), ?_⟩
        rw [put_kvP]
        have keep : ∀ b o, H1 b = some o → b ≠ d → upd H5 d (.dT (kvP (putK es2 e.1 (.ref r)))) b = some o := fun b o z y => by
          rw [upd_ne y]
          exact s15 _ _ z
        refine ⟨_, _, _, putK es2 e.1 (.ref r), fun q => if q = e.1 then out else g q, rfl, keep _ _ hfd ndd.symm, fun b o z y1 y2 => keep _ _ (hb b o z y1 y2) y1, upd_same, ?_⟩
        have tk : Pcs (es'.take (i + 1)) = Pcs (es'.take i) ++ [e.1] := by
          unfold Pcs
          rw [take_one_more he, List.map_append]
          rfl
        rw [tk]
        refine ⟨once_put _ _ mg1.once, fun q => ?_, fun x hx hn => ?_, fun x hx hq2 => ?_, fun q hq2 => ?_, fun q hq2 => ?_, ?_⟩
        · have z : q ∈ Pcs (putK es2 e.1 (.ref r)) ↔ q = e.1 ∨ q ∈ Pcs es2 := has_put
          rw [z, mg1.keys, List.mem_append, List.mem_singleton]
          constructor
          · rintro (a | a | a)
            · exact .inr (.inr a)
            · exact .inl a
            · exact .inr (.inl a)
          · rintro (a | a | a)
            · exact .inr (.inl a)
            · exact .inr (.inr a)
            · exact .inl a
        · rcases mem_put mg1.once hx with a | ⟨a, b⟩
          · exact absurd (by rw [a]; exact List.mem_append_right _ (List.mem_singleton.mpr rfl)) hn
          · exact mg1.old x a fun z => hn (List.mem_append_left _ z)
        · rcases mem_put mg1.once hx with a | ⟨a, b⟩
          · refine ⟨r, by rw [a], new_of r0 ?_⟩
            have nrd : r ≠ d := (ne_of_none h1d r1).symm
            rw [upd_ne nrd, hr5, a, if_pos rfl]
          · rcases List.mem_append.mp hq2 with z | z
            · obtain ⟨l9, e9, n9⟩ := mg1.new x a z
              obtain ⟨n0, n1⟩ := of_new n9
              refine ⟨l9, e9, new_of n0 ?_⟩
              rw [if_neg b]
              exact keep _ _ n1 (ne_of n1 h1d (fun y => nomatch y))
            · exact absurd (List.mem_singleton.mp z) b
        · by_cases c9 : q = e.1
          · rw [c9, if_pos rfl]
            exact un
          · rw [if_neg c9]
            rcases List.mem_append.mp hq2 with z | z
            · exact mg1.res q z
            · exact absurd (List.mem_singleton.mp z) c9
        · have c9 : q ≠ e.1 := fun z => hq2 (List.mem_append_right _ (List.mem_singleton.mpr z))
          rw [if_neg c9]
          exact mg1.out q fun z => hq2 (List.mem_append_left _ z)
        · rw [List.length_append, List.length_singleton]
          have a := length_putK es2 e.1 (.ref r)
          have b := mg1.len
          omega
    · rintro σ H1 ⟨v2, v3, v4, es2, g, rfl, hfd, hb, h1d, mg1⟩
      have ek : es'.take (kvP es').length = es' := by
        unfold kvP
        rw [List.length_map, List.take_length]
      rw [ek] at mg1
      refine ⟨hfd, k _ es2 g (fun b o z y1 y2 => ?_) ((upd_ne ndd).trans h1d) { mg1 with new := fun x hx hq2 => ?_ }⟩
      · by_cases c9 : b = d'
        · rw [c9, upd_same, ← hd', ← c9]
          exact z
        · rw [upd_ne c9]
          exact hb b o z y1 c9
      · obtain ⟨l9, e9, n9⟩ := mg1.new x hx hq2
        obtain ⟨n0, n1⟩ := of_new n9
        refine ⟨l9, e9, new_of n0 ?_⟩
        rw [upd_ne (ne_of_none hd' n0).symm]
        exact n1
end
end K82

set_option Elab.async false
set_option linter.all false
set_option maxRecDepth 100000
set_option maxHeartbeats 4000000
namespace K82
open PySem PySem.Spec PyProof.Rows L2

/-! ## told, clashes, writing -/
/-- the unlike pairs of some writings -/
def unl (ws : List AW) : List Pr := neat (ws.map fun x => x.2.pair)
/-- a row of told -/
def RowAt (G : Hp) (x : V) (r : Pr × List Pr) : Prop := ∃ (t L : Addr) (bs : List At), x = .ref t ∧ G t = some (.tup [.str r.1.1, .str r.1.2, .ref L]) ∧ G L = some (.lst (atRefs bs)) ∧ bs.map (·.2) = r.2 ∧ bs.length ≤ 100 ∧
  ∀ b ∈ bs, G b.1 = some (.tup [.str b.2.1, .str b.2.2])
theorem RowAt.mono {G G' : Hp} {x : V} {r : Pr × List Pr} (h : RowAt G x r) (s : Same G G') : RowAt G' x r :=
  let ⟨t, L, bs, e, h1, h2, h3, h5, h4⟩ := h
  ⟨t, L, bs, e, s _ _ h1, s _ _ h2, h3, h5, fun b hb => s _ _ (h4 b hb)⟩
abbrev RowsAt (G : Hp) : List V → List (Pr × List Pr) → Prop := Paired (RowAt G)
theorem RowsAt.mono {G G' : Hp} {xs : List V} {rs : List (Pr × List Pr)} (h : RowsAt G xs rs) (s : Same G G') : RowsAt G' xs rs := Paired.mapP h fun _ _ z => z.mono s
def ToldAt (G : Hp) (a : Addr) (rs : List (Pr × List Pr)) : Prop := ∃ xs, G a = some (.lst xs) ∧ RowsAt G xs rs
theorem ToldAt.mono {G G' : Hp} {a : Addr} {rs : List (Pr × List Pr)} (h : ToldAt G a rs) (s : Same G G') : ToldAt G' a rs := let ⟨xs, h1, h2⟩ := h; ⟨xs, s _ _ h1, h2.mono s⟩
/-- a heap grows but for a: what is new beside it stays -/
theorem new_step {Ha H1 H2 : Hp} {a : Addr} {o : HO} (ha : Ha a = some o) (s : ∀ b o, H1 b = some o → b ≠ a → H2 b = some o) : Same (New Ha H1) (New Ha H2) := fun b u e => by
  obtain ⟨e1, e2⟩ := of_new e
  refine new_of e1 (s b u e2 fun z => ?_)
  rw [z, ha] at e1
  cases e1
theorem new_weaken {H Ha H1 : Hp} (s : Same H Ha) : Same (New Ha H1) (New H H1) := fun b u e => by
  obtain ⟨e1, e2⟩ := of_new e
  exact new_of (s.free e1) e2
theorem paired_snoc {α β : Type} {R : α → β → Prop} {l : List α} {m : List β} {x : α} {y : β} (h : Paired R l m) (r : R x y) : Paired R (l ++ [x]) (m ++ [y]) := Paired.snoc h r
theorem at_i {bs : List At} {i : Nat} {x : V} (h : (atRefs bs)[i]? = some x) : ∃ b, bs[i]? = some b ∧ x = .ref b.1 := by
  rw [List.getElem?_map] at h
  cases e : bs[i]? with
  | none =>
    rw [e] at h
    cases h
  | some p =>
    rw [e] at h
    exact ⟨p, rfl, (Option.some.inj h).symm⟩
/-- the book at p -/
structure BookAt (CB : Addr) (H : Hp) (p d : Addr) (hand : Str) (n : Int) (es : List (Pr × V)) (f : Pr → List AW) : Prop where
  ins : ∃ dx, H p = some (.ins CB dx (bf hand n d))
  dict : H d = some (.dT (kvP es))
  held : HeldIs H es f
def rowsOf (es : List (Pr × V)) (f : Pr → List AW) : List (Pr × List Pr) := (neat (Pcs es)).map fun q => (q, unl (f q))
def spTold (CB CW : Addr) : Sp := fun vs H Q _ => ∃ (p d : Addr) (hand : Str) (n : Int) (es : List (Pr × V)) (f : Pr → List AW), vs = [.ref p] ∧ BookAt CB H p d hand n es f ∧ (∀ q, WrsAt CW H (f q) ∧ (f q).length < 64) ∧ es.length ≤ 1000 ∧
  ∀ H' a, Same H H' → ToldAt (New H H') a (rowsOf es f) → Q (.ref a) H'
def spClashes (CB CW : Addr) : Sp := fun vs H Q _ => ∃ (p d : Addr) (hand : Str) (n : Int) (es : List (Pr × V)) (f : Pr → List AW), vs = [.ref p] ∧ BookAt CB H p d hand n es f ∧ (∀ q, WrsAt CW H (f q) ∧ (f q).length < 64) ∧ es.length ≤ 1000 ∧
  ∀ H' a (out : List At), Same H H' → New H H' a = some (.lst (atRefs out)) → out.map (·.2) = (neat (Pcs es)).filter (fun q => decide (1 < (unl (f q)).length)) → (∀ b ∈ out, H b.1 = some (.tup [.str b.2.1, .str b.2.2])) → Q (.ref a) H'
def spWriting (CB CW CN : Addr) : Sp := fun vs H Q E => ∃ (p d : Addr) (hand : Str) (n : Int) (es : List (Pr × V)) (f : Pr → List AW) (tongue key : Str), vs = [.ref p, .str tongue, .str key] ∧ BookAt CB H p d hand n es f ∧ (∀ q, WrsAt CW H (f q) ∧ (f q).length < 64) ∧
  (∀ pr, unl (f (tongue, key)) = [pr] → ∀ H' t, Same H H' → New H H' t = some (.tup [.str pr.1, .str pr.2]) → Q (.ref t) H') ∧ ((unl (f (tongue, key))).length ≠ 1 → ∀ H', Same H H' → E (.ref CN) none H')
theorem scTold : FnScope ["self", "found", "piece"] ["self"] (defScope sTold) := ⟨rfl, rfl, rfl, by decide +kernel, rfl, by decide +kernel, by decide +kernel⟩
abbrev nClashes : List Str := ["self", "piece"]
theorem scClashes : FnScope nClashes ["self"] (defScope sClashes) := ⟨rfl, rfl, rfl, by decide +kernel, rfl, by decide +kernel, by decide +kernel⟩
theorem scWriting : FnScope ["self", "tongue", "key", "found"] ["self", "tongue", "key"] (defScope sWriting) := ⟨rfl, rfl, rfl, by decide +kernel, rfl, by decide +kernel, by decide +kernel⟩
theorem sorted_keys {es : List (Pr × V)} {out : List At} (hn : (Pcs es).Nodup) (pm : (out.map (·.2)).Perm (Pcs es)) (up : (out.map (·.2)).Pairwise fun a b => leP a b = true) : out.map (·.2) = neat (Pcs es) :=
  neat_of ⟨up, pm.nodup_iff.mpr hn⟩ fun p => pm.mem_iff
section
variable {P : Program} {w : World} {K : PySem.W.Frag} {mg : Str → Option Value} {base : Heap}
theorem ok_told {f CB CW fU : Addr} {fd fdU : FuncData} (F : Fun K "told" "Book.told" sTold f fd) (T : TxtB K mg CB) (W : TxtW K mg CW) (mSorted : mg "sorted" = none) (mSet : mg "set" = none)
    (FU : Fun K "unlike" "unlike" sUnlike fU fdU) (bU : Binds K fdU ["writings"] []) (gU : mg "unlike" = some (.ref fU)) : FnOk P w K mg base CX0 2 f fd ["self"] (spTold CB CW) := by
  have GU : FnOk P w K mg base CX0 1 fU fdU ["writings"] (spUnlike K CW) := ok_unlike FU W mSorted mSet
  refine F.ok scTold (fun vs H Q E h => ?_) (fun cdv A outer s H vs Q E hr h => ?_)
  · obtain ⟨p, d, hand, n, es, f, rfl, _⟩ := h
    rfl
  · obtain ⟨p, d, hand, n, es, f, rfl, ⟨⟨dx, hp⟩, hd, hf⟩, hw, hlen, k⟩ := h
    have hu := hu_of hr
    refine ⟨_, pss_cons (ps_set (i := 1) scTold.nd rfl (Or.inl rfl) (pe_lst pa_nil))
      (pss_cons (ps_for PassesOwn.never rfl (pi_list (pe_callB (cr_sortedD rfl hr.units) rfl mSorted (by decide +kernel) (pa_cons (pe_fld (pv 0) rfl) pa_nil))) (pg_name (i := 2) scTold.nd rfl (Or.inl rfl))
        (pss_one (ps_expr (pe_bm PySem.F.plainAttrs_list PySem.F.slot_list_append PySem.F.type_list_append mt_append (pv 1)
          (pa_cons (pe_tup (pa_cons (pe_ix ix_tup (pv 2) pe_int (fun _ _ => rfl)) (pa_cons (pe_ix ix_tup (pv 2) pe_int (fun _ _ => rfl)) (pa_cons (pe_call GU hr rfl gU FU.kp bU .nil pass0 (pa_cons (pe_dget hu (pe_fld (pv 0) rfl) (pv 2) (fun _ _ => rfl)) pa_nil)) pa_nil)))) pa_nil)))))
      (pss_one (ps_ret (pv 1)))), ?_⟩
    refine ⟨Nat.zero_le _, fun a ha => ?_⟩
    have sA : Same H (upd H a (.lst [])) := (Same.refl H).new ha
    have a1 : upd H a (.lst []) a = some (.lst []) := upd_same
    generalize upd H a (.lst []) = Ha at sA a1 ⊢
    refine ⟨_, rfl, p, CB, dx, _, _, rfl, sA _ _ hp, T.cl, T.nD, bf_held _ _ _, d, es, rfl, .inl (sA _ _ hd), fun out sl pm up tups hsl => ?_⟩
    have eout : out.map (·.2) = neat (Pcs es) := sorted_keys hf.once pm up
    have sS : Same Ha (upd Ha sl (.lst (atRefs out))) := (Same.refl Ha).new hsl
    have sl1 : upd Ha sl (.lst (atRefs out)) sl = some (.lst (atRefs out)) := upd_same
    have nsl : sl ≠ a := (ne_of_none a1 hsl).symm
    generalize upd Ha sl (.lst (atRefs out)) = Hs at sS sl1 ⊢
    refine ⟨sl, rfl, ⟨_, SqL.of sl1⟩, for_list (K := K) (a := sl) (xs := atRefs out)
      (fun i σ H' => ∃ (v : Option V) (xs : List V), σ = [some (.ref p), some (.ref a), v] ∧ (∀ b o, Hs b = some o → b ≠ a → H' b = some o) ∧ H' a = some (.lst xs) ∧ RowsAt (New Ha H') xs ((out.take i).map fun b => (b.2, unl (f b.2))))
      ⟨none, [], rfl, fun b o q _ => q, sS _ _ a1, .nil⟩ (fun i σ H' _ ⟨_, _, _, h, _⟩ => SqL.of (h _ _ sl1 nsl)) ?_ ?_⟩
    · rintro i x σ H1 hi ⟨v, xs, rfl, hb, hxs, rows⟩
      obtain ⟨b, hbi, rfl⟩ := at_i hi
      have hbm : b ∈ out := List.mem_of_getElem? hbi
      have old : ∀ c o, H c = some o → H1 c = some o := fun c o q => hb c o (sS _ _ (sA _ _ q)) (ne_of_none q ha)
      have tup1 : H1 b.1 = some (.tup [.str b.2.1, .str b.2.2]) := hb _ _ (sS _ _ (tups b hbm)) (ne_of (tups b hbm) a1 (fun z => nomatch z))
      have hk : b.2 ∈ Pcs es := pm.mem_iff.mp (List.mem_map.mpr ⟨b, hbm, rfl⟩)
      obtain ⟨e, he, ee⟩ := List.mem_map.mp hk
      obtain ⟨l, hl1, hl2⟩ := hf.each e he
      have hv : valV (kvP es) (pk b.2) = some (.ref l) := by
        rw [valV_kvP, ← ee, mem_val hf.once he, hl1]
      have ee' : e.1 = b.2 := ee
      rw [ee'] at hl2
      have lx : xs.length ≤ 1000 := by
        have h1 := Paired.length rows
        rw [List.length_map, List.length_take] at h1
        have h2 : out.length = es.length := by
          have := pm.length_eq
          rw [List.length_map, List.length_map] at this
          exact this
        omega
      refine ⟨_, rfl, .inl ⟨rfl, _, SqL.of hxs⟩, _, rfl, b.1, _, _, _, rfl, rfl, SqT.of tup1, (by rfl), _, rfl, b.1, _, _, _, rfl, rfl, SqT.of tup1, (by rfl), ?_⟩
      refine ⟨_, rfl, p, CB, dx, _, _, rfl, old _ _ hp, T.cl, T.nD, bf_held _ _ _, _, rfl, d, .ref l, rfl, (by rw [← hv]; exact DGet.t (old _ _ hd) tup1), ?_⟩
      refine ⟨l, f b.2, rfl, SqL.of (old _ _ hl2), (hw b.2).1.mono old, (hw b.2).2, fun H2 q out2 s2 hq1 hq2 e2 m2 => ?_⟩
      refine ⟨(by show 3 ≤ sizeLine; decide), fun t ht => ?_⟩
      have s3 : Same H2 (upd H2 t (.tup [.str b.2.1, .str b.2.2, .ref q])) := (Same.refl H2).new ht
      have t3 : upd H2 t (.tup [.str b.2.1, .str b.2.2, .ref q]) t = some (.tup [.str b.2.1, .str b.2.2, .ref q]) := upd_same
      generalize upd H2 t (.tup [.str b.2.1, .str b.2.2, .ref q]) = H3 at s3 t3 ⊢
      have s13 : Same H1 H3 := s2.trans s3
      refine ⟨a, xs, _, rfl, rfl, s13 _ _ hxs, small1000 lx, ?_⟩
      have keep : ∀ c o, H1 c = some o → c ≠ a → upd H3 a (.lst (xs ++ [.ref t])) c = some o := fun c o z y => by
        rw [upd_ne y]
        exact s13 _ _ z
      have neww : ∀ c o, H1 c = none → H3 c = some o → New Ha (upd H3 a (.lst (xs ++ [.ref t]))) c = some o := fun c o z y => by
        have nc : c ≠ a := (ne_of_none hxs z).symm
        have z2 : Hs c = none := by
          cases w2 : Hs c with
          | none => rfl
          | some u =>
            rw [hb c u w2 nc] at z
            cases z
        exact new_of (sS.free z2) (by rw [upd_ne nc]; exact y)
      refine ⟨_, xs ++ [.ref t], rfl, fun c o z y => keep c o (hb c o z y) y, upd_same, ?_⟩
      rw [take_one_more hbi, List.map_append]
      refine paired_snoc (rows.mono (new_step a1 keep)) ⟨t, q, out2, rfl, neww t _ (s2.free ht) t3, neww q _ hq1 (s3 _ _ hq2), e2, ?_, fun c hc => neww _ _ (m2 c hc).1 (s3 _ _ (m2 c hc).2)⟩
      have h1 : (out2.map (·.2)).length = (unl (f b.2)).length := by rw [e2]; rfl
      have h2 : (unl (f b.2)).length ≤ ((f b.2).map fun x => x.2.pair).length := len_le_of (neat_neat _).once fun x hx => mem_neat.mp hx
      rw [List.length_map] at h1 h2
      have := (hw b.2).2
      omega
    · rintro σ H1 ⟨v, xs, rfl, hb, hxs, rows⟩
      have e9 : out.take (atRefs out).length = out := by rw [List.length_map, List.take_length]
      rw [e9] at rows
      have old : Same H H1 := fun c o q => hb c o (sS _ _ (sA _ _ q)) (ne_of_none q ha)
      refine ⟨_, rfl, k H1 a old ⟨xs, new_of ha hxs, ?_⟩⟩
      have er : rowsOf es f = out.map fun b => (b.2, unl (f b.2)) := by
        unfold rowsOf
        rw [← eout, List.map_map]
        rfl
      rw [er]
      exact rows.mono (new_weaken sA)
end
end K82

set_option Elab.async false
set_option linter.all false
set_option maxRecDepth 100000
set_option maxHeartbeats 4000000
namespace K82
open PySem PySem.Spec PyProof.Rows L2

/-- len(l) -/
def rLenQ (K : PySem.W.Frag) : List V → Hp → VK → Prop := fun xs H Q => ∃ p ys, xs = [.ref p] ∧ (SqL K H p ys ∨ SqT K H p ys) ∧ Q (.int ys.length) H
def rGtI : R2 := rI0 fun i j => .bl (decide (j < i))
/-- what NoWriting must say -/
structure TxtN (K : PySem.W.Frag) (mg : Str → Option Value) (CN : Addr) : Prop where
  mg : mg "NoWriting" = some (.ref CN)
  kN : PySem.W.keepIn K (.ref CN) = true
  xN : PySem.W.excIn K CN [.type "ValueError", .type "Exception", .type "BaseException", .type "object"] "ValueError.__new__" = true
  bN : PySem.W.subIn K (.ref CN) (.type "BaseException") = some true
  tN : PySem.W.typeIn K (.ref CN) = some (.type "type")
theorem unl_len (ws : List AW) : (unl ws).length ≤ ws.length := by
  have h := len_le_of (neat_neat (ws.map fun x => x.2.pair)).once fun x hx => mem_neat.mp hx
  rw [List.length_map] at h
  exact h
section
variable {P : Program} {w : World} {K : PySem.W.Frag} {mg : Str → Option Value} {base : Heap}
theorem ok_clashes {f CB CW fU : Addr} {fd fdU : FuncData} (F : Fun K "clashes" "Book.clashes" sClashes f fd) (T : TxtB K mg CB) (W : TxtW K mg CW) (mSorted : mg "sorted" = none) (mSet : mg "set" = none) (mLen : mg "len" = none)
    (FU : Fun K "unlike" "unlike" sUnlike fU fdU) (bU : Binds K fdU ["writings"] []) (gU : mg "unlike" = some (.ref fU)) : FnOk P w K mg base CX0 2 f fd ["self"] (spClashes CB CW) := by
  have GU : FnOk P w K mg base CX0 1 fU fdU ["writings"] (spUnlike K CW) := ok_unlike FU W mSorted mSet
  refine F.ok scClashes (fun vs H Q E h => ?_) (fun cdv A outer s H vs Q E hr h => ?_)
  · obtain ⟨p, d, hand, n, es, f, rfl, _⟩ := h
    rfl
  · obtain ⟨p, d, hand, n, es, f, rfl, ⟨⟨dx, hp⟩, hd, hf⟩, hw, hlen, k⟩ := h
    have hu := hu_of hr
    refine ⟨_, pss_one (ps_ret (pe_lc (own := [("piece", 1)]) (g := gName 1)
      (tt := tTest (tOp rGtI (tCB (rLenQ K) (tCons (tCall (spUnlike K CW) [] E0 (tCons (tDGet (tFld K (tVar 0) "held") (tVar 1)) tNil)) tNil)) (tC (.int 1)))) (te := tVar 1) rfl scClashes.nd
      (pi_list (pe_callB (cr_sortedD rfl hr.units) rfl mSorted (by decide +kernel) (pa_cons (pe_fld (pv 0) rfl) pa_nil)))
      (blkOk_by (own := [("piece", 1)]) (N := nClashes) (sc := defScope sClashes) (by decide +kernel)) (fun _ _ _ _ _ => pg_name (i := 1) scClashes.nd rfl (Or.inl rfl))
      (fun _ _ _ _ _ => by exact pts_one (pt_cmpR op_gt (pe_callB call_len_seq (by rfl) mLen PySem.boot_len (pa_cons (pe_call GU hr rfl gU FU.kp bU .nil pass0 (pa_cons (pe_dget hu (pe_fld (pv 0) rfl) (pv 1) (fun _ _ => rfl)) pa_nil)) pa_nil)) pe_int (nomark _)))
      (fun _ _ _ _ _ => by exact pv 1))), ?_⟩
    refine ⟨_, rfl, p, CB, dx, _, _, rfl, hp, T.cl, T.nD, bf_held _ _ _, d, es, rfl, .inl hd, fun out sl pm up tups hsl => ?_⟩
    have eout : out.map (·.2) = neat (Pcs es) := sorted_keys hf.once pm up
    have lout : out.length = es.length := by
      have := pm.length_eq
      rw [List.length_map, List.length_map] at this
      exact this
    have sS : Same H (upd H sl (.lst (atRefs out))) := (Same.refl H).new hsl
    have sl1 : upd H sl (.lst (atRefs out)) sl = some (.lst (atRefs out)) := upd_same
    generalize upd H sl (.lst (atRefs out)) = Hs at sS sl1 ⊢
    refine ⟨sl, rfl, ⟨_, SqL.of sl1⟩, fun D hD => ?_⟩
    refine lc_list (K := K) (a := sl) (xs := atRefs out) (fun i H' => Same Hs H' ∧ H' D = some (.lst (atRefs ((out.take i).filter fun b => decide (1 < (unl (f b.2)).length)))))
      ⟨(Same.refl Hs).over hD, upd_same⟩ (fun i H' _ h => SqL.of (h.1 _ _ sl1)) ?_ ?_
    · rintro i x H1 hi ⟨sH, hDl⟩
      obtain ⟨b, hbi, rfl⟩ := at_i hi
      have hbm : b ∈ out := List.mem_of_getElem? hbi
      have old : Same H H1 := sS.trans sH
      have hk : b.2 ∈ Pcs es := pm.mem_iff.mp (List.mem_map.mpr ⟨b, hbm, rfl⟩)
      obtain ⟨e, he, ee⟩ := List.mem_map.mp hk
      obtain ⟨l, hl1, hl2⟩ := hf.each e he
      have hv : valV (kvP es) (pk b.2) = some (.ref l) := by
        rw [valV_kvP, ← ee, mem_val hf.once he, hl1]
      have ee' : e.1 = b.2 := ee
      rw [ee'] at hl2
      refine ⟨rfl, ?_⟩
      refine ⟨_, rfl, p, CB, dx, _, _, rfl, old _ _ hp, T.cl, T.nD, bf_held _ _ _, _, rfl, d, .ref l, rfl, (by rw [← hv]; exact DGet.t (old _ _ hd) (old _ _ (tups b hbm))), ?_⟩
      refine ⟨l, f b.2, rfl, SqL.of (old _ _ hl2), (hw b.2).1.mono old, (hw b.2).2, fun H2 q out2 s2 hq1 hq2 e2 m2 => ?_⟩
      have le2 : (atRefs out2).length = (unl (f b.2)).length := by
        have := congrArg List.length e2
        rw [List.length_map] at this
        rw [List.length_map, this]
        rfl
      refine ⟨q, atRefs out2, rfl, .inl (SqL.of hq2), _, _, rfl, rfl, _, rfl, ?_⟩
      have step : (out.take (i + 1)).filter (fun b => decide (1 < (unl (f b.2)).length)) = (out.take i).filter (fun b => decide (1 < (unl (f b.2)).length)) ++ (if decide (1 < (unl (f b.2)).length) = true then [b] else []) := by
        rw [take_one_more hbi, List.filter_append, List.filter_cons]
        rfl
      have hD2 := s2 _ _ hDl
      have ec : decide ((1 : Int) < ((atRefs out2).length : Int)) = decide (1 < (unl (f b.2)).length) := by
        rw [le2]
        exact decide_eq_decide.mpr (by omega)
      rw [ec]
      by_cases c : decide (1 < (unl (f b.2)).length) = true
      · rw [if_pos c] at step
        refine if_yes c ⟨_, rfl, _, hD2, ?_, (sH.trans s2).over hD, ?_⟩
        · rw [List.length_map]
          refine small1000 (Nat.le_trans (List.length_filter_le _ _) ?_)
          rw [List.length_take]
          omega
        · rw [upd_same, step, atRefs_add]
          rfl
      · rw [if_neg c, List.append_nil] at step
        refine if_no c ⟨sH.trans s2, ?_⟩
        rw [step]
        exact hD2
    · rintro H1 ⟨sH, hDl⟩
      have e9 : out.take (atRefs out).length = out := by rw [List.length_map, List.take_length]
      rw [e9] at hDl
      refine k H1 D _ (sS.trans sH) (new_of (sS.free hD) hDl) ?_ fun b hb => tups b (List.mem_filter.mp hb).1
      rw [← eout, List.filter_map]
      rfl
theorem ok_writing {f CB CW CN fU : Addr} {fd fdU : FuncData} (F : Fun K "writing" "Book.writing" sWriting f fd) (T : TxtB K mg CB) (W : TxtW K mg CW) (N : TxtN K mg CN) (mSorted : mg "sorted" = none) (mSet : mg "set" = none) (mLen : mg "len" = none)
    (FU : Fun K "unlike" "unlike" sUnlike fU fdU) (bU : Binds K fdU ["writings"] []) (gU : mg "unlike" = some (.ref fU)) : FnOk P w K mg base (L2.CX P w) 2 f fd ["self", "tongue", "key"] (spWriting CB CW CN) := by
  have GU : FnOk P w K mg base CX0 1 fU fdU ["writings"] (spUnlike K CW) := ok_unlike FU W mSorted mSet
  refine F.okX scWriting (fun vs H Q E h => ?_) (fun cdv A outer s H vs Q E hr h => ?_)
  · obtain ⟨p, d, hand, n, es, f, tongue, key, rfl, _⟩ := h
    rfl
  · obtain ⟨p, d, hand, n, es, f, tongue, key, rfl, ⟨⟨dx, hp⟩, hd, hf⟩, hw, k1, k2⟩ := h
    have hu := hu_of hr
    refine ⟨tSeq (tAsg (tCall (spUnlike K CW) [] E0 (tCons (tDGet2 (tFld K (tVar 0) "held") (tTup (tCons (tVar 1) (tCons (tVar 2) tNil))) (tLst tNil)) tNil)) (gName 3))
      (tSeq (tIfS (tTest (tOp rNe (tCB (rLenQ K) (tCons (tVar 3) tNil)) (tC (.int 1)))) (fun _ _ H => E (.ref CN) none H) tNext) (tRet (tOp (rIxL K) (tVar 3) (tC (.int 0))))), ?_, ?_⟩
    · exact pss_cons (ps_set (i := 3) scWriting.nd rfl (Or.inl rfl) (pe_call GU hr rfl gU FU.kp bU .nil pass0 (pa_cons (pe_dget2 hu (pe_fld (pv 0) rfl) (pe_tup (pa_cons (pv 1) (pa_cons (pv 2) pa_nil))) (pe_lst pa_nil) ⟨rfl, rfl, rfl, rfl⟩) pa_nil)))
        (pss_cons (ps_if (pt_cmpR op_ne (pe_callB call_len_seq (by rfl) mLen PySem.boot_len (pa_cons (pv 3) pa_nil)) pe_int (nomark _))
          (pss_one (ps_raise (W := fun cls d _ H => E cls d H) rfl (takes_of rfl rfl rfl rfl) (pmk_own PySem.F.excBase_ValueError N.xN N.mg N.kN (raises_own N.bN N.tN) (by exact rfl)))) pss_nil)
        (pss_one (ps_ret (pe_ix ix_list (pv 3) pe_int (fun _ _ => rfl)))))
    · refine ⟨_, rfl, p, CB, dx, _, _, rfl, hp, T.cl, T.nD, bf_held _ _ _, d, rfl, .inr ⟨_, .inl hd⟩, _, rfl, _, rfl, (by show 2 ≤ sizeLine; decide), fun t ht => ⟨Nat.zero_le _, fun c hc => ?_⟩⟩
      have s1 : Same H (upd H t (.tup [.str tongue, .str key])) := (Same.refl H).new ht
      have t1 : upd H t (.tup [.str tongue, .str key]) t = some (.tup ((pk (tongue, key)).map kV)) := upd_same
      generalize upd H t (.tup [.str tongue, .str key]) = H1 at s1 t1 hc ⊢
      have s2 : Same H1 (upd H1 c (.lst [])) := (Same.refl H1).new hc
      have c2 : upd H1 c (.lst []) c = some (.lst (refs [])) := upd_same
      generalize upd H1 c (.lst []) = H2 at s2 c2 ⊢
      have s02 := s1.trans s2
      refine ⟨valV (kvP es) (pk (tongue, key)), DGet.t (s02 _ _ hd) (s2 _ _ t1), ?_⟩
      obtain ⟨l, hl1, hl2⟩ : ∃ l, (valV (kvP es) (pk (tongue, key))).getD (.ref c) = .ref l ∧ H2 l = some (.lst (refs (f (tongue, key)))) := by
        rcases hf.list (tongue, key) with ⟨h1, h2⟩ | ⟨l, h1, h2⟩
        · exact ⟨c, by rw [h1]; rfl, by rw [h2]; exact c2⟩
        · exact ⟨l, by rw [h1]; rfl, s02 _ _ h2⟩
      refine ⟨l, f (tongue, key), by rw [hl1]; rfl, SqL.of hl2, (hw _).1.mono s02, (hw _).2, fun H3 q out s3 hq0 hq e3 m3 => ?_⟩
      have s03 : Same H H3 := s02.trans s3
      have lq : (atRefs out).length = (unl (f (tongue, key))).length := by
        have := congrArg List.length e3
        rw [List.length_map] at this
        rw [List.length_map, this]
        rfl
      refine ⟨_, rfl, q, atRefs out, rfl, .inl (SqL.of hq), rfl, _, rfl, ?_⟩
      by_cases c9 : (unl (f (tongue, key))).length = 1
      · refine if_no ?_ ?_
        · rw [lq, c9]
          decide
        · obtain ⟨pr, epr⟩ : ∃ pr, unl (f (tongue, key)) = [pr] := by
            match hx : unl (f (tongue, key)) with
            | [] => rw [hx] at c9; cases c9
            | [pr] => exact ⟨pr, rfl⟩
            | a :: b :: r => rw [hx] at c9; simp at c9
          have e4 : out.map (·.2) = [pr] := by rw [e3]; exact epr
          match out, e4, m3, hq with
          | [b], e4, m3, hq =>
            have eb : b.2 = pr := by
              injection e4
            refine ⟨_, rfl, q, _, _, _, rfl, rfl, SqL.of hq, (by rfl), k1 pr epr H3 b.1 s03 ?_⟩
            have m := m3 b List.mem_cons_self
            rw [← eb]
            exact new_of (s02.free m.1) m.2
      · refine if_yes ?_ (k2 c9 H3 s03)
        rw [lq]
        have n1 : ¬ (V.int ((unl (f (tongue, key))).length : Int) = V.int 1) := fun z => by
          injection z with z
          omega
        rw [decide_eq_false n1]
        rfl
end
end K82

set_option Elab.async false
set_option linter.all false
set_option maxRecDepth 100000
set_option maxHeartbeats 4000000
namespace K82
open PySem PySem.Spec PyProof.Rows L2

abbrev sCellAt : Stmt := top 24
abbrev sSome : Stmt := top 25
abbrev sRow : Stmt := top 26
abbrev sAnother : Stmt := top 27
abbrev sNone : Stmt := top 28
abbrev sPair : Stmt := top 29
abbrev sDrawn : Stmt := top 30
abbrev sHeld : Stmt := top 31
abbrev sLUnlike : Stmt := top 32
abbrev sLTold : Stmt := top 33
abbrev sIs : Stmt := top 34
abbrev sLooks : Stmt := top 35
abbrev sDeed : Stmt := top 36
abbrev sLaw : Stmt := top 37

/-! ## texts times numbers -/
section
variable {X : Cx}
theorem op_mulS : OpR X (binaryOp .Mult) (fun x y H Q => ∃ z n, x = .str z ∧ y = .int n ∧ z.length ≤ 16 ∧ 0 ≤ n ∧ n ≤ 1000 ∧ Q (.str (Txt.mul z n)) H) := by
  intro pins s σ H x y v u Q I rx ry h
  obtain ⟨z, n, rfl, rfl, hz, h0, h1, q⟩ := h
  obtain ⟨t, rfl⟩ := rx
  obtain ⟨t2, rfl⟩ := ry
  exact SB.mul (mulOk_of 16 1000 hz (by omega) (by omega) (by decide) (by decide)) fun t' k => ⟨.str _, H, I.tok k, ⟨t', rfl⟩, q⟩
end
def rMulS : R2 := fun x y H Q => ∃ z n, x = .str z ∧ y = .int n ∧ z.length ≤ 16 ∧ 0 ≤ n ∧ n ≤ 1000 ∧ Q (.str (Txt.mul z n)) H

/-! ## _law_cell_at -/
def spCellAt (K : PySem.W.Frag) : Sp := fun vs H Q _ => ∃ (a : Addr) (ns : List Int) (k : Nat), vs = [.ref a, .int k] ∧ SqL K H a (ns.map V.int) ∧ ∀ z : Int, Q (.int z) H
theorem scCellAt : FnScope ["_law_script", "_law_k"] ["_law_script", "_law_k"] (defScope sCellAt) := ⟨rfl, rfl, rfl, by decide +kernel, rfl, by decide +kernel, by decide +kernel⟩
section
variable {P : Program} {w : World} {K : PySem.W.Frag} {mg : Str → Option Value} {base : Heap}
theorem ok_cellAt {f : Addr} {fd : FuncData} (F : Fun K "_law_cell_at" "_law_cell_at" sCellAt f fd) (mLen : mg "len" = none) : FnOk P w K mg base CX0 1 f fd ["_law_script", "_law_k"] (spCellAt K) := by
  refine F.ok scCellAt (fun vs H Q E h => ?_) (fun cdv A outer s H vs Q E hr h => ?_)
  · obtain ⟨a, ns, k, rfl, _⟩ := h
    rfl
  · obtain ⟨a, ns, k, rfl, ha, q⟩ := h
    refine ⟨_, pss_cons (ps_if (pt_cmpR op_lt (pv 1) (pe_callB call_len_seq (by rfl) mLen PySem.boot_len (pa_cons (pv 0) pa_nil)) (nomark _)) (pss_one (ps_ret (pe_ix ix_list (pv 0) (pv 1) (fun _ _ => rfl)))) pss_nil)
      (pss_one (ps_ret pe_int)), ?_⟩
    refine ⟨_, rfl, _, rfl, a, _, rfl, .inl ha, _, _, rfl, rfl, _, rfl, ?_⟩
    by_cases c : (k : Int) < ((ns.map V.int).length : Int)
    · refine if_yes (decide_eq_true c) ?_
      have hk : k < ns.length := by rw [List.length_map] at c; omega
      refine ⟨_, rfl, _, rfl, a, _, _, V.int (ns[k]'hk), rfl, rfl, ha, atI_nat ?_, q _⟩
      rw [List.getElem?_map, List.getElem?_eq_getElem hk]
      rfl
    · exact if_no (by rw [decide_eq_false c]; exact Bool.false_ne_true) (q 0)
end
/-! ## texts of one sign -/
/-- one sign of a written text, at a place below its length -/
theorem sign_at {z : Str} {n : Nat} (hz : z.cps.toList.length = n) {i : Int} (h0 : 0 ≤ i) (h1 : i < n) : ∃ c, atI z.cps.toList i = some c ∧ z.cps.toList[i.toNat]? = some c := by
  have hi : i.toNat < z.cps.toList.length := by omega
  have hc := List.getElem?_eq_getElem hi
  have ha := atI_nat hc
  rw [Int.toNat_of_nonneg h0] at ha
  exact ⟨_, ha, hc⟩
end K82

set_option Elab.async false
set_option linter.all false
set_option maxRecDepth 100000
set_option maxHeartbeats 4000000
namespace K82
open PySem PySem.Spec PyProof.Rows L2

abbrev rDivQ : R2 := rI CDiv fun i j => .int (i / j)
abbrev rModQ : R2 := rI (fun _ j => 0 < j) fun i j => .int (i % j)
abbrev rAddQ : R2 := rI0 fun i j => .int (i + j)
abbrev rMulQ : R2 := rI CMul fun i j => .int (i * j)
abbrev rCatQ : R2 := fun x y H Q => ∃ i j, x = .str i ∧ y = .str j ∧ i.length + j.length ≤ sizeLine ∧ Q (.str (i ++ j)) H
theorem small_len {n : Nat} (h : n ≤ 10000) : n ≤ sizeLine := by rw [sizeLine_eq]; omega
theorem strs_take {ws : List Str} {i : Nat} : True := trivial
theorem div_ok {j : Int} (h : 0 < j) (h2 : j < 1073741824) (i : Int) : CDiv i j := ⟨h, h2⟩
abbrev strV (ws : List Str) : List V := ws.map V.str
theorem strV_add (a b : List Str) : strV (a ++ b) = strV a ++ strV b := List.map_append
theorem range_more (g : Nat → Str) (i : Nat) : (List.range (i + 1)).map g = (List.range i).map g ++ [g i] := by
  rw [List.range_succ, List.map_append]
  rfl
theorem nodup_range {g : Nat → Str} : ∀ m, (∀ i, i < m → ∀ j, j < i → g j ≠ g i) → ((List.range m).map g).Nodup
  | 0, _ => List.nodup_nil
  | m + 1, h => by
    rw [range_more]
    refine nd_snoc (nodup_range m fun i hi j hj => h i (Nat.lt_succ_of_lt hi) j hj) fun hm => ?_
    obtain ⟨j, hj, e⟩ := List.mem_map.mp hm
    exact h m (Nat.lt_succ_self m) j (List.mem_range.mp hj) e

/-- what one-sign texts are joined to is no longer than they are many -/
theorem joinL_short : ∀ ps : List (List Nat), (∀ p ∈ ps, p.length ≤ 1) → (TL.joinL [] ps).length ≤ ps.length
  | [], _ => Nat.le_refl _
  | [p], h => by
    show p.length ≤ 1
    exact h p List.mem_cons_self
  | p :: q :: r, h => by
    show (p ++ ([] ++ TL.joinL [] (q :: r))).length ≤ (q :: r).length + 1
    rw [List.nil_append, List.length_append]
    have h1 := joinL_short (q :: r) fun x hx => h x (List.mem_cons_of_mem _ hx)
    have h2 := h p List.mem_cons_self
    omega
theorem join_short {sep : Str} (hs : sep.cps.toList = []) {ps : List Str} (h : ∀ p ∈ ps, p.cps.toList.length ≤ 1) : (Txt.join sep ps).length ≤ ps.length := by
  rw [TL.join_eq, TL.len_tl, TL.tl_join]
  have e : TL.tl sep = [] := hs
  rw [e]
  have := joinL_short (ps.map TL.tl) fun x hx => by
    obtain ⟨p, hp, rfl⟩ := List.mem_map.mp hx
    exact h p hp
  rw [List.length_map] at this
  exact this
theorem cat_inj {a b x y : Str} (h : a ++ x ++ b = a ++ y ++ b) : x = y := by
  have e := congrArg TL.tl h
  rw [TL.tl_append, TL.tl_append, TL.tl_append, TL.tl_append] at e
  exact TL.ext_tl (List.append_cancel_left (List.append_cancel_right e))
theorem one_inj {a b : Nat} (h : (⟨#[a]⟩ : Str) = ⟨#[b]⟩) : a = b := by
  injection h with h
  injection h with h
  injection h
/-! ## _law_some_words -/
def letL : Str := ("abcdefghijkmnopqrstuvwxyz" : Str)
theorem letL_len : letL.cps.toList.length = 25 := by decide +kernel
theorem letL_once : letL.cps.toList.Nodup := by decide +kernel
theorem letL_size : letL.length ≤ sizeLine := by
  rw [TL.len_tl]
  show letL.cps.toList.length ≤ sizeLine
  rw [letL_len]
  exact small_len (by omega)
def spSome : Sp := fun vs H Q _ => ∃ (cell : Int) (m : Nat), vs = [.int cell, .int m] ∧ m ≤ 25 ∧ ∀ H' p ws, Same H H' → H p = none → H' p = some (.lst (strV ws)) → ws.length = m → ws.Nodup → Q (.ref p) H'
abbrev nSome : List Str := ["_law_cell", "_law_many", "_law_letters", "_law_wide", "_law_at", "_law_base", "_law_k", "_law_j"]
theorem scSome : FnScope nSome ["_law_cell", "_law_many"] (defScope sSome) := ⟨rfl, rfl, rfl, by decide +kernel, rfl, by decide +kernel, by decide +kernel⟩
section
variable {P : Program} {w : World} {K : PySem.W.Frag} {mg : Str → Option Value} {base : Heap}
abbrev teW1 : TE := tOp rMulS (tOp rIxS (tVar 2) (tOp rModQ (tOp rDivQ (tVar 0) (tC (.int 21))) (tC (.int 25)))) (tOp rAddQ (tVar 6) (tC (.int 1)))
abbrev teW2 : TE := tOp rIxS (tVar 2) (tOp rModQ (tOp rAddQ (tOp rAddQ (tOp rDivQ (tVar 0) (tC (.int 64))) (tOp rMulQ (tC (.int 7)) (tVar 7))) (tOp rMulQ (tOp rMulQ (tOp rModQ (tOp rDivQ (tVar 0) (tC (.int 5))) (tC (.int 11))) (tVar 7)) (tVar 7))) (tC (.int 25)))
abbrev teW3 : TE := tOp rCatQ (tOp rCatQ (tSl rSlS (tVar 5) tNoPart (tPart (tVar 4))) (tOp rIxS (tVar 2) (tOp rModQ (tOp rAddQ (tOp rDivQ (tVar 0) (tC (.int 3))) (tVar 6)) (tC (.int 25)))))
  (tSl rSlS (tVar 5) (tPart (tOp rAddQ (tVar 4) (tC (.int 1)))) (tPart (tVar 3)))
theorem ok_some {f : Addr} {fd : FuncData} (F : Fun K "_law_some_words" "_law_some_words" sSome f fd) (mRange : mg "range" = none) : FnOk P w K mg base CX0 1 f fd ["_law_cell", "_law_many"] spSome := by
  refine F.ok scSome (fun vs H Q E h => ?_) (fun cdv A outer s H vs Q E hr h => ?_)
  · obtain ⟨cell, m, rfl, _⟩ := h
    rfl
  · obtain ⟨cell, m, rfl, hm, k⟩ := h
    refine ⟨_, pss_cons (ps_set (i := 2) scSome.nd rfl (Or.inr rfl) pe_str)
      (pss_cons (ps_if (pt_cmpR op_eq (pe_op op_mod (pe_op op_fdiv (pv 0) pe_int) pe_int) pe_int (nomark _))
        (pss_one (ps_ret (pe_lc (own := [("_law_k", 6)]) (g := gName 6) (tt := tYes) (te := teW1) rfl scSome.nd (pi_range1 (by exact rfl) mRange (pa_cons (pv 1) pa_nil))
          (blkOk_by (own := [("_law_k", 6)]) (N := nSome) (sc := defScope sSome) (by decide +kernel)) (fun _ _ _ _ _ => pg_name (i := 6) scSome.nd rfl (Or.inl rfl)) (fun _ _ _ _ _ => pts_nil)
          (fun _ _ _ _ _ => by exact pe_op op_mulS (pe_ix ix_str (pv 2) (pe_op op_mod (pe_op op_fdiv (pv 0) pe_int) pe_int) (fun _ _ => rfl)) (pe_op op_add (pv 6) pe_int))))) pss_nil)
      (pss_cons (ps_set (i := 3) scSome.nd rfl (Or.inr rfl) (pe_op op_add pe_int (pe_op op_mod (pv 0) pe_int)))
      (pss_cons (ps_set (i := 4) scSome.nd rfl (Or.inr rfl) (pe_op op_mod (pe_op op_fdiv (pv 0) pe_int) (pv 3)))
      (pss_cons (ps_set (i := 5) scSome.nd rfl (Or.inr rfl) (pe_join pe_str (pe_lc (own := [("_law_j", 7)]) (g := gName 7) (tt := tYes) (te := teW2) rfl scSome.nd (pi_range1 (by exact rfl) mRange (pa_cons pe_int pa_nil))
          (blkOk_by (own := [("_law_j", 7)]) (N := nSome) (sc := defScope sSome) (by decide +kernel)) (fun _ _ _ _ _ => pg_name (i := 7) scSome.nd rfl (Or.inl rfl)) (fun _ _ _ _ _ => pts_nil)
          (fun _ _ _ _ _ => by exact pe_ix ix_str (pv 2) (pe_op op_mod (pe_op op_add (pe_op op_add (pe_op op_fdiv (pv 0) pe_int) (pe_op op_mul pe_int (pv 7))) (pe_op op_mul (pe_op op_mul (pe_op op_mod (pe_op op_fdiv (pv 0) pe_int) pe_int) (pv 7)) (pv 7))) pe_int) (fun _ _ => rfl)))))
      (pss_one (ps_ret (pe_lc (own := [("_law_k", 6)]) (g := gName 6) (tt := tYes) (te := teW3) rfl scSome.nd (pi_range1 (by exact rfl) mRange (pa_cons (pv 1) pa_nil))
          (blkOk_by (own := [("_law_k", 6)]) (N := nSome) (sc := defScope sSome) (by decide +kernel)) (fun _ _ _ _ _ => pg_name (i := 6) scSome.nd rfl (Or.inl rfl)) (fun _ _ _ _ _ => pts_nil)
          (fun _ _ _ _ _ => by exact pe_op op_add_str (pe_op op_add_str (pe_slice sl_str (pv 5) po_none (po_some (pv 4))) (pe_ix ix_str (pv 2) (pe_op op_mod (pe_op op_add (pe_op op_fdiv (pv 0) pe_int) (pv 6)) pe_int) (fun _ _ => rfl))) (pe_slice sl_str (pv 5) (po_some (pe_op op_add (pv 4) pe_int)) (po_some (pv 3))))))))))), ?_⟩
    have d25 : (0 : Int) < 25 := by decide
    by_cases c : decide (V.int (cell / 7 % 3) = V.int 1) = true
    · refine ⟨_, rfl, _, _, rfl, rfl, ⟨by decide, by decide⟩, _, _, rfl, rfl, (by show (0 : Int) < 3; decide), rfl, _, rfl, ?_⟩
      refine if_yes c ⟨_, rfl, (m : Int), rfl, by omega, by omega, fun D hD => ?_⟩
      obtain ⟨sg, h1, h2⟩ := sign_at letL_len (i := cell / 21 % 25) (Int.emod_nonneg _ (by decide)) (Int.emod_lt_of_pos _ d25)
      refine lc_range (lo := 0) (n := ((m : Int)).toNat) (fun i H' => Same H H' ∧ H' D = some (.lst (strV ((List.range i).map fun (i : Nat) => Txt.mul ⟨#[sg]⟩ ((0 + (i : Int)) + 1)))))
        ⟨(Same.refl H).over hD, upd_same⟩ ?_ ?_
      · rintro i H1 hi ⟨sH, hDl⟩
        rw [Int.toNat_natCast] at hi
        refine ⟨rfl, ?_⟩
        refine yes_if ?_
        refine ⟨_, rfl, _, rfl, _, _, rfl, rfl, ⟨by decide, by decide⟩, _, _, rfl, rfl, d25, letL, _, sg, rfl, rfl, letL_size, h1, _, rfl, _, _, rfl, rfl, _, _, rfl, rfl, (by show 1 ≤ 16; decide), by omega, by omega, _, hDl, ?_, sH.over hD, ?_⟩
        · rw [List.length_map, List.length_map, List.length_range]
          exact small1000 (by omega)
        · rw [upd_same, range_more, strV_add]
          rfl
      · rintro H1 ⟨sH, hDl⟩
        rw [Int.toNat_natCast] at hDl
        refine k H1 D _ sH hD hDl (by rw [List.length_map, List.length_range]) (nodup_range m fun i hi j hj e => ?_)
        have e2 := congrArg (fun x : Str => x.cps.toList.length) e
        have e3 : (Txt.mul (⟨#[sg]⟩ : Str) ((0 + (j : Int)) + 1)).cps.toList.length = (Txt.mul (⟨#[sg]⟩ : Str) ((0 + (i : Int)) + 1)).cps.toList.length := e2
        rw [mul_one_list, mul_one_list, List.length_replicate, List.length_replicate] at e3
        omega
    · refine ⟨_, rfl, _, _, rfl, rfl, ⟨by decide, by decide⟩, _, _, rfl, rfl, (by show (0 : Int) < 3; decide), rfl, _, rfl, ?_⟩
      refine if_no c ?_
      have w0 : 0 ≤ cell % 8 := Int.emod_nonneg _ (by decide)
      have w1 : cell % 8 < 8 := Int.emod_lt_of_pos _ (by decide)
      refine ⟨_, rfl, _, _, rfl, rfl, (by show (0 : Int) < 8; decide), _, _, rfl, rfl, ?_⟩
      have wp : 0 < 1 + cell % 8 := by omega
      refine ⟨_, rfl, _, _, rfl, rfl, ⟨by decide, by decide⟩, _, rfl, _, _, rfl, rfl, wp, ?_⟩
      -- base
      refine ⟨⟨_, rfl⟩, 8, rfl, by decide, by decide, fun D hD => ?_⟩
      have sg : ∀ i : Int, ∃ s, atI letL.cps.toList (i % 25) = some s ∧ letL.cps.toList[(i % 25).toNat]? = some s := fun i => sign_at letL_len (Int.emod_nonneg _ (by decide)) (Int.emod_lt_of_pos _ d25)
      refine lc_range (lo := 0) (n := (8 : Int).toNat) (fun i H' => Same H H' ∧ ∃ bs : List Str, H' D = some (.lst (strV bs)) ∧ bs.length = i ∧ ∀ b ∈ bs, b.cps.toList.length ≤ 1)
        ⟨(Same.refl H).over hD, [], upd_same, rfl, fun b hb => absurd hb List.not_mem_nil⟩ ?_ ?_
      · rintro i H1 hi ⟨sH, bs, hDl, hl, hb⟩
        have hi8 : i < 8 := hi
        obtain ⟨s1, h1, h2⟩ := sg (cell / 64 + 7 * (0 + (i : Int)) + cell / 5 % 11 * (0 + (i : Int)) * (0 + (i : Int)))
        refine ⟨rfl, ?_⟩
        refine yes_if ?_
        refine ⟨_, rfl, _, rfl, _, _, rfl, rfl, ⟨by decide, by decide⟩, _, rfl, _, _, rfl, rfl, .inl ⟨by decide, by decide⟩, _, _, rfl, rfl, _, rfl, _, _, rfl, rfl, ⟨by decide, by decide⟩, _, _, rfl, rfl, (by show (0 : Int) < 11; decide),
          _, rfl, _, _, rfl, rfl, .inr ⟨by omega, by omega⟩, _, rfl, _, _, rfl, rfl, .inr ⟨by omega, by omega⟩, _, _, rfl, rfl, _, _, rfl, rfl, d25, letL, _, s1, rfl, rfl, letL_size, h1, _, hDl, ?_, sH.over hD, bs ++ [⟨#[s1]⟩], ?_, ?_, ?_⟩
        · rw [List.length_map, hl]
          exact small1000 (by omega)
        · rw [upd_same, strV_add]
          rfl
        · rw [List.length_append, hl]
          rfl
        · intro b hb2
          rcases List.mem_append.mp hb2 with z | z
          · exact hb b z
          · rw [List.mem_singleton.mp z]
            exact Nat.le_refl _
      · rintro H1 ⟨sH, bs, hDl, hl, hb⟩
        have hl8 : bs.length = 8 := hl
        have hb1 : ∀ b ∈ bs, b.length ≤ 1 := fun b hm => by rw [TL.len_tl]; exact hb b hm
        have sum1 : (bs.map (·.length)).sum ≤ bs.length := by
          clear hDl hl hb hl8
          induction bs with
          | nil => exact Nat.le_refl _
          | cons b bs ih =>
            rw [List.map_cons, List.sum_cons, List.length_cons]
            have := hb1 b List.mem_cons_self
            have := ih fun x hx => hb1 x (List.mem_cons_of_mem _ hx)
            omega
        refine ⟨_, D, bs, rfl, rfl, .inl (SqL.of hDl), ?_, ?_⟩
        · have : ("" : Str).length = 0 := by decide +kernel
          rw [this]
          omega
        · have lb : (Txt.join ("" : Str) bs).length ≤ bs.length := join_short (by decide +kernel) hb
          generalize hbase : Txt.join ("" : Str) bs = base_ at lb
          refine ⟨_, rfl, (m : Int), rfl, by omega, by omega, fun D2 hD2 => ?_⟩
          have sbase : base_.length ≤ sizeLine := small_len (by omega)
          have D20 : H D2 = none := sH.free hD2
          refine lc_range (lo := 0) (n := ((m : Int)).toNat) (fun i H' => Same H1 H' ∧ ∃ ws : List Str, H' D2 = some (.lst (strV ws)) ∧ ws.length = i ∧ ∃ cs : List Nat, ws = cs.map (fun s => cutS base_ none (some (cell / 8 % (1 + cell % 8))) ++ ⟨#[s]⟩ ++ cutS base_ (some (cell / 8 % (1 + cell % 8) + 1)) (some (1 + cell % 8))) ∧
              cs = (List.range i).map fun (j : Nat) => (letL.cps.toList[((cell / 3 + (0 + (j : Int))) % 25).toNat]?).getD 0)
            ⟨(Same.refl H1).over hD2, [], upd_same, rfl, [], rfl, rfl⟩ ?_ ?_
          · rintro i H2 hi ⟨sH2, ws, hD2l, hl2, cs, hc1, hc2⟩
            rw [Int.toNat_natCast] at hi
            obtain ⟨s1, h1, h2⟩ := sg (cell / 3 + (0 + (i : Int)))
            have l1 := cutS_length base_ none (some (cell / 8 % (1 + cell % 8)))
            have l2 := cutS_length base_ (some (cell / 8 % (1 + cell % 8) + 1)) (some (1 + cell % 8))
            have l3 : (⟨#[s1]⟩ : Str).length = 1 := rfl
            have l4 : (cutS base_ none (some (cell / 8 % (1 + cell % 8))) ++ ⟨#[s1]⟩ : Str).length = (cutS base_ none (some (cell / 8 % (1 + cell % 8)))).length + 1 := by
              rw [TL.len_tl, TL.tl_append, List.length_append, ← TL.len_tl, ← TL.len_tl, l3]
            refine ⟨rfl, ?_⟩
            refine yes_if ?_
            refine ⟨_, rfl, _, rfl, _, rfl, base_, rfl, sbase, _, rfl, _, rfl, _, _, rfl, rfl, ⟨by decide, by decide⟩, _, rfl, _, _, rfl, rfl, _, _, rfl, rfl, d25, letL, _, s1, rfl, rfl, letL_size, h1, _, _, rfl, rfl, ?_,
              _, rfl, _, rfl, _, _, rfl, rfl, _, rfl, _, rfl, _, rfl, base_, rfl, sbase, _, _, rfl, rfl, ?_, _, hD2l, ?_, sH2.over hD2, ws ++ [cutS base_ none (some (cell / 8 % (1 + cell % 8))) ++ ⟨#[s1]⟩ ++ cutS base_ (some (cell / 8 % (1 + cell % 8) + 1)) (some (1 + cell % 8))], ?_, ?_, cs ++ [s1], ?_, ?_⟩
            · rw [l3]
              exact small_len (by omega)
            · rw [l4]
              exact small_len (by omega)
            · rw [List.length_map, hl2]
              exact small1000 (by omega)
            · rw [upd_same, strV_add]
              rfl
            · rw [List.length_append, hl2]
              rfl
            · rw [List.map_append, hc1]
              rfl
            · rw [List.range_succ, List.map_append, hc2, List.map_cons, h2]
              rfl
          · rintro H2 ⟨sH2, ws, hD2l, hl2, cs, hc1, hc2⟩
            rw [Int.toNat_natCast] at hl2 hc2
            refine k H2 D2 ws (sH.trans sH2) D20 hD2l hl2 ?_
            rw [hc1, hc2, List.map_map]
            refine nodup_range m fun i hi j hj e => ?_
            obtain ⟨s1, _, g1⟩ := sg (cell / 3 + (0 + (i : Int)))
            obtain ⟨s2, _, g2⟩ := sg (cell / 3 + (0 + (j : Int)))
            have e2 : (letL.cps.toList[((cell / 3 + (0 + (j : Int))) % 25).toNat]?).getD 0 = (letL.cps.toList[((cell / 3 + (0 + (i : Int))) % 25).toNat]?).getD 0 := one_inj (cat_inj e)
            rw [g1, g2] at e2
            have e3 : s2 = s1 := e2
            rw [e3] at g2
            have e4 := nd_ix letL_once g2 g1
            have b1 := Int.emod_nonneg (cell / 3 + (0 + (i : Int))) (show (25 : Int) ≠ 0 by decide)
            have b2 := Int.emod_nonneg (cell / 3 + (0 + (j : Int))) (show (25 : Int) ≠ 0 by decide)
            omega
end
end K82

set_option Elab.async false
set_option linter.all false
set_option maxRecDepth 100000
set_option maxHeartbeats 4000000
namespace K82
open PySem PySem.Spec PyProof.Rows L2

/-! ## _law_sign_row -/
def sgA : Str := (" !\"#$&'()*+,-./0123456789:;<=>?@ABCDEFGHIJKLMNOPQRSTUVWXYZ[\\]^_`" : Str)
def sgB : Str := ("abcdefghijklmnopqrstuvwxyz{|}~" : Str)
def sgL : Str := sgA ++ sgB
theorem sgL_len : sgL.cps.toList.length = 94 := by decide +kernel
theorem sg_sum : sgA.length + sgB.length ≤ sizeLine := by
  have : sgA.length + sgB.length = 94 := by decide +kernel
  rw [this]
  exact small_len (by omega)
theorem sgL_size : sgL.length ≤ sizeLine := by
  rw [TL.len_tl]
  show sgL.cps.toList.length ≤ sizeLine
  rw [sgL_len]
  exact small_len (by omega)
theorem signs_at (i : Int) : ∃ s, atI sgL.cps.toList (i % 94) = some s :=
  let ⟨s, h, _⟩ := sign_at sgL_len (i := i % 94) (Int.emod_nonneg _ (by decide)) (Int.emod_lt_of_pos _ (by decide))
  ⟨s, h⟩
def spRow : Sp := fun vs H Q _ => ∃ cell : Int, vs = [.int cell] ∧ ∀ H' z, Same H H' → Q (.str z) H'
abbrev nRow : List Str := ["_law_cell", "_law_signs", "_law_step", "_law_j"]
theorem scRow : FnScope nRow ["_law_cell"] (defScope sRow) := ⟨rfl, rfl, rfl, by decide +kernel, rfl, by decide +kernel, by decide +kernel⟩
abbrev teR : TE := tOp rIxS (tVar 1) (tOp rModQ (tOp rAddQ (tOp rDivQ (tVar 0) (tC (.int 41))) (tOp rMulQ (tVar 2) (tVar 3))) (tC (.int 94)))
def spPair : Sp := fun vs H Q _ => ∃ (cell : Int) (b : Bool), vs = [.int cell, .bl b] ∧ ∀ H' t x y, Same H H' → New H H' t = some (.tup [.str x, .str y]) → Q (.ref t) H'
theorem scPair : FnScope ["_law_cell", "_law_plain"] ["_law_cell", "_law_plain"] (defScope sPair) := ⟨rfl, rfl, rfl, by decide +kernel, rfl, by decide +kernel, by decide +kernel⟩
section
variable {P : Program} {w : World} {K : PySem.W.Frag} {mg : Str → Option Value} {base : Heap}
theorem ok_row {f : Addr} {fd : FuncData} (F : Fun K "_law_sign_row" "_law_sign_row" sRow f fd) (mRange : mg "range" = none) : FnOk P w K mg base CX0 1 f fd ["_law_cell"] spRow := by
  refine F.ok scRow (fun vs H Q E h => ?_) (fun cdv A outer s H vs Q E hr h => ?_)
  · obtain ⟨cell, rfl, _⟩ := h
    rfl
  · obtain ⟨cell, rfl, k⟩ := h
    refine ⟨_, pss_cons (ps_set (i := 1) scRow.nd rfl (Or.inr rfl) pe_str)
      (pss_cons (ps_set (i := 1) scRow.nd rfl (Or.inr rfl) (pe_op op_add_str (pv 1) pe_str))
      (pss_cons (ps_if (pt_cmpR op_eq (pe_op op_mod (pv 0) pe_int) pe_int (nomark _))
        (pss_one (ps_ret (pe_op op_mulS (pe_ix ix_str (pv 1) (pe_op op_mod (pe_op op_fdiv (pv 0) pe_int) pe_int) (fun _ _ => rfl)) pe_int))) pss_nil)
      (pss_cons (ps_set (i := 2) scRow.nd rfl (Or.inr rfl) (pe_op op_add pe_int (pe_op op_mod (pe_op op_fdiv (pv 0) pe_int) pe_int)))
      (pss_one (ps_ret (pe_join pe_str (pe_lc (own := [("_law_j", 3)]) (g := gName 3) (tt := tYes) (te := teR) rfl scRow.nd (pi_range1 (by exact rfl) mRange (pa_cons (pe_op op_mod (pv 0) pe_int) pa_nil))
          (blkOk_by (own := [("_law_j", 3)]) (N := nRow) (sc := defScope sRow) (by decide +kernel)) (fun _ _ _ _ _ => pg_name (i := 3) scRow.nd rfl (Or.inl rfl)) (fun _ _ _ _ _ => pts_nil)
          (fun _ _ _ _ _ => by exact pe_ix ix_str (pv 1) (pe_op op_mod (pe_op op_add (pe_op op_fdiv (pv 0) pe_int) (pe_op op_mul (pv 2) (pv 3))) pe_int) (fun _ _ => rfl))))))))), ?_⟩
    refine ⟨_, rfl, sgA, sgB, rfl, rfl, sg_sum, ?_⟩
    by_cases c : decide (V.int (cell % 9) = V.int 4) = true
    · refine ⟨_, rfl, _, _, rfl, rfl, (by show (0 : Int) < 9; decide), rfl, _, rfl, ?_⟩
      obtain ⟨sg, h1⟩ := signs_at (cell / 9)
      refine if_yes c ⟨_, rfl, _, rfl, _, _, rfl, rfl, ⟨by decide, by decide⟩, _, _, rfl, rfl, (by show (0 : Int) < 94; decide), sgL, _, sg, rfl, rfl, sgL_size, h1, _, _, rfl, rfl, (by show 1 ≤ 16; decide), by decide, by decide, k H _ (Same.refl H)⟩
    · refine ⟨_, rfl, _, _, rfl, rfl, (by show (0 : Int) < 9; decide), rfl, _, rfl, ?_⟩
      refine if_no c ?_
      have s0 : 0 ≤ cell / 3690 % 93 := Int.emod_nonneg _ (by decide)
      have s1 : cell / 3690 % 93 < 93 := Int.emod_lt_of_pos _ (by decide)
      have r0 : 0 ≤ cell % 41 := Int.emod_nonneg _ (by decide)
      have r1 : cell % 41 < 41 := Int.emod_lt_of_pos _ (by decide)
      refine ⟨_, rfl, _, _, rfl, rfl, ⟨by decide, by decide⟩, _, _, rfl, rfl, (by show (0 : Int) < 93; decide), _, _, rfl, rfl, ?_⟩
      refine ⟨⟨_, rfl⟩, _, rfl, _, _, rfl, rfl, (by show (0 : Int) < 41; decide), cell % 41, rfl, by omega, by omega, fun D hD => ?_⟩
      refine lc_range (lo := 0) (n := (cell % 41).toNat) (fun i H' => Same H H' ∧ ∃ bs : List Str, H' D = some (.lst (strV bs)) ∧ bs.length = i ∧ ∀ b ∈ bs, b.length ≤ 1)
        ⟨(Same.refl H).over hD, [], upd_same, rfl, fun b hb => absurd hb List.not_mem_nil⟩ ?_ ?_
      · rintro i H1 hi ⟨sH, bs, hDl, hl, hb⟩
        obtain ⟨sg, h1⟩ := signs_at (cell / 41 + (1 + cell / 3690 % 93) * (0 + (i : Int)))
        refine ⟨rfl, ?_⟩
        refine yes_if ?_
        refine ⟨_, rfl, _, rfl, _, _, rfl, rfl, ⟨by decide, by decide⟩, _, rfl, _, rfl, _, _, rfl, rfl, .inl ⟨by omega, by omega⟩, _, _, rfl, rfl, _, _, rfl, rfl, (by show (0 : Int) < 94; decide), sgL, _, sg, rfl, rfl, sgL_size, h1, _, hDl, ?_, sH.over hD, bs ++ [⟨#[sg]⟩], ?_, ?_, ?_⟩
        · rw [List.length_map, hl]
          exact small1000 (by omega)
        · rw [upd_same, strV_add]
          rfl
        · rw [List.length_append, hl]
          rfl
        · intro b hb2
          rcases List.mem_append.mp hb2 with z | z
          · exact hb b z
          · rw [List.mem_singleton.mp z]
            exact Nat.le_refl _
      · rintro H1 ⟨sH, bs, hDl, hl, hb⟩
        have sum1 : (bs.map (·.length)).sum ≤ bs.length := by
          clear hDl hl
          induction bs with
          | nil => exact Nat.le_refl _
          | cons b bs ih =>
            rw [List.map_cons, List.sum_cons, List.length_cons]
            have := hb b List.mem_cons_self
            have := ih fun x hx => hb x (List.mem_cons_of_mem _ hx)
            omega
        refine ⟨_, D, bs, rfl, rfl, .inl (SqL.of hDl), ?_, k H1 _ sH⟩
        have : ("" : Str).length = 0 := by decide +kernel
        rw [this]
        omega

theorem ok_pair {f fR : Addr} {fd fdR : FuncData} (F : Fun K "_law_pair" "_law_pair" sPair f fd) (FR : Fun K "_law_sign_row" "_law_sign_row" sRow fR fdR) (bR : Binds K fdR ["_law_cell"] []) (gR : mg "_law_sign_row" = some (.ref fR)) (mRange : mg "range" = none) :
    FnOk P w K mg base CX0 2 f fd ["_law_cell", "_law_plain"] spPair := by
  have GR : FnOk P w K mg base CX0 1 fR fdR ["_law_cell"] spRow := ok_row FR mRange
  refine F.ok scPair (fun vs H Q E h => ?_) (fun cdv A outer s H vs Q E hr h => ?_)
  · obtain ⟨cell, b, rfl, _⟩ := h
    rfl
  · obtain ⟨cell, b, rfl, k⟩ := h
    refine ⟨_, pss_cons (ps_if (pt_val (pv 1))
        (pss_one (ps_ret (pe_tup (pa_cons (pe_ix ix_list (pe_lst (pa_cons pe_str (pa_cons pe_str pa_nil))) (pe_op op_mod (pv 0) pe_int) (fun _ _ => rfl))
          (pa_cons (pe_ix ix_list (pe_lst (pa_cons pe_str (pa_cons pe_str (pa_cons pe_str pa_nil)))) (pe_op op_mod (pe_op op_fdiv (pv 0) pe_int) pe_int) (fun _ _ => rfl)) pa_nil))))) pss_nil)
      (pss_one (ps_ret (pe_tup (pa_cons (pe_call GR hr rfl gR FR.kp bR .nil pass0 (pa_cons (pv 0) pa_nil)) (pa_cons (pe_call GR hr rfl gR FR.kp bR .nil pass0 (pa_cons (pe_op op_mod (pe_op op_mul (pv 0) pe_int) pe_int) pa_nil)) pa_nil))))), ?_⟩
    refine ⟨_, rfl, _, rfl, ?_⟩
    cases b with
    | true =>
      have a0 : 0 ≤ cell % 2 := Int.emod_nonneg _ (by decide)
      have a1 : cell % 2 < 2 := Int.emod_lt_of_pos _ (by decide)
      have b0 : 0 ≤ cell / 2 % 3 := Int.emod_nonneg _ (by decide)
      have b1 : cell / 2 % 3 < 3 := Int.emod_lt_of_pos _ (by decide)
      obtain ⟨x, hx⟩ : ∃ x, atI [V.str "a", V.str "b"] (cell % 2) = some (V.str x) := by
        rcases (show cell % 2 = 0 ∨ cell % 2 = 1 by omega) with e | e <;> rw [e]
        · exact ⟨_, rfl⟩
        · exact ⟨_, rfl⟩
      obtain ⟨y, hy⟩ : ∃ y, atI [V.str "a", V.str "b", V.str "a"] (cell / 2 % 3) = some (V.str y) := by
        rcases (show cell / 2 % 3 = 0 ∨ cell / 2 % 3 = 1 ∨ cell / 2 % 3 = 2 by omega) with e | e | e <;> rw [e]
        · exact ⟨_, rfl⟩
        · exact ⟨_, rfl⟩
        · exact ⟨_, rfl⟩
      refine if_yes rfl ⟨(by show 2 ≤ sizeLine; decide), fun l hl => ?_⟩
      have s1 : Same H (upd H l (.lst [.str "a", .str "b"])) := (Same.refl H).new hl
      refine ⟨_, rfl, _, _, rfl, rfl, (by show (0 : Int) < 2; decide), l, _, _, _, rfl, rfl, SqL.of upd_same, hx, (by show 3 ≤ sizeLine; decide), fun l2 hl2 => ?_⟩
      have s2 := s1.new (o := .lst [.str "a", .str "b", .str "a"]) hl2
      refine ⟨_, rfl, _, _, rfl, rfl, ⟨by decide, by decide⟩, _, _, rfl, rfl, (by show (0 : Int) < 3; decide), l2, _, _, _, rfl, rfl, SqL.of upd_same, hy, (by show 2 ≤ sizeLine; decide), fun t ht => ?_⟩
      exact k _ t x y (s2.new ht) (new_of (s2.free ht) upd_same)
    | false =>
      refine if_no Bool.false_ne_true ⟨_, rfl, cell, rfl, fun H1 x s1 => ?_⟩
      refine ⟨_, rfl, _, _, rfl, rfl, .inr ⟨by decide, by decide⟩, _, _, rfl, rfl, (by show (0 : Int) < 2147483647; decide), _, rfl, fun H2 y s2 => ?_⟩
      refine ⟨(by show 2 ≤ sizeLine; decide), fun t ht => ?_⟩
      have s12 := s1.trans s2
      exact k _ t x y (s12.new ht) (new_of (s12.free ht) upd_same)
end
end K82

set_option Elab.async false
set_option linter.all false
set_option maxRecDepth 100000
set_option maxHeartbeats 4000000
namespace K82
open PySem PySem.Spec PyProof.Rows L2

/-! ## _law_drawn -/
def spDrawn (K : PySem.W.Frag) : Sp := fun vs H Q _ => ∃ (cell : Int) (m : Nat) (sp : Addr) (spots : List V) (b : Bool), vs = [.int cell, .int m, .ref sp, .bl b] ∧ 2 ≤ m ∧ m ≤ 1000 ∧ SqL K H sp spots ∧ 1 ≤ spots.length ∧ spots.length ≤ 1000 ∧
  ∀ H' T (way one other : Int) (s : V) (t : Addr) (x y : Str), Same H H' → New H H' T = some (.tup [.int way, .int one, .int other, s, .ref t]) → New H H' t = some (.tup [.str x, .str y]) →
    0 ≤ one → one < m → 0 ≤ other → other < m → one ≠ other → s ∈ spots → Q (.ref T) H'
abbrev nDrawn : List Str := ["_law_cell", "_law_many", "_law_spots", "_law_plain", "_law_one", "_law_other", "_law_signs", "_law_number", "_law_piece", "_law_way", "_law_texts", "_law_k", "_law_wide", "_law_text", "_law_j"]
theorem scDrawn : FnScope nDrawn ["_law_cell", "_law_many", "_law_spots", "_law_plain"] (defScope sDrawn) := ⟨rfl, rfl, rfl, by decide +kernel, rfl, by decide +kernel, by decide +kernel⟩
/-- the other hand -/
theorem other_ok {m : Nat} (hm : 2 ≤ m) {one c : Int} (h0 : 0 ≤ one) (h1 : one < m) : 0 ≤ (one + 1 + c % ((m : Int) - 1)) % m ∧ (one + 1 + c % ((m : Int) - 1)) % m < m ∧ one ≠ (one + 1 + c % ((m : Int) - 1)) % m := by
  have hp : (0 : Int) < m := by omega
  have c0 := Int.emod_nonneg c (show (m : Int) - 1 ≠ 0 by omega)
  have c1 := Int.emod_lt_of_pos c (show 0 < (m : Int) - 1 by omega)
  generalize c % ((m : Int) - 1) = r at c0 c1
  refine ⟨Int.emod_nonneg _ (by omega), Int.emod_lt_of_pos _ hp, fun e => ?_⟩
  by_cases hlt : one + 1 + r < m
  · rw [Int.emod_eq_of_lt (by omega) hlt] at e
    omega
  · have e2 : (one + 1 + r) % (m : Int) = one + 1 + r - m := by
      rw [← Int.sub_emod_right, Int.emod_eq_of_lt (by omega) (by omega)]
    rw [e2] at e
    omega
theorem atI_mem {xs : List V} {n : Nat} (hn : xs.length = n) {i : Int} (h0 : 0 ≤ i) (h1 : i < n) : ∃ v, atI xs i = some v ∧ v ∈ xs := by
  have hi : i.toNat < xs.length := by omega
  have ha := atI_nat (List.getElem?_eq_getElem hi)
  rw [Int.toNat_of_nonneg h0] at ha
  exact ⟨_, ha, List.getElem_mem hi⟩
section
variable {P : Program} {w : World} {K : PySem.W.Frag} {mg : Str → Option Value} {base : Heap}
theorem ok_drawn {f fP fR : Addr} {fd fdP fdR : FuncData} (F : Fun K "_law_drawn" "_law_drawn" sDrawn f fd) (FP : Fun K "_law_pair" "_law_pair" sPair fP fdP) (bP : Binds K fdP ["_law_cell", "_law_plain"] []) (gP : mg "_law_pair" = some (.ref fP))
    (FR : Fun K "_law_sign_row" "_law_sign_row" sRow fR fdR) (bR : Binds K fdR ["_law_cell"] []) (gR : mg "_law_sign_row" = some (.ref fR)) (mRange : mg "range" = none) (mLen : mg "len" = none) :
    FnOk P w K mg base CX0 3 f fd ["_law_cell", "_law_many", "_law_spots", "_law_plain"] (spDrawn K) := by
  have GP : FnOk P w K mg base CX0 2 fP fdP ["_law_cell", "_law_plain"] spPair := ok_pair FP FR bR gR mRange
  refine F.ok scDrawn (fun vs H Q E h => ?_) (fun cdv A outer s H vs Q E hr h => ?_)
  · obtain ⟨cell, m, sp, spots, b, rfl, _⟩ := h
    rfl
  · obtain ⟨cell, m, sp, spots, b, rfl, hm, hm2, hs, hs1, hs2, k⟩ := h
    refine ⟨_, pss_cons (ps_set (i := 4) scDrawn.nd rfl (Or.inl rfl) (pe_op op_mod (pe_op op_fdiv (pv 0) pe_int) (pv 1)))
      (pss_cons (ps_if (pt_cmpR op_lt (pv 0) (pe_op op_pow pe_int pe_int) (nomark _))
        (pss_cons (ps_set (i := 5) scDrawn.nd rfl (Or.inl rfl) (pe_op op_mod (pe_op op_add (pe_op op_add (pv 4) pe_int) (pe_op op_mod (pe_op op_fdiv (pv 0) pe_int) (pe_op op_sub (pv 1) pe_int))) (pv 1)))
        (pss_one (ps_ret (pe_tup (pa_cons (pe_op op_mod (pv 0) pe_int) (pa_cons (pv 4) (pa_cons (pv 5)
          (pa_cons (pe_ix ix_list (pv 2) (pe_op op_mod (pe_op op_fdiv (pv 0) pe_int) (pe_callB call_len_seq (by rfl) mLen PySem.boot_len (pa_cons (pv 2) pa_nil))) (fun _ _ => rfl))
          (pa_cons (pe_call GP hr rfl gP FP.kp bP .nil pass0 (pa_cons (pe_op op_fdiv (pv 0) pe_int) (pa_cons (pv 3) pa_nil))) pa_nil))))))))) pss_nil)
      (pss_cons (ps_set (i := 6) scDrawn.nd rfl (Or.inl rfl) pe_str)
      (pss_cons (ps_set (i := 6) scDrawn.nd rfl (Or.inl rfl) (pe_op op_add_str (pv 6) pe_str))
      (pss_cons (ps_set (i := 7) scDrawn.nd rfl (Or.inl rfl) (pe_op op_sub (pv 0) (pe_op op_pow pe_int pe_int)))
      (pss_cons (ps_set (i := 4) scDrawn.nd rfl (Or.inl rfl) (pe_op op_mod (pe_op op_fdiv (pv 7) pe_int) (pv 1)))
      (pss_cons (ps_set (i := 5) scDrawn.nd rfl (Or.inl rfl) (pe_op op_mod (pe_op op_add (pe_op op_add (pv 4) pe_int) (pe_op op_mod (pe_op op_fdiv (pv 7) pe_int) (pe_op op_sub (pv 1) pe_int))) (pv 1)))
      (pss_cons (ps_set (i := 8) scDrawn.nd rfl (Or.inl rfl) (pe_ix ix_list (pv 2) (pe_op op_mod (pe_op op_fdiv (pv 7) pe_int) (pe_callB call_len_seq (by rfl) mLen PySem.boot_len (pa_cons (pv 2) pa_nil))) (fun _ _ => rfl)))
      (pss_cons (ps_set (i := 9) scDrawn.nd rfl (Or.inl rfl) (pe_op op_mod (pv 7) pe_int))
      (pss_cons (ps_set (i := 7) scDrawn.nd rfl (Or.inl rfl) (pe_op op_fdiv (pv 7) pe_int))
      (pss_cons (ps_set (i := 10) scDrawn.nd rfl (Or.inl rfl) (pe_lst pa_nil))
      (pss_cons (ps_for PassesOwn.never rfl (pi_range1 (by exact rfl) mRange (pa_cons pe_int pa_nil)) (pg_name (i := 11) scDrawn.nd rfl (Or.inl rfl))
        (pss_cons (ps_set (i := 12) scDrawn.nd rfl (Or.inl rfl) (pe_op op_mod (pv 7) pe_int))
        (pss_cons (ps_set (i := 7) scDrawn.nd rfl (Or.inl rfl) (pe_op op_fdiv (pv 7) pe_int))
        (pss_cons (ps_set (i := 13) scDrawn.nd rfl (Or.inl rfl) pe_str)
        (pss_cons (ps_for PassesOwn.never rfl (pi_range1 (by exact rfl) mRange (pa_cons (pv 12) pa_nil)) (pg_name (i := 14) scDrawn.nd rfl (Or.inl rfl))
          (pss_cons (ps_set (i := 13) scDrawn.nd rfl (Or.inl rfl) (pe_op op_add_str (pv 13) (pe_ix ix_str (pv 6) (pe_op op_mod (pv 7) pe_int) (fun _ _ => rfl))))
          (pss_one (ps_set (i := 7) scDrawn.nd rfl (Or.inl rfl) (pe_op op_fdiv (pv 7) pe_int)))))
        (pss_one (ps_expr (pe_bm PySem.F.plainAttrs_list PySem.F.slot_list_append PySem.F.type_list_append mt_append (pv 10) (pa_cons (pv 13) pa_nil)))))))))
      (pss_one (ps_ret (pe_tup (pa_cons (pv 9) (pa_cons (pv 4) (pa_cons (pv 5) (pa_cons (pv 8) (pa_cons (pe_tup (pa_cons (pe_ix ix_list (pv 10) pe_int (fun _ _ => rfl)) (pa_cons (pe_ix ix_list (pv 10) pe_int (fun _ _ => rfl)) pa_nil))) pa_nil))))))))))))))))))), ?_⟩
    have dv : ∀ {j : Int}, 0 < j → j < 1073741824 → ∀ i, CDiv i j := fun a b i => ⟨a, b⟩
    have mp : (0 : Int) < m := by omega
    have mp1 : (0 : Int) < (m : Int) - 1 := by omega
    have lp : (0 : Int) < (spots.length : Int) := by omega
    have o0 : ∀ c : Int, 0 ≤ c % m := fun c => Int.emod_nonneg _ (by omega)
    have o1 : ∀ c : Int, c % m < m := fun c => Int.emod_lt_of_pos _ mp
    refine ⟨_, rfl, _, _, rfl, rfl, ⟨by decide, by decide⟩, _, rfl, _, _, rfl, rfl, mp, ?_⟩
    refine ⟨_, rfl, _, _, rfl, rfl, ⟨by decide, by decide, by decide⟩, _, _, rfl, rfl, _, rfl, ?_⟩
    by_cases c : cell < (10 : Int) ^ (18 : Int).toNat
    · refine if_yes (decide_eq_true c) ?_
      obtain ⟨q1, q2, q3⟩ := other_ok hm (o0 (cell / 3)) (o1 (cell / 3)) (c := cell / 15)
      obtain ⟨v, hv1, hv2⟩ := atI_mem (xs := spots) rfl (Int.emod_nonneg (cell / 15) (show (spots.length : Int) ≠ 0 by omega)) (Int.emod_lt_of_pos (cell / 15) lp)
      refine ⟨_, rfl, _, _, rfl, rfl, _, rfl, _, _, rfl, rfl, ⟨by decide, by decide⟩, _, rfl, _, _, rfl, rfl, _, _, rfl, rfl, mp1, _, _, rfl, rfl, _, rfl, _, _, rfl, rfl, mp, ?_⟩
      refine ⟨_, rfl, _, _, rfl, rfl, (by show (0 : Int) < 3; decide), _, rfl, _, rfl, _, rfl, _, rfl, _, _, rfl, rfl, ⟨by decide, by decide⟩, _, rfl, _, _, rfl, .inl hs, _, _, rfl, rfl, lp, sp, spots, _, v, rfl, rfl, hs, hv1, ?_⟩
      refine ⟨_, rfl, _, _, rfl, rfl, ⟨by decide, by decide⟩, _, rfl, _, b, rfl, fun H1 t x y s1 n1 => ?_⟩
      refine ⟨(by show 5 ≤ sizeLine; decide), fun T hT => ?_⟩
      have s2 := s1.new (o := .tup [.int (cell % 3), .int (cell / 3 % m), .int ((cell / 3 % m + 1 + cell / 15 % ((m : Int) - 1)) % m), v, .ref t]) hT
      obtain ⟨n2, n3⟩ := of_new n1
      exact k _ T _ _ _ v t x y s2 (new_of (s1.free hT) upd_same) (new_of n2 ((upd_ne (ne_of_none n3 hT)).trans n3)) (o0 _) (o1 _) q1 q2 q3 hv2
    · refine if_no (by rw [decide_eq_false c]; exact Bool.false_ne_true) ?_
      refine ⟨_, rfl, sgA, sgB, rfl, rfl, sg_sum, ?_⟩
      refine ⟨_, rfl, _, _, rfl, rfl, ⟨by decide, by decide, by decide⟩, _, _, rfl, rfl, ?_⟩
      obtain ⟨q1, q2, q3⟩ := other_ok hm (o0 ((cell - (10 : Int) ^ (18 : Int).toNat) / 3)) (o1 ((cell - (10 : Int) ^ (18 : Int).toNat) / 3)) (c := (cell - (10 : Int) ^ (18 : Int).toNat) / 15)
      obtain ⟨v, hv1, hv2⟩ := atI_mem (xs := spots) rfl (Int.emod_nonneg ((cell - (10 : Int) ^ (18 : Int).toNat) / 15) (show (spots.length : Int) ≠ 0 by omega)) (Int.emod_lt_of_pos ((cell - (10 : Int) ^ (18 : Int).toNat) / 15) lp)
      refine ⟨_, rfl, _, _, rfl, rfl, ⟨by decide, by decide⟩, _, rfl, _, _, rfl, rfl, mp, ?_⟩
      refine ⟨_, rfl, _, _, rfl, rfl, _, rfl, _, _, rfl, rfl, ⟨by decide, by decide⟩, _, rfl, _, _, rfl, rfl, _, _, rfl, rfl, mp1, _, _, rfl, rfl, _, rfl, _, _, rfl, rfl, mp, ?_⟩
      refine ⟨_, rfl, _, rfl, _, _, rfl, rfl, ⟨by decide, by decide⟩, _, rfl, _, _, rfl, .inl hs, _, _, rfl, rfl, lp, sp, spots, _, v, rfl, rfl, hs, hv1, ?_⟩
      refine ⟨_, rfl, _, _, rfl, rfl, (by show (0 : Int) < 3; decide), ?_⟩
      refine ⟨_, rfl, _, _, rfl, rfl, ⟨by decide, by decide⟩, ?_⟩
      refine ⟨Nat.zero_le _, fun D hD => ?_⟩
      refine ⟨2, rfl, by decide, by decide, for_range (lo := 0) (n := (2 : Int).toNat)
        (fun i σ H' => ∃ (nn : Int) (ws : List Str) (v11 v12 v13 v14 : Option V), σ = [some (.int cell), some (.int m), some (.ref sp), some (.bl b), some (.int ((cell - (10 : Int) ^ (18 : Int).toNat) / 3 % m)), some (.int (((cell - (10 : Int) ^ (18 : Int).toNat) / 3 % m + 1 + (cell - (10 : Int) ^ (18 : Int).toNat) / 15 % ((m : Int) - 1)) % m)), some (.str sgL), some (.int nn), some v, some (.int ((cell - (10 : Int) ^ (18 : Int).toNat) % 3)), some (.ref D), v11, v12, v13, v14] ∧
          Same H H' ∧ H' D = some (.lst (strV ws)) ∧ ws.length = i)
        ⟨(cell - (10 : Int) ^ (18 : Int).toNat) / 60, [], none, none, none, none, rfl, (Same.refl H).over hD, upd_same, rfl⟩ ?_ ?_⟩
      · rintro i σ H1 hi ⟨nn, ws, v11, v12, v13, v14, rfl, sH, hDl, hl⟩
        have hi2 : i < 2 := hi
        have w0 : 0 ≤ nn % 41 := Int.emod_nonneg _ (by decide)
        have w1 : nn % 41 < 41 := Int.emod_lt_of_pos _ (by decide)
        refine ⟨_, rfl, _, _, rfl, rfl, (by show (0 : Int) < 41; decide), ?_⟩
        refine ⟨_, rfl, _, _, rfl, rfl, ⟨by decide, by decide⟩, ?_⟩
        refine ⟨_, rfl, nn % 41, rfl, by omega, by omega, for_range (lo := 0) (n := (nn % 41).toNat)
          (fun j σ H' => H' = H1 ∧ ∃ (n2 : Int) (tx : Str) (v14 : Option V), σ = [some (.int cell), some (.int m), some (.ref sp), some (.bl b), some (.int ((cell - (10 : Int) ^ (18 : Int).toNat) / 3 % m)), some (.int (((cell - (10 : Int) ^ (18 : Int).toNat) / 3 % m + 1 + (cell - (10 : Int) ^ (18 : Int).toNat) / 15 % ((m : Int) - 1)) % m)), some (.str sgL), some (.int n2), some v, some (.int ((cell - (10 : Int) ^ (18 : Int).toNat) % 3)), some (.ref D), some (.int (0 + (i : Int))), some (.int (nn % 41)), some (.str tx), v14] ∧ tx.length ≤ j)
          ⟨rfl, nn / 41, "", v14, rfl, by decide +kernel⟩ ?_ ?_⟩
        · rintro j σ H2 hj ⟨rfl, n2, tx, v14, rfl, htx⟩
          obtain ⟨sg, h1⟩ := signs_at n2
          have l1 : (⟨#[sg]⟩ : Str).length = 1 := rfl
          refine ⟨_, rfl, _, rfl, _, rfl, _, _, rfl, rfl, (by show (0 : Int) < 94; decide), sgL, _, sg, rfl, rfl, sgL_size, h1, _, _, rfl, rfl, ?_, ?_⟩
          · rw [l1]
            exact small_len (by omega)
          · refine ⟨_, rfl, _, _, rfl, rfl, ⟨by decide, by decide⟩, rfl, n2 / 94, tx ++ ⟨#[sg]⟩, _, rfl, ?_⟩
            rw [TL.len_tl, TL.tl_append, List.length_append, ← TL.len_tl, ← TL.len_tl, l1]
            omega
        · rintro σ H2 ⟨rfl, n2, tx, v14, rfl, htx⟩
          refine ⟨_, rfl, .inl ⟨rfl, _, SqL.of hDl⟩, _, rfl, D, _, _, rfl, rfl, hDl, ?_, n2, ws ++ [tx], _, _, _, _, rfl, sH.over hD, ?_, ?_⟩
          · rw [List.length_map]
            exact small1000 (by omega)
          · rw [upd_same, strV_add]
            rfl
          · rw [List.length_append, hl]
            rfl
      · rintro σ H1 ⟨nn, ws, v11, v12, v13, v14, rfl, sH, hDl, hl⟩
        match ws, hl with
        | [x, y], _ =>
          refine ⟨_, rfl, _, rfl, _, rfl, _, rfl, _, rfl, D, _, _, _, rfl, rfl, SqL.of hDl, (by rfl), _, rfl, D, _, _, _, rfl, rfl, SqL.of hDl, (by rfl), ?_⟩
          refine ⟨(by show 2 ≤ sizeLine; decide), fun t ht => ?_⟩
          have s1 := sH.new (o := .tup [.str x, .str y]) ht
          have t1 : upd H1 t (.tup [.str x, .str y]) t = some (.tup [.str x, .str y]) := upd_same
          generalize upd H1 t (.tup [.str x, .str y]) = H2 at s1 t1 ⊢
          refine ⟨(by show 5 ≤ sizeLine; decide), fun T hT => ?_⟩
          exact k _ T _ _ _ v t x y (s1.new hT) (new_of (s1.free hT) upd_same) (new_of (sH.free ht) ((upd_ne (ne_of_none t1 hT)).trans t1)) (o0 _) (o1 _) q1 q2 q3 hv2
end
end K82

set_option Elab.async false
set_option linter.all false
set_option maxRecDepth 100000
set_option maxHeartbeats 4000000
namespace K82
open PySem PySem.Spec PyProof.Rows L2

/-! ## a def that is handed the exception at hand -/
/-- what it promises: p, the exception, stands untracked -/
structure FnZ (P : Program) (w : World) (K : PySem.W.Frag) (mg : Str → Option Value) (base : Heap) (D : Value) (k : Nat) (f : Addr) (fd : FuncData) (ps : List Str) (sp : Addr → Sp) : Prop where
  len : ∀ a vs H Q E, sp a vs H Q E → vs.length = ps.length
  run : ∀ (A : Around) (outer : List Env) (s : Shared) (H : Hp) (args : Args) (us : List Value) (vs : List V) (Q : VK) (E : XK) (p : Addr × Obj), L2H.RoomH k A → Zc D none p.2 → (∃ vs, p.2.data = .fields vs) → L2H.PinOk outer H s p → Env0 P w K mg base A outer s H →
    BindsTo s fd args (ps.zip us) → Vals vs us → sp p.1 vs H Q E → codeAny (model P w) A (.call (.ref f) args) (CR CX0 outer P w H s Q E) s
theorem fn_z {P : Program} {w : World} {K : PySem.W.Frag} {mg : Str → Option Value} {base : Heap} {D : Value} {k : Nat} {x qual : Str} {st : Stmt} {f : Addr} {fd : FuncData} {N ps : List Str} {sp : Addr → Sp} (F : Fun K x qual st f fd) (S : FnScope N ps (defScope st))
    (len : ∀ a vs H Q E, sp a vs H Q E → vs.length = ps.length)
    (hbody : ∀ (cdv : Value) (A : Around) (outer : List Env) (s : Shared) (H : Hp) (vs : List V) (Q : VK) (E : XK) (p : Addr × Obj), Zc D none p.2 → (∃ vs, p.2.data = .fields vs) → L2H.RoomH k (A.deeper (envOfC qual (defScope st) s.heap.objs.size f cdv)) → sp p.1 vs H Q E →
      ∃ t, PSs (L2H.cxH CX0 P w K mg base N qual (defScope st) f cdv A outer s H E p) (defBody st) t ∧ t { nx := fun _ H' => Q .non H', rt := Q } (L2.start N vs) H) : FnZ P w K mg base D (k + 1) f fd ps sp := by
  obtain ⟨oc, od, kV, doc, pm, an, cdv, ct, osl, rfl, lk, hcd⟩ := F.ex
  refine ⟨len, fun A outer s H args us vs Q E p hr hz hf hpin e0 hb r hsp => ?_⟩
  have kin : K.In s.heap := e0.mod.kin.keeps fun b o e => (e0.bs b o e).1
  have kinds : ∀ y ∈ ps.zip us, (defScope st).names.lookup y.1 = some .local ∨ ((defScope st).names.lookup y.1 = some .cell ∧ ((cellsFrom (s.heap.objs.size + 1) (defScope st).names []).lookup y.1).isSome = true) := fun y hy =>
    (S.par y.1 (List.of_mem_zip (a := y.1) (b := y.2) hy).1).imp id fun q => ⟨q, PySem.W.cellsFrom_some _ _ _ (.inl q)⟩
  refine codeAny_call_function hr.depth (kin _ _ lk) rfl S.co S.gen rfl (PySem.W.codeRec_of kin hcd) (hb _ _ _ _ (wpAny_newFunctionEnv_cells S.kind kinds fun env he s1 x => ?_))
  subst he
  refine ⟨(e0.mod.nolimit.keeps fun b o e => (e0.bs b o e).1).keeps x.toInCall.keep, codeAny_func ?_⟩
  obtain ⟨t, ht, hq⟩ := hbody cdv A outer s H vs Q E p hz hf (hr.deeper _) hsp
  refine wpAny_mono (ht.run [] s1 (L2.start N vs) H _ (L2H.inv_startH S hpin e0 (len _ _ _ _ _ hsp) r x) hq) (fun fl s' hs => ?_) fun e s' hs => hs
  match fl, hs with
  | .ret u, ⟨v, _, H', J, rv, q⟩ => exact ⟨v, H', J.os, J.bare, J.base, J.hok, rv, q⟩
  | .next, ⟨_, H', J, q⟩ => exact ⟨.non, H', J.os, J.bare, J.base, J.hok, rfl, q⟩
  | .brk, ⟨_, _, _, q⟩ => exact False.elim q
  | .cont, ⟨_, _, _, q⟩ => exact False.elim q
section
variable {X : Cx} {D : Value} {k : Nat} {f C : Addr} {fd : FuncData} {ps : List Str} {x m : Str} {q pos apos : Pos} {e o : Expr} {es : List Expr} {ta : TE} {t : TA}
theorem pe_callZ {sp : Addr → Sp} {p : Addr × Obj} (F : FnZ X.prog X.w X.K X.mg X.base D k f fd ps sp) (hr : L2H.RoomH k X.A) (hp : p ∈ X.pn) (hz : Zc D none p.2) (hf : ∃ vs, p.2.data = .fields vs) (hg : Gl X x) (hm : X.mg x = some (.ref f)) (hk : PySem.W.keepIn X.K (.ref f) = true) (hb : Binds X.K fd ps [])
    (ha : PA X (e :: es) t) (hdb : (x == ("__debug__" : Str)) = false := by decide) (he : starEach (e :: es) X.env = (false, eval e X.env) :: starEach es X.env := by rfl) (hpl : (backTo pos (starEach es X.env)).any (·.1) = false := by rfl) :
    PE X (.Call (.Name x q) (e :: es) [] pos) (tCall (sp p.1) [] E0 t) := by
  refine ⟨fun pins s σ H Q I h => wpAny_Call_Name_kw (ld_glob I hg hm (PySem.W.callWith_K (h₀ := X.base) I.ok.mod.kin hk (thn (ha.run pos pins s σ H _ I h) fun us s1 hh => ?_) he hpl) hdb)⟩
  obtain ⟨vs, H1, I1, r, q⟩ := hh
  rw [List.append_nil] at q
  have b := hb s1 us I1.kIn (by rw [List.append_nil, ← r.length]; exact F.len _ _ _ _ _ q)
  rw [List.append_nil] at b
  obtain ⟨p1, p2, p3, p4, p5⟩ := I1.pin p (List.mem_append_left _ hp)
  have pin : L2H.PinOk X.stack H1 s1 p := ⟨p1, p2, fun hm => (List.mem_cons.mp (I1.stkSub p.1 hm)).elim p3 p4, p5⟩
  refine ⟨I1.kIn, wpAny_call (codeAny_mono (F.run X.A X.stack s1 H1 ⟨us, []⟩ us vs Q E0 p hr hz hf pin I1.env0 b r q) fun r s' hq => ?_)⟩
  match r, hq with
  | .error e, hq => exact False.elim hq
  | .ok (.ret u), hq => exact I1.after hq
  | .ok .next, hq => exact False.elim hq
  | .ok .brk, hq => exact False.elim hq
  | .ok .cont, hq => exact False.elim hq
/-- o.m(..) that may raise -/
theorem pe_methS {CX : CXT} {sp : Sp} {E : St → XK} {pl : Sem Bool} (he : PE X o ta) (c : Cls X.K C) (hm : Meth X.K C m f) (F : FnOk X.prog X.w X.K X.mg X.base CX k f fd ps sp) (hr : Room k X.A) (hb : Binds X.K fd ps []) (hx : ∀ σ, PassesAt CX X σ (E σ)) (ha : PA X (e :: es) t)
    (hst : starEach (e :: es) X.env = (false, eval e X.env) :: starEach es X.env := by rfl) (hpl : (backTo pos (starEach es X.env)).any (·.1) = false := by rfl)
    (ht : eval (.Call (.Attribute o m apos) (e :: es) [] pos) X.env = (do
      let ov ← eval o X.env
      standAt apos.atName
      let (f, first) ← holding [ov] (getMethod ov m pl)
      callWith pos f first (backTo pos (starEach (e :: es) X.env)) (backToKw pos (keywordEach [] X.env))) := by rfl) :
    PE X (.Call (.Attribute o m apos) (e :: es) [] pos) (L2H.tMethH C m sp E ta t) := by
  refine ⟨fun pins s σ H Q I h => PySem.W.methodCall_KW (pl := pl) (thn (he.run pins s σ H _ I h) fun u s1 hh => ?_) ht⟩
  obtain ⟨_, H1, I1, rx, a, dx, fs, rfl, ea, l, q⟩ := hh
  obtain rfl : u = Value.ref a := rx
  refine getmeth_ok I1 ea c hm l (PySem.W.callWith_K (first := [.ref a]) (h₀ := X.base) I1.ok.mod.kin hm.kp (thn (ha.run pos pins s1 σ H1 _ I1 q) fun us s2 hh => ?_) hst hpl)
  obtain ⟨vs, H2, I2, r, q2⟩ := hh
  exact ⟨I2.kIn, run_fnS (us := .ref a :: us) (vs := .ref a :: vs) F hr hb (hx σ) I2 (.cons rfl r) q2⟩
/-- isinstance(e, (..)), e the exception at hand -/
def rIsET (K : PySem.W.Frag) (D a : Addr) : List V → Hp → VK → Prop := fun xs H Q => ∃ (tp : Addr) (cs : List V) (us : List Value) (b : Bool), xs = [.ref a, .ref tp] ∧ H tp = some (.tup cs) ∧ Paired ClsV cs us ∧ PySem.W.kitAny K (.ref D) us = some b ∧ Q (.bl b) H
theorem call_isET {p : Addr × Obj} {D : Addr} (C : ExcC X.K D) (hp : p ∈ X.pn) (hz : Zc (.ref D) none p.2) (hf : ∃ vs, p.2.data = .fields vs) : CallR X (.builtin "isinstance") (rIsET X.K D p.1) := by
  intro pins s σ H xs us Q I r h
  obtain ⟨tp, cs, ws, b, rfl, hT, k, e, q⟩ := h
  obtain ⟨u1, u2, rfl, r1, r2⟩ := vals2 r
  cases (show u2 = Value.ref tp from r2)
  cases (show u1 = Value.ref p.1 from r1)
  obtain ⟨vs, hv⟩ := hf
  have J : PySem.W.InstAt s.heap p.1 p.2 D none := by
    have hg := (I.pin p (List.mem_append_left _ hp)).1
    obtain ⟨a, oc, od, da, sl⟩ := p
    obtain ⟨h1, h2⟩ := hz
    dsimp only at h1 h2 hv
    subst h1 h2 hv
    exact ⟨hg, rfl, rfl, trivial⟩
  obtain ⟨_, its, rv, o, h1, h2, n, h3⟩ := (show ObjOk X.prog X.w H s.heap tp (.tup cs) from I.hok tp _ hT)
  have e3 := ClsV.all k rv
  subst e3
  obtain ⟨oc, od, dt, sl⟩ := o
  simp only at h2 h3
  subst h2 h3
  exact PySem.W.kia_tup (PySem.W.handS_kitx_exc C.hg C.hk C.hs C.hd C.ha C.hn C.ht C.hm) I.kIn J h1 e (fun z => nomatch z) fun tk => ⟨.bl b, H, I.tok tk, rfl, q⟩
end
theorem pss_if {X : Cx} {b : List Stmt} {t : TS} {p : Prop} (h : p → PSs X b t) : PSs X b (fun D σ H => p ∧ t D σ H) := ⟨fun pins s σ H D I z => (h z.1).run pins s σ H D I z.2⟩

/-! ## _law_another -/
/-- the name of another class of exceptions -/
structure Oth (K : PySem.W.Frag) (mg : Str → Option Value) (CN : Addr) (x : Str) (C : Addr) : Prop where
  mg : mg x = some (.ref C)
  no : PySem.W.kitOne K (.ref CN) (.ref C) = some false
theorem Oth.ne {K : PySem.W.Frag} {mg : Str → Option Value} {CN C : Addr} {x : Str} {cs : List Value} (o : Oth K mg CN x C) (h : PySem.W.kitAny K (.ref CN) cs = some false) : PySem.W.kitAny K (.ref CN) (.ref C :: cs) = some false := kitAny_cons o.no (fun _ => h) (fun z => nomatch z)
structure Oths (K : PySem.W.Frag) (mg : Str → Option Value) (CN C1 C2 C3 C4 C5 C6 C7 C8 C9 C10 C11 C12 C13 : Addr) : Prop where
  ex : ExcC K CN
  o1 : Oth K mg CN "NoPattern" C1
  o2 : Oth K mg CN "NoPlace" C2
  o3 : Oth K mg CN "NoRules" C3
  o4 : Oth K mg CN "NoNumber" C4
  o5 : Oth K mg CN "NoDay" C5
  o6 : Oth K mg CN "NoTongue" C6
  o7 : Oth K mg CN "NoThing" C7
  o8 : Oth K mg CN "NoMessage" C8
  o9 : Oth K mg CN "NoValue" C9
  o10 : Oth K mg CN "Lacking" C10
  o11 : Oth K mg CN "TooGreat" C11
  o12 : Oth K mg CN "TooMany" C12
  o13 : Oth K mg CN "Flawed" C13
def spAnother : Addr → Sp := fun a vs H Q _ => vs = [.ref a] ∧ ∀ H', Same H H' → Q (.bl false) H'
theorem scAnother : FnScope ["_law_e"] ["_law_e"] (defScope sAnother) := ⟨rfl, rfl, rfl, by decide +kernel, rfl, by decide +kernel, by decide +kernel⟩
section
variable {P : Program} {w : World} {K : PySem.W.Frag} {mg : Str → Option Value} {base : Heap}
theorem ok_another {f CN C1 C2 C3 C4 C5 C6 C7 C8 C9 C10 C11 C12 C13 : Addr} {fd : FuncData} (F : Fun K "_law_another" "_law_another" sAnother f fd) (O : Oths K mg CN C1 C2 C3 C4 C5 C6 C7 C8 C9 C10 C11 C12 C13) (mIs : mg "isinstance" = none) :
    FnZ P w K mg base (.ref CN) 1 f fd ["_law_e"] spAnother := by
  refine fn_z F scAnother (fun a vs H Q E h => ?_) (fun cdv A outer s H vs Q E p hz hf hr h => ?_)
  · obtain ⟨rfl, _⟩ := h
    rfl
  · obtain ⟨rfl, k⟩ := h
    refine ⟨_, pss_cons (ps_if (pt_val (pe_callB (call_isET O.ex List.mem_cons_self hz hf) rfl mIs (by decide +kernel) (pa_cons (pv 0) (pa_cons (pe_tup
          (pa_cons (pe_glob rfl O.o1.mg (v := .ref C1) rfl) (pa_cons (pe_glob rfl O.o2.mg (v := .ref C2) rfl) (pa_cons (pe_glob rfl O.o3.mg (v := .ref C3) rfl) (pa_cons (pe_glob rfl O.o4.mg (v := .ref C4) rfl)
          (pa_cons (pe_glob rfl O.o5.mg (v := .ref C5) rfl) (pa_cons (pe_glob rfl O.o6.mg (v := .ref C6) rfl) (pa_cons (pe_glob rfl O.o7.mg (v := .ref C7) rfl) (pa_cons (pe_glob rfl O.o8.mg (v := .ref C8) rfl) pa_nil))))))))) pa_nil))))
        (pss_one (ps_ret pe_bl)) pss_nil)
      (pss_one (ps_ret (pe_callB (call_isET O.ex List.mem_cons_self hz hf) rfl mIs (by decide +kernel) (pa_cons (pv 0) (pa_cons (pe_tup
          (pa_cons (pe_glob rfl O.o9.mg (v := .ref C9) rfl) (pa_cons (pe_glob rfl O.o10.mg (v := .ref C10) rfl) (pa_cons (pe_glob rfl O.o11.mg (v := .ref C11) rfl) (pa_cons (pe_glob rfl O.o12.mg (v := .ref C12) rfl) (pa_cons (pe_glob rfl O.o13.mg (v := .ref C13) rfl) pa_nil)))))) pa_nil))))), ?_⟩
    refine ⟨_, rfl, (by show 8 ≤ sizeLine; decide), fun t ht => ?_⟩
    refine ⟨t, _, _, false, rfl, upd_same, .cons (.own C1) (.cons (.own C2) (.cons (.own C3) (.cons (.own C4) (.cons (.own C5) (.cons (.own C6) (.cons (.own C7) (.cons (.own C8) .nil))))))), O.o1.ne (O.o2.ne (O.o3.ne (O.o4.ne (O.o5.ne (O.o6.ne (O.o7.ne (O.o8.ne rfl))))))), ?_⟩
    refine ⟨_, rfl, if_no Bool.false_ne_true ?_⟩
    refine ⟨_, rfl, (by show 5 ≤ sizeLine; decide), fun t2 ht2 => ?_⟩
    refine ⟨t2, _, _, false, rfl, upd_same, .cons (.own C9) (.cons (.own C10) (.cons (.own C11) (.cons (.own C12) (.cons (.own C13) .nil)))), O.o9.ne (O.o10.ne (O.o11.ne (O.o12.ne (O.o13.ne rfl)))), ?_⟩
    exact k _ (((Same.refl H).new ht).new ht2)
end
end K82

set_option Elab.async false
set_option linter.all false
set_option maxRecDepth 100000
set_option maxHeartbeats 4000000
namespace K82
open PySem PySem.Spec PyProof.Rows L2

/-! ## _law_none_told -/
def spNone (K : PySem.W.Frag) (CB CW : Addr) : Sp := fun vs H Q _ => ∃ (p d t : Addr) (hand : Str) (n : Int) (es : List (Pr × V)) (f : Pr → List AW) (pc : Pr), vs = [.ref p, .ref t] ∧ SqT K H t [.str pc.1, .str pc.2] ∧ BookAt CB H p d hand n es f ∧ (∀ q, WrsAt CW H (f q) ∧ (f q).length < 64) ∧
  (unl (f pc)).length ≠ 1 ∧ ∀ H', Same H H' → Q (.bl true) H'
abbrev nNone : List Str := ["_law_book", "_law_piece", "_law_e"]
theorem scNone : FnScope nNone ["_law_book", "_law_piece"] (defScope sNone) := ⟨rfl, rfl, rfl, by decide +kernel, rfl, by decide +kernel, by decide +kernel⟩
/-- what is said of SayError, NoWriting in the suite -/
structure Caught (K : PySem.W.Frag) (mg : Str → Option Value) (CN CS : Addr) : Prop where
  mgS : mg "SayError" = some (.ref CS)
  exm : PySem.W.exmOne K (.ref CN) (.ref CS) = some true
  mV : mg "ValueError" = none
  isV : PySem.W.kitOne K (.ref CN) (.type "ValueError") = some true
section
variable {P : Program} {w : World} {K : PySem.W.Frag} {mg : Str → Option Value} {base : Heap}
abbrev tSuite (K : PySem.W.Frag) (CN : Addr) (a : Addr) (cls : Value) (d : Option Addr) : TS := fun D σ H => (cls = .ref CN ∧ d = none) ∧
  tRet (tAndV (tCB (rIsE K CN a) (tCons (tVar 2) (tCons (tC (.ty "ValueError")) tNil))) (tAndV (tCB (rIsE K CN a) (tCons (tVar 2) (tCons (tC (.ref CN)) tNil))) (tNotV (tCall (spAnother a) [] E0 (tCons (tVar 2) tNil))))) D σ H
theorem ok_none {f CB CW CN CS C1 C2 C3 C4 C5 C6 C7 C8 C9 C10 C11 C12 C13 fA fWr fU : Addr} {fd fdA fdW fdU : FuncData} (F : Fun K "_law_none_told" "_law_none_told" sNone f fd) (T : TxtB K mg CB) (W : TxtW K mg CW) (N : TxtN K mg CN) (C : Caught K mg CN CS)
    (O : Oths K mg CN C1 C2 C3 C4 C5 C6 C7 C8 C9 C10 C11 C12 C13) (mSorted : mg "sorted" = none) (mSet : mg "set" = none) (mLen : mg "len" = none) (mIs : mg "isinstance" = none)
    (FU : Fun K "unlike" "unlike" sUnlike fU fdU) (bU : Binds K fdU ["writings"] []) (gU : mg "unlike" = some (.ref fU))
    (FW : Fun K "writing" "Book.writing" sWriting fWr fdW) (bW : Binds K fdW ["self", "tongue", "key"] []) (MW : Meth K CB "writing" fWr)
    (FA : Fun K "_law_another" "_law_another" sAnother fA fdA) (bA : Binds K fdA ["_law_e"] []) (gA : mg "_law_another" = some (.ref fA)) :
    FnOk P w K mg base CX0 3 f fd ["_law_book", "_law_piece"] (spNone K CB CW) := by
  have GW : FnOk P w K mg base (L2.CX P w) 2 fWr fdW ["self", "tongue", "key"] (spWriting CB CW CN) := ok_writing FW T W N mSorted mSet mLen FU bU gU
  have GA : FnZ P w K mg base (.ref CN) 1 fA fdA ["_law_e"] spAnother := ok_another FA O mIs
  refine F.ok scNone (fun vs H Q E h => ?_) (fun cdv A outer s H vs Q E hr h => ?_)
  · obtain ⟨p, d, t, hand, n, es, f, pc, rfl, _⟩ := h
    rfl
  · obtain ⟨p, d, t, hand, n, es, f, pc, rfl, ht, B, hw, hne, k⟩ := h
    refine ⟨_, pss_cons (ps_try_as (i := 2) (tb := fun W => tDrop (L2H.tMethH CB "writing" (spWriting CB CW CN) (WE W) (tVar 0) (tCons (tOp (rIxT K) (tVar 1) (tC (.int 0))) (tCons (tOp (rIxT K) (tVar 1) (tC (.int 1))) tNil)))) (ts := tSuite K CN) (Wout := fun _ _ _ _ => False)
        rfl rfl scNone.nd rfl rfl ⟨rfl, by decide, Or.inl C.mgS⟩ takes0
        (fun W pn xe tk _ => pss_one (ps_expr (pe_methS (pv 0) T.cl MW GW hr bW (fun σ => passAt tk σ) (by exact pa_cons (pe_ix ix_tup (pv 1) pe_int (fun _ _ => rfl)) (pa_cons (pe_ix ix_tup (pv 1) pe_int (fun _ _ => rfl)) pa_nil)))))
        (fun a oe cls d pn hz hf => pss_if fun hc => by
          obtain ⟨rfl, rfl⟩ := hc
          exact pss_one (ps_ret (pe_and (pe_callB (call_isE O.ex hz hf) rfl mIs (by decide +kernel) (pa_cons (pv 2) (pa_cons (pe_bltn (v := .ty "ValueError") rfl C.mV (by decide +kernel) rfl) pa_nil)))
            (pe_and (pe_callB (call_isE O.ex hz hf) rfl mIs (by decide +kernel) (pa_cons (pv 2) (pa_cons (pe_glob (v := .ref CN) rfl N.mg rfl) pa_nil)))
              (pe_one (pe_not (pe_callZ (p := (a, oe)) GA ⟨by have := hr.dp; show A.depth + 1 + 3 * 1 + 5 < _; have h2 : A.depth + 1 + 3 * 2 + 5 < recursionLimit := this; omega, by have h2 : A.units + 3 + 16 * 2 + 200 < cLine := hr.un; show A.units + 3 + 16 * 1 + 200 < _; omega⟩ List.mem_cons_self hz hf rfl gA FA.kp bA (pa_cons (pv 2) pa_nil)))))))))
      (pss_one (ps_ret pe_bl)), ?_⟩
    obtain ⟨dx, hp⟩ := B.ins
    refine ⟨_, rfl, p, dx, _, rfl, hp, rfl, _, rfl, t, _, _, _, rfl, rfl, ht, (by rfl), _, rfl, t, _, _, _, rfl, rfl, ht, (by rfl), ?_⟩
    refine ⟨p, d, hand, n, es, f, pc.1, pc.2, rfl, B, hw, fun pr epr => ?_, fun _ H' s' => ?_⟩
    · exact absurd (by rw [show (pc.1, pc.2) = pc from rfl] at epr; rw [epr]; rfl) hne
    · refine ⟨true, C.exm, fun _ a ha => ?_, fun q => Bool.noConfusion q⟩
      refine ⟨⟨rfl, rfl⟩, ?_⟩
      refine ⟨_, rfl, .ty "ValueError", .type "ValueError", true, rfl, fun u hu => hu, C.isV, _, rfl, if_yes rfl ?_⟩
      refine ⟨_, rfl, .ref CN, .ref CN, true, rfl, fun u hu => hu, ?_, _, rfl, if_yes rfl ?_⟩
      · unfold PySem.W.kitOne
        rw [if_pos (by exact beq_self_eq_true _)]
      · exact ⟨_, rfl, rfl, fun H2 s2 => ⟨false, rfl, k _ (s'.trans s2)⟩⟩
end
end K82

set_option Elab.async false
set_option linter.all false
set_option maxRecDepth 100000
set_option maxHeartbeats 4000000
namespace K82
open PySem PySem.Spec PyProof.Rows L2

/-! ## == and != of data with any texts -/
def rEqP (K : PySem.W.Frag) : R2 := fun x y H Q => ∃ d e, Dp K H x d ∧ Dp K H y e ∧ d.plain = true ∧ e.plain = true ∧ min d.depth e.depth ≤ 64 ∧ Q (.bl (PyData.eqv d e)) H
def rNeP (K : PySem.W.Frag) : R2 := fun x y H Q => ∃ d e, Dp K H x d ∧ Dp K H y e ∧ d.plain = true ∧ e.plain = true ∧ min d.depth e.depth ≤ 64 ∧ Q (.bl (!PyData.eqv d e)) H
section
variable {X : Cx}
theorem op_eqP (hu : X.A.units + 64 < cLine) : OpR X (compareOp .Eq) (rEqP X.K) := by
  intro pins s σ H x y v u Q I rx ry h
  obtain ⟨d, e, hd, he, sd, se, m, q⟩ := h
  obtain ⟨as, r1⟩ := Dp.reads I d x v hd rx
  obtain ⟨bs, r2⟩ := Dp.reads I e y u he ry
  exact PySem.SeqAt.eq_plain r1 r2 sd se (by omega) ⟨.bl _, H, I, rfl, q⟩
theorem op_neP (hu : X.A.units + 64 < cLine) : OpR X (compareOp .NotEq) (rNeP X.K) := by
  intro pins s σ H x y v u Q I rx ry h
  obtain ⟨d, e, hd, he, sd, se, m, q⟩ := h
  obtain ⟨as, r1⟩ := Dp.reads I d x v hd rx
  obtain ⟨bs, r2⟩ := Dp.reads I e y u he ry
  exact PySem.SeqAt.ne_plain r1 r2 sd se (by omega) ⟨.bl _, H, I, rfl, q⟩
end
theorem eqvP (a b : Pr) : PyData.eqv (encP a) (encP b) = decide (a = b) := by
  obtain ⟨x, y⟩ := a
  obtain ⟨z, u⟩ := b
  show (x == z && (y == u && true)) = _
  by_cases h1 : x = z
  · by_cases h2 : y = u
    · subst h1 h2
      simp
    · rw [decide_eq_false (fun e => h2 (Prod.mk.inj e).2)]
      simp [h2]
  · rw [decide_eq_false (fun e => h1 (Prod.mk.inj e).1)]
    simp [h1]
theorem plainP (a : Pr) : (encP a).plain = true := by simp [encP, PyData.plain, PyData.plainAll]
theorem dpP {K : PySem.W.Frag} {H : Hp} {t : Addr} {p : Pr} (h : SqT K H t [.str p.1, .str p.2]) : Dp K H (.ref t) (encP p) := .tup h (.cons (.str _) (.cons (.str _) .nil))
theorem minP (a b : Pr) : min (encP a).depth (encP b).depth ≤ 64 := by
  have := depth_pair a
  omega
theorem dp_ints {K : PySem.W.Frag} {H : Hp} : ∀ ns : List Int, DpAll K H (ns.map V.int) (ns.map PyData.int)
  | [] => .nil
  | n :: ns => .cons (.int n) (dp_ints ns)
theorem plain_ints : ∀ ns : List Int, PyData.plainAll (ns.map PyData.int) = true
  | [] => by simp [PyData.plainAll]
  | n :: ns => by
    rw [List.map_cons, PyData.plainAll, plain_ints ns]
    rfl
theorem eqv_nil {α : Type} (f : α → PyData) (l : List α) : PyData.eqv (.list (l.map f)) (.list []) = l.isEmpty := by
  cases l with
  | nil => rfl
  | cons a l => rfl
theorem depth_nil : (PyData.list []).depth = 1 := by simp [PyData.depth, PyData.depthAll]

/-! ## what the law notes -/
structure Cell where
  piece : Pr
  pair : Pr
  seen : List (Key × V)
def CellAt (G : Hp) (v : V) (c : Cell) : Prop := ∃ T tp tq d, v = .ref T ∧ G T = some (.tup [.ref tp, .ref tq, .ref d]) ∧ G tp = some (.tup [.str c.piece.1, .str c.piece.2]) ∧ G tq = some (.tup [.str c.pair.1, .str c.pair.2]) ∧ G d = some (.dK c.seen)
theorem CellAt.mono {G G' : Hp} {v : V} {c : Cell} (h : CellAt G v c) (s : Same G G') : CellAt G' v c :=
  let ⟨T, tp, tq, d, e, h1, h2, h3, h4⟩ := h
  ⟨T, tp, tq, d, e, s _ _ h1, s _ _ h2, s _ _ h3, s _ _ h4⟩
abbrev CellsAt (G : Hp) : List V → List Cell → Prop := Paired (CellAt G)
theorem CellsAt.mono {G G' : Hp} {xs : List V} {cs : List Cell} (h : CellsAt G xs cs) (s : Same G G') : CellsAt G' xs cs := Paired.mapP h fun _ _ z => z.mono s
theorem paired_get {α β : Type} {R : α → β → Prop} {l : List α} {m : List β} (h : Paired R l m) : ∀ {i : Nat} {y : β}, m[i]? = some y → ∃ x, l[i]? = some x ∧ R x y := by
  induction h with
  | nil => intro i y hy; cases hy
  | cons r _ ih =>
    intro i y hy
    cases i with
    | zero => exact ⟨_, rfl, by cases (show some _ = some _ from hy); exact r⟩
    | succ i => exact ih hy
abbrev natV (ms : List Nat) : List V := ms.map fun (k : Nat) => V.int (k : Int)
theorem natV_add (a b : List Nat) : natV (a ++ b) = natV a ++ natV b := List.map_append
theorem natV_at {ms : List Nat} {i : Nat} {x : V} (h : (natV ms)[i]? = some x) : ∃ k, ms[i]? = some k ∧ x = .int (k : Int) := by
  rw [List.getElem?_map] at h
  cases e : ms[i]? with
  | none =>
    rw [e] at h
    cases h
  | some p =>
    rw [e] at h
    exact ⟨p, rfl, (Option.some.inj h).symm⟩
def pieceOf (cs : List Cell) (p : Pr) (k : Nat) : Bool := decide ((cs[k]?).map Cell.piece = some p)
def seenBy (cs : List Cell) (j k : Nat) : Bool := ((cs[j]?).bind fun c => valV c.seen (.inl (k : Int))).isSome
def lawOurs (cs : List Cell) (met : List Nat) (p : Pr) : List Nat := met.filter (pieceOf cs p)
def lawHeld (cs : List Cell) (met : List Nat) (p : Pr) : List Nat := (lawOurs cs met p).filter fun k => (List.filter (fun j => seenBy cs j k) (lawOurs cs met p)).isEmpty
theorem filter_step {α : Type} {l : List α} {i : Nat} {a : α} (h : l[i]? = some a) (g : α → Bool) : (l.take (i + 1)).filter g = (l.take i).filter g ++ (if g a = true then [a] else []) := by
  rw [take_one_more h, List.filter_append, List.filter_cons]
  rfl

/-! ## _law_held -/
def spHeld : Sp := fun vs H Q _ => ∃ (ld lm tp : Addr) (xs : List V) (cs : List Cell) (met : List Nat) (p : Pr), vs = [.ref ld, .ref lm, .ref tp] ∧ H ld = some (.lst xs) ∧ CellsAt H xs cs ∧ H lm = some (.lst (natV met)) ∧ (∀ k ∈ met, k < cs.length) ∧ met.length ≤ 1000 ∧
  H tp = some (.tup [.str p.1, .str p.2]) ∧ ∀ H' q, Same H H' → H q = none → H' q = some (.lst (natV (lawHeld cs met p))) → Q (.ref q) H'
abbrev nHeld : List Str := ["_law_done", "_law_met", "_law_piece", "_law_ours", "_law_found", "_law_k", "_law_j"]
theorem scHeld : FnScope nHeld ["_law_done", "_law_met", "_law_piece"] (defScope sHeld) := ⟨rfl, rfl, rfl, by decide +kernel, rfl, by decide +kernel, by decide +kernel⟩
section
variable {P : Program} {w : World} {K : PySem.W.Frag} {mg : Str → Option Value} {base : Heap}
theorem ok_held {f : Addr} {fd : FuncData} (F : Fun K "_law_held" "_law_held" sHeld f fd) : FnOk P w K mg base CX0 1 f fd ["_law_done", "_law_met", "_law_piece"] spHeld := by
  refine F.ok scHeld (fun vs H Q E h => ?_) (fun cdv A outer s H vs Q E hr h => ?_)
  · obtain ⟨ld, lm, tp, xs, cs, met, p, rfl, _⟩ := h
    rfl
  · obtain ⟨ld, lm, tp, xs, cs, met, p, rfl, hld, hcs, hlm, hk, hlen, htp, k⟩ := h
    have hu := hu_of hr
    refine ⟨_, pss_cons (ps_setLc (i := 3) (own := [("_law_k", 5)]) (g := gName 5) (tt := tTest (tOp (rEqP K) (tOp (rIxT K) (tOp (rIxL K) (tVar 0) (tVar 5)) (tC (.int 0))) (tVar 2))) (te := tVar 5) (by rfl) scHeld.nd rfl rfl (sw_true rfl rfl rfl (by decide +kernel)) (pi_list (pv 1))
        (blkOk_by (own := [("_law_k", 5)]) (N := nHeld) (sc := defScope sHeld) (by decide +kernel)) (fun _ _ _ _ _ => pg_name (i := 5) scHeld.nd rfl (Or.inl rfl))
        (fun _ _ _ _ _ => by exact pts_one (pt_cmpR (op_eqP hr.units) (pe_ix ix_tup (pe_ix ix_list (pv 0) (pv 5) (fun _ _ => rfl)) pe_int (fun _ _ => rfl)) (pv 2) (nomark _)))
        (fun _ _ _ _ _ => by exact pv 5))
      (pss_cons (ps_set (i := 4) scHeld.nd rfl (Or.inl rfl) (pe_lst pa_nil))
      (pss_cons (ps_for PassesOwn.never rfl (pi_list (pv 3)) (pg_name (i := 5) scHeld.nd rfl (Or.inr rfl))
        (pss_one (ps_if (pt_cmpR (op_eqP hr.units)
            (pe_lc (own := [("_law_j", 6)]) (g := gName 6) (tt := tB (tDIn (tVar 5) (tOp (rIxT K) (tOp (rIxL K) (tVar 0) (tVar 6)) (tC (.int 2))))) (te := tVar 6) rfl scHeld.nd (pi_list (pv 3))
              (blkOk_by (own := [("_law_j", 6)]) (N := nHeld) (sc := defScope sHeld) (by decide +kernel)) (fun _ _ _ _ _ => pg_name (i := 6) scHeld.nd rfl (Or.inl rfl))
              (fun _ _ _ _ _ => by exact pts_one (pt_cmp (pc_din hu (pv 5) (pe_ix ix_tup (pe_ix ix_list (pv 0) (pv 6) (fun _ _ => rfl)) pe_int (fun _ _ => rfl)))))
              (fun _ _ _ _ _ => by exact pv 6)) (pe_lst pa_nil) (nomark _))
          (pss_one (ps_expr (pe_bm PySem.F.plainAttrs_list PySem.F.slot_list_append PySem.F.type_list_append mt_append (pv 4) (pa_cons (pv 5) pa_nil)))) pss_nil)))
      (pss_one (ps_ret (pv 4))))), ?_⟩
    have at1 : ∀ {H1 : Hp}, Same H H1 → ∀ {j : Nat}, j ∈ met → ∃ v c, cs[j]? = some c ∧ xs[j]? = some v ∧ CellAt H1 v c := fun {H1} s {j} hj => by
      have hl := List.getElem?_eq_getElem (hk j hj)
      obtain ⟨v, hv, hc⟩ := paired_get hcs hl
      exact ⟨v, _, hl, hv, hc.mono s⟩
    refine ⟨_, rfl, lm, rfl, ⟨_, SqL.of hlm⟩, fun D hD => ?_⟩
    refine lc_list (K := K) (a := lm) (xs := natV met) (fun i H' => Same H H' ∧ H' D = some (.lst (natV ((met.take i).filter (pieceOf cs p)))))
      ⟨(Same.refl H).over hD, upd_same⟩ (fun i H' _ h => SqL.of (h.1 _ _ hlm)) ?_ ?_
    · rintro i x H1 hi ⟨sH, hDl⟩
      obtain ⟨j, hj, rfl⟩ := natV_at hi
      have hjm : j ∈ met := List.mem_of_getElem? hj
      obtain ⟨v, c, hc, hv, T, tq, tr, d, rfl, g1, g2, g3, g4⟩ := at1 sH hjm
      refine ⟨rfl, ?_⟩
      refine ⟨_, rfl, _, rfl, ld, xs, _, _, rfl, rfl, SqL.of (sH _ _ hld), atI_nat hv, T, _, _, _, rfl, rfl, SqT.of g1, (by rfl), _, rfl, encP c.piece, encP p, dpP (SqT.of g2), dpP (SqT.of (sH _ _ htp)), plainP _, plainP _, minP _ _, ?_⟩
      have ec : PyData.eqv (encP c.piece) (encP p) = pieceOf cs p j := by
        rw [eqvP]
        unfold pieceOf
        rw [hc]
        exact decide_eq_decide.mpr ⟨fun z => congrArg some z, fun z => Option.some.inj z⟩
      rw [ec]
      refine ⟨_, rfl, ?_⟩
      have st := filter_step hj (pieceOf cs p)
      by_cases cc : pieceOf cs p j = true
      · rw [if_pos cc] at st
        refine if_yes cc ⟨_, rfl, _, hDl, ?_, sH.over hD, ?_⟩
        · rw [List.length_map]
          refine small1000 (Nat.le_trans (List.length_filter_le _ _) ?_)
          rw [List.length_take]
          omega
        · rw [upd_same, st, natV_add]
          rfl
      · rw [if_neg cc, List.append_nil] at st
        refine if_no cc ⟨sH, ?_⟩
        rw [st]
        exact hDl
    · rintro H1 ⟨sH, hDl⟩
      have e9 : met.take (natV met).length = met := by rw [List.length_map, List.take_length]
      rw [e9] at hDl
      have eo : met.filter (pieceOf cs p) = lawOurs cs met p := rfl
      rw [eo] at hDl
      have om : ∀ j ∈ lawOurs cs met p, j ∈ met := fun j hj => (List.mem_filter.mp hj).1
      have lo : (lawOurs cs met p).length ≤ 1000 := Nat.le_trans (List.length_filter_le _ _) hlen
      have ehe : lawHeld cs met p = (lawOurs cs met p).filter fun k => (List.filter (fun j => seenBy cs j k) (lawOurs cs met p)).isEmpty := rfl
      rw [ehe] at k
      generalize lawOurs cs met p = ours at hDl om lo k
      refine ⟨Nat.zero_le _, fun B hB => ?_⟩
      have nDB : D ≠ B := ne_of_none hDl hB
      have B0 : H B = none := sH.free hB
      refine ⟨_, rfl, D, rfl, ⟨_, SqL.of ((upd_ne nDB).trans hDl)⟩, for_list (K := K) (a := D) (xs := natV ours)
        (fun i σ H' => ∃ v5 : Option V, σ = [some (.ref ld), some (.ref lm), some (.ref tp), some (.ref D), some (.ref B), v5, none] ∧ Same H H' ∧ H' D = some (.lst (natV ours)) ∧
          H' B = some (.lst (natV ((ours.take i).filter fun k => (List.filter (fun j => seenBy cs j k) ours).isEmpty))))
        ⟨none, rfl, sH.over B0, (upd_ne nDB).trans hDl, upd_same⟩ (fun i σ H' _ ⟨_, _, _, h, _⟩ => SqL.of h) ?_ ?_⟩
      · rintro i x σ H2 hi ⟨v5, rfl, s2, hD2, hB2⟩
        obtain ⟨a, ha, rfl⟩ := natV_at hi
        refine ⟨_, rfl, D, rfl, ⟨_, SqL.of hD2⟩, fun C hC => ?_⟩
        have nDC : D ≠ C := ne_of_none hD2 hC
        have nBC : B ≠ C := ne_of_none hB2 hC
        refine lc_list (K := K) (a := D) (xs := natV ours) (fun j H' => Same H2 H' ∧ H' C = some (.lst (natV ((ours.take j).filter fun b => seenBy cs b a))))
          ⟨(Same.refl H2).over hC, upd_same⟩ (fun j H' _ h => SqL.of (h.1 _ _ hD2)) ?_ ?_
        · rintro j y H3 hj ⟨s3, hCl⟩
          obtain ⟨b, hb, rfl⟩ := natV_at hj
          have hbm : b ∈ met := om b (List.mem_of_getElem? hb)
          obtain ⟨v, c, hc, hv, T, tq, tr, d, rfl, g1, g2, g3, g4⟩ := at1 (s2.trans s3) hbm
          refine ⟨rfl, ?_⟩
          refine ⟨_, rfl, _, rfl, _, rfl, ld, xs, _, _, rfl, rfl, SqL.of (s3 _ _ (s2 _ _ hld)), atI_nat hv, T, _, _, _, rfl, rfl, SqT.of g1, (by rfl), d, _, rfl, DGet.k (k := .inl (a : Int)) g4, ?_⟩
          have ec : (valV c.seen (.inl (a : Int))).isSome = seenBy cs b a := by
            unfold seenBy
            rw [hc]
            rfl
          rw [ec]
          refine ⟨_, rfl, ?_⟩
          have st := filter_step hb (fun b => seenBy cs b a)
          by_cases cc : seenBy cs b a = true
          · rw [if_pos cc] at st
            refine if_yes cc ⟨_, rfl, _, hCl, ?_, s3.over hC, ?_⟩
            · rw [List.length_map]
              refine small1000 (Nat.le_trans (List.length_filter_le _ _) ?_)
              rw [List.length_take]
              omega
            · rw [upd_same, st, natV_add]
              rfl
          · rw [if_neg cc, List.append_nil] at st
            refine if_no cc ⟨s3, ?_⟩
            rw [st]
            exact hCl
        · rintro H3 ⟨s3, hCl⟩
          have e8 : ours.take (natV ours).length = ours := by rw [List.length_map, List.take_length]
          rw [e8] at hCl
          refine ⟨Nat.zero_le _, fun Z hZ => ?_⟩
          have s4 : Same H3 (upd H3 Z (.lst [])) := (Same.refl H3).new hZ
          have z4 : upd H3 Z (.lst []) Z = some (.lst []) := upd_same
          generalize upd H3 Z (.lst []) = H4 at s4 z4 ⊢
          have en : natV (ours.filter fun b => seenBy cs b a) = ((ours.filter fun b => seenBy cs b a).map fun k : Nat => (k : Int)).map V.int := by rw [List.map_map]; rfl
          rw [en] at hCl
          refine ⟨_, _, .lst (SqL.of (s4 _ _ hCl)) (dp_ints _), .lst (SqL.of z4) .nil, plain_ints _, rfl, by rw [depth_nil]; omega, ?_⟩
          rw [List.map_map, eqv_nil]
          refine ⟨_, rfl, ?_⟩
          have s24 : Same H2 H4 := s3.trans s4
          have st := filter_step ha (fun k => (List.filter (fun j => seenBy cs j k) ours).isEmpty)
          by_cases cc : (List.filter (fun j => seenBy cs j a) ours).isEmpty = true
          · rw [if_pos cc] at st
            refine if_yes cc ⟨_, rfl, .inl ⟨rfl, _, SqL.of (s24 _ _ hB2)⟩, _, rfl, B, _, _, rfl, rfl, s24 _ _ hB2, ?_, some (.int (a : Int)), rfl, (s2.trans s24).over B0, (upd_ne nDB).trans (s24 _ _ hD2), ?_⟩
            · rw [List.length_map]
              refine small1000 (Nat.le_trans (List.length_filter_le _ _) ?_)
              rw [List.length_take]
              omega
            · rw [upd_same, st, natV_add]
              rfl
          · rw [if_neg cc, List.append_nil] at st
            refine if_no cc ⟨some (.int (a : Int)), rfl, s2.trans s24, s24 _ _ hD2, ?_⟩
            rw [st]
            exact s24 _ _ hB2
      · rintro σ H2 ⟨v5, rfl, s2, hD2, hB2⟩
        have e8 : ours.take (natV ours).length = ours := by rw [List.length_map, List.take_length]
        rw [e8] at hB2
        exact ⟨_, rfl, k H2 B s2 B0 hB2⟩
end
end K82

set_option Elab.async false
set_option linter.all false
set_option maxRecDepth 100000
set_option maxHeartbeats 4000000
namespace K82
open PySem PySem.Spec PyProof.Rows L2

/-! ## _law_unlike, _law_told -/
def lawPairs (cs : List Cell) (ks : List Nat) : List Pr := ks.filterMap fun k => (cs[k]?).map Cell.pair
def lawUnl (cs : List Cell) (met : List Nat) (p : Pr) : List Pr := neat (lawPairs cs (lawHeld cs met p))
/-- the lists done, met; F: what stays -/
structure NotedAt (F H : Hp) (ld lm : Addr) (cs : List Cell) (met : List Nat) : Prop where
  same : Same F H
  hdone : ∃ xs, H ld = some (.lst xs) ∧ CellsAt F xs cs
  hmet : H lm = some (.lst (natV met))
  lt : ∀ k ∈ met, k < cs.length
  len : met.length < 64
theorem NotedAt.mono {F H H' : Hp} {ld lm : Addr} {cs : List Cell} {met : List Nat} (h : NotedAt F H ld lm cs met) (s : Same H H') : NotedAt F H' ld lm cs met :=
  ⟨h.same.trans s, let ⟨xs, h1, h2⟩ := h.hdone; ⟨xs, s _ _ h1, h2⟩, s _ _ h.hmet, h.lt, h.len⟩
theorem lawHeld_mem {cs : List Cell} {met : List Nat} {p : Pr} {k : Nat} (h : k ∈ lawHeld cs met p) : k ∈ met := (List.mem_filter.mp (List.mem_filter.mp h).1).1
theorem lawHeld_len (cs : List Cell) (met : List Nat) (p : Pr) : (lawHeld cs met p).length ≤ met.length := Nat.le_trans (List.length_filter_le _ _) (List.length_filter_le _ _)
theorem lawPairs_more {cs : List Cell} {ks : List Nat} {i k : Nat} {c : Cell} (h : ks[i]? = some k) (hc : cs[k]? = some c) : lawPairs cs (ks.take (i + 1)) = lawPairs cs (ks.take i) ++ [c.pair] := by
  unfold lawPairs
  rw [take_one_more h, List.filterMap_append]
  show _ ++ List.filterMap _ [k] = _
  rw [List.filterMap_cons_some (b := c.pair) (by rw [hc]; rfl)]
  rfl
def spLUnlike : Sp := fun vs H Q _ => ∃ (F : Hp) (ld lm tp : Addr) (cs : List Cell) (met : List Nat) (p : Pr), vs = [.ref ld, .ref lm, .ref tp] ∧ NotedAt F H ld lm cs met ∧ F tp = some (.tup [.str p.1, .str p.2]) ∧
  ∀ H' q out, Same H H' → H q = none → H' q = some (.lst (atRefs out)) → out.map (·.2) = lawUnl cs met p → (∀ b ∈ out, F b.1 = some (.tup [.str b.2.1, .str b.2.2])) → Q (.ref q) H'
abbrev nLUnlike : List Str := ["_law_done", "_law_met", "_law_piece", "_law_k"]
theorem scLUnlike : FnScope nLUnlike ["_law_done", "_law_met", "_law_piece"] (defScope sLUnlike) := ⟨rfl, rfl, rfl, by decide +kernel, rfl, by decide +kernel, by decide +kernel⟩
def lawRows (cs : List Cell) (met : List Nat) (ps : List Pr) : List (Pr × List Pr) := ((neat ps).filter fun q => !(lawUnl cs met q).isEmpty).map fun q => (q, lawUnl cs met q)
/-- F, and beside it N -/
def plus (F N : Hp) : Hp := fun b => match F b with
  | some o => some o
  | none => N b
theorem plus_l {F N : Hp} : Same F (plus F N) := fun b o e => by
  unfold plus
  rw [e]
theorem plus_at {F N : Hp} {b : Addr} {o : HO} (h : F b = none) (e : N b = some o) : plus F N b = some o := by
  unfold plus
  rw [h]
  exact e
theorem of_plus {F N : Hp} {b : Addr} {o : HO} (h : plus F N b = some o) : F b = some o ∨ (F b = none ∧ N b = some o) := by
  unfold plus at h
  cases e : F b with
  | none =>
    rw [e] at h
    exact .inr ⟨rfl, h⟩
  | some u =>
    rw [e] at h
    exact .inl h
theorem plus_new {F H H' : Hp} (s : Same F H) : Same (New H H') (plus F (New H H')) := fun b o e => plus_at (s.free (of_new e).1) e
theorem plus_mono {F N N' : Hp} (s : Same N N') : Same (plus F N) (plus F N') := fun b o e => by
  rcases of_plus e with z | ⟨z, y⟩
  · exact plus_l _ _ z
  · exact plus_at z (s _ _ y)
theorem plus_in {F H H' : Hp} (s : Same F H) (s' : Same H H') : Same (plus F (New H H')) H' := fun b o e => by
  rcases of_plus e with z | ⟨_, y⟩
  · exact s' _ _ (s _ _ z)
  · exact (of_new y).2
def spLTold (K : PySem.W.Frag) : Sp := fun vs H Q _ => ∃ (F : Hp) (ld lm sp : Addr) (cs : List Cell) (met : List Nat) (sps : List At), vs = [.ref ld, .ref lm, .ref sp] ∧ NotedAt F H ld lm cs met ∧ H sp = some (.lst (atRefs sps)) ∧ (∀ b ∈ sps, F b.1 = some (.tup [.str b.2.1, .str b.2.2])) ∧ (sps.map (·.2)).Nodup ∧ sps.length ≤ 4 ∧
  ∀ H' a, Same H H' → ToldAt (plus F (New H H')) a (lawRows cs met (sps.map (·.2))) → H a = none → Q (.ref a) H'
abbrev nLTold : List Str := ["_law_done", "_law_met", "_law_spots", "_law_found", "_law_piece", "_law_pairs"]
theorem scLTold : FnScope nLTold ["_law_done", "_law_met", "_law_spots"] (defScope sLTold) := ⟨rfl, rfl, rfl, by decide +kernel, rfl, by decide +kernel, by decide +kernel⟩
theorem dp_pairs {K : PySem.W.Frag} {H : Hp} : ∀ {bs : List At}, (∀ b ∈ bs, SqT K H b.1 [.str b.2.1, .str b.2.2]) → DpAll K H (atRefs bs) (bs.map fun b => encP b.2)
  | [], _ => .nil
  | b :: bs, h => .cons (dpP (h b List.mem_cons_self)) (dp_pairs fun x hx => h x (List.mem_cons_of_mem _ hx))
theorem plain_pairs : ∀ ps : List Pr, PyData.plainAll (ps.map encP) = true
  | [] => by simp [PyData.plainAll]
  | p :: ps => by
    rw [List.map_cons, PyData.plainAll, plain_pairs ps, plainP]
    rfl
section
variable {P : Program} {w : World} {K : PySem.W.Frag} {mg : Str → Option Value} {base : Heap}
theorem ok_lunlike {f fH : Addr} {fd fdH : FuncData} (F : Fun K "_law_unlike" "_law_unlike" sLUnlike f fd) (mSorted : mg "sorted" = none) (mSet : mg "set" = none)
    (FH : Fun K "_law_held" "_law_held" sHeld fH fdH) (bH : Binds K fdH ["_law_done", "_law_met", "_law_piece"] []) (gH : mg "_law_held" = some (.ref fH)) : FnOk P w K mg base CX0 2 f fd ["_law_done", "_law_met", "_law_piece"] spLUnlike := by
  have GH : FnOk P w K mg base CX0 1 fH fdH ["_law_done", "_law_met", "_law_piece"] spHeld := ok_held FH
  refine F.ok scLUnlike (fun vs H Q E h => ?_) (fun cdv A outer s H vs Q E hr h => ?_)
  · obtain ⟨F0, ld, lm, tp, cs, met, p, rfl, _⟩ := h
    rfl
  · obtain ⟨F0, ld, lm, tp, cs, met, p, rfl, ⟨sF, ⟨xs, hld, hcs⟩, hlm, hlt, hlen⟩, htp, k⟩ := h
    have hu := hr.units
    refine ⟨_, pss_one (ps_ret (pe_callB (cr_sortedSet rfl hu) rfl mSorted (by decide +kernel) (pa_cons (pe_callTy (cr_setP rfl hu) rfl mSet (by decide +kernel) (pa_cons
      (pe_lc (own := [("_law_k", 3)]) (g := gName 3) (tt := tYes) (te := tOp (rIxT K) (tOp (rIxL K) (tVar 0) (tVar 3)) (tC (.int 1))) rfl scLUnlike.nd
        (pi_list (pe_call GH hr rfl gH FH.kp bH .nil pass0 (pa_cons (pv 0) (pa_cons (pv 1) (pa_cons (pv 2) pa_nil)))))
        (blkOk_by (own := [("_law_k", 3)]) (N := nLUnlike) (sc := defScope sLUnlike) (by decide +kernel)) (fun _ _ _ _ _ => pg_name (i := 3) scLUnlike.nd rfl (Or.inl rfl)) (fun _ _ _ _ _ => pts_nil)
        (fun _ _ _ _ _ => by exact pe_ix ix_tup (pe_ix ix_list (pv 0) (pv 3) (fun _ _ => rfl)) pe_int (fun _ _ => rfl))) pa_nil)) pa_nil))), ?_⟩
    refine ⟨_, rfl, _, rfl, _, rfl, ld, lm, tp, xs, cs, met, p, rfl, hld, hcs.mono sF, hlm, hlt, by omega, sF _ _ htp, fun H1 l s1 hl0 hl => ?_⟩
    refine ⟨l, rfl, ⟨_, SqL.of hl⟩, fun D hD => ?_⟩
    have nlD : l ≠ D := ne_of_none hl hD
    refine lc_list (K := K) (a := l) (xs := natV (lawHeld cs met p)) (fun i H' => ∃ bs : List At, Same H1 H' ∧ H' D = some (.lst (atRefs bs)) ∧ bs.map (·.2) = lawPairs cs ((lawHeld cs met p).take i) ∧ bs.length = ((lawHeld cs met p).take i).length ∧ ∀ b ∈ bs, F0 b.1 = some (.tup [.str b.2.1, .str b.2.2]))
      ⟨[], (Same.refl H1).over hD, upd_same, rfl, rfl, fun _ z => absurd z List.not_mem_nil⟩ (fun i H' _ ⟨_, sH, _⟩ => SqL.of (sH _ _ hl)) ?_ ?_
    · rintro i x H2 hi ⟨bs, s2, hDl, hb, hbl, hm⟩
      obtain ⟨j, hj, rfl⟩ := natV_at hi
      have hjl := hlt j (lawHeld_mem (List.mem_of_getElem? hj))
      have hc := List.getElem?_eq_getElem hjl
      obtain ⟨v, hv, T, tq, tr, d, rfl, g1, g2, g3, g4⟩ := paired_get hcs hc
      have s02 : Same F0 H2 := (sF.trans s1).trans s2
      have ll := lawHeld_len cs met p
      refine ⟨rfl, ?_⟩
      refine yes_if ?_
      refine ⟨_, rfl, _, rfl, ld, xs, _, _, rfl, rfl, SqL.of (s2 _ _ (s1 _ _ hld)), atI_nat hv, T, _, _, _, rfl, rfl, SqT.of (s02 _ _ g1), (by rfl), _, hDl, ?_, bs ++ [(tr, cs[j].pair)], s2.over hD, ?_, ?_, ?_, ?_⟩
      · rw [List.length_map, hbl, List.length_take]
        exact small1000 (by omega)
      · rw [upd_same, atRefs_add]
        rfl
      · rw [List.map_append, hb, lawPairs_more hj hc]
        rfl
      · rw [List.length_append, hbl, take_one_more hj, List.length_append]
        rfl
      · intro b hb2
        rcases List.mem_append.mp hb2 with z | z
        · exact hm b z
        · rw [List.mem_singleton.mp z]
          exact g3
    · rintro H2 ⟨bs, s2, hDl, hb, hbl, hm⟩
      rw [List.length_map, List.take_length] at hb hbl
      have ll := lawHeld_len cs met p
      have s02 : Same F0 H2 := (sF.trans s1).trans s2
      refine ⟨D, bs, rfl, SqL.of hDl, fun b hb2 => SqT.of (s02 _ _ (hm b hb2)), by omega, fun a L ha h1 h2 h3 => ?_⟩
      have sA : Same H2 (upd H2 a (SetPO P w a L)) := (Same.refl H2).new ha
      refine ⟨a, L, rfl, upd_same, fun b hb2 => SqT.of (sA _ _ (s02 _ _ (hm b (h1 b hb2)))), fun out q pm up hq => ?_⟩
      obtain ⟨e1, e2⟩ := perm_neat h1 h2 h3 pm up
      have sQ : Same H2 (upd (upd H2 a (SetPO P w a L)) q (.lst (atRefs out))) := sA.new hq
      have s12 := s1.trans s2
      refine k _ q out (s12.trans sQ) ((s12.trans sA).free hq) upd_same ?_ fun b hb2 => hm b (e2 b hb2)
      rw [e1, hb]
      rfl
end
end K82

set_option Elab.async false
set_option linter.all false
set_option maxRecDepth 100000
set_option maxHeartbeats 4000000
namespace K82
open PySem PySem.Spec PyProof.Rows L2

theorem lawUnl_len (cs : List Cell) (met : List Nat) (p : Pr) : (lawUnl cs met p).length ≤ met.length := by
  have h1 : (lawUnl cs met p).length ≤ (lawPairs cs (lawHeld cs met p)).length := len_le_of (neat_neat _).once fun x hx => mem_neat.mp hx
  have h2 : (lawPairs cs (lawHeld cs met p)).length ≤ (lawHeld cs met p).length := List.length_filterMap_le _ _
  exact Nat.le_trans h1 (Nat.le_trans h2 (lawHeld_len cs met p))
theorem atRefs_len {out : List At} {ps : List Pr} (h : out.map (·.2) = ps) : out.length = ps.length := by
  rw [← h, List.length_map]
section
variable {P : Program} {w : World} {K : PySem.W.Frag} {mg : Str → Option Value} {base : Heap}
theorem ok_ltold {f fH fU : Addr} {fd fdH fdU : FuncData} (F : Fun K "_law_told" "_law_told" sLTold f fd) (mSorted : mg "sorted" = none) (mSet : mg "set" = none)
    (FH : Fun K "_law_held" "_law_held" sHeld fH fdH) (bH : Binds K fdH ["_law_done", "_law_met", "_law_piece"] []) (gH : mg "_law_held" = some (.ref fH))
    (FU : Fun K "_law_unlike" "_law_unlike" sLUnlike fU fdU) (bU : Binds K fdU ["_law_done", "_law_met", "_law_piece"] []) (gU : mg "_law_unlike" = some (.ref fU)) : FnOk P w K mg base CX0 3 f fd ["_law_done", "_law_met", "_law_spots"] (spLTold K) := by
  have GU : FnOk P w K mg base CX0 2 fU fdU ["_law_done", "_law_met", "_law_piece"] spLUnlike := ok_lunlike FU mSorted mSet FH bH gH
  refine F.ok scLTold (fun vs H Q E h => ?_) (fun cdv A outer s H vs Q E hr h => ?_)
  · obtain ⟨F0, ld, lm, sp, cs, met, sps, rfl, _⟩ := h
    rfl
  · obtain ⟨F0, ld, lm, sp, cs, met, sps, rfl, N, hsp, hspF, hnd, hlen, k⟩ := h
    have hu := hu_of hr
    refine ⟨_, pss_cons (ps_set (i := 3) scLTold.nd rfl (Or.inl rfl) (pe_lst pa_nil))
      (pss_cons (ps_for PassesOwn.never rfl (pi_list (pe_callB (cr_sortedAt hr.units) rfl mSorted (by decide +kernel) (pa_cons (pv 2) pa_nil))) (pg_name (i := 4) scLTold.nd rfl (Or.inl rfl))
        (pss_cons (ps_set (i := 5) scLTold.nd rfl (Or.inl rfl) (pe_call GU hr rfl gU FU.kp bU .nil pass0 (pa_cons (pv 0) (pa_cons (pv 1) (pa_cons (pv 4) pa_nil)))))
        (pss_one (ps_if (pt_cmpR (op_neP hr.units) (pv 5) (pe_lst pa_nil) (nomark _))
          (pss_one (ps_expr (pe_bm PySem.F.plainAttrs_list PySem.F.slot_list_append PySem.F.type_list_append mt_append (pv 3)
            (pa_cons (pe_tup (pa_cons (pe_ix ix_tup (pv 4) pe_int (fun _ _ => rfl)) (pa_cons (pe_ix ix_tup (pv 4) pe_int (fun _ _ => rfl)) (pa_cons (pv 5) pa_nil)))) pa_nil)))) pss_nil))))
      (pss_one (ps_ret (pv 3)))), ?_⟩
    refine ⟨Nat.zero_le _, fun a ha => ?_⟩
    have sA : Same H (upd H a (.lst [])) := (Same.refl H).new ha
    have a1 : upd H a (.lst []) a = some (.lst []) := upd_same
    generalize upd H a (.lst []) = Ha at sA a1 ⊢
    have fa : F0 a = none := N.same.free ha
    have tupA : ∀ b ∈ sps, Ha b.1 = some (.tup [.str b.2.1, .str b.2.2]) := fun b hb => sA _ _ (N.same _ _ (hspF b hb))
    refine ⟨_, rfl, sp, sps, rfl, SqL.of (sA _ _ hsp), fun b hb => SqT.of (tupA b hb), fun out sl pm up hsl => ?_⟩
    have eout : out.map (·.2) = neat (sps.map (·.2)) := neat_of ⟨up, (pm.map (·.2)).nodup_iff.mpr hnd⟩ fun p => (pm.map (·.2)).mem_iff
    have lout : out.length ≤ 4 := by rw [pm.length_eq]; exact hlen
    have sS : Same Ha (upd Ha sl (.lst (atRefs out))) := (Same.refl Ha).new hsl
    have sl1 : upd Ha sl (.lst (atRefs out)) sl = some (.lst (atRefs out)) := upd_same
    have nsl : sl ≠ a := (ne_of_none a1 hsl).symm
    have as1 := sS _ _ a1
    generalize hHs : upd Ha sl (.lst (atRefs out)) = Hs at sS sl1 as1 ⊢
    have upF : ∀ b ∈ out, F0 b.1 = some (.tup [.str b.2.1, .str b.2.2]) := fun b hb => hspF b (pm.mem_iff.mp hb)
    refine ⟨sl, rfl, ⟨_, SqL.of sl1⟩, for_list (K := K) (a := sl) (xs := atRefs out)
      (fun i σ H' => ∃ (v4 v5 : Option V) (xs : List V), σ = [some (.ref ld), some (.ref lm), some (.ref sp), some (.ref a), v4, v5] ∧ (∀ b o, Hs b = some o → b ≠ a → H' b = some o) ∧ H' a = some (.lst xs) ∧
        RowsAt (plus F0 (New Ha H')) xs (((out.take i).filter fun b => !(lawUnl cs met b.2).isEmpty).map fun b => (b.2, lawUnl cs met b.2)))
      ⟨none, none, [], rfl, fun b o q _ => q, as1, .nil⟩ (fun i σ H' _ ⟨_, _, _, _, h, _⟩ => SqL.of (h _ _ sl1 nsl)) ?_ ?_⟩
    · rintro i x σ H1 hi ⟨v4, v5, xs, rfl, hb, hxs, rows⟩
      obtain ⟨b, hbi, rfl⟩ := at_i hi
      have hbm : b ∈ out := List.mem_of_getElem? hbi
      have old : Same H H1 := fun c o q => hb c o (sS _ _ (sA _ _ q)) (ne_of_none q ha)
      have tup1 : H1 b.1 = some (.tup [.str b.2.1, .str b.2.2]) := old _ _ (N.same _ _ (upF b hbm))
      refine ⟨_, rfl, _, rfl, _, rfl, F0, ld, lm, b.1, cs, met, b.2, rfl, N.mono old, upF b hbm, fun H2 q out2 s2 hq1 hq2 e2 m2 => ?_⟩
      have l2 : out2.length ≤ 100 := by
        rw [atRefs_len e2]
        have := lawUnl_len cs met b.2
        have := N.len
        omega
      refine ⟨_, rfl, Nat.zero_le _, fun Z hZ => ?_⟩
      have s3 : Same H2 (upd H2 Z (.lst [])) := (Same.refl H2).new hZ
      have z3 : upd H2 Z (.lst []) Z = some (.lst []) := upd_same
      generalize upd H2 Z (.lst []) = H3 at s3 z3 ⊢
      have s03 : Same F0 H3 := ((N.same.trans old).trans s2).trans s3
      refine ⟨.list (out2.map fun b => encP b.2), .list [], .lst (SqL.of (s3 _ _ hq2)) (dp_pairs fun c hc => SqT.of (s03 _ _ (m2 c hc))), .lst (SqL.of z3) .nil, ?_, rfl, by rw [depth_nil]; omega, ?_⟩
      · have : out2.map (fun b => encP b.2) = (out2.map (·.2)).map encP := by rw [List.map_map]; rfl
        rw [this]
        exact plain_pairs _
      rw [eqv_nil]
      have e5 : out2.isEmpty = (lawUnl cs met b.2).isEmpty := by
        rw [← e2]
        cases out2 <;> rfl
      rw [e5]
      refine ⟨_, rfl, ?_⟩
      have st := filter_step hbi (fun b => !(lawUnl cs met b.2).isEmpty)
      by_cases cc : (!(lawUnl cs met b.2).isEmpty) = true
      · rw [if_pos cc] at st
        refine if_yes cc ?_
        have s13 : Same H1 H3 := s2.trans s3
        refine ⟨_, rfl, .inl ⟨rfl, _, SqL.of (s13 _ _ hxs)⟩, _, rfl, b.1, _, _, _, rfl, rfl, SqT.of (s13 _ _ tup1), (by rfl), _, rfl, b.1, _, _, _, rfl, rfl, SqT.of (s13 _ _ tup1), (by rfl), _, rfl, (by show 3 ≤ sizeLine; decide), fun t ht => ?_⟩
        have s4 : Same H3 (upd H3 t (.tup [.str b.2.1, .str b.2.2, .ref q])) := (Same.refl H3).new ht
        have t4 : upd H3 t (.tup [.str b.2.1, .str b.2.2, .ref q]) t = some (.tup [.str b.2.1, .str b.2.2, .ref q]) := upd_same
        generalize upd H3 t (.tup [.str b.2.1, .str b.2.2, .ref q]) = H4 at s4 t4 ⊢
        have s14 : Same H1 H4 := s13.trans s4
        have lx : xs.length ≤ 4 := by
          have h1 := Paired.length rows
          rw [List.length_map] at h1
          have h2 := List.length_filter_le (fun b => !(lawUnl cs met b.2).isEmpty) (out.take i)
          rw [List.length_take] at h2
          omega
        refine ⟨a, xs, _, rfl, rfl, s14 _ _ hxs, small1000 (by omega), ?_⟩
        have keep : ∀ c o, H1 c = some o → c ≠ a → upd H4 a (.lst (xs ++ [.ref t])) c = some o := fun c o z y => by
          rw [upd_ne y]
          exact s14 _ _ z
        have neww : ∀ c o, H1 c = none → H4 c = some o → plus F0 (New Ha (upd H4 a (.lst (xs ++ [.ref t])))) c = some o := fun c o z y => by
          have nc : c ≠ a := (ne_of_none hxs z).symm
          have z2 : Hs c = none := by
            cases w2 : Hs c with
            | none => rfl
            | some u =>
              rw [hb c u w2 nc] at z
              cases z
          exact plus_at ((N.same.trans old).free z) (new_of (sS.free z2) (by rw [upd_ne nc]; exact y))
        refine ⟨_, _, xs ++ [.ref t], rfl, fun c o z y => keep c o (hb c o z y) y, upd_same, ?_⟩
        rw [st, List.map_append]
        refine paired_snoc (rows.mono (plus_mono (new_step a1 keep))) ⟨t, q, out2, rfl, neww t _ (s13.free ht) t4, neww q _ hq1 (s4 _ _ (s3 _ _ hq2)), e2, l2, fun c hc => plus_l _ _ (m2 c hc)⟩
      · rw [if_neg cc, List.append_nil] at st
        have s13 : Same H1 H3 := s2.trans s3
        refine if_no cc ⟨_, _, xs, rfl, fun c o z y => s13 _ _ (hb c o z y), s13 _ _ hxs, ?_⟩
        rw [st]
        exact rows.mono (plus_mono (new_step a1 fun c o z _ => s13 _ _ z))
    · rintro σ H1 ⟨v4, v5, xs, rfl, hb, hxs, rows⟩
      have e9 : out.take (atRefs out).length = out := by rw [List.length_map, List.take_length]
      rw [e9] at rows
      have old : Same H H1 := fun c o q => hb c o (sS _ _ (sA _ _ q)) (ne_of_none q ha)
      refine ⟨_, rfl, k H1 a old ⟨xs, plus_at fa (new_of ha hxs), ?_⟩ ha⟩
      have er : lawRows cs met (sps.map (·.2)) = (out.filter fun b => !(lawUnl cs met b.2).isEmpty).map fun b => (b.2, lawUnl cs met b.2) := by
        unfold lawRows
        rw [← eout, List.filter_map, List.map_map]
        rfl
      rw [er]
      exact rows.mono (plus_mono (new_weaken sA))
end
end K82

set_option Elab.async false
set_option linter.all false
set_option maxRecDepth 100000
set_option maxHeartbeats 4000000
namespace K82
open PySem PySem.Spec PyProof.Rows L2

/-! ## _law_writing_is -/
def spIs (K : PySem.W.Frag) (CB CW : Addr) : Sp := fun vs H Q _ => ∃ (p d t lp : Addr) (hand : Str) (n : Int) (es : List (Pr × V)) (f : Pr → List AW) (pc : Pr) (bs : List At), vs = [.ref p, .ref t, .ref lp] ∧ H t = some (.tup [.str pc.1, .str pc.2]) ∧ BookAt CB H p d hand n es f ∧ (∀ q, WrsAt CW H (f q) ∧ (f q).length < 64) ∧
  H lp = some (.lst (atRefs bs)) ∧ bs.map (·.2) = unl (f pc) ∧ (∀ b ∈ bs, H b.1 = some (.tup [.str b.2.1, .str b.2.2])) ∧ ∀ H', Same H H' → Q (.bl true) H'
abbrev nIs : List Str := ["_law_book", "_law_piece", "_law_pairs"]
theorem scIs : FnScope nIs ["_law_book", "_law_piece", "_law_pairs"] (defScope sIs) := ⟨rfl, rfl, rfl, by decide +kernel, rfl, by decide +kernel, by decide +kernel⟩
/-- what the exceptions' side needs, in one -/
structure TxtX (K : PySem.W.Frag) (mg : Str → Option Value) (CB CW CN CS C1 C2 C3 C4 C5 C6 C7 C8 C9 C10 C11 C12 C13 fU fWr fA : Addr) (fdU fdW fdA : FuncData) : Prop where
  T : TxtB K mg CB
  W : TxtW K mg CW
  N : TxtN K mg CN
  C : Caught K mg CN CS
  O : Oths K mg CN C1 C2 C3 C4 C5 C6 C7 C8 C9 C10 C11 C12 C13
  mSorted : mg "sorted" = none
  mSet : mg "set" = none
  mLen : mg "len" = none
  mIs : mg "isinstance" = none
  FU : Fun K "unlike" "unlike" sUnlike fU fdU
  bU : Binds K fdU ["writings"] []
  gU : mg "unlike" = some (.ref fU)
  FW : Fun K "writing" "Book.writing" sWriting fWr fdW
  bW : Binds K fdW ["self", "tongue", "key"] []
  MW : Meth K CB "writing" fWr
  FA : Fun K "_law_another" "_law_another" sAnother fA fdA
  bA : Binds K fdA ["_law_e"] []
  gA : mg "_law_another" = some (.ref fA)
section
variable {P : Program} {w : World} {K : PySem.W.Frag} {mg : Str → Option Value} {base : Heap}
theorem ok_is {f CB CW CN CS C1 C2 C3 C4 C5 C6 C7 C8 C9 C10 C11 C12 C13 fA fWr fU fN : Addr} {fd fdA fdW fdU fdN : FuncData} (F : Fun K "_law_writing_is" "_law_writing_is" sIs f fd)
    (X : TxtX K mg CB CW CN CS C1 C2 C3 C4 C5 C6 C7 C8 C9 C10 C11 C12 C13 fU fWr fA fdU fdW fdA)
    (FN : Fun K "_law_none_told" "_law_none_told" sNone fN fdN) (bN : Binds K fdN ["_law_book", "_law_piece"] []) (gN : mg "_law_none_told" = some (.ref fN)) :
    FnOk P w K mg base CX0 4 f fd ["_law_book", "_law_piece", "_law_pairs"] (spIs K CB CW) := by
  have GW : FnOk P w K mg base (L2.CX P w) 2 fWr fdW ["self", "tongue", "key"] (spWriting CB CW CN) := ok_writing X.FW X.T X.W X.N X.mSorted X.mSet X.mLen X.FU X.bU X.gU
  have GN : FnOk P w K mg base CX0 3 fN fdN ["_law_book", "_law_piece"] (spNone K CB CW) := ok_none FN X.T X.W X.N X.C X.O X.mSorted X.mSet X.mLen X.mIs X.FU X.bU X.gU X.FW X.bW X.MW X.FA X.bA X.gA
  refine F.ok scIs (fun vs H Q E h => ?_) (fun cdv A outer s H vs Q E hr h => ?_)
  · obtain ⟨p, d, t, lp, hand, n, es, f, pc, bs, rfl, _⟩ := h
    rfl
  · obtain ⟨p, d, t, lp, hand, n, es, f, pc, bs, rfl, ht, B, hw, hlp, hbs, hb, k⟩ := h
    have mLen := X.mLen
    refine ⟨_, pss_cons (ps_if (pt_cmpR op_ne (pe_callB call_len_seq (by rfl) mLen PySem.boot_len (pa_cons (pv 2) pa_nil)) pe_int (nomark _))
        (pss_one (ps_ret (pe_call GN hr rfl gN FN.kp bN .nil pass0 (pa_cons (pv 0) (pa_cons (pv 1) pa_nil))))) pss_nil)
      (pss_one (ps_ret (pe_cmpR (op_eqP hr.units) (pe_methS (pv 0) X.T.cl X.MW GW (hr.mono (by decide)) X.bW (fun σ => passAt takes0 σ) (pa_cons (pe_ix ix_tup (pv 1) pe_int (fun _ _ => rfl)) (pa_cons (pe_ix ix_tup (pv 1) pe_int (fun _ _ => rfl)) pa_nil)))
        (pe_ix ix_list (pv 2) pe_int (fun _ _ => rfl)) (nomark _)))), ?_⟩
    refine ⟨_, rfl, lp, atRefs bs, rfl, .inl (SqL.of hlp), rfl, _, rfl, ?_⟩
    have lq : (atRefs bs).length = (unl (f pc)).length := by rw [List.length_map, atRefs_len hbs]
    by_cases c9 : (unl (f pc)).length = 1
    · refine if_no ?_ ?_
      · rw [lq, c9]
        decide
      · obtain ⟨dx, hp⟩ := B.ins
        obtain ⟨pr, epr⟩ : ∃ pr, unl (f pc) = [pr] := by
          match hx : unl (f pc) with
          | [] => rw [hx] at c9; cases c9
          | [pr] => exact ⟨pr, rfl⟩
          | a :: b :: r => rw [hx] at c9; simp at c9
        rw [epr] at hbs
        match bs, hbs, hb, hlp with
        | [b], hbs, hb, hlp =>
          have eb : b.2 = pr := by
            injection hbs
          have hb1 := hb b List.mem_cons_self
          refine ⟨_, rfl, p, dx, _, rfl, hp, rfl, _, rfl, t, _, _, _, rfl, rfl, SqT.of ht, (by rfl), _, rfl, t, _, _, _, rfl, rfl, SqT.of ht, (by rfl), ?_⟩
          refine ⟨p, d, hand, n, es, f, pc.1, pc.2, rfl, B, hw, fun pr2 epr2 H2 t2 s2 n2 => ?_, fun z _ _ => absurd c9 z⟩
          have e2 : pr2 = pr := by
            have e3 : [pr] = [pr2] := epr.symm.trans epr2
            injection e3 with e3
            exact e3.symm
          refine ⟨_, rfl, lp, _, _, _, rfl, rfl, SqL.of (s2 _ _ hlp), (by rfl), encP pr2, encP b.2, dpP (SqT.of (of_new n2).2), dpP (SqT.of (s2 _ _ hb1)), plainP _, plainP _, minP _ _, ?_⟩
          rw [eqvP, eb, e2, decide_eq_true rfl]
          exact k H2 s2
    · refine if_yes ?_ ?_
      · rw [lq]
        have n1 : ¬ (V.int ((unl (f pc)).length : Int) = V.int 1) := fun z => by
          injection z with z
          omega
        rw [decide_eq_false n1]
        rfl
      · exact ⟨_, rfl, _, rfl, p, d, t, hand, n, es, f, pc, rfl, SqT.of ht, B, hw, c9, k⟩
end
end K82

set_option Elab.async false
set_option linter.all false
set_option maxRecDepth 100000
set_option maxHeartbeats 4000000
namespace K82
open PySem PySem.Spec PyProof.Rows L2

/-! ## rows as data -/
def encRow (r : Pr × List Pr) : PyData := .tuple [.str r.1.1, .str r.1.2, .list (r.2.map encP)]
def encRows (rs : List (Pr × List Pr)) : PyData := .list (rs.map encRow)
def encPs (ps : List Pr) : PyData := .list (ps.map encP)
theorem dp_refs {K : PySem.W.Frag} {G : Hp} {L : Addr} {bs : List At} (h : G L = some (.lst (atRefs bs))) (hb : ∀ b ∈ bs, G b.1 = some (.tup [.str b.2.1, .str b.2.2])) : Dp K G (.ref L) (encPs (bs.map (·.2))) := by
  unfold encPs
  rw [List.map_map]
  exact .lst (SqL.of h) (dp_pairs fun b hm => SqT.of (hb b hm))
theorem dp_row {K : PySem.W.Frag} {G : Hp} {x : V} {r : Pr × List Pr} (h : RowAt G x r) : Dp K G x (encRow r) := by
  obtain ⟨t, L, bs, rfl, h1, h2, h3, _, h4⟩ := h
  have := dp_refs (K := K) h2 h4
  rw [h3] at this
  exact .tup (SqT.of h1) (.cons (.str _) (.cons (.str _) (.cons this .nil)))
theorem dp_rows {K : PySem.W.Frag} {G : Hp} {xs : List V} {rs : List (Pr × List Pr)} (h : RowsAt G xs rs) : DpAll K G xs (rs.map encRow) := by
  induction h with
  | nil => exact .nil
  | cons r _ ih => exact .cons (dp_row r) ih
theorem dp_told {K : PySem.W.Frag} {G : Hp} {a : Addr} {rs : List (Pr × List Pr)} (h : ToldAt G a rs) : Dp K G (.ref a) (encRows rs) :=
  let ⟨_, h1, h2⟩ := h
  .lst (SqL.of h1) (dp_rows h2)
theorem plain_ps (ps : List Pr) : (encPs ps).plain = true := plain_pairs ps
theorem plain_rows : ∀ rs : List (Pr × List Pr), PyData.plainAll (rs.map encRow) = true
  | [] => by simp [PyData.plainAll]
  | r :: rs => by
    have h : (PyData.list (r.2.map encP)).plain = true := plain_pairs r.2
    rw [List.map_cons, PyData.plainAll, plain_rows rs]
    simp only [encRow, PyData.plain, PyData.plainAll, Bool.and_true, Bool.true_and]
    exact h
theorem plain_told (rs : List (Pr × List Pr)) : (encRows rs).plain = true := plain_rows rs
theorem depth_ps : ∀ ps : List Pr, PyData.depthAll (ps.map encP) ≤ 1
  | [] => by simp [PyData.depthAll]
  | p :: ps => by
    have := depth_ps ps
    have := depth_pair p
    rw [List.map_cons, PyData.depthAll]
    omega
theorem depth_encPs (ps : List Pr) : (encPs ps).depth ≤ 2 := by
  have := depth_ps ps
  show PyData.depthAll (ps.map encP) + 1 ≤ 2
  omega
theorem depth_row (r : Pr × List Pr) : (encRow r).depth ≤ 3 := by
  have h : (PyData.list (r.2.map encP)).depth ≤ 2 := depth_encPs r.2
  simp only [encRow, PyData.depth, PyData.depthAll] at h ⊢
  omega
theorem depth_rows : ∀ rs : List (Pr × List Pr), PyData.depthAll (rs.map encRow) ≤ 3
  | [] => by simp [PyData.depthAll]
  | r :: rs => by
    have := depth_rows rs
    have := depth_row r
    rw [List.map_cons, PyData.depthAll]
    omega
theorem depth_told (rs : List (Pr × List Pr)) : (encRows rs).depth ≤ 4 := by
  have := depth_rows rs
  show PyData.depthAll (rs.map encRow) + 1 ≤ 4
  omega

/-! ## _law_looks -/
def Full (F H : Hp) : Prop := ∀ b ys, H b = some (.tup ys) → F b = some (.tup ys)
theorem new_grow {H H1 H2 : Hp} (s : Same H1 H2) : Same (New H H1) (New H H2) := fun b o e => new_of (of_new e).1 (s _ _ (of_new e).2)
theorem new_later {H H1 H2 : Hp} (s : Same H H1) : Same (New H1 H2) (New H H2) := fun b o e => new_of (s.free (of_new e).1) (of_new e).2
theorem plus_full {F H H1 H' : Hp} (f : Full F H) (sF : Same F H) (s : Same H H1) (s' : Same H1 H') {b : Addr} {ys : List V} (e : H1 b = some (.tup ys)) : plus F (New H H') b = some (.tup ys) := by
  cases h : H b with
  | none => exact plus_at (sF.free h) (new_of h (s' _ _ e))
  | some o =>
    have := s _ _ h
    rw [e] at this
    cases this
    exact plus_l _ _ (f _ _ h)
/-- what a look hands back -/
structure Looked (F H H' : Hp) (r : Addr) : Prop where
  ex : ∃ (Hm : Hp) (t1 t2 ta da ca cl : Addr) (rows : List (Pr × List Pr)) (o1 o2 : List At), Same Hm H' ∧ Hm r = none ∧ H' r = some (.lst [.ref t1, .ref t2]) ∧ plus F (New H Hm) t1 = some (.tup [.ref ta, .ref da]) ∧ plus F (New H Hm) t2 = some (.tup [.ref ca, .ref cl]) ∧
    ToldAt (New H Hm) ta rows ∧ ToldAt (plus F (New H Hm)) da rows ∧ New H Hm ca = some (.lst (atRefs o1)) ∧ New H Hm cl = some (.lst (atRefs o2)) ∧ o1.map (·.2) = o2.map (·.2) ∧
    (∀ b ∈ o1, plus F (New H Hm) b.1 = some (.tup [.str b.2.1, .str b.2.2])) ∧ (∀ b ∈ o2, plus F (New H Hm) b.1 = some (.tup [.str b.2.1, .str b.2.2])) ∧ o1.length ≤ 1000 ∧ rows.length ≤ 100 ∧ ta ≠ ca ∧ Same H Hm
def lawCl (rs : List (Pr × List Pr)) : List Pr := (rs.filter fun r => decide (1 < r.2.length)).map (·.1)
/-- the book and the notes tell the same -/
structure Agree (cs : List Cell) (met : List Nat) (es : List (Pr × V)) (f : Pr → List AW) (ps : List Pr) : Prop where
  rows : rowsOf es f = lawRows cs met ps
  unl : ∀ p ∈ ps, unl (f p) = lawUnl cs met p
theorem agree_cl {es : List (Pr × V)} {f : Pr → List AW} : (neat (Pcs es)).filter (fun q => decide (1 < (unl (f q)).length)) = lawCl (rowsOf es f) := by
  unfold lawCl rowsOf
  rw [List.filter_map, List.map_map]
  show _ = List.map (fun q => q) _
  rw [List.map_id']
  rfl
def spLooks (CB CW : Addr) : Sp := fun vs H Q _ => ∃ (F : Hp) (p d ld lm sp : Addr) (cell : Int) (hand : Str) (n : Int) (es : List (Pr × V)) (f : Pr → List AW) (cs : List Cell) (met : List Nat) (sps : List At), vs = [.ref p, .ref ld, .ref lm, .ref sp, .int cell] ∧
  NotedAt F H ld lm cs met ∧ Full F H ∧ BookAt CB H p d hand n es f ∧ (∀ q, WrsAt CW H (f q) ∧ (f q).length < 64) ∧ es.length ≤ 100 ∧ H sp = some (.lst (atRefs sps)) ∧ (∀ b ∈ sps, F b.1 = some (.tup [.str b.2.1, .str b.2.2])) ∧ (sps.map (·.2)).Nodup ∧ 1 ≤ sps.length ∧ sps.length ≤ 4 ∧
  Agree cs met es f (sps.map (·.2)) ∧ ∀ H' r, Same H H' → H r = none → Looked F H H' r → Q (.ref r) H'
theorem BookAt.mono {CB : Addr} {H H' : Hp} {p d : Addr} {hand : Str} {n : Int} {es : List (Pr × V)} {f : Pr → List AW} (B : BookAt CB H p d hand n es f) (s : Same H H') : BookAt CB H' p d hand n es f :=
  ⟨let ⟨dx, h⟩ := B.ins; ⟨dx, s _ _ h⟩, s _ _ B.dict, B.held.mono fun b xs e => s _ _ e⟩
theorem paired_getL {α β : Type} {R : α → β → Prop} {l : List α} {m : List β} (h : Paired R l m) : ∀ {i : Nat} {x : α}, l[i]? = some x → ∃ y, m[i]? = some y ∧ R x y := by
  induction h with
  | nil => intro i y hy; cases hy
  | cons r _ ih =>
    intro i x hx
    cases i with
    | zero => exact ⟨_, rfl, by cases (show some _ = some _ from hx); exact r⟩
    | succ i => exact ih hx
theorem lawCl_more {rs : List (Pr × List Pr)} {i : Nat} {r : Pr × List Pr} (h : rs[i]? = some r) : lawCl (rs.take (i + 1)) = lawCl (rs.take i) ++ (if decide (1 < r.2.length) = true then [r.1] else []) := by
  unfold lawCl
  rw [filter_step h, List.map_append]
  split <;> rfl
theorem lawCl_len (rs : List (Pr × List Pr)) : (lawCl rs).length ≤ rs.length := by
  unfold lawCl
  rw [List.length_map]
  exact List.length_filter_le _ _
theorem lawRows_len (cs : List Cell) (met : List Nat) (ps : List Pr) : (lawRows cs met ps).length ≤ ps.length := by
  unfold lawRows
  rw [List.length_map]
  exact Nat.le_trans (List.length_filter_le _ _) (len_le_of (neat_neat _).once fun x hx => mem_neat.mp hx)
abbrev nLooks : List Str := ["_law_book", "_law_done", "_law_met", "_law_spots", "_law_cell", "_law_piece", "_law_due", "_law_clashes", "_law_pairs", "_law_told_here", "_law_found", "_law_row"]
theorem scLooks : FnScope nLooks ["_law_book", "_law_done", "_law_met", "_law_spots", "_law_cell"] (defScope sLooks) := ⟨rfl, rfl, rfl, by decide +kernel, rfl, by decide +kernel, by decide +kernel⟩
section
variable {P : Program} {w : World} {K : PySem.W.Frag} {mg : Str → Option Value} {base : Heap}
abbrev tIsC (K : PySem.W.Frag) (CB CW : Addr) : TE := tCall (spIs K CB CW) [] E0 (tCons (tVar 0) (tCons (tVar 5) (tCons (tVar 8) tNil)))
abbrev tClC (CB CW : Addr) : TE := tMeth CB "clashes" (spClashes CB CW) [] E0 (tVar 0) tNil
abbrev tTwo (a b : Nat) : TE := tTup (tCons (tVar a) (tCons (tVar b) tNil))
abbrev tRest2 (K : PySem.W.Frag) (CB CW : Addr) : TS := tSeq (tAsg (tMeth CB "told" (spTold CB CW) [] E0 (tVar 0) tNil) (gName 9)) (tSeq (tAsg (tClC CB CW) (gName 10))
  (tSeq (tIfS (tOr (tTest (tOp (rNeP K) (tVar 9) (tVar 6))) (tOr (tTest (tOp (rNeP K) (tVar 10) (tVar 7))) (tNot (tB (tIsC K CB CW))))) (tRet (tC .non)) tNext) (tRet (tLst (tCons (tTwo 9 6) (tCons (tTwo 10 7) tNil))))))
abbrev tRest1 (K : PySem.W.Frag) (CB CW : Addr) : TS := tSeq (tIfS (tAnd (tTest (tOp rEq (tOp rModQ (tOp rDivQ (tVar 4) (tC (.int 8))) (tC (.int 2))) (tC (.int 0)))) (tTest (tOp (rNeP K) (tClC CB CW) (tVar 7)))) (tRet (tC .non)) tNext) (tRest2 K CB CW)
theorem ok_looks {f CB CW CN CS C1 C2 C3 C4 C5 C6 C7 C8 C9 C10 C11 C12 C13 fA fWr fU fN fT fC fI fLT fLU fH : Addr} {fd fdA fdW fdU fdN fdT fdC fdI fdLT fdLU fdH : FuncData} (F : Fun K "_law_looks" "_law_looks" sLooks f fd)
    (X : TxtX K mg CB CW CN CS C1 C2 C3 C4 C5 C6 C7 C8 C9 C10 C11 C12 C13 fU fWr fA fdU fdW fdA)
    (FN : Fun K "_law_none_told" "_law_none_told" sNone fN fdN) (bN : Binds K fdN ["_law_book", "_law_piece"] []) (gN : mg "_law_none_told" = some (.ref fN))
    (FT : Fun K "told" "Book.told" sTold fT fdT) (bT : Binds K fdT ["self"] []) (MT : Meth K CB "told" fT)
    (FC : Fun K "clashes" "Book.clashes" sClashes fC fdC) (bC : Binds K fdC ["self"] []) (MC : Meth K CB "clashes" fC)
    (FI : Fun K "_law_writing_is" "_law_writing_is" sIs fI fdI) (bI : Binds K fdI ["_law_book", "_law_piece", "_law_pairs"] []) (gI : mg "_law_writing_is" = some (.ref fI))
    (FLT : Fun K "_law_told" "_law_told" sLTold fLT fdLT) (bLT : Binds K fdLT ["_law_done", "_law_met", "_law_spots"] []) (gLT : mg "_law_told" = some (.ref fLT))
    (FLU : Fun K "_law_unlike" "_law_unlike" sLUnlike fLU fdLU) (bLU : Binds K fdLU ["_law_done", "_law_met", "_law_piece"] []) (gLU : mg "_law_unlike" = some (.ref fLU))
    (FH : Fun K "_law_held" "_law_held" sHeld fH fdH) (bH : Binds K fdH ["_law_done", "_law_met", "_law_piece"] []) (gH : mg "_law_held" = some (.ref fH)) :
    FnOk P w K mg base CX0 5 f fd ["_law_book", "_law_done", "_law_met", "_law_spots", "_law_cell"] (spLooks CB CW) := by
  have GT : FnOk P w K mg base CX0 2 fT fdT ["self"] (spTold CB CW) := ok_told FT X.T X.W X.mSorted X.mSet X.FU X.bU X.gU
  have GC : FnOk P w K mg base CX0 2 fC fdC ["self"] (spClashes CB CW) := ok_clashes FC X.T X.W X.mSorted X.mSet X.mLen X.FU X.bU X.gU
  have GI : FnOk P w K mg base CX0 4 fI fdI ["_law_book", "_law_piece", "_law_pairs"] (spIs K CB CW) := ok_is FI X FN bN gN
  have GLT : FnOk P w K mg base CX0 3 fLT fdLT ["_law_done", "_law_met", "_law_spots"] (spLTold K) := ok_ltold FLT X.mSorted X.mSet FH bH gH FLU bLU gLU
  have GLU : FnOk P w K mg base CX0 2 fLU fdLU ["_law_done", "_law_met", "_law_piece"] spLUnlike := ok_lunlike FLU X.mSorted X.mSet FH bH gH
  have mLen := X.mLen
  refine F.ok scLooks (fun vs H Q E h => ?_) (fun cdv A outer s H vs Q E hr h => ?_)
  · obtain ⟨F0, p, d, ld, lm, sp, cell, hand, n, es, f, cs, met, sps, rfl, _⟩ := h
    rfl
  · obtain ⟨F0, p, d, ld, lm, sp, cell, hand, n, es, f, cs, met, sps, rfl, N, full, B, hw, hes, hsp, hspF, hnd, hl1, hl4, ag, k⟩ := h
    refine ⟨tSeq (tAsg (tOp (rIxL K) (tVar 3) (tOp rModQ (tVar 4) (tCB (rLenQ K) (tCons (tVar 3) tNil)))) (gName 5)) (tSeq (tAsg (tCall (spLTold K) [] E0 (tCons (tVar 1) (tCons (tVar 2) (tCons (tVar 3) tNil)))) (gName 6))
      (tSeq (tAsg (tLc (iList K (tVar 6)) (gName 11) (tTest (tOp rGtI (tCB (rLenQ K) (tCons (tOp (rIxT K) (tVar 11) (tC (.int 2))) tNil)) (tC (.int 1)))) (tTup (tCons (tOp (rIxT K) (tVar 11) (tC (.int 0))) (tCons (tOp (rIxT K) (tVar 11) (tC (.int 1))) tNil))) [11]) (gName 7))
      (tSeq (tAsg (tCall spLUnlike [] E0 (tCons (tVar 1) (tCons (tVar 2) (tCons (tVar 5) tNil)))) (gName 8))
      (tSeq (tIfS (tAnd (tTest (tOp rEq (tOp rModQ (tOp rDivQ (tVar 4) (tC (.int 4))) (tC (.int 2))) (tC (.int 0)))) (tNot (tB (tIsC K CB CW)))) (tRet (tC .non)) tNext) (tRest1 K CB CW))))), ?_, ?_⟩
    · exact pss_cons (ps_set (i := 5) scLooks.nd rfl (Or.inl rfl) (pe_ix ix_list (pv 3) (pe_op op_mod (pv 4) (pe_callB call_len_seq (by rfl) mLen PySem.boot_len (pa_cons (pv 3) pa_nil))) (fun _ _ => rfl)))
        (pss_cons (ps_set (i := 6) scLooks.nd rfl (Or.inl rfl) (pe_call GLT (hr.mono (by decide)) rfl gLT FLT.kp bLT .nil pass0 (pa_cons (pv 1) (pa_cons (pv 2) (pa_cons (pv 3) pa_nil)))))
        (pss_cons (ps_setLc (i := 7) (own := [("_law_row", 11)]) (g := gName 11) (by rfl) scLooks.nd rfl rfl (sw_true rfl rfl rfl (by decide +kernel)) (pi_list (pv 6))
          (blkOk_by (own := [("_law_row", 11)]) (N := nLooks) (sc := defScope sLooks) (by decide +kernel)) (fun _ _ _ _ _ => pg_name (i := 11) scLooks.nd rfl (Or.inl rfl))
          (fun _ _ _ _ _ => by exact pts_one (pt_cmpR op_gt (pe_callB call_len_seq (by rfl) mLen PySem.boot_len (pa_cons (pe_ix ix_tup (pv 11) pe_int (fun _ _ => rfl)) pa_nil)) pe_int (nomark _)))
          (fun _ _ _ _ _ => by exact pe_tup (pa_cons (pe_ix ix_tup (pv 11) pe_int (fun _ _ => rfl)) (pa_cons (pe_ix ix_tup (pv 11) pe_int (fun _ _ => rfl)) pa_nil))))
        (pss_cons (ps_set (i := 8) scLooks.nd rfl (Or.inl rfl) (pe_call GLU (hr.mono (by decide)) rfl gLU FLU.kp bLU .nil pass0 (pa_cons (pv 1) (pa_cons (pv 2) (pa_cons (pv 5) pa_nil)))))
        (pss_cons (ps_if (PW.pt (pw_and (pt_cmpR op_eq (pe_op op_mod (pe_op op_fdiv (pv 4) pe_int) pe_int) pe_int (nomark _)) (pw_and1 (pt_not (pt_val (pe_call GI hr rfl gI FI.kp bI .nil pass0 (pa_cons (pv 0) (pa_cons (pv 5) (pa_cons (pv 8) pa_nil)))))))))
          (pss_one (ps_ret pe_non)) pss_nil)
        (pss_cons (ps_if (PW.pt (pw_and (pt_cmpR op_eq (pe_op op_mod (pe_op op_fdiv (pv 4) pe_int) pe_int) pe_int (nomark _)) (pw_and1 (pt_cmpR (op_neP hr.units) (pe_meth0 (pv 0) X.T.cl MC GC (hr.mono (by decide)) bC .nil pass0) (pv 7) (nomark _)))))
          (pss_one (ps_ret pe_non)) pss_nil)
        (pss_cons (ps_set (i := 9) scLooks.nd rfl (Or.inl rfl) (pe_meth0 (pv 0) X.T.cl MT GT (hr.mono (by decide)) bT .nil pass0))
        (pss_cons (ps_set (i := 10) scLooks.nd rfl (Or.inl rfl) (pe_meth0 (pv 0) X.T.cl MC GC (hr.mono (by decide)) bC .nil pass0))
        (pss_cons (ps_if (PW.pt (pw_or (pt_cmpR (op_neP hr.units) (pv 9) (pv 6) (nomark _)) (pw_or (pt_cmpR (op_neP hr.units) (pv 10) (pv 7) (nomark _)) (pw_or1 (pt_not (pt_val (pe_call GI hr rfl gI FI.kp bI .nil pass0 (pa_cons (pv 0) (pa_cons (pv 5) (pa_cons (pv 8) pa_nil))))))))))
          (pss_one (ps_ret pe_non)) pss_nil)
        (pss_one (ps_ret (pe_lst (pa_cons (pe_tup (pa_cons (pv 9) (pa_cons (pv 6) pa_nil))) (pa_cons (pe_tup (pa_cons (pv 10) (pa_cons (pv 7) pa_nil))) pa_nil))))))))))))) 
    · have N0 := N.same
      have lsp : (0 : Int) < ((atRefs sps).length : Int) := by rw [List.length_map]; omega
      obtain ⟨v, hv1, hv2⟩ := atI_mem (xs := atRefs sps) rfl (Int.emod_nonneg cell (show ((atRefs sps).length : Int) ≠ 0 by omega)) (Int.emod_lt_of_pos cell lsp)
      obtain ⟨bp, hbp, rfl⟩ := List.mem_map.mp hv2
      obtain ⟨dx, hp⟩ := B.ins
      have eq1 : ∀ d : PyData, d.plain = true → PyData.eqv d d = true := PySem.SeqAt.eqv_refl_plain
      refine ⟨_, rfl, _, rfl, _, rfl, sp, _, rfl, .inl (SqL.of hsp), _, _, rfl, rfl, lsp, sp, _, _, _, rfl, rfl, SqL.of hsp, hv1, ?_⟩
      refine ⟨_, rfl, _, rfl, _, rfl, F0, ld, lm, sp, cs, met, sps, rfl, N, hsp, hspF, hnd, hl4, fun H1 da s1 hT1 da0 => ?_⟩
      have in1 : Same (plus F0 (New H H1)) H1 := plus_in N0 s1
      have agr := ag.rows
      have lrs : (lawRows cs met (sps.map (·.2))).length ≤ 4 := Nat.le_trans (lawRows_len _ _ _) (by rw [List.length_map]; exact hl4)
      generalize hrs : lawRows cs met (sps.map (·.2)) = rs at hT1 agr lrs
      obtain ⟨xsR, hxs, rowsR⟩ := hT1
      refine ⟨_, rfl, da, rfl, ⟨_, SqL.of (in1 _ _ hxs)⟩, fun D hD => ?_⟩
      have lxs : xsR.length = rs.length := Paired.length rowsR
      refine lc_list (K := K) (a := da) (xs := xsR) (fun i H' => ∃ bs : List At, Same H1 H' ∧ H' D = some (.lst (atRefs bs)) ∧ bs.map (·.2) = lawCl (rs.take i) ∧ Made H1 H' bs)
        ⟨[], (Same.refl H1).over hD, upd_same, rfl, fun _ z => absurd z List.not_mem_nil⟩ (fun i H' _ ⟨_, sH, _⟩ => SqL.of (sH _ _ (in1 _ _ hxs))) ?_ ?_
      · rintro i x H2 hi ⟨bs, s2, hDl, hb, hm⟩
        obtain ⟨r, hr2, t, L, b3, rfl, g1, g2, g3, g4, g5⟩ := paired_getL rowsR hi
        have g1' := s2 _ _ (in1 _ _ g1)
        have g2' := s2 _ _ (in1 _ _ g2)
        refine ⟨rfl, ?_⟩
        refine ⟨_, rfl, t, _, _, _, rfl, rfl, SqT.of g1', (by rfl), L, _, rfl, .inl (SqL.of g2'), _, _, rfl, rfl, _, rfl, ?_⟩
        have ec : decide ((1 : Int) < ((atRefs b3).length : Int)) = decide (1 < r.2.length) := by
          rw [List.length_map, ← g3, List.length_map]
          exact decide_eq_decide.mpr (by omega)
        rw [ec]
        have st := lawCl_more hr2
        by_cases cc : decide (1 < r.2.length) = true
        · rw [if_pos cc] at st
          refine if_yes cc ?_
          refine ⟨_, rfl, t, _, _, _, rfl, rfl, SqT.of g1', (by rfl), _, rfl, t, _, _, _, rfl, rfl, SqT.of g1', (by rfl), (by show 2 ≤ sizeLine; decide), fun c hc => ?_⟩
          have nc : D ≠ c := ne_of_none hDl hc
          have lb : bs.length ≤ 4 := by
            have h1 := congrArg List.length hb
            rw [List.length_map] at h1
            have h2 := lawCl_len (rs.take i)
            rw [List.length_take] at h2
            omega
          refine ⟨_, (upd_ne nc).trans hDl, ?_, bs ++ [(c, r.1)], (s2.new hc).over hD, ?_, ?_, ?_⟩
          · rw [List.length_map]
            exact small1000 (by omega)
          · rw [upd_same, atRefs_add]
            rfl
          · rw [List.map_append, hb, st]
            rfl
          · intro b hb2
            rcases List.mem_append.mp hb2 with z | z
            · refine ⟨(hm b z).1, ?_⟩
              have n1 : b.1 ≠ D := fun q => by
                have := (hm b z).2
                rw [q, hDl] at this
                cases this
              rw [upd_ne n1, upd_ne (ne_of_none (hm b z).2 hc)]
              exact (hm b z).2
            · rw [List.mem_singleton.mp z]
              refine ⟨s2.free hc, ?_⟩
              rw [upd_ne nc.symm, upd_same]
        · rw [if_neg cc, List.append_nil] at st
          exact if_no cc ⟨bs, s2, hDl, by rw [st]; exact hb, hm⟩
      · rintro H2 ⟨o2, s2, hDl, ho2, hm2⟩
        rw [lxs, List.take_length] at ho2
        refine ⟨_, rfl, _, rfl, _, rfl, F0, ld, lm, bp.1, cs, met, bp.2, rfl, N.mono (s1.trans s2), hspF bp hbp, fun H3 lp outp s3 lp0 hlp elp mlp => ?_⟩
        have s03 : Same H H3 := (s1.trans s2).trans s3
        have s13 : Same H1 H3 := s2.trans s3
        -- the three calls
        have isH : ∀ H4, Same H3 H4 → H4 bp.1 = some (.tup [.str bp.2.1, .str bp.2.2]) ∧ BookAt CB H4 p d hand n es f ∧ (∀ q, WrsAt CW H4 (f q) ∧ (f q).length < 64) ∧ H4 lp = some (.lst (atRefs outp)) ∧ outp.map (·.2) = unl (f bp.2) ∧ ∀ b ∈ outp, H4 b.1 = some (.tup [.str b.2.1, .str b.2.2]) := fun H4 s4 =>
          have s04 := s03.trans s4
          ⟨s04 _ _ (N0 _ _ (hspF bp hbp)), B.mono s04, fun q => ⟨(hw q).1.mono s04, (hw q).2⟩, s4 _ _ hlp, elp.trans (ag.unl bp.2 (List.mem_map.mpr ⟨bp, hbp, rfl⟩)).symm, fun b hb => s04 _ _ (N0 _ _ (mlp b hb))⟩
        have dpD : ∀ H4, Same H3 H4 → Dp K H4 (.ref D) (encPs (lawCl rs)) := fun H4 s4 => by
          rw [← ho2]
          exact dp_refs (s4 _ _ (s3 _ _ hDl)) fun b hb => s4 _ _ (s3 _ _ (hm2 b hb).2)
        have rest2 : ∀ H4, Same H3 H4 → tRest2 K CB CW { nx := fun _ H' => Q .non H', rt := Q } [some (.ref p), some (.ref ld), some (.ref lm), some (.ref sp), some (.int cell), some (.ref bp.1), some (.ref da), some (.ref D), some (.ref lp), none, none, none] H4 := by
          intro H4 s4
          have s04 := s03.trans s4
          refine ⟨_, rfl, p, dx, _, rfl, s04 _ _ hp, rfl, p, d, hand, n, es, f, rfl, B.mono s04, fun q => ⟨(hw q).1.mono s04, (hw q).2⟩, by omega, fun H5 ta s5 hta => ?_⟩
          rw [agr] at hta
          have s05 := s04.trans s5
          refine ⟨_, rfl, p, dx, _, rfl, s05 _ _ hp, rfl, p, d, hand, n, es, f, rfl, B.mono s05, fun q => ⟨(hw q).1.mono s05, (hw q).2⟩, by omega, fun H6 ca o1 s6 hca eo1 mo1 => ?_⟩
          rw [agree_cl, agr] at eo1
          have s16 : Same H1 H6 := ((s13.trans s4).trans s5).trans s6
          have s36 : Same H3 H6 := (s4.trans s5).trans s6
          have in5 : Same (New H4 H5) H6 := fun b o e => s6 _ _ (of_new e).2
          refine ⟨_, rfl, _, rfl, encRows rs, encRows rs, dp_told (hta.mono in5), dp_told (ToldAt.mono ⟨xsR, hxs, rowsR⟩ (in1.trans s16)), plain_told _, plain_told _, by have := depth_told rs; omega, ?_⟩
          rw [eq1 _ (plain_told rs)]
          refine ⟨_, rfl, if_no (by decide) ?_⟩
          refine ⟨_, rfl, _, rfl, encPs (lawCl rs), encPs (lawCl rs), ?_, dpD H6 s36, plain_ps _, plain_ps _, by have := depth_encPs (lawCl rs); omega, ?_⟩
          · rw [← eo1]
            exact dp_refs (of_new hca).2 fun b hb => s6 _ _ (mo1 b hb)
          rw [eq1 _ (plain_ps _)]
          refine ⟨_, rfl, if_no (by decide) ?_⟩
          obtain ⟨i1, i2, i3, i4, i5, i6⟩ := isH H6 s36
          refine ⟨_, rfl, _, rfl, _, rfl, p, d, bp.1, lp, hand, n, es, f, bp.2, outp, rfl, i1, i2, i3, i4, i5, i6, fun H7 s7 => ?_⟩
          refine ⟨_, rfl, if_no (by decide) ?_⟩
          refine ⟨_, rfl, _, rfl, (by show 2 ≤ sizeLine; decide), fun t1 ht1 => ?_⟩
          have s8 : Same H7 (upd H7 t1 (.tup [.ref ta, .ref da])) := (Same.refl H7).new ht1
          have t18 : upd H7 t1 (.tup [.ref ta, .ref da]) t1 = some (.tup [.ref ta, .ref da]) := upd_same
          generalize upd H7 t1 (.tup [.ref ta, .ref da]) = H8 at s8 t18 ⊢
          refine ⟨_, rfl, _, rfl, (by show 2 ≤ sizeLine; decide), fun t2 ht2 => ?_⟩
          have s9 : Same H8 (upd H8 t2 (.tup [.ref ca, .ref D])) := (Same.refl H8).new ht2
          have t29 : upd H8 t2 (.tup [.ref ca, .ref D]) t2 = some (.tup [.ref ca, .ref D]) := upd_same
          generalize upd H8 t2 (.tup [.ref ca, .ref D]) = H9 at s9 t29 ⊢
          refine ⟨(by show 2 ≤ sizeLine; decide), fun r hr0 => ?_⟩
          have s10 : Same H9 (upd H9 r (.lst [.ref t1, .ref t2])) := (Same.refl H9).new hr0
          have r10 : upd H9 r (.lst [.ref t1, .ref t2]) r = some (.lst [.ref t1, .ref t2]) := upd_same
          generalize upd H9 r (.lst [.ref t1, .ref t2]) = H10 at s10 r10 ⊢
          have s07 : Same H H7 := (s05.trans s6).trans s7
          have s09 : Same H H9 := (s07.trans s8).trans s9
          have s79 : Same H7 H9 := s8.trans s9
          have s69 : Same H6 H9 := s7.trans s79
          refine k H10 r (s09.trans s10) (s09.free hr0) ⟨H9, t1, t2, ta, da, ca, D, rs, o1, o2, s10, hr0, r10, ?_, ?_, ?_, ?_, ?_, ?_, ?_, ?_, ?_, ?_, ?_, ?_, s09⟩
          · exact plus_new N0 _ _ (new_of (s07.free ht1) (s9 _ _ t18))
          · exact plus_new N0 _ _ (new_of ((s07.trans s8).free ht2) t29)
          · exact hta.mono ((new_later s04).trans (new_grow (s6.trans s69)))
          · exact ToldAt.mono ⟨xsR, hxs, rowsR⟩ (plus_mono (new_grow (s16.trans s69)))
          · exact ((new_later s05).trans (new_grow s69)) _ _ hca
          · exact new_of (s1.free hD) (s69 _ _ (s36 _ _ (s3 _ _ hDl)))
          · rw [eo1, ho2]
          · exact fun b hb => plus_full full N0 s05 (s6.trans s69) (mo1 b hb)
          · exact fun b hb => plus_new N0 _ _ (new_of (s1.free (hm2 b hb).1) (s69 _ _ (s36 _ _ (s3 _ _ (hm2 b hb).2))))
          · have h1 := atRefs_len eo1
            have h2 := lawCl_len rs
            omega
          · omega
          · obtain ⟨xsT, hxT, _⟩ := hta
            exact ne_of_none (of_new hxT).2 (of_new hca).1
        have rest1 : ∀ H4, Same H3 H4 → tRest1 K CB CW { nx := fun _ H' => Q .non H', rt := Q } [some (.ref p), some (.ref ld), some (.ref lm), some (.ref sp), some (.int cell), some (.ref bp.1), some (.ref da), some (.ref D), some (.ref lp), none, none, none] H4 := by
          intro H4 s4
          have s04 := s03.trans s4
          refine ⟨_, rfl, _, _, rfl, rfl, ⟨by decide, by decide⟩, _, _, rfl, rfl, (by show (0 : Int) < 2; decide), rfl, _, rfl, ?_⟩
          by_cases c : decide (V.int (cell / 8 % 2) = V.int 0) = true
          · refine if_yes c ?_
            refine ⟨_, rfl, p, dx, _, rfl, s04 _ _ hp, rfl, p, d, hand, n, es, f, rfl, B.mono s04, fun q => ⟨(hw q).1.mono s04, (hw q).2⟩, by omega, fun H5 ca o1 s5 hca eo1 mo1 => ?_⟩
            rw [agree_cl, agr] at eo1
            refine ⟨_, rfl, encPs (lawCl rs), encPs (lawCl rs), ?_, dpD H5 (s4.trans s5), plain_ps _, plain_ps _, by have := depth_encPs (lawCl rs); omega, ?_⟩
            · rw [← eo1]
              exact dp_refs (of_new hca).2 fun b hb => s5 _ _ (mo1 b hb)
            rw [eq1 _ (plain_ps _)]
            exact ⟨_, rfl, if_no (by decide) (rest2 H5 (s4.trans s5))⟩
          · exact if_no c (if_no (by decide) (rest2 H4 s4))
        refine ⟨_, rfl, _, _, rfl, rfl, ⟨by decide, by decide⟩, _, _, rfl, rfl, (by show (0 : Int) < 2; decide), rfl, _, rfl, ?_⟩
        by_cases c : decide (V.int (cell / 4 % 2) = V.int 0) = true
        · refine if_yes c ?_
          obtain ⟨i1, i2, i3, i4, i5, i6⟩ := isH H3 (Same.refl _)
          refine ⟨_, rfl, _, rfl, _, rfl, p, d, bp.1, lp, hand, n, es, f, bp.2, outp, rfl, i1, i2, i3, i4, i5, i6, fun H4 s4 => ?_⟩
          exact ⟨_, rfl, if_no (by decide) (rest1 H4 s4)⟩
        · exact if_no c (if_no (by decide) (rest1 H3 (Same.refl _)))
end
end K82

set_option Elab.async false
set_option linter.all false
set_option maxRecDepth 100000
set_option maxHeartbeats 4000000
namespace K82
open PySem PySem.Spec PyProof.Rows L2

/-! ## the notes and the books, plain -/
theorem seenBy_iff {cs : List Cell} {j k : Nat} : seenBy cs j k = true ↔ ∃ c, cs[j]? = some c ∧ has c.seen (.inl (k : Int)) := by
  unfold seenBy
  cases h : cs[j]? with
  | none =>
    constructor
    · intro z
      cases z
    · rintro ⟨c, e, _⟩
      cases e
  | some c =>
    rw [Option.bind_some, has_iff]
    exact ⟨fun z => ⟨c, rfl, z⟩, fun ⟨c', e, z⟩ => by cases e; exact z⟩
theorem seenBy_lt {cs : List Cell} {j k : Nat} (h : seenBy cs j k = true) : j < cs.length := by
  obtain ⟨c, e, _⟩ := seenBy_iff.mp h
  exact (List.getElem?_eq_some_iff.mp e).1
theorem mem_ours {cs : List Cell} {met : List Nat} {p : Pr} {k : Nat} : k ∈ lawOurs cs met p ↔ k ∈ met ∧ ∃ c, cs[k]? = some c ∧ c.piece = p := by
  unfold lawOurs pieceOf
  rw [List.mem_filter, decide_eq_true_iff, Option.map_eq_some_iff]
theorem mem_held {cs : List Cell} {met : List Nat} {p : Pr} {k : Nat} : k ∈ lawHeld cs met p ↔ k ∈ lawOurs cs met p ∧ ∀ j ∈ lawOurs cs met p, ¬ seenBy cs j k = true := by
  unfold lawHeld
  rw [List.mem_filter, List.isEmpty_iff, List.filter_eq_nil_iff]
theorem ours_ne {cs : List Cell} {met : List Nat} {p : Pr} : lawOurs cs met p ≠ [] ↔ ∃ k, k ∈ lawOurs cs met p := by
  cases h : lawOurs cs met p with
  | nil => exact ⟨fun z => absurd rfl z, fun ⟨k, hk⟩ => absurd hk List.not_mem_nil⟩
  | cons a l => exact ⟨fun _ => ⟨a, List.mem_cons_self⟩, fun _ z => nomatch z⟩
structure Tab (cs : List Cell) (tbl : List AW) (ps : List Pr) : Prop where
  len : tbl.length = cs.length
  pair : ∀ (k : Nat) a c, tbl[k]? = some a → cs[k]? = some c → a.2.pair = c.pair
  inj : ∀ (j k : Nat) a b, tbl[j]? = some a → tbl[k]? = some b → a.2.mark = b.2.mark → j = k
  seen : ∀ (j : Nat) a, tbl[j]? = some a → ∀ (k : Nat) b, tbl[k]? = some b → (has a.2.seen b.2.mark ↔ seenBy cs j k = true)
  key : ∀ (j : Nat) a, tbl[j]? = some a → ∀ m, has a.2.seen m → ∃ (k : Nat) (b : AW), tbl[k]? = some b ∧ b.2.mark = m
  low : ∀ j k, seenBy cs j k = true → k < j
  pc : ∀ j k, seenBy cs j k = true → ∀ c d, cs[j]? = some c → cs[k]? = some d → c.piece = d.piece
  tr : ∀ i j k, seenBy cs i j = true → seenBy cs j k = true → seenBy cs i k = true
  spot : ∀ (k : Nat) c, cs[k]? = some c → c.piece ∈ ps
  ckey : ∀ (j : Nat) c, cs[j]? = some c → ∀ key, has c.seen key → ∃ k : Nat, k < j ∧ key = .inl (k : Int)
  conce : ∀ (j : Nat) c, cs[j]? = some c → (c.seen.map (·.1)).Nodup
  aonce : ∀ (j : Nat) a, tbl[j]? = some a → (a.2.seen.map (·.1)).Nodup
structure BkOk (cs : List Cell) (tbl : List AW) (met : List Nat) (es : List (Pr × V)) (f : Pr → List AW) : Prop where
  once : met.Nodup
  lt : ∀ k ∈ met, k < cs.length
  mem : ∀ p a, a ∈ f p ↔ ∃ k, k ∈ lawHeld cs met p ∧ tbl[k]? = some a
  keys : ∀ p, p ∈ Pcs es ↔ lawOurs cs met p ≠ []
  eonce : (Pcs es).Nodup
  nd : ∀ p, ((f p).map fun a => a.2.mark).Nodup
section
variable {cs : List Cell} {tbl : List AW} {ps : List Pr} {met : List Nat} {es : List (Pr × V)} {f : Pr → List AW}
theorem Tab.at1 (T : Tab cs tbl ps) {k : Nat} (h : k < cs.length) : ∃ a c, tbl[k]? = some a ∧ cs[k]? = some c :=
  ⟨_, _, List.getElem?_eq_getElem (by rw [T.len]; exact h), List.getElem?_eq_getElem h⟩
theorem Tab.cover (T : Tab cs tbl ps) (hlt : ∀ k ∈ met, k < cs.length) {p : Pr} : ∀ n j, cs.length - j ≤ n → j ∈ lawOurs cs met p → ∃ i, i ∈ lawHeld cs met p ∧ (i = j ∨ seenBy cs i j = true) := by
  intro n
  induction n with
  | zero =>
    intro j hn hj
    have := hlt j (mem_ours.mp hj).1
    omega
  | succ n ih =>
    intro j hn hj
    by_cases h : j ∈ lawHeld cs met p
    · exact ⟨j, h, .inl rfl⟩
    · have h2 : ∃ i, i ∈ lawOurs cs met p ∧ seenBy cs i j = true := by
        refine Classical.byContradiction fun z => h (mem_held.mpr ⟨hj, fun i hi q => z ⟨i, hi, q⟩⟩)
      obtain ⟨i, hi, q⟩ := h2
      have l1 := T.low i j q
      have l2 := hlt i (mem_ours.mp hi).1
      obtain ⟨e, he, r⟩ := ih i (by omega) hi
      refine ⟨e, he, .inr ?_⟩
      rcases r with r | r
      · rw [r]
        exact q
      · exact T.tr e i j r q
theorem Tab.coverA (T : Tab cs tbl ps) (hlt : ∀ k ∈ met, k < cs.length) {p : Pr} {j : Nat} (hj : j ∈ lawOurs cs met p) : ∃ i, i ∈ lawHeld cs met p ∧ (i = j ∨ seenBy cs i j = true) := T.cover hlt _ j (Nat.le_refl _) hj
theorem held_lt (B : BkOk cs tbl met es f) {p : Pr} {k : Nat} (h : k ∈ lawHeld cs met p) : k < cs.length := B.lt k (lawHeld_mem h)
theorem agree_of (T : Tab cs tbl ps) (B : BkOk cs tbl met es f) : Agree cs met es f ps := by
  have u : ∀ p, unl (f p) = lawUnl cs met p := fun p => by
    unfold unl lawUnl
    refine neat_congr fun x => ?_
    unfold lawPairs
    rw [List.mem_map, List.mem_filterMap]
    constructor
    · rintro ⟨a, ha, rfl⟩
      obtain ⟨k, hk, e⟩ := (B.mem p a).mp ha
      obtain ⟨_, c, _, hc⟩ := T.at1 (held_lt B hk)
      refine ⟨k, hk, ?_⟩
      rw [hc, T.pair k a c e hc]
      rfl
    · rintro ⟨k, hk, e⟩
      obtain ⟨a, c, ha, hc⟩ := T.at1 (held_lt B hk)
      rw [hc] at e
      refine ⟨a, (B.mem p a).mpr ⟨k, hk, ha⟩, ?_⟩
      rw [T.pair k a c ha hc]
      exact Option.some.inj e
  have ne : ∀ q, (!(lawUnl cs met q).isEmpty) = true ↔ lawOurs cs met q ≠ [] := fun q => by
    rw [ours_ne, Bool.not_eq_true', Bool.eq_false_iff, Ne, List.isEmpty_iff]
    constructor
    · intro z
      refine Classical.byContradiction fun y => z ?_
      refine List.eq_nil_iff_forall_not_mem.mpr fun x hx => y ?_
      obtain ⟨k, hk, _⟩ := List.mem_filterMap.mp (mem_neat.mp hx)
      exact ⟨k, (mem_held.mp hk).1⟩
    · rintro ⟨k, hk⟩ z
      obtain ⟨i, hi, _⟩ := T.coverA B.lt hk
      obtain ⟨_, c, _, hc⟩ := T.at1 (held_lt B hi)
      have hm : c.pair ∈ lawUnl cs met q := mem_neat.mpr (List.mem_filterMap.mpr ⟨i, hi, by rw [hc]; rfl⟩)
      rw [z] at hm
      exact absurd hm List.not_mem_nil
  refine ⟨?_, fun p _ => u p⟩
  have e : neat (Pcs es) = (neat ps).filter fun q => !(lawUnl cs met q).isEmpty := by
    refine (neat_of ⟨(neat_neat ps).up.sublist List.filter_sublist, (neat_neat ps).once.sublist List.filter_sublist⟩ fun q => ?_).symm
    rw [List.mem_filter, mem_neat, ne q, ← B.keys q]
    refine ⟨fun z => z.2, fun z => ⟨?_, z⟩⟩
    obtain ⟨k, hk⟩ := ours_ne.mp ((B.keys q).mp z)
    obtain ⟨_, c, hc, rfl⟩ := mem_ours.mp hk
    exact T.spot k c hc
  unfold rowsOf lawRows
  rw [e]
  exact List.map_congr_left fun q _ => by rw [u q]
theorem tbl_mark {k : Nat} {a : AW} (h : tbl[k]? = some a) : a.2.mark ∈ tbl.map fun a => a.2.mark := List.mem_map.mpr ⟨a, List.mem_of_getElem? h, rfl⟩
theorem seen_len (T : Tab cs tbl ps) {k : Nat} {a : AW} (h : tbl[k]? = some a) : a.2.seen.length ≤ tbl.length := by
  have := len_le_of (T.aonce k a h) (m := tbl.map fun a => a.2.mark) fun x hx => by
    obtain ⟨j, b, hb, e⟩ := T.key k a h x hx
    rw [← e]
    exact tbl_mark hb
  rw [List.length_map, List.length_map] at this
  exact this
theorem among_of (T : Tab cs tbl ps) (B : BkOk cs tbl met es f) (hl : tbl.length ≤ 1000) (p : Pr) : Among (tbl.map fun a => a.2.mark) (f p) where
  few := by rw [List.length_map]; exact hl
  mark := fun a ha => let ⟨k, _, e⟩ := (B.mem p a).mp ha; tbl_mark e
  seen := fun a ha m hm => by
    obtain ⟨k, _, e⟩ := (B.mem p a).mp ha
    obtain ⟨j, b, hb, eb⟩ := T.key k a e m hm
    rw [← eb]
    exact tbl_mark hb
  slen := fun a ha => let ⟨k, _, e⟩ := (B.mem p a).mp ha; Nat.le_trans (seen_len T e) hl
theorem held_len (T : Tab cs tbl ps) (B : BkOk cs tbl met es f) (p : Pr) : (f p).length ≤ tbl.length := by
  have := len_le_of (B.nd p) (m := tbl.map fun a => a.2.mark) fun x hx => by
    obtain ⟨a, ha, rfl⟩ := List.mem_map.mp hx
    obtain ⟨k, _, e⟩ := (B.mem p a).mp ha
    exact tbl_mark e
  rw [List.length_map, List.length_map] at this
  exact this
theorem es_len (T : Tab cs tbl ps) (B : BkOk cs tbl met es f) : es.length ≤ ps.length := by
  have := len_le_of B.eonce (m := ps) fun q hq => by
    obtain ⟨k, hk⟩ := ours_ne.mp ((B.keys q).mp hq)
    obtain ⟨_, c, hc, rfl⟩ := mem_ours.mp hk
    exact T.spot k c hc
  rw [List.length_map] at this
  exact this
theorem met_len (B : BkOk cs tbl met es f) : met.length ≤ cs.length := by
  have := len_le_of B.once (m := List.range cs.length) fun k hk => List.mem_range.mpr (B.lt k hk)
  rw [List.length_range] at this
  exact this
theorem oneMark_of (T : Tab cs tbl ps) {met2 : List Nat} {es2 : List (Pr × V)} {f2 : Pr → List AW} (B : BkOk cs tbl met es f) (B2 : BkOk cs tbl met2 es2 f2) (p : Pr) : OneMark (f p ++ f2 p) := by
  have at_ : ∀ a ∈ f p ++ f2 p, ∃ k, tbl[k]? = some a := fun a ha => by
    rcases List.mem_append.mp ha with z | z
    · obtain ⟨k, _, e⟩ := (B.mem p a).mp z
      exact ⟨k, e⟩
    · obtain ⟨k, _, e⟩ := (B2.mem p a).mp z
      exact ⟨k, e⟩
  intro a ha b hb e
  obtain ⟨j, hj⟩ := at_ a ha
  obtain ⟨k, hk⟩ := at_ b hb
  have := T.inj j k a b hj hk e
  rw [this, hk] at hj
  exact (Option.some.inj hj).symm
/-! ### take_in -/
theorem take_ok (T : Tab cs tbl ps) {met2 : List Nat} {es2 es3 : List (Pr × V)} {f2 g : Pr → List AW} {N : Hp} (B : BkOk cs tbl met es f) (B2 : BkOk cs tbl met2 es2 f2) (M : Merged N es f f2 (Pcs es2) es3 g) {came : List Nat}
    (hc : ∀ k, k ∈ came ↔ ∃ p, k ∈ lawHeld cs met2 p) (hn : came.Nodup) : BkOk cs tbl (met ++ came.filter fun k => !decide (k ∈ met)) es3 g := by
  have hm : ∀ k, k ∈ (met ++ came.filter fun k => !decide (k ∈ met)) ↔ k ∈ met ∨ k ∈ came := fun k => by
    rw [List.mem_append, List.mem_filter, Bool.not_eq_true', decide_eq_false_iff_not]
    by_cases h : k ∈ met
    · exact ⟨fun _ => .inl h, fun _ => .inl h⟩
    · exact ⟨fun z => z.imp id (·.1), fun z => z.imp id fun y => ⟨y, h⟩⟩
  have ho : ∀ p k, k ∈ lawOurs cs (met ++ came.filter fun k => !decide (k ∈ met)) p ↔ k ∈ lawOurs cs met p ∨ k ∈ lawHeld cs met2 p := fun p k => by
    rw [mem_ours, hm, mem_ours]
    constructor
    · rintro ⟨h | h, q⟩
      · exact .inl ⟨h, q⟩
      · obtain ⟨p2, h2⟩ := (hc k).mp h
        obtain ⟨_, c, e1, e2⟩ := mem_ours.mp (mem_held.mp h2).1
        obtain ⟨c', e3, e4⟩ := q
        rw [e1] at e3
        cases e3
        rw [← e4, e2]
        exact .inr h2
    · rintro (⟨h, q⟩ | h)
      · exact ⟨.inl h, q⟩
      · exact ⟨.inr ((hc k).mpr ⟨p, h⟩), (mem_ours.mp (mem_held.mp h).1).2⟩
  refine ⟨?_, fun k hk => ?_, fun p a => ?_, fun p => ?_, M.once, fun p => ?_⟩
  · refine List.nodup_append.mpr ⟨B.once, hn.sublist List.filter_sublist, fun a ha b hb e => ?_⟩
    have := (List.mem_filter.mp hb).2
    rw [← e, decide_eq_true ha] at this
    cases this
  · rcases (hm k).mp hk with z | z
    · exact B.lt k z
    · obtain ⟨p, h⟩ := (hc k).mp z
      exact held_lt B2 h
  · by_cases hp : p ∈ Pcs es2
    · rw [(M.res p hp).mem]
      constructor
      · rintro ⟨h1, h2⟩
        have both : ∃ k, (k ∈ lawHeld cs met p ∨ k ∈ lawHeld cs met2 p) ∧ tbl[k]? = some a := by
          rcases List.mem_append.mp h1 with z | z
          · obtain ⟨k, hk, e⟩ := (B.mem p a).mp z
            exact ⟨k, .inl hk, e⟩
          · obtain ⟨k, hk, e⟩ := (B2.mem p a).mp z
            exact ⟨k, .inr hk, e⟩
        obtain ⟨k, hk, e⟩ := both
        have no : ∀ i, (i ∈ lawHeld cs met p ∨ i ∈ lawHeld cs met2 p) → ¬ seenBy cs i k = true := fun i hi z => by
          have hil : i < cs.length := seenBy_lt z
          obtain ⟨b, _, hb, _⟩ := T.at1 hil
          refine h2 b ?_ ((T.seen i b hb k a e).mpr z)
          rcases hi with y | y
          · exact List.mem_append_left _ ((B.mem p b).mpr ⟨i, y, hb⟩)
          · exact List.mem_append_right _ ((B2.mem p b).mpr ⟨i, y, hb⟩)
        refine ⟨k, mem_held.mpr ⟨(ho p k).mpr (hk.imp (fun z => (mem_held.mp z).1) id), fun j hj z => ?_⟩, e⟩
        rcases (ho p j).mp hj with y | y
        · obtain ⟨i, hi, r⟩ := T.coverA B.lt y
          rcases r with r | r
          · exact no i (.inl hi) (by rw [r]; exact z)
          · exact no i (.inl hi) (T.tr i j k r z)
        · exact no j (.inr y) z
      · rintro ⟨k, hk, e⟩
        obtain ⟨h1, h2⟩ := mem_held.mp hk
        refine ⟨?_, fun b hb z => ?_⟩
        · rcases (ho p k).mp h1 with y | y
          · exact List.mem_append_left _ ((B.mem p a).mpr ⟨k, mem_held.mpr ⟨y, fun j hj => h2 j ((ho p j).mpr (.inl hj))⟩, e⟩)
          · exact List.mem_append_right _ ((B2.mem p a).mpr ⟨k, y, e⟩)
        · rcases List.mem_append.mp hb with y | y
          · obtain ⟨i, hi, e2⟩ := (B.mem p b).mp y
            exact h2 i ((ho p i).mpr (.inl (mem_held.mp hi).1)) ((T.seen i b e2 k a e).mp z)
          · obtain ⟨i, hi, e2⟩ := (B2.mem p b).mp y
            exact h2 i ((ho p i).mpr (.inr hi)) ((T.seen i b e2 k a e).mp z)
    · rw [M.out p hp, B.mem]
      have none2 : ∀ k, ¬ k ∈ lawHeld cs met2 p := fun k hk => hp ((B2.keys p).mpr (ours_ne.mpr ⟨k, (mem_held.mp hk).1⟩))
      have same : ∀ k, k ∈ lawOurs cs (met ++ came.filter fun k => !decide (k ∈ met)) p ↔ k ∈ lawOurs cs met p := fun k => by
        rw [ho p k]
        exact ⟨fun z => z.resolve_right (none2 k), .inl⟩
      have h2 : ∀ k, k ∈ lawHeld cs (met ++ came.filter fun k => !decide (k ∈ met)) p ↔ k ∈ lawHeld cs met p := fun k => by
        rw [mem_held, mem_held, same k]
        exact and_congr_right fun _ => ⟨fun z j hj => z j ((same j).mpr hj), fun z j hj => z j ((same j).mp hj)⟩
      exact ⟨fun ⟨k, hk, e⟩ => ⟨k, (h2 k).mpr hk, e⟩, fun ⟨k, hk, e⟩ => ⟨k, (h2 k).mp hk, e⟩⟩
  · rw [M.keys, B.keys, B2.keys, ours_ne, ours_ne, ours_ne]
    constructor
    · rintro (⟨k, hk⟩ | ⟨k, hk⟩)
      · exact ⟨k, (ho p k).mpr (.inl hk)⟩
      · obtain ⟨i, hi, _⟩ := T.coverA B2.lt hk
        exact ⟨i, (ho p i).mpr (.inr hi)⟩
    · rintro ⟨k, hk⟩
      rcases (ho p k).mp hk with z | z
      · exact .inl ⟨k, z⟩
      · exact .inr ⟨k, (mem_held.mp z).1⟩
  · by_cases hp : p ∈ Pcs es2
    · exact (M.res p hp).once
    · rw [M.out p hp]
      exact B.nd p
end
end K82

set_option Elab.async false
set_option linter.all false
set_option maxRecDepth 100000
set_option maxHeartbeats 4000000
namespace K82
open PySem PySem.Spec PyProof.Rows L2

/-- what the law notes as seen -/
def seenAt (cs : List Cell) (k : Nat) : List (Key × V) := ((cs[k]?).map Cell.seen).getD []
def seenL (cs : List Cell) (ks : List Nat) : List (Key × V) := ks.foldl (fun acc (k : Nat) => mergeK (putK acc (.inl (k : Int)) (.bl true)) (seenAt cs k)) []
theorem seenL_more {cs : List Cell} {ks : List Nat} {i k : Nat} (h : ks[i]? = some k) : seenL cs (ks.take (i + 1)) = mergeK (putK (seenL cs (ks.take i)) (.inl (k : Int)) (.bl true)) (seenAt cs k) := by
  unfold seenL
  rw [take_one_more h, List.foldl_append]
  rfl
theorem has_seenL {cs : List Cell} {ks : List Nat} {key : Key} : has (seenL cs ks) key ↔ ∃ k : Nat, k ∈ ks ∧ (key = .inl (k : Int) ∨ has (seenAt cs k) key) := by
  have main : ∀ (ks : List Nat) (acc : List (Key × V)), has (ks.foldl (fun acc (k : Nat) => mergeK (putK acc (.inl (k : Int)) (.bl true)) (seenAt cs k)) acc) key ↔ has acc key ∨ ∃ k : Nat, k ∈ ks ∧ (key = .inl (k : Int) ∨ has (seenAt cs k) key) := by
    intro ks
    induction ks with
    | nil => exact fun acc => ⟨.inl, fun h => h.resolve_right fun ⟨_, z, _⟩ => absurd z List.not_mem_nil⟩
    | cons q r ih =>
      intro acc
      rw [List.foldl_cons, ih, has_mergeK, has_put]
      constructor
      · rintro (((h | h) | h) | ⟨k, hk, h⟩)
        · exact .inr ⟨q, List.mem_cons_self, .inl h⟩
        · exact .inl h
        · exact .inr ⟨q, List.mem_cons_self, .inr h⟩
        · exact .inr ⟨k, List.mem_cons_of_mem _ hk, h⟩
      · rintro (h | ⟨k, hk, h⟩)
        · exact .inl (.inl (.inr h))
        · rcases List.mem_cons.mp hk with e | hk
          · subst e
            rcases h with h | h
            · exact .inl (.inl (.inl h))
            · exact .inl (.inr h)
          · exact .inr ⟨k, hk, h⟩
  unfold seenL
  rw [main]
  exact ⟨fun h => h.resolve_left fun z => absurd z List.not_mem_nil, .inr⟩
theorem once_seenL (cs : List Cell) (ks : List Nat) : ((seenL cs ks).map (·.1)).Nodup := by
  have main : ∀ (ks : List Nat) (acc : List (Key × V)), (acc.map (·.1)).Nodup → ((ks.foldl (fun acc (k : Nat) => mergeK (putK acc (.inl (k : Int)) (.bl true)) (seenAt cs k)) acc).map (·.1)).Nodup := by
    intro ks
    induction ks with
    | nil => exact fun acc h => h
    | cons q r ih => exact fun acc h => ih _ (once_mergeK (once_put _ _ h))
  exact main ks [] List.nodup_nil
theorem has_seenAt {cs : List Cell} {k i : Nat} : has (seenAt cs k) (.inl (i : Int)) ↔ seenBy cs k i = true := by
  rw [seenBy_iff]
  unfold seenAt
  cases h : cs[k]? with
  | none => exact ⟨fun z => absurd z List.not_mem_nil, fun ⟨c, e, _⟩ => by cases e⟩
  | some c => exact ⟨fun z => ⟨c, rfl, z⟩, fun ⟨c', e, z⟩ => by cases e; exact z⟩
theorem has_seenL_nat {cs : List Cell} {ks : List Nat} {i : Nat} : has (seenL cs ks) (.inl (i : Int)) ↔ ∃ k : Nat, k ∈ ks ∧ (k = i ∨ seenBy cs k i = true) := by
  rw [has_seenL]
  constructor
  · rintro ⟨k, hk, h | h⟩
    · injection h with h
      exact ⟨k, hk, .inl (by omega)⟩
    · exact ⟨k, hk, .inr (has_seenAt.mp h)⟩
  · rintro ⟨k, hk, h | h⟩
    · exact ⟨k, hk, .inl (by rw [h])⟩
    · exact ⟨k, hk, .inr (has_seenAt.mpr h)⟩
section
variable {cs : List Cell} {tbl : List AW} {ps : List Pr} {met : List Nat} {es : List (Pr × V)} {f : Pr → List AW} {c : Cell} {x : AW}
theorem snoc_at {α : Type} {l : List α} {a b : α} {i : Nat} (h : (l ++ [a])[i]? = some b) : (i < l.length ∧ l[i]? = some b) ∨ (i = l.length ∧ b = a) := by
  by_cases z : i < l.length
  · rw [List.getElem?_append_left z] at h
    exact .inl ⟨z, h⟩
  · rw [List.getElem?_append_right (by omega)] at h
    have : i - l.length = 0 := by
      cases q : i - l.length with
      | zero => rfl
      | succ n =>
        rw [q] at h
        cases h
    rw [this] at h
    exact .inr ⟨by omega, (Option.some.inj h).symm⟩
theorem snoc_old {α : Type} {l : List α} {a b : α} {i : Nat} (h : l[i]? = some b) : (l ++ [a])[i]? = some b := by
  rw [List.getElem?_append_left (List.getElem?_eq_some_iff.mp h).1]
  exact h
theorem snoc_new {α : Type} {l : List α} {a : α} : (l ++ [a])[l.length]? = some a := by
  rw [List.getElem?_append_right (Nat.le_refl _), Nat.sub_self]
  rfl
theorem seenBy_snoc {j k : Nat} : seenBy (cs ++ [c]) j k = true ↔ (j < cs.length ∧ seenBy cs j k = true) ∨ (j = cs.length ∧ has c.seen (.inl (k : Int))) := by
  rw [seenBy_iff]
  constructor
  · rintro ⟨d, e, h⟩
    rcases snoc_at e with ⟨z, q⟩ | ⟨z, q⟩
    · exact .inl ⟨z, seenBy_iff.mpr ⟨d, q, h⟩⟩
    · rw [← q]
      exact .inr ⟨z, h⟩
  · rintro (⟨z, h⟩ | ⟨z, h⟩)
    · obtain ⟨d, e, q⟩ := seenBy_iff.mp h
      exact ⟨d, snoc_old e, q⟩
    · rw [z]
      exact ⟨c, snoc_new, h⟩
theorem seenBy_old {j k : Nat} (h : j < cs.length) : seenBy (cs ++ [c]) j k = true ↔ seenBy cs j k = true := by
  rw [seenBy_snoc]
  exact ⟨fun z => z.elim (·.2) fun y => absurd y.1 (by omega), fun z => .inl ⟨h, z⟩⟩
/-- what a new writing is -/
structure Newest (cs : List Cell) (tbl : List AW) (ps : List Pr) (met : List Nat) (f : Pr → List AW) (c : Cell) (x : AW) : Prop where
  spot : c.piece ∈ ps
  cseen : c.seen = seenL cs (lawHeld cs met c.piece)
  pair : x.2.pair = c.pair
  xseen : x.2.seen = seenM (f c.piece)
  mark : ∀ (k : Nat) a, tbl[k]? = some a → a.2.mark ≠ x.2.mark
theorem Newest.sees (W : Newest cs tbl ps met f c x) {k : Nat} : has c.seen (.inl (k : Int)) ↔ ∃ i, i ∈ lawHeld cs met c.piece ∧ (i = k ∨ seenBy cs i k = true) := by
  rw [W.cseen]
  exact has_seenL_nat
theorem Newest.sees_lt (W : Newest cs tbl ps met f c x) (T : Tab cs tbl ps) (B : BkOk cs tbl met es f) {k : Nat} (h : has c.seen (.inl (k : Int))) : k < cs.length := by
  obtain ⟨i, hi, e | e⟩ := W.sees.mp h
  · rw [← e]
    exact held_lt B hi
  · have := T.low i k e
    have := held_lt B hi
    omega
theorem write_tab (T : Tab cs tbl ps) (B : BkOk cs tbl met es f) (W : Newest cs tbl ps met f c x) : Tab (cs ++ [c]) (tbl ++ [x]) ps := by
  have hl := T.len
  have xs : ∀ (k : Nat) b, tbl[k]? = some b → (has x.2.seen b.2.mark ↔ has c.seen (.inl (k : Int))) := fun k b hb => by
    rw [W.xseen, has_seenM, W.sees]
    constructor
    · rintro ⟨a, ha, h⟩
      obtain ⟨i, hi, e⟩ := (B.mem _ a).mp ha
      rcases h with h | h
      · exact ⟨i, hi, .inl (T.inj i k a b e hb h.symm)⟩
      · exact ⟨i, hi, .inr ((T.seen i a e k b hb).mp h)⟩
    · rintro ⟨i, hi, h⟩
      obtain ⟨a, _, ha, _⟩ := T.at1 (held_lt B hi)
      refine ⟨a, (B.mem _ a).mpr ⟨i, hi, ha⟩, ?_⟩
      rcases h with h | h
      · rw [h, hb] at ha
        cases ha
        exact .inl rfl
      · exact .inr ((T.seen i a ha k b hb).mpr h)
  have xkey : ∀ m, has x.2.seen m → ∃ (k : Nat) (b : AW), tbl[k]? = some b ∧ b.2.mark = m := fun m hm => by
    rw [W.xseen, has_seenM] at hm
    obtain ⟨a, ha, h⟩ := hm
    obtain ⟨i, hi, e⟩ := (B.mem _ a).mp ha
    rcases h with h | h
    · exact ⟨i, a, e, h.symm⟩
    · exact T.key i a e m h
  refine ⟨by rw [List.length_append, List.length_append, hl]; rfl, fun k a d ha hd => ?_, fun j k a b ha hb e => ?_, fun j a ha k b hb => ?_, fun j a ha m hm => ?_, fun j k h => ?_, fun j k h d e hd he => ?_, fun i j k h1 h2 => ?_, fun k d hd => ?_, fun j d hd key hk => ?_, fun j d hd => ?_, fun j a ha => ?_⟩
  · rcases snoc_at ha with ⟨z, q⟩ | ⟨z, q⟩
    · rcases snoc_at hd with ⟨z2, q2⟩ | ⟨z2, q2⟩
      · exact T.pair k a d q q2
      · omega
    · rcases snoc_at hd with ⟨z2, q2⟩ | ⟨z2, q2⟩
      · omega
      · rw [q, q2]
        exact W.pair
  · rcases snoc_at ha with ⟨z, q⟩ | ⟨z, q⟩
    · rcases snoc_at hb with ⟨z2, q2⟩ | ⟨z2, q2⟩
      · exact T.inj j k a b q q2 e
      · rw [q2] at e
        exact absurd e (W.mark j a q)
    · rcases snoc_at hb with ⟨z2, q2⟩ | ⟨z2, q2⟩
      · rw [q] at e
        exact absurd e.symm (W.mark k b q2)
      · omega
  · rcases snoc_at ha with ⟨z, q⟩ | ⟨z, q⟩
    · rw [seenBy_old (by omega)]
      rcases snoc_at hb with ⟨z2, q2⟩ | ⟨z2, q2⟩
      · exact T.seen j a q k b q2
      · constructor
        · intro h
          obtain ⟨i, d, hd, e⟩ := T.key j a q _ h
          rw [q2] at e
          exact absurd e (W.mark i d hd)
        · intro h
          have := T.low j k h
          omega
    · rw [q, seenBy_snoc]
      rcases snoc_at hb with ⟨z2, q2⟩ | ⟨z2, q2⟩
      · rw [xs k b q2]
        exact ⟨fun h => .inr ⟨by omega, h⟩, fun h => h.elim (fun y => by omega) (·.2)⟩
      · constructor
        · intro h
          obtain ⟨i, d, hd, e⟩ := xkey _ h
          rw [q2] at e
          exact absurd e (W.mark i d hd)
        · rintro (⟨y, _⟩ | ⟨_, y⟩)
          · omega
          · have := W.sees_lt T B y
            omega
  · rcases snoc_at ha with ⟨z, q⟩ | ⟨z, q⟩
    · obtain ⟨k, b, hb, e⟩ := T.key j a q m hm
      exact ⟨k, b, snoc_old hb, e⟩
    · rw [q] at hm
      obtain ⟨k, b, hb, e⟩ := xkey m hm
      exact ⟨k, b, snoc_old hb, e⟩
  · rcases seenBy_snoc.mp h with ⟨_, y⟩ | ⟨y, y2⟩
    · exact T.low j k y
    · have := W.sees_lt T B y2
      omega
  · rcases seenBy_snoc.mp h with ⟨y0, y⟩ | ⟨y0, y⟩
    · have kl := T.low j k y
      rcases snoc_at hd with ⟨z, q⟩ | ⟨z, q⟩
      · rcases snoc_at he with ⟨z2, q2⟩ | ⟨z2, q2⟩
        · exact T.pc j k y d e q q2
        · omega
      · omega
    · have kl := W.sees_lt T B y
      rcases snoc_at hd with ⟨z, q⟩ | ⟨z, q⟩
      · omega
      · rcases snoc_at he with ⟨z2, q2⟩ | ⟨z2, q2⟩
        · rw [q]
          obtain ⟨i, hi, r⟩ := W.sees.mp y
          obtain ⟨_, c1, hc1, ec1⟩ := mem_ours.mp (mem_held.mp hi).1
          rcases r with r | r
          · rw [r, q2] at hc1
            cases hc1
            exact ec1.symm
          · rw [← ec1]
            exact T.pc i k r c1 e hc1 q2
        · omega
  · rcases seenBy_snoc.mp h1 with ⟨y0, y⟩ | ⟨y0, y⟩
    · have := T.low i j y
      rw [seenBy_old (by omega)] at h2
      rw [seenBy_old y0]
      exact T.tr i j k y h2
    · have := W.sees_lt T B y
      rw [seenBy_old this] at h2
      refine seenBy_snoc.mpr (.inr ⟨y0, W.sees.mpr ?_⟩)
      obtain ⟨e, he, r⟩ := W.sees.mp y
      refine ⟨e, he, .inr ?_⟩
      rcases r with r | r
      · rw [r]
        exact h2
      · exact T.tr e j k r h2
  · rcases snoc_at hd with ⟨z, q⟩ | ⟨z, q⟩
    · exact T.spot k d q
    · rw [q]
      exact W.spot
  · rcases snoc_at hd with ⟨z, q⟩ | ⟨z, q⟩
    · exact T.ckey j d q key hk
    · rw [q] at hk
      rw [W.cseen] at hk
      obtain ⟨k, hk1, h⟩ := has_seenL.mp hk
      have kl := held_lt B hk1
      rcases h with h | h
      · exact ⟨k, by omega, h⟩
      · obtain ⟨_, c1, _, hc1⟩ := T.at1 kl
        have e1 : seenAt cs k = c1.seen := by
          unfold seenAt
          rw [hc1]
          rfl
        rw [e1] at h
        obtain ⟨i, hi, e⟩ := T.ckey k c1 hc1 key h
        exact ⟨i, by omega, e⟩
  · rcases snoc_at hd with ⟨z, q⟩ | ⟨z, q⟩
    · exact T.conce j d q
    · rw [q, W.cseen]
      exact once_seenL _ _
  · rcases snoc_at ha with ⟨z, q⟩ | ⟨z, q⟩
    · exact T.aonce j a q
    · rw [q, W.xseen]
      exact once_seenM _
/-- the same of ours, the same of those that are held -/
theorem held_ext {cs2 : List Cell} {met2 : List Nat} {q : Pr} (h1 : ∀ k, k ∈ lawOurs cs2 met2 q ↔ k ∈ lawOurs cs met q) (h2 : ∀ j, j ∈ lawOurs cs met q → ∀ k, (seenBy cs2 j k = true ↔ seenBy cs j k = true)) (k : Nat) : k ∈ lawHeld cs2 met2 q ↔ k ∈ lawHeld cs met q := by
  rw [mem_held, mem_held, h1 k]
  refine and_congr_right fun _ => ⟨fun z j hj y => z j ((h1 j).mpr hj) ((h2 j hj k).mpr y), fun z j hj y => z j ((h1 j).mp hj) ((h2 j ((h1 j).mp hj) k).mp y)⟩
theorem ours_old (hlt : ∀ k ∈ met, k < cs.length) (q : Pr) (k : Nat) : k ∈ lawOurs (cs ++ [c]) met q ↔ k ∈ lawOurs cs met q := by
  rw [mem_ours, mem_ours]
  refine and_congr_right fun hk => ?_
  have := hlt k hk
  rw [List.getElem?_append_left this]
/-- the others' books -/
theorem write_other (T : Tab cs tbl ps) (B : BkOk cs tbl met es f) : BkOk (cs ++ [c]) (tbl ++ [x]) met es f := by
  have ho := fun q => ours_old (c := c) B.lt q
  have hh : ∀ q k, k ∈ lawHeld (cs ++ [c]) met q ↔ k ∈ lawHeld cs met q := fun q k => held_ext (ho q) (fun j hj i => seenBy_old (B.lt j (mem_ours.mp hj).1)) k
  refine ⟨B.once, fun k hk => by have := B.lt k hk; rw [List.length_append]; omega, fun p a => ?_, fun p => ?_, B.eonce, B.nd⟩
  · rw [B.mem]
    constructor
    · rintro ⟨k, hk, e⟩
      exact ⟨k, (hh p k).mpr hk, snoc_old e⟩
    · rintro ⟨k, hk, e⟩
      have hk2 := (hh p k).mp hk
      have kl := held_lt B hk2
      rcases snoc_at e with ⟨z, q⟩ | ⟨z, q⟩
      · exact ⟨k, hk2, q⟩
      · have := T.len
        omega
  · rw [B.keys, ours_ne, ours_ne]
    exact ⟨fun ⟨k, hk⟩ => ⟨k, (ho p k).mpr hk⟩, fun ⟨k, hk⟩ => ⟨k, (ho p k).mp hk⟩⟩
/-- the writer's book -/
theorem write_bk (T : Tab cs tbl ps) (B : BkOk cs tbl met es f) (W : Newest cs tbl ps met f c x) (v : V) : BkOk (cs ++ [c]) (tbl ++ [x]) (met ++ [cs.length]) (putK es c.piece v) (fun q => if q = c.piece then [x] else f q) := by
  have hl := T.len
  have ho : ∀ q k, k ∈ lawOurs (cs ++ [c]) (met ++ [cs.length]) q ↔ k ∈ lawOurs cs met q ∨ (k = cs.length ∧ q = c.piece) := fun q k => by
    rw [mem_ours, List.mem_append, List.mem_singleton, mem_ours]
    constructor
    · rintro ⟨h | h, d, hd, e⟩
      · have := B.lt k h
        rw [List.getElem?_append_left this] at hd
        exact .inl ⟨h, d, hd, e⟩
      · rw [h, snoc_new] at hd
        cases hd
        exact .inr ⟨h, e.symm⟩
    · rintro (⟨h, d, hd, e⟩ | ⟨h, e⟩)
      · exact ⟨.inl h, d, snoc_old hd, e⟩
      · exact ⟨.inr h, c, by rw [h]; exact snoc_new, e.symm⟩
  have hp : ∀ k, k ∈ lawHeld (cs ++ [c]) (met ++ [cs.length]) c.piece ↔ k = cs.length := fun k => by
    rw [mem_held]
    constructor
    · rintro ⟨h1, h2⟩
      rcases (ho _ k).mp h1 with y | y
      · obtain ⟨i, hi, r⟩ := T.coverA B.lt y
        exact absurd (seenBy_snoc.mpr (.inr ⟨rfl, W.sees.mpr ⟨i, hi, r⟩⟩)) (h2 cs.length ((ho _ _).mpr (.inr ⟨rfl, rfl⟩)))
      · exact y.1
    · intro h
      refine ⟨(ho _ k).mpr (.inr ⟨h, rfl⟩), fun j hj z => ?_⟩
      rw [h] at z
      rcases seenBy_snoc.mp z with ⟨y0, y⟩ | ⟨_, y⟩
      · have := T.low _ _ y
        omega
      · have := W.sees_lt T B y
        omega
  have hq : ∀ q, q ≠ c.piece → ∀ k, k ∈ lawHeld (cs ++ [c]) (met ++ [cs.length]) q ↔ k ∈ lawHeld cs met q := fun q hn k =>
    held_ext (fun k => (ho q k).trans ⟨fun z => z.resolve_right fun y => hn y.2, .inl⟩) (fun j hj i => seenBy_old (B.lt j (mem_ours.mp hj).1)) k
  refine ⟨?_, fun k hk => ?_, fun p a => ?_, fun p => ?_, once_put _ _ B.eonce, fun p => ?_⟩
  · exact nd_snoc B.once fun z => by have := B.lt _ z; omega
  · rw [List.length_append]
    rcases List.mem_append.mp hk with z | z
    · have := B.lt k z
      omega
    · rw [List.mem_singleton.mp z]
      exact Nat.lt_succ_self _
  · by_cases h : p = c.piece
    · rw [if_pos h, List.mem_singleton, h]
      constructor
      · intro e
        exact ⟨cs.length, (hp _).mpr rfl, by rw [← hl, e]; exact snoc_new⟩
      · rintro ⟨k, hk, e⟩
        rw [(hp k).mp hk, ← hl, snoc_new] at e
        exact (Option.some.inj e).symm
    · rw [if_neg h, B.mem]
      constructor
      · rintro ⟨k, hk, e⟩
        exact ⟨k, (hq p h k).mpr hk, snoc_old e⟩
      · rintro ⟨k, hk, e⟩
        have hk2 := (hq p h k).mp hk
        have kl := held_lt B hk2
        rcases snoc_at e with ⟨z, q⟩ | ⟨z, q⟩
        · exact ⟨k, hk2, q⟩
        · omega
  · have z : p ∈ Pcs (putK es c.piece v) ↔ p = c.piece ∨ p ∈ Pcs es := has_put
    rw [z, B.keys, ours_ne, ours_ne]
    constructor
    · rintro (y | ⟨k, hk⟩)
      · exact ⟨cs.length, (ho _ _).mpr (.inr ⟨rfl, y⟩)⟩
      · exact ⟨k, (ho _ _).mpr (.inl hk)⟩
    · rintro ⟨k, hk⟩
      rcases (ho _ _).mp hk with y | y
      · exact .inr ⟨k, y⟩
      · exact .inl y.2
  · by_cases h : p = c.piece
    · rw [if_pos h]
      exact List.nodup_cons.mpr ⟨List.not_mem_nil, List.nodup_nil⟩
    · rw [if_neg h]
      exact B.nd p
end
end K82

set_option Elab.async false
set_option linter.all false
set_option maxRecDepth 100000
set_option maxHeartbeats 4000000
namespace K82
open PySem PySem.Spec PyProof.Rows L2

/-! ## the whole state -/
structure Bk where
  p : Addr
  d : Addr
  hand : Str
  n : Int
  es : List (Pr × V)
  f : Pr → List AW
/-- one book: what changes, what stays -/
structure BkAt (CB CW : Addr) (F H : Hp) (b : Bk) : Prop where
  ins : ∃ dx, H b.p = some (.ins CB dx (bf b.hand b.n b.d))
  dict : H b.d = some (.dT (kvP b.es))
  held : HeldIs F b.es b.f
  fp : F b.p = none
  fd : F b.d = none
  wr : ∀ q, WrsAt CW F (b.f q)
structure HS (CB CW : Addr) (F H : Hp) (lb ld lm sp : Addr) (bks : List Bk) (mets : List (List Nat)) (cs : List Cell) (tbl : List AW) (sps : List At) : Prop where
  same : Same F H
  full : Full F H
  lb : F lb = some (.lst (bks.map fun b => V.ref b.p))
  sp : F sp = some (.lst (atRefs sps))
  spt : ∀ b ∈ sps, F b.1 = some (.tup [.str b.2.1, .str b.2.2])
  snd : (sps.map (·.2)).Nodup
  s1 : 1 ≤ sps.length
  s4 : sps.length ≤ 4
  bk : ∀ (i : Nat) b, bks[i]? = some b → BkAt CB CW F H b
  pinj : ∀ (i j : Nat) b c, bks[i]? = some b → bks[j]? = some c → b.p = c.p → i = j
  dinj : ∀ (i j : Nat) b c, bks[i]? = some b → bks[j]? = some c → b.d = c.d → i = j
  hinj : ∀ (i j : Nat) b c, bks[i]? = some b → bks[j]? = some c → b.hand = c.hand → i = j
  lmx : ∃ ls : List Addr, H lm = some (.lst (ls.map V.ref)) ∧ Paired (fun l m => F l = some (.lst (natV m))) ls mets
  ldx : ∃ xs, H ld = some (.lst xs) ∧ CellsAt F xs cs
  flm : F lm = none
  fld : F ld = none
  lmd : lm ≠ ld
  blen : bks.length = mets.length
  b2 : 2 ≤ bks.length
  b5 : bks.length ≤ 5
  tab : Tab cs tbl (sps.map (·.2))
  ok : ∀ (i : Nat) b m, bks[i]? = some b → mets[i]? = some m → BkOk cs tbl m b.es b.f
  mark : ∀ (k : Nat) a, tbl[k]? = some a → ∃ (i : Nat) (b : Bk) (n : Int), bks[i]? = some b ∧ a.2.mark = [.inr b.hand, .inl n] ∧ n ≤ b.n
/-- all but those of mt are as they were -/
def Keep (mt : List Addr) (H H' : Hp) : Prop := ∀ a o, H a = some o → a ∉ mt → H' a = some o
theorem Keep.of {mt : List Addr} {H H' : Hp} (s : Same H H') : Keep mt H H' := fun a o e _ => s a o e
theorem Keep.trans {mt : List Addr} {H H1 H2 : Hp} (a : Keep mt H H1) (b : Keep mt H1 H2) : Keep mt H H2 := fun c o e n => b c o (a c o e n) n
theorem Keep.free {mt : List Addr} {F H H' : Hp} (k : Keep mt H H') (s : Same F H) (f : ∀ a ∈ mt, F a = none) {b : Addr} (h : H' b = none) : F b = none := by
  cases e : F b with
  | none => rfl
  | some o =>
    have := k b o (s b o e) fun z => by rw [f b z] at e; cases e
    rw [h] at this
    cases this
/-- what was none ahead of it and is not of mt -/
theorem Keep.free2 {mt : List Addr} {H H' : Hp} (k : Keep mt H H') {b : Addr} (h : H' b = none) (n : b ∉ mt) : H b = none := by
  cases e : H b with
  | none => rfl
  | some o =>
    have := k b o e n
    rw [h] at this
    cases this
theorem freeze_same {mt : List Addr} {F H H' : Hp} (s : Same F H) (f : ∀ a ∈ mt, F a = none) (k : Keep mt H H') : Same (plus F (New H H')) H' := fun b o e => by
  rcases of_plus e with z | ⟨_, y⟩
  · exact k b o (s b o z) fun q => by rw [f b q] at z; cases z
  · exact (of_new y).2
theorem freeze_full {mt : List Addr} {F H H' : Hp} (s : Same F H) (g : Full F H) (k : Keep mt H H') (t : ∀ a ∈ mt, H a ≠ none → ∀ ys, H' a ≠ some (.tup ys)) : Full (plus F (New H H')) H' := fun b ys e => by
  cases h : H b with
  | none => exact plus_at (s.free h) (new_of h e)
  | some o =>
    by_cases hb : b ∈ mt
    · exact absurd e (t b hb (by rw [h]; exact fun z => nomatch z) ys)
    · have := k b o h hb
      rw [e] at this
      cases this
      exact plus_l _ _ (g _ _ h)
theorem set_at {α : Type} {l : List α} {i j : Nat} {a c : α} (h : (l.set i a)[j]? = some c) : (j = i ∧ c = a ∧ i < l.length) ∨ (j ≠ i ∧ l[j]? = some c) := by
  rw [List.getElem?_set] at h
  by_cases e : i = j
  · rw [if_pos e] at h
    by_cases z : j < l.length
    · subst e
      rw [if_pos z] at h
      exact .inl ⟨rfl, (Option.some.inj h).symm, z⟩
    · rw [if_neg (by omega)] at h
      cases h
  · rw [if_neg e] at h
    exact .inr ⟨fun q => e q.symm, h⟩
theorem map_set_same {α β : Type} {l : List α} {g : α → β} {i : Nat} {b b' : α} (h : l[i]? = some b) (e : g b' = g b) : (l.set i b').map g = l.map g := by
  apply List.ext_getElem?
  intro j
  rw [List.getElem?_map, List.getElem?_map, List.getElem?_set]
  by_cases z : i = j
  · subst z
    rw [if_pos rfl, if_pos (List.getElem?_eq_some_iff.mp h).1, h]
    show some (g b') = some (g b)
    rw [e]
  · rw [if_neg z]
theorem paired_set {α β : Type} {R : α → β → Prop} {l : List α} {m : List β} (h : Paired R l m) {x : α} {y : β} (r : R x y) : ∀ i : Nat, Paired R (l.set i x) (m.set i y) := by
  induction h with
  | nil => exact fun _ => .nil
  | cons r2 t ih =>
    intro i
    cases i with
    | zero => exact .cons r t
    | succ i => exact .cons r2 (ih i)
theorem refs_at2 {α : Type} {l : List α} {g : α → Addr} {i : Nat} {b : α} (h : l[i]? = some b) : atI (l.map fun x => V.ref (g x)) (i : Int) = some (V.ref (g b)) := by
  refine atI_nat ?_
  rw [List.getElem?_map, h]
  rfl
section
variable {CB CW : Addr} {F H H' : Hp} {lb ld lm sp : Addr} {bks : List Bk} {mets : List (List Nat)} {cs : List Cell} {tbl : List AW} {sps : List At}
theorem BkAt.book {b : Bk} (B : BkAt CB CW F H b) (s : Same F H) : BookAt CB H b.p b.d b.hand b.n b.es b.f := ⟨B.ins, B.dict, B.held.mono fun a xs e => s _ _ e⟩
theorem HS.kinds (S : HS CB CW F H lb ld lm sp bks mets cs tbl sps) : (∀ (i : Nat) b, bks[i]? = some b → b.p ≠ lm ∧ b.p ≠ ld ∧ b.d ≠ lm ∧ b.d ≠ ld) ∧ ∀ (i j : Nat) b c, bks[i]? = some b → bks[j]? = some c → b.p ≠ c.d := by
  obtain ⟨ls, h1, _⟩ := S.lmx
  obtain ⟨xs, h2, _⟩ := S.ldx
  refine ⟨fun i b hb => ?_, fun i j b c hb hc => ?_⟩
  · obtain ⟨⟨dx, e1⟩, e2, _⟩ := S.bk i b hb
    exact ⟨ne_of e1 h1 (fun z => nomatch z), ne_of e1 h2 (fun z => nomatch z), ne_of e2 h1 (fun z => nomatch z), ne_of e2 h2 (fun z => nomatch z)⟩
  · obtain ⟨⟨dx, e1⟩, _⟩ := S.bk i b hb
    exact ne_of e1 (S.bk j c hc).dict (fun z => nomatch z)
/-- nothing that is noted changes; F grows -/
theorem HS.grow (S : HS CB CW F H lb ld lm sp bks mets cs tbl sps) (s : Same H H') : HS CB CW (plus F (New H H')) H' lb ld lm sp bks mets cs tbl sps := by
  have k : Keep [] H H' := .of s
  have gone : ∀ {a : Addr} {o : HO}, F a = none → H a = some o → plus F (New H H') a = none := fun {a o} h1 h2 => by
    unfold plus New
    rw [h1, h2]
  obtain ⟨ls, h1, h1b⟩ := S.lmx
  obtain ⟨xs, h2, h2b⟩ := S.ldx
  exact { S with
    same := freeze_same S.same (fun a z => absurd z List.not_mem_nil) k
    full := freeze_full S.same S.full k (fun a z => absurd z List.not_mem_nil)
    lb := plus_l _ _ S.lb
    sp := plus_l _ _ S.sp
    spt := fun b hb => plus_l _ _ (S.spt b hb)
    bk := fun i b hb => by
      obtain ⟨⟨dx, e1⟩, e2, e3, e4, e5, e6⟩ := S.bk i b hb
      exact ⟨⟨dx, s _ _ e1⟩, s _ _ e2, e3.mono fun a ys z => plus_l _ _ z, gone e4 e1, gone e5 e2, fun q => (e6 q).mono plus_l⟩
    lmx := ⟨ls, s _ _ h1, Paired.mapP h1b fun _ _ z => plus_l _ _ z⟩
    ldx := ⟨xs, s _ _ h2, h2b.mono plus_l⟩
    flm := gone S.flm h1
    fld := gone S.fld h2 }
/-- the notes of one hand -/
theorem HS.noted (S : HS CB CW F H lb ld lm sp bks mets cs tbl sps) (hc : cs.length < 60) {i : Nat} {b : Bk} {l : Addr} {m : List Nat} (hb : bks[i]? = some b) (hm : mets[i]? = some m) (hl : F l = some (.lst (natV m))) : NotedAt F H ld l cs m :=
  let B := S.ok i b m hb hm
  ⟨S.same, S.ldx, S.same _ _ hl, B.lt, by have := met_len B; omega⟩
theorem none_plus {G H1 : Hp} {a : Addr} {o : HO} (h1 : G a = none) (h2 : H a = some o) : plus G (New H H1) a = none := by
  unfold plus New
  rw [h1, h2]
/-- one hand's deed -/
theorem HS.step (S : HS CB CW F H lb ld lm sp bks mets cs tbl sps) {i : Nat} {b b' : Bk} {m m' : List Nat} (hb : bks[i]? = some b) (hm : mets[i]? = some m) (keep : Keep [b.p, b.d, lm, ld] H H') (ep : b'.p = b.p) (ed : b'.d = b.d) (eh : b'.hand = b.hand) (en : b.n ≤ b'.n)
    (ins' : ∃ dx, H' b.p = some (.ins CB dx (bf b.hand b'.n b.d))) (dict' : H' b.d = some (.dT (kvP b'.es))) (held' : HeldIs (plus F (New H H')) b'.es b'.f) (wr' : ∀ q, WrsAt CW (plus F (New H H')) (b'.f q))
    {z : Addr} (hz : plus F (New H H') z = some (.lst (natV m'))) (hlm' : ∀ ls : List Addr, H lm = some (.lst (ls.map V.ref)) → H' lm = some (.lst ((ls.map V.ref).set i (.ref z)))) {cs' : List Cell} {tbl' : List AW} (hld' : ∃ xs, H' ld = some (.lst xs) ∧ CellsAt (plus F (New H H')) xs cs')
    (tab' : Tab cs' tbl' (sps.map (·.2))) (ok' : BkOk cs' tbl' m' b'.es b'.f) (oko : ∀ (q : Nat) c mc, q ≠ i → bks[q]? = some c → mets[q]? = some mc → BkOk cs' tbl' mc c.es c.f)
    (mark' : ∀ (k : Nat) a, tbl'[k]? = some a → tbl[k]? = some a ∨ a.2.mark = [.inr b.hand, .inl b'.n]) : HS CB CW (plus F (New H H')) H' lb ld lm sp (bks.set i b') (mets.set i m') cs' tbl' sps := by
  obtain ⟨kin1, kin2⟩ := S.kinds
  obtain ⟨⟨dxb, e1⟩, e2, e3, e4, e5, e6⟩ := S.bk i b hb
  obtain ⟨ls, l1, l2⟩ := S.lmx
  obtain ⟨xs0, x1, _⟩ := S.ldx
  obtain ⟨xs, x2, x3⟩ := hld'
  have il : i < bks.length := (List.getElem?_eq_some_iff.mp hb).1
  have fm : ∀ a ∈ [b.p, b.d, lm, ld], F a = none := fun a ha => by
    rcases List.mem_cons.mp ha with z | ha
    · rw [z]; exact e4
    rcases List.mem_cons.mp ha with z | ha
    · rw [z]; exact e5
    rcases List.mem_cons.mp ha with z | ha
    · rw [z]; exact S.flm
    · rw [List.mem_singleton.mp ha]; exact S.fld
  have like : ∀ (q : Nat) c, (bks.set i b')[q]? = some c → ∃ y, bks[q]? = some y ∧ y.p = c.p ∧ y.d = c.d ∧ y.hand = c.hand := fun q c hq => by
    rcases set_at hq with ⟨z1, z2, _⟩ | ⟨_, z2⟩
    · rw [z1, z2]
      exact ⟨b, hb, ep.symm, ed.symm, eh.symm⟩
    · exact ⟨c, z2, rfl, rfl, rfl⟩
  refine {
    same := freeze_same S.same fm keep
    full := freeze_full S.same S.full keep fun a ha _ ys e => ?_
    lb := plus_l _ _ (by rw [map_set_same hb (by rw [ep])]; exact S.lb)
    sp := plus_l _ _ S.sp
    spt := fun b hb => plus_l _ _ (S.spt b hb)
    snd := S.snd
    s1 := S.s1
    s4 := S.s4
    bk := fun q c hq => ?_
    pinj := fun q r c d hc hd e => ?_
    dinj := fun q r c d hc hd e => ?_
    hinj := fun q r c d hc hd e => ?_
    lmx := ⟨ls.set i z, by rw [hlm' ls l1, List.map_set], paired_set (Paired.mapP l2 fun _ _ z => plus_l _ _ z) hz i⟩
    ldx := ⟨xs, x2, x3⟩
    flm := none_plus S.flm l1
    fld := none_plus S.fld x1
    lmd := S.lmd
    blen := by rw [List.length_set, List.length_set]; exact S.blen
    b2 := by rw [List.length_set]; exact S.b2
    b5 := by rw [List.length_set]; exact S.b5
    tab := tab'
    ok := fun q c mc hc hmc => ?_
    mark := fun k a hk => ?_ }
  · rcases List.mem_cons.mp ha with z | ha
    · rw [z] at e
      obtain ⟨dx, i1⟩ := ins'
      rw [i1] at e
      cases e
    rcases List.mem_cons.mp ha with z | ha
    · rw [z, dict'] at e
      cases e
    rcases List.mem_cons.mp ha with z | ha
    · rw [z, hlm' ls l1] at e
      cases e
    · rw [List.mem_singleton.mp ha, x2] at e
      cases e
  · rcases set_at hq with ⟨z1, z2, _⟩ | ⟨z1, z2⟩
    · rw [z2]
      refine ⟨?_, ?_, held', ?_, ?_, wr'⟩
      · rw [ep, eh, ed]
        exact ins'
      · rw [ed]
        exact dict'
      · rw [ep]
        exact none_plus e4 e1
      · rw [ed]
        exact none_plus e5 e2
    · obtain ⟨⟨dx, i1⟩, i2, i3, i4, i5, i6⟩ := S.bk q c z2
      have n1 : c.p ∉ [b.p, b.d, lm, ld] := fun hm => by
        rcases List.mem_cons.mp hm with y | hm
        · exact z1 (S.pinj q i c b z2 hb y)
        rcases List.mem_cons.mp hm with y | hm
        · exact kin2 q i c b z2 hb y
        rcases List.mem_cons.mp hm with y | hm
        · exact (kin1 q c z2).1 y
        · exact (kin1 q c z2).2.1 (List.mem_singleton.mp hm)
      have n2 : c.d ∉ [b.p, b.d, lm, ld] := fun hm => by
        rcases List.mem_cons.mp hm with y | hm
        · exact kin2 i q b c hb z2 y.symm
        rcases List.mem_cons.mp hm with y | hm
        · exact z1 (S.dinj q i c b z2 hb y)
        rcases List.mem_cons.mp hm with y | hm
        · exact (kin1 q c z2).2.2.1 y
        · exact (kin1 q c z2).2.2.2 (List.mem_singleton.mp hm)
      exact ⟨⟨dx, keep _ _ i1 n1⟩, keep _ _ i2 n2, i3.mono fun a ys y => plus_l _ _ y, none_plus i4 i1, none_plus i5 i2, fun r => (i6 r).mono plus_l⟩
  · obtain ⟨c', hc', ec, _, _⟩ := like q c hc
    obtain ⟨d', hd', ed', _, _⟩ := like r d hd
    exact S.pinj q r c' d' hc' hd' (by rw [ec, ed', e])
  · obtain ⟨c', hc', _, ec, _⟩ := like q c hc
    obtain ⟨d', hd', _, ed', _⟩ := like r d hd
    exact S.dinj q r c' d' hc' hd' (by rw [ec, ed', e])
  · obtain ⟨c', hc', _, _, ec⟩ := like q c hc
    obtain ⟨d', hd', _, _, ed'⟩ := like r d hd
    exact S.hinj q r c' d' hc' hd' (by rw [ec, ed', e])
  · rcases set_at hc with ⟨z1, z2, _⟩ | ⟨z1, z2⟩
    · rcases set_at hmc with ⟨y1, y2, _⟩ | ⟨y1, y2⟩
      · rw [z2, y2]
        exact ok'
      · exact absurd z1 y1
    · rcases set_at hmc with ⟨y1, y2, _⟩ | ⟨y1, y2⟩
      · exact absurd y1 z1
      · exact oko q c mc z1 z2 y2
  · rcases mark' k a hk with y | y
    · obtain ⟨q, c, n, hc, e, hn⟩ := S.mark k a y
      by_cases z1 : q = i
      · subst z1
        rw [hb] at hc
        cases hc
        exact ⟨q, b', n, by rw [List.getElem?_set, if_pos rfl, if_pos il], by rw [eh]; exact e, by omega⟩
      · exact ⟨q, c, n, by rw [List.getElem?_set, if_neg (fun y => z1 y.symm)]; exact hc, e, hn⟩
    · exact ⟨i, b', b'.n, by rw [List.getElem?_set, if_pos rfl, if_pos il], by rw [eh]; exact y, by omega⟩
theorem ixN_nat {n i : Nat} (h : i < n) : ixN n (i : Int) = some i := by
  unfold ixN
  rw [if_pos (by omega), if_pos (by omega)]
  rfl
end
end K82

set_option Elab.async false
set_option linter.all false
set_option maxRecDepth 100000
set_option maxHeartbeats 4000000
namespace K82
open PySem PySem.Spec PyProof.Rows L2

/-! ## _law_deed -/
def spDeed (CB CW : Addr) : Sp := fun vs H Q _ => ∃ (F : Hp) (lb ld lm sp : Addr) (bks : List Bk) (mets : List (List Nat)) (cs : List Cell) (tbl : List AW) (sps : List At) (cell : Int) (pl : Bool), vs = [.ref lb, .ref ld, .ref lm, .ref sp, .int cell, .bl pl] ∧
  HS CB CW F H lb ld lm sp bks mets cs tbl sps ∧ cs.length < 60 ∧
  ∀ H' F' bks' mets' cs' tbl', Same F F' → HS CB CW F' H' lb ld lm sp bks' mets' cs' tbl' sps → cs'.length ≤ cs.length + 1 → bks'.length = bks.length → Q .non H'
abbrev nDeed : List Str := ["_law_books", "_law_done", "_law_met", "_law_spots", "_law_cell", "_law_plain", "_law_way", "_law_one", "_law_other", "_law_piece", "_law_pair_here", "_law_came", "_law_spot", "_law_k", "_law_seen"]
theorem scDeed : FnScope nDeed ["_law_books", "_law_done", "_law_met", "_law_spots", "_law_cell", "_law_plain"] (defScope sDeed) := ⟨rfl, rfl, rfl, by decide +kernel, rfl, by decide +kernel, by decide +kernel⟩
theorem flat_nat (ms : List Nat) : (natV ms).all flatV = true := by
  rw [List.all_eq_true]
  intro v hv
  obtain ⟨k, _, rfl⟩ := List.mem_map.mp hv
  rfl
theorem inV_nat (k : Nat) (ms : List Nat) : inV (.int (k : Int)) (natV ms) = decide (k ∈ ms) := by
  unfold inV
  induction ms with
  | nil => rfl
  | cons a ms ih =>
    show ((V.int (a : Int) :: natV ms).any fun y => eqV y (.int (k : Int))) = _
    rw [List.any_cons, ih]
    have e : eqV (.int (a : Int)) (.int (k : Int)) = decide (a = k) := by
      show ((a : Int) == (k : Int)) = decide (a = k)
      by_cases z : a = k
      · rw [z, decide_eq_true rfl]
        exact beq_self_eq_true _
      · rw [decide_eq_false z]
        exact beq_eq_false_iff_ne.mpr fun q => z (by omega)
    rw [e]
    by_cases z : a = k
    · subst z
      rw [decide_eq_true rfl, decide_eq_true List.mem_cons_self]
      rfl
    · rw [decide_eq_false z, Bool.false_or]
      exact decide_eq_decide.mpr ⟨List.mem_cons_of_mem _, fun y => (List.mem_cons.mp y).resolve_left fun q => z q.symm⟩
/-- what a hand gets: all that the other holds -/
def cameL (cs : List Cell) (met : List Nat) (ps : List Pr) : List Nat := ps.flatMap fun p => lawHeld cs met p
theorem came_more {cs : List Cell} {met : List Nat} {ps : List Pr} {i : Nat} {p : Pr} (h : ps[i]? = some p) : cameL cs met (ps.take (i + 1)) = cameL cs met (ps.take i) ++ lawHeld cs met p := by
  unfold cameL
  rw [take_one_more h, List.flatMap_append, List.flatMap_cons, List.flatMap_nil, List.append_nil]
theorem came_mem {cs : List Cell} {tbl : List AW} {met : List Nat} {ps : List Pr} {es : List (Pr × V)} {f : Pr → List AW} (T : Tab cs tbl ps) (k : Nat) : k ∈ cameL cs met ps ↔ ∃ p, k ∈ lawHeld cs met p := by
  unfold cameL
  rw [List.mem_flatMap]
  constructor
  · rintro ⟨p, _, h⟩
    exact ⟨p, h⟩
  · rintro ⟨p, h⟩
    obtain ⟨_, c, hc, e⟩ := mem_ours.mp (mem_held.mp h).1
    exact ⟨p, by rw [← e]; exact T.spot k c hc, h⟩
theorem came_once {cs : List Cell} {met : List Nat} (hm : met.Nodup) : ∀ {ps : List Pr}, ps.Nodup → (cameL cs met ps).Nodup
  | [], _ => List.nodup_nil
  | p :: ps, h => by
    obtain ⟨h1, h2⟩ := List.nodup_cons.mp h
    have e : cameL cs met (p :: ps) = lawHeld cs met p ++ cameL cs met ps := rfl
    rw [e]
    refine List.nodup_append.mpr ⟨(hm.sublist List.filter_sublist).sublist List.filter_sublist, came_once hm h2, fun a ha b hb q => ?_⟩
    obtain ⟨p2, hp2, h3⟩ := List.mem_flatMap.mp hb
    rw [← q] at h3
    obtain ⟨_, c, hc, e1⟩ := mem_ours.mp (mem_held.mp ha).1
    obtain ⟨_, d, hd, e2⟩ := mem_ours.mp (mem_held.mp h3).1
    rw [hc] at hd
    cases hd
    exact h1 (by rw [← e1, e2]; exact hp2)
theorem came_len {cs : List Cell} {met : List Nat} : ∀ {ps : List Pr}, (cameL cs met ps).length ≤ ps.length * met.length
  | [] => by simp [cameL]
  | p :: ps => by
    have e : cameL cs met (p :: ps) = lawHeld cs met p ++ cameL cs met ps := rfl
    have h1 := lawHeld_len cs met p
    have h2 := came_len (cs := cs) (met := met) (ps := ps)
    rw [e, List.length_append, List.length_cons, Nat.succ_mul]
    omega
theorem seenL_len {cs : List Cell} {tbl : List AW} {ps : List Pr} (T : Tab cs tbl ps) {ks : List Nat} (h : ∀ k ∈ ks, k < cs.length) : (seenL cs ks).length ≤ cs.length := by
  have h2 := len_le_of (once_seenL cs ks) (m := (List.range cs.length).map fun (k : Nat) => (.inl (k : Int) : Key)) fun key hk => by
    obtain ⟨k, hk1, q⟩ := has_seenL.mp hk
    have kl := h k hk1
    rcases q with q | q
    · exact List.mem_map.mpr ⟨k, List.mem_range.mpr kl, q.symm⟩
    · obtain ⟨_, c1, _, hc1⟩ := T.at1 kl
      have e1 : seenAt cs k = c1.seen := by
        unfold seenAt
        rw [hc1]
        rfl
      rw [e1] at q
      obtain ⟨i, hi, e⟩ := T.ckey k c1 hc1 key q
      exact List.mem_map.mpr ⟨i, List.mem_range.mpr (by omega), e.symm⟩
  rw [List.length_map, List.length_map, List.length_range] at h2
  exact h2
theorem cseen_len {cs : List Cell} {tbl : List AW} {ps : List Pr} (T : Tab cs tbl ps) {k : Nat} {c : Cell} (h : cs[k]? = some c) : c.seen.length ≤ cs.length := by
  have h2 := len_le_of (T.conce k c h) (m := (List.range cs.length).map fun (k : Nat) => (.inl (k : Int) : Key)) fun key hk => by
    obtain ⟨i, hi, e⟩ := T.ckey k c h key hk
    have := (List.getElem?_eq_some_iff.mp h).1
    exact List.mem_map.mpr ⟨i, List.mem_range.mpr (by omega), e.symm⟩
  rw [List.length_map, List.length_map, List.length_range] at h2
  exact h2
section
variable {P : Program} {w : World} {K : PySem.W.Frag} {mg : Str → Option Value} {base : Heap}
theorem ok_deed {f CB CW fD fPr fSg fH fTk fUn fWr fS fI : Addr} {fd fdD fdPr fdSg fdH fdTk fdUn fdWr fdS fdI : FuncData} (F : Fun K "_law_deed" "_law_deed" sDeed f fd) (T : TxtB K mg CB) (W : TxtW K mg CW) (mAny : mg "any" = none) (mLen : mg "len" = none) (mRange : mg "range" = none)
    (FD : Fun K "_law_drawn" "_law_drawn" sDrawn fD fdD) (bD : Binds K fdD ["_law_cell", "_law_many", "_law_spots", "_law_plain"] []) (gD : mg "_law_drawn" = some (.ref fD))
    (FPr : Fun K "_law_pair" "_law_pair" sPair fPr fdPr) (bPr : Binds K fdPr ["_law_cell", "_law_plain"] []) (gPr : mg "_law_pair" = some (.ref fPr))
    (FSg : Fun K "_law_sign_row" "_law_sign_row" sRow fSg fdSg) (bSg : Binds K fdSg ["_law_cell"] []) (gSg : mg "_law_sign_row" = some (.ref fSg))
    (FH : Fun K "_law_held" "_law_held" sHeld fH fdH) (bH : Binds K fdH ["_law_done", "_law_met", "_law_piece"] []) (gH : mg "_law_held" = some (.ref fH))
    (FTk : Fun K "take_in" "Book.take_in" sTakeIn fTk fdTk) (bTk : Binds K fdTk ["self", "other"] []) (MTk : Meth K CB "take_in" fTk)
    (FUn : Fun K "unseen" "unseen" sUnseen fUn fdUn) (bUn : Binds K fdUn ["writings"] []) (gUn : mg "unseen" = some (.ref fUn))
    (FWr : Fun K "write" "Book.write" sWrite fWr fdWr) (bWr : Binds K fdWr ["self", "tongue", "key", "text", "first"] []) (MWr : Meth K CB "write" fWr)
    (FS : Fun K "seen_by_next" "seen_by_next" sSeen fS fdS) (bS : Binds K fdS ["writings"] []) (gS : mg "seen_by_next" = some (.ref fS))
    (M : Mk K CW fI) (FI : Fun K "__init__" "Writing.__init__" sWInit fI fdI) (bI : Binds K fdI ["self", "mark", "words", "made_from", "seen"] []) :
    FnOk P w K mg base CX0 4 f fd ["_law_books", "_law_done", "_law_met", "_law_spots", "_law_cell", "_law_plain"] (spDeed CB CW) := by
  have GD : FnOk P w K mg base CX0 3 fD fdD ["_law_cell", "_law_many", "_law_spots", "_law_plain"] (spDrawn K) := ok_drawn FD FPr bPr gPr FSg bSg gSg mRange mLen
  have GH : FnOk P w K mg base CX0 1 fH fdH ["_law_done", "_law_met", "_law_piece"] spHeld := ok_held FH
  have GTk : FnOk P w K mg base CX0 2 fTk fdTk ["self", "other"] (spTakeIn CB CW) := ok_takeIn FTk T W mAny FUn bUn gUn
  have GWr : FnOk P w K mg base CX0 3 fWr fdWr ["self", "tongue", "key", "text", "first"] (spWrite CB CW) := ok_write FWr T W FS bS gS M FI bI
  refine F.ok scDeed (fun vs H Q E h => ?_) (fun cdv A outer s H vs Q E hr h => ?_)
  · obtain ⟨F0, lb, ld, lm, sp, bks, mets, cs, tbl, sps, cell, pl, rfl, _⟩ := h
    rfl
  · obtain ⟨F0, lb, ld, lm, sp, bks, mets, cs, tbl, sps, cell, pl, rfl, S, hcl, k⟩ := h
    have hu := hu_of hr
    have hr1 : Room 1 _ := hr.mono (by decide)
    have hr2 : Room 2 _ := hr.mono (by decide)
    refine ⟨_, pss_cons (ps_asg (pe_call GD hr rfl gD FD.kp bD .nil pass0 (pa_cons (pv 4) (pa_cons (pe_callB call_len_seq (by rfl) mLen PySem.boot_len (pa_cons (pv 0) pa_nil)) (pa_cons (pv 3) (pa_cons (pv 5) pa_nil)))))
        (pg_tup rfl (pgs_cons (pg_name (i := 6) scDeed.nd rfl (Or.inl rfl)) (pgs_cons (pg_name (i := 7) scDeed.nd rfl (Or.inr rfl)) (pgs_cons (pg_name (i := 8) scDeed.nd rfl (Or.inl rfl)) (pgs_cons (pg_name (i := 9) scDeed.nd rfl (Or.inl rfl)) (pgs_cons (pg_name (i := 10) scDeed.nd rfl (Or.inl rfl)) pgs_nil)))))))
      (pss_one (ps_if (pt_cmpR op_eq (pv 6) pe_int (nomark _))
        (pss_cons (ps_expr (pe_meth (pe_ix ix_list (pv 0) (pv 7) (fun _ _ => rfl)) T.cl MTk GTk hr2 bTk .nil pass0 (pa_cons (pe_ix ix_list (pv 0) (pv 8) (fun _ _ => rfl)) pa_nil)))
        (pss_cons (ps_set (i := 11) scDeed.nd rfl (Or.inl rfl) (pe_lst pa_nil))
        (pss_cons (ps_for PassesOwn.never rfl (pi_list (pv 3)) (pg_name (i := 12) scDeed.nd rfl (Or.inl rfl))
          (pss_one (ps_set (i := 11) scDeed.nd rfl (Or.inl rfl) (pe_op op_cat (pv 11) (pe_call GH hr1 rfl gH FH.kp bH .nil pass0 (pa_cons (pv 1) (pa_cons (pe_ix ix_list (pv 2) (pv 8) (fun _ _ => rfl)) (pa_cons (pv 12) pa_nil))))))))
        (pss_one (ps_asg (pe_op op_cat (pe_ix ix_list (pv 2) (pv 7) (fun _ _ => rfl))
          (pe_lc (own := [("_law_k", 13)]) (g := gName 13) (tt := tTest (tOp (rIn K true) (tVar 13) (tOp (rIxL K) (tVar 2) (tVar 7)))) (te := tVar 13) rfl scDeed.nd (pi_list (pv 11))
            (blkOk_by (own := [("_law_k", 13)]) (N := nDeed) (sc := defScope sDeed) (by decide +kernel)) (fun _ _ _ _ _ => pg_name (i := 13) scDeed.nd rfl (Or.inl rfl))
            (fun _ _ _ _ _ => by exact pts_one (pt_cmpR op_notIn_seq (pv 13) (pe_ix ix_list (pv 2) (pv 7) (fun _ _ => rfl)) (by rfl)))
            (fun _ _ _ _ _ => by exact pv 13))) (pg_sub (pv 2) (pv 7) set_list))))))
        (pss_cons (ps_set (i := 14) scDeed.nd rfl (Or.inl rfl) pe_dnewK)
        (pss_cons (ps_for PassesOwn.never rfl (pi_list (pe_call GH hr1 rfl gH FH.kp bH .nil pass0 (pa_cons (pv 1) (pa_cons (pe_ix ix_list (pv 2) (pv 7) (fun _ _ => rfl)) (pa_cons (pv 9) pa_nil))))) (pg_name (i := 13) scDeed.nd rfl (Or.inl rfl))
          (pss_cons (ps_dput hu (pv 14) (pv 13) pe_bl rfl)
            (pss_one (ps_expr (pe_bm PySem.F.plainAttrs_dict PySem.F.slot_dict_update PySem.F.type_dict_update mt_updK (pv 14) (pa_cons (pe_ix ix_tup (pe_ix ix_list (pv 1) (pv 13) (fun _ _ => rfl)) pe_int (fun _ _ => rfl)) pa_nil))))))
        (pss_cons (ps_expr (pe_meth (pe_ix ix_list (pv 0) (pv 7) (fun _ _ => rfl)) T.cl MWr GWr hr bWr .nil pass0 (pa_cons (pe_ix ix_tup (pv 9) pe_int (fun _ _ => rfl)) (pa_cons (pe_ix ix_tup (pv 9) pe_int (fun _ _ => rfl))
            (pa_cons (pe_ix ix_tup (pv 10) pe_int (fun _ _ => rfl)) (pa_cons (pe_ix ix_tup (pv 10) pe_int (fun _ _ => rfl)) pa_nil))))))
        (pss_cons (ps_asg (pe_op op_cat (pe_ix ix_list (pv 2) (pv 7) (fun _ _ => rfl)) (pe_lst (pa_cons (pe_callB call_len_seq (by rfl) mLen PySem.boot_len (pa_cons (pv 1) pa_nil)) pa_nil))) (pg_sub (pv 2) (pv 7) set_list))
        (pss_one (ps_expr (pe_bm PySem.F.plainAttrs_list PySem.F.slot_list_append PySem.F.type_list_append mt_append (pv 1) (pa_cons (pe_tup (pa_cons (pv 9) (pa_cons (pv 10) (pa_cons (pv 14) pa_nil)))) pa_nil)))))))))), ?_⟩
    have lbk : (bks.map fun b => V.ref b.p).length = bks.length := List.length_map _
    have hb2 := S.b2
    have hb5 := S.b5
    have lsp : (atRefs sps).length = sps.length := List.length_map _
    have hs1 := S.s1
    have hs4 := S.s4
    refine ⟨_, rfl, _, rfl, lb, _, rfl, .inl (SqL.of (S.same _ _ S.lb)), _, rfl, _, rfl, cell, (bks.map fun b => V.ref b.p).length, sp, atRefs sps, pl, rfl, by omega, by omega, SqL.of (S.same _ _ S.sp), by omega, by omega, fun H1 Tt way one other s0 t x y s1 nT nt o0 o1 p0 p1 hne hs => ?_⟩
    refine ⟨Tt, _, rfl, SqT.of (of_new nT).2, rfl, _, _, rfl, _, _, rfl, _, _, rfl, _, _, rfl, _, _, rfl, rfl, ?_⟩
    refine ⟨_, rfl, rfl, _, rfl, ?_⟩
    rw [lbk] at o1 p1
    obtain ⟨i, rfl⟩ := Int.eq_ofNat_of_zero_le o0
    obtain ⟨j, rfl⟩ := Int.eq_ofNat_of_zero_le p0
    have il : i < bks.length := by omega
    have jl : j < bks.length := by omega
    have nij : i ≠ j := fun z => hne (by rw [z])
    obtain ⟨bp, hbp, rfl⟩ := List.mem_map.mp hs
    -- all that was made so far stays
    have S1 := S.grow s1
    have t1 := plus_new S.same _ _ nt
    have s01 : Same F0 (plus F0 (New H H1)) := plus_l
    generalize plus F0 (New H H1) = F1 at S1 t1 s01
    clear nT nt
    have T1 := S1.tab
    have hb := List.getElem?_eq_getElem il
    generalize bks[i] = b at hb
    have hbl := S1.blen
    have hm := List.getElem?_eq_getElem (show i < mets.length by omega)
    generalize mets[i] = mi at hm
    obtain ⟨ls, hlm, hls⟩ := S1.lmx
    obtain ⟨xs, hld, hcells⟩ := S1.ldx
    obtain ⟨li, hli, fli⟩ := paired_get hls hm
    have Bi := S1.ok i b mi hb hm
    obtain ⟨⟨dxb, e1⟩, e2, e3, e4, e5, e6⟩ := S1.bk i b hb
    obtain ⟨kin1, kin2⟩ := S1.kinds
    obtain ⟨nplm, npld, ndlm, ndld⟩ := kin1 i b hb
    have npd := kin2 i i b b hb hb
    have fsp := S1.spt bp hbp
    have hil : i < ls.length := (List.getElem?_eq_some_iff.mp hli).1
    have hati : atI (ls.map V.ref) (i : Int) = some (.ref li) := atI_nat (by rw [List.getElem?_map, hli]; rfl)
    have flb := S1.lb
    have atb : atI (bks.map fun b => V.ref b.p) (i : Int) = some (.ref b.p) := refs_at2 (g := Bk.p) hb
    have ml := met_len Bi
    have tl := T1.len
    by_cases cc : decide (V.int way = V.int 0) = true
    · refine if_yes cc ?_
      have hc := List.getElem?_eq_getElem jl
      generalize bks[j] = c at hc
      have hmj := List.getElem?_eq_getElem (show j < mets.length by omega)
      generalize mets[j] = mj at hmj
      obtain ⟨lj, hlj, flj⟩ := paired_get hls hmj
      have Bj := S1.ok j c mj hc hmj
      have mlj := met_len Bj
      obtain ⟨⟨dxc, c1⟩, c2, c3, c4, c5, c6⟩ := S1.bk j c hc
      have hatj : atI (ls.map V.ref) (j : Int) = some (.ref lj) := atI_nat (by rw [List.getElem?_map, hlj]; rfl)
      have toL : ∀ a ys, F1 a = some (.lst ys) → H1 a = some (.lst ys) := fun a ys z => S1.same _ _ z
      refine ⟨_, rfl, _, rfl, lb, _, _, _, rfl, rfl, SqL.of (S1.same _ _ flb), atb, b.p, dxb, _, rfl, e1, rfl, _, rfl, _, rfl, lb, _, _, _, rfl, rfl, SqL.of (S1.same _ _ flb), refs_at2 (g := Bk.p) hc, ?_⟩
      refine ⟨F1, b.p, dxb, b.d, c.p, dxc, c.d, b.hand, c.hand, b.n, c.n, b.es, c.es, b.f, c.f, rfl, e1, e2, e3.mono toL, c1, c2, c3.mono toL, fun z => nij (S1.dinj i j b c hb hc z), S1.same, e5, c5, fun q => ⟨fun a ha => (List.mem_append.mp ha).elim (e6 q a) (c6 q a), oneMark_of T1 Bi Bj q, ?_⟩, ?_, fun H2 es2 g but hd2 mg => ?_⟩
      · have h1 := held_len T1 Bi q
        have h2 := held_len T1 Bj q
        rw [List.length_append]
        omega
      · have h1 := es_len T1 Bi
        have h2 := es_len T1 Bj
        rw [List.length_map] at h1 h2
        omega
      have k2 : Keep [b.p, b.d, lm, ld] H1 H2 := fun a o e n => but a o e (fun z => n (by rw [z]; simp)) (fun z => n (by rw [z]; simp))
      have lm2 : H2 lm = some (.lst (ls.map V.ref)) := but _ _ hlm ndlm.symm ndlm.symm
      have ld2 : H2 ld = some (.lst xs) := but _ _ hld ndld.symm ndld.symm
      have p2 : H2 b.p = some (.ins CB dxb (bf b.hand b.n b.d)) := but _ _ e1 npd npd
      have F12 : Same F1 H2 := fun a o e => but a o (S1.same _ _ e) (ne_of_none e e5) (ne_of_none e e5)
      clear but
      refine ⟨Nat.zero_le _, fun c0 hc0 => ?_⟩
      have s3 : Same H2 (upd H2 c0 (.lst [])) := (Same.refl H2).new hc0
      have c03 : upd H2 c0 (.lst []) c0 = some (.lst []) := upd_same
      generalize upd H2 c0 (.lst []) = H3 at s3 c03 ⊢
      have F13 := F12.trans s3
      have lm3 := s3 _ _ lm2
      have ld3 := s3 _ _ ld2
      refine ⟨_, rfl, sp, rfl, ⟨_, SqL.of (F13 _ _ S1.sp)⟩, for_list (K := K) (a := sp) (xs := atRefs sps) (fun n σ H' => ∃ (ca : Addr) (v12 : Option V),
          σ = [some (.ref lb), some (.ref ld), some (.ref lm), some (.ref sp), some (.int cell), some (.bl pl), some (.int way), some (.int (i : Int)), some (.int (j : Int)), some (.ref bp.1), some (.ref t), some (.ref ca), v12, none, none] ∧
          Same H3 H' ∧ H' ca = some (.lst (natV (cameL cs mj ((sps.map (·.2)).take n)))))
        ⟨c0, none, rfl, Same.refl _, c03⟩ (fun n σ H' _ ⟨_, _, _, h, _⟩ => SqL.of (h _ _ (F13 _ _ S1.sp))) ?_ ?_⟩
      · rintro n v σ H4 hn ⟨ca, v12, rfl, s4, hca⟩
        obtain ⟨q, hq, rfl⟩ := at_i hn
        have s34 : Same F1 H4 := F13.trans s4
        have hq2 : (sps.map (·.2))[n]? = some q.2 := by rw [List.getElem?_map, hq]; rfl
        refine ⟨_, rfl, _, rfl, _, rfl, _, rfl, lm, _, _, _, rfl, rfl, SqL.of (s4 _ _ lm3), hatj, _, rfl, ld, lj, q.1, xs, cs, mj, q.2, rfl, s4 _ _ ld3, hcells.mono s34, s34 _ _ flj, Bj.lt, by omega, s34 _ _ (S1.spt q (List.mem_of_getElem? hq)), fun H5 z s5 hz0 hz => ?_⟩
        refine ⟨ca, z, _, _, rfl, rfl, s5 _ _ hca, hz, ?_, fun z2 hz2 => ?_⟩
        · have h1 := came_len (cs := cs) (met := mj) (ps := (sps.map (·.2)).take n)
          have h2 := lawHeld_len cs mj q.2
          have h3 : ((sps.map (·.2)).take n).length ≤ 4 := by rw [List.length_take, List.length_map]; omega
          have h4 : ((sps.map (·.2)).take n).length * mj.length ≤ 4 * 60 := Nat.mul_le_mul h3 (by omega)
          rw [List.length_map, List.length_map, sizeLine_eq]
          omega
        · refine ⟨z2, _, rfl, (s4.trans s5).new hz2, ?_⟩
          rw [upd_same, came_more hq2, natV_add]
      · rintro σ H4 ⟨ca, v12, rfl, s4, hca⟩
        have e9 : (sps.map (·.2)).take (atRefs sps).length = sps.map (·.2) := by rw [List.length_map, ← List.length_map (f := (·.2)) (as := sps), List.take_length]
        rw [e9] at hca
        have cm := came_mem (met := mj) (es := c.es) (f := c.f) T1
        have co := came_once (cs := cs) Bj.once S1.snd
        have cl := came_len (cs := cs) (met := mj) (ps := sps.map (·.2))
        have cl2 : (cameL cs mj (sps.map (·.2))).length ≤ 4 * 60 := Nat.le_trans cl (Nat.mul_le_mul (by rw [List.length_map]; exact hs4) (by omega))
        clear cl
        generalize cameL cs mj (sps.map (·.2)) = came at hca cm co cl2
        have F14 := F13.trans s4
        have lm4 := s4 _ _ lm3
        refine ⟨_, rfl, _, rfl, lm, _, _, _, rfl, rfl, SqL.of lm4, hati, _, rfl, ca, rfl, ⟨_, SqL.of hca⟩, fun D hD => ?_⟩
        refine lc_list (K := K) (a := ca) (xs := natV came) (fun n H' => Same H4 H' ∧ H' D = some (.lst (natV ((came.take n).filter fun k => !decide (k ∈ mi)))))
          ⟨(Same.refl H4).over hD, upd_same⟩ (fun n H' _ h => SqL.of (h.1 _ _ hca)) ?_ ?_
        · rintro n v H5 hn ⟨s5, hDl⟩
          obtain ⟨a, ha, rfl⟩ := natV_at hn
          have ec : (if true = true then !inV (.int (a : Int)) (natV mi) else inV (.int (a : Int)) (natV mi)) = !decide (a ∈ mi) := by rw [if_pos rfl, inV_nat]
          refine ⟨rfl, ?_⟩
          refine ⟨_, rfl, _, rfl, _, rfl, lm, _, _, _, rfl, rfl, SqL.of (s5 _ _ lm4), hati, li, natV mi, rfl, .inl (SqL.of (s5 _ _ (F14 _ _ fli))), rfl, flat_nat mi, !decide (a ∈ mi), congrArg V.bl ec, ?_⟩
          have st := filter_step ha (fun k => !decide (k ∈ mi))
          by_cases c9 : (!decide (a ∈ mi)) = true
          · rw [if_pos c9] at st
            refine if_yes c9 ⟨_, rfl, _, hDl, ?_, s5.over hD, ?_⟩
            · rw [List.length_map]
              refine small1000 (Nat.le_trans (List.length_filter_le _ _) ?_)
              rw [List.length_take]
              omega
            · rw [upd_same, st, natV_add]
              rfl
          · rw [if_neg c9, List.append_nil] at st
            refine if_no c9 ⟨s5, ?_⟩
            rw [st]
            exact hDl
        · rintro H5 ⟨s5, hDl⟩
          have e8 : came.take (natV came).length = came := by rw [List.length_map, List.take_length]
          rw [e8] at hDl
          have nl : (came.filter fun k => !decide (k ∈ mi)).length ≤ 240 := Nat.le_trans (List.length_filter_le _ _) cl2
          have nOk := take_ok T1 Bi Bj mg cm co
          generalize (came.filter fun k => !decide (k ∈ mi)) = nw at hDl nl nOk
          have F15 := F14.trans s5
          refine ⟨li, D, _, _, rfl, rfl, F15 _ _ fli, hDl, ?_, fun z hz => ?_⟩
          · rw [List.length_map, List.length_map, sizeLine_eq]
            omega
          rw [← natV_add]
          have s6 : Same H5 (upd H5 z (.lst (natV (mi ++ nw)))) := (Same.refl H5).new hz
          have z6 : upd H5 z (.lst (natV (mi ++ nw))) z = some (.lst (natV (mi ++ nw))) := upd_same
          generalize upd H5 z (.lst (natV (mi ++ nw))) = H6 at s6 z6 ⊢
          have s26 : Same H2 H6 := ((s3.trans s4).trans s5).trans s6
          have k6 : Keep [b.p, b.d, lm, ld] H1 H6 := k2.trans (.of s26)
          have lm6 := s26 _ _ lm2
          have z0 : H1 z = none := by
            have s25 : Same H2 H5 := (s3.trans s4).trans s5
            refine k2.free2 (s25.free hz) fun hm => ?_
            have hz2 := s25.free hz
            rcases List.mem_cons.mp hm with y | hm
            · rw [y, p2] at hz2; cases hz2
            rcases List.mem_cons.mp hm with y | hm
            · rw [y, hd2] at hz2; cases hz2
            rcases List.mem_cons.mp hm with y | hm
            · rw [y, lm2] at hz2; cases hz2
            · rw [List.mem_singleton.mp hm, ld2] at hz2; cases hz2
          have zlm : z ≠ lm := fun y => by rw [y, hlm] at z0; cases z0
          refine ⟨_, rfl, _, rfl, lm, _, _, i, rfl, rfl, lm6, ixN_nat (by rw [List.length_map]; exact hil), ?_⟩
          have k7 : Keep [b.p, b.d, lm, ld] H1 (upd H6 lm (.lst ((ls.map V.ref).set i (.ref z)))) := fun a o e n => by
            rw [upd_ne (fun y => n (by rw [y]; simp))]
            exact k6 a o e n
          have but7 : ∀ a o, H2 a = some o → a ≠ lm → upd H6 lm (.lst ((ls.map V.ref).set i (.ref z))) a = some o := fun a o e n => by
            rw [upd_ne n]
            exact s26 _ _ e
          have lm7 : upd H6 lm (.lst ((ls.map V.ref).set i (.ref z))) lm = some (.lst ((ls.map V.ref).set i (.ref z))) := upd_same
          have z7 : upd H6 lm (.lst ((ls.map V.ref).set i (.ref z))) z = some (.lst (natV (mi ++ nw))) := (upd_ne zlm).trans z6
          generalize upd H6 lm (.lst ((ls.map V.ref).set i (.ref z))) = H7 at k7 but7 lm7 z7 ⊢
          have nw27 : Same (New H1 H2) (New H1 H7) := fun a o e => by
            obtain ⟨y1, y2⟩ := of_new e
            exact new_of y1 (but7 a o y2 fun q => by rw [q, hlm] at y1; cases y1)
          refine k H7 (plus F1 (New H1 H7)) _ _ cs tbl (s01.trans plus_l) (S1.step hb hm k7 (b' := ⟨b.p, b.d, b.hand, b.n, es2, g⟩) rfl rfl rfl (Int.le_refl _) ⟨dxb, but7 _ _ p2 nplm⟩ (but7 _ _ hd2 ndlm) ⟨mg.once, fun e he => ?_, fun q hq => ?_⟩ (fun q => ?_)
            (plus_new S1.same _ _ (new_of z0 z7)) (fun ls2 h2 => ?_) ⟨xs, but7 _ _ ld2 S1.lmd.symm, hcells.mono plus_l⟩ T1 nOk (fun q c' mc _ hc' hmc => S1.ok q c' mc hc' hmc) (fun _ _ h => .inl h)) (Nat.le_succ _) (List.length_set ..)
          · by_cases he2 : e.1 ∈ Pcs c.es
            · obtain ⟨l, q1, q2⟩ := mg.new e he he2
              exact ⟨l, q1, plus_new S1.same _ _ (nw27 _ _ q2)⟩
            · obtain ⟨l, q1, q2⟩ := e3.each e (mg.old e he he2)
              refine ⟨l, q1, plus_l _ _ ?_⟩
              show F1 l = some (.lst (refs (g e.1)))
              rw [mg.out e.1 he2]
              exact q2
          · have h1 : q ∉ Pcs b.es := fun y => hq ((mg.keys q).mpr (.inl y))
            have h2 : q ∉ Pcs c.es := fun y => hq ((mg.keys q).mpr (.inr y))
            show g q = []
            rw [mg.out q h2]
            exact e3.out q h1
          · show WrsAt CW (plus F1 (New H1 H7)) (g q)
            by_cases hq : q ∈ Pcs c.es
            · intro a ha
              rcases List.mem_append.mp (((mg.res q hq).mem a).mp ha).1 with y | y
              · exact (e6 q a y).mono plus_l
              · exact (c6 q a y).mono plus_l
            · rw [mg.out q hq]
              exact (e6 q).mono plus_l
          · rw [hlm] at h2
            have e7 : ls.map V.ref = ls2.map V.ref := by
              injection h2 with h2
              injection h2 with h2
            rw [← e7]
            exact lm7
    · refine if_no cc ?_
      refine fun ds hds => ?_
      have s2 : Same H1 (upd H1 ds (.dK [])) := (Same.refl H1).new hds
      have d2 : upd H1 ds (.dK []) ds = some (.dK []) := upd_same
      generalize upd H1 ds (.dK []) = H2 at s2 d2 ⊢
      have F12 : Same F1 H2 := S1.same.trans s2
      have fds : F1 ds = none := S1.same.free hds
      refine ⟨_, rfl, _, rfl, _, rfl, lm, _, _, _, rfl, rfl, SqL.of (s2 _ _ hlm), hati, _, rfl, ld, li, bp.1, xs, cs, mi, bp.2, rfl, s2 _ _ hld, hcells.mono F12, F12 _ _ fli, Bi.lt, by omega, F12 _ _ fsp, fun H3 q s3 hq0 hq => ?_⟩
      have nqd : q ≠ ds := (ne_of_none d2 hq0).symm
      have klt : ∀ k ∈ lawHeld cs mi bp.2, k < cs.length := fun k hk => held_lt Bi hk
      generalize hks : lawHeld cs mi bp.2 = ks at hq klt
      refine ⟨q, rfl, ⟨_, SqL.of hq⟩, for_list (K := K) (a := q) (xs := natV ks) (fun n σ H' => ∃ v13 : Option V,
          σ = [some (.ref lb), some (.ref ld), some (.ref lm), some (.ref sp), some (.int cell), some (.bl pl), some (.int way), some (.int (i : Int)), some (.int (j : Int)), some (.ref bp.1), some (.ref t), none, none, v13, some (.ref ds)] ∧
          (∀ a o, H3 a = some o → a ≠ ds → H' a = some o) ∧ H' ds = some (.dK (seenL cs (ks.take n))))
        ⟨none, rfl, fun a o e _ => e, s3 _ _ d2⟩ (fun n σ H' _ ⟨_, _, h, _⟩ => SqL.of (h _ _ hq nqd)) ?_ ?_⟩
      · rintro n v σ H4 hn ⟨v13, rfl, hb4, hds4⟩
        obtain ⟨a, ha, rfl⟩ := natV_at hn
        have al := klt a (List.mem_of_getElem? ha)
        have hca := List.getElem?_eq_getElem al
        generalize cs[a] = ca at hca
        obtain ⟨v, hv, T9, tq, tr, d, rfl, g1, g2, g3, g4⟩ := paired_get hcells hca
        have F14 : ∀ a o, F1 a = some o → H4 a = some o := fun a o e => hb4 a o (s3 _ _ (F12 a o e)) (ne_of_none e fds)
        have nds : ds ≠ d := (ne_of_none g4 fds).symm
        have ndT : T9 ≠ ds := ne_of_none g1 fds
        have nld : ld ≠ ds := ne_of_none hld hds
        have ld4 : H4 ld = some (.lst xs) := hb4 _ _ (s3 _ _ (s2 _ _ hld)) nld
        have sl := seenL_len T1 (ks := ks.take n) fun k hk => klt k (List.mem_of_mem_take hk)
        have cl := cseen_len T1 hca
        have pl2 := length_putK (seenL cs (ks.take n)) (.inl (a : Int)) (.bl true)
        refine ⟨_, rfl, _, rfl, ds, _, rfl, DPut.k (k := .inl (a : Int)) hds4 (small1000 (by omega)), ?_⟩
        refine ⟨_, rfl, .inr (.inr (.inl ⟨rfl, .inl ⟨_, upd_same⟩⟩)), _, rfl, _, rfl, ld, _, _, _, rfl, rfl, SqL.of ((upd_ne nld).trans ld4), atI_nat hv, T9, _, _, _, rfl, rfl, SqT.of ((upd_ne ndT).trans (F14 _ _ g1)), (by rfl), ds, d, _, _, rfl, rfl, nds, upd_same, (upd_ne nds.symm).trans (F14 _ _ g4), ?_, ?_⟩
        · rw [sizeLine_eq]
          omega
        rw [upd_upd]
        refine ⟨_, rfl, fun b o e n => by rw [upd_ne n]; exact hb4 b o e n, ?_⟩
        rw [upd_same, seenL_more ha]
        have e1 : seenAt cs a = ca.seen := by
          unfold seenAt
          rw [hca]
          rfl
        rw [e1]
      · rintro σ H4 ⟨v13, rfl, hb4, hds4⟩
        have e9 : ks.take (natV ks).length = ks := by rw [List.length_map, List.take_length]
        rw [e9] at hds4
        have s14 : Same H1 H4 := fun a o e => hb4 a o (s3 _ _ (s2 _ _ e)) (ne_of_none e hds)
        clear hb4 s3 s2
        have F14 : Same F1 H4 := S1.same.trans s14
        have amg := among_of T1 Bi (by omega) bp.2
        have esl := es_len T1 Bi
        rw [List.length_map] at esl
        refine ⟨_, rfl, _, rfl, lb, _, _, _, rfl, rfl, SqL.of (F14 _ _ flb), atb, b.p, dxb, _, rfl, s14 _ _ e1, rfl, _, rfl, bp.1, _, _, _, rfl, rfl, SqT.of (F14 _ _ fsp), (by rfl), _, rfl, bp.1, _, _, _, rfl, rfl, SqT.of (F14 _ _ fsp), (by rfl), _, rfl, t, _, _, _, rfl, rfl, SqT.of (F14 _ _ t1), (by rfl), _, rfl, t, _, _, _, rfl, rfl, SqT.of (F14 _ _ t1), (by rfl), ?_⟩
        refine ⟨b.p, dxb, b.d, b.hand, b.n, kvP b.es, bp.2.1, bp.2.2, x, y, b.f bp.2, tbl.map fun a => a.2.mark, rfl, s14 _ _ e1, s14 _ _ e2, (e3.mono fun a ys z => F14 _ _ z).list bp.2, (e6 bp.2).mono F14, amg, ?_, fun H5 l a but hp5 hd5 hl5 ha5 => ?_⟩
        · unfold kvP
          rw [List.length_map]
          omega
        have k5 : Keep [b.p, b.d, lm, ld] H1 H5 := fun a o e n => but a o (s14 a o e) (fun z => n (by rw [z]; simp)) (fun z => n (by rw [z]; simp))
        have lm5 : H5 lm = some (.lst (ls.map V.ref)) := but _ _ (s14 _ _ hlm) nplm.symm ndlm.symm
        have ld5 : H5 ld = some (.lst xs) := but _ _ (s14 _ _ hld) npld.symm ndld.symm
        have li5 : H5 li = some (.lst (natV mi)) := but _ _ (F14 _ _ fli) (ne_of_none fli e4) (ne_of_none fli e5)
        have ds5 : H5 ds = some (.dK (seenL cs ks)) := but _ _ hds4 (fun z => by rw [z, e1] at hds; cases hds) (fun z => by rw [z, e2] at hds; cases hds)
        have lxs : xs.length = cs.length := Paired.length hcells
        refine ⟨_, rfl, _, rfl, lm, _, _, _, rfl, rfl, SqL.of lm5, hati, _, rfl, ld, _, rfl, .inl (SqL.of ld5), (by show 1 ≤ sizeLine; decide), fun c hc => ?_⟩
        have s6 : Same H5 (upd H5 c (.lst [.int (xs.length : Int)])) := (Same.refl H5).new hc
        have c6 : upd H5 c (.lst [.int (xs.length : Int)]) c = some (.lst [.int (xs.length : Int)]) := upd_same
        generalize upd H5 c (.lst [.int (xs.length : Int)]) = H6 at s6 c6 ⊢
        refine ⟨li, c, _, _, rfl, rfl, s6 _ _ li5, c6, ?_, fun z hz => ?_⟩
        · rw [List.length_map, sizeLine_eq]
          show mi.length + 1 ≤ _
          omega
        have ez : natV mi ++ [.int (xs.length : Int)] = natV (mi ++ [cs.length]) := by
          rw [natV_add, lxs]
          rfl
        rw [ez]
        have s7 : Same H6 (upd H6 z (.lst (natV (mi ++ [cs.length])))) := (Same.refl H6).new hz
        have z7 : upd H6 z (.lst (natV (mi ++ [cs.length]))) z = some (.lst (natV (mi ++ [cs.length]))) := upd_same
        generalize upd H6 z (.lst (natV (mi ++ [cs.length]))) = H7 at s7 z7 ⊢
        have s57 := s6.trans s7
        have hz5 := s6.free hz
        have z0 : H1 z = none := by
          refine k5.free2 hz5 fun hm => ?_
          rcases List.mem_cons.mp hm with y | hm
          · rw [y, hp5] at hz5; cases hz5
          rcases List.mem_cons.mp hm with y | hm
          · rw [y, hd5] at hz5; cases hz5
          rcases List.mem_cons.mp hm with y | hm
          · rw [y, lm5] at hz5; cases hz5
          · rw [List.mem_singleton.mp hm, ld5] at hz5; cases hz5
        refine ⟨_, rfl, _, rfl, lm, _, _, i, rfl, rfl, s57 _ _ lm5, ixN_nat (by rw [List.length_map]; exact hil), ?_⟩
        have c8 : ∀ a o, H7 a = some o → a ≠ lm → upd H7 lm (.lst ((ls.map V.ref).set i (.ref z))) a = some o := fun a o e n => by
          rw [upd_ne n]
          exact e
        have f8 : ∀ a, upd H7 lm (.lst ((ls.map V.ref).set i (.ref z))) a = none → H7 a = none := fun a e => by
          by_cases n : a = lm
          · rw [n, upd_same] at e
            cases e
          · rw [upd_ne n] at e
            exact e
        have lm8 : upd H7 lm (.lst ((ls.map V.ref).set i (.ref z))) lm = some (.lst ((ls.map V.ref).set i (.ref z))) := upd_same
        generalize upd H7 lm (.lst ((ls.map V.ref).set i (.ref z))) = H8 at c8 f8 lm8 ⊢
        have ld8 : H8 ld = some (.lst xs) := c8 _ _ (s57 _ _ ld5) S1.lmd.symm
        refine ⟨_, rfl, .inl ⟨rfl, _, SqL.of ld8⟩, _, rfl, _, rfl, _, rfl, (by show 3 ≤ sizeLine; decide), fun T2 hT2 => ?_⟩
        have hT7 := f8 _ hT2
        have s9 : Same H8 (upd H8 T2 (.tup [.ref bp.1, .ref t, .ref ds])) := (Same.refl H8).new hT2
        have T29 : upd H8 T2 (.tup [.ref bp.1, .ref t, .ref ds]) T2 = some (.tup [.ref bp.1, .ref t, .ref ds]) := upd_same
        generalize upd H8 T2 (.tup [.ref bp.1, .ref t, .ref ds]) = H9 at s9 T29 ⊢
        refine ⟨ld, xs, _, rfl, rfl, s9 _ _ ld8, small1000 (by omega), ?_⟩
        have chg : ∀ a o, H5 a = some o → a ≠ lm → a ≠ ld → upd H9 ld (.lst (xs ++ [.ref T2])) a = some o := fun a o e n1 n2 => by
          rw [upd_ne n2]
          exact s9 _ _ (c8 _ _ (s57 _ _ e) n1)
        have zlm : z ≠ lm := fun y => by rw [y, hlm] at z0; cases z0
        have zld : z ≠ ld := fun y => by rw [y, hld] at z0; cases z0
        have z10 : upd H9 ld (.lst (xs ++ [.ref T2])) z = some (.lst (natV (mi ++ [cs.length]))) := by
          rw [upd_ne zld]
          exact s9 _ _ (c8 _ _ z7 zlm)
        have lm10 : upd H9 ld (.lst (xs ++ [.ref T2])) lm = some (.lst ((ls.map V.ref).set i (.ref z))) := by
          rw [upd_ne S1.lmd]
          exact s9 _ _ lm8
        have ld10 : upd H9 ld (.lst (xs ++ [.ref T2])) ld = some (.lst (xs ++ [.ref T2])) := upd_same
        have hT5 := s57.free hT7
        have T20 : H1 T2 = none := by
          refine k5.free2 hT5 fun hm => ?_
          rcases List.mem_cons.mp hm with y | hm
          · rw [y, hp5] at hT5; cases hT5
          rcases List.mem_cons.mp hm with y | hm
          · rw [y, hd5] at hT5; cases hT5
          rcases List.mem_cons.mp hm with y | hm
          · rw [y, lm5] at hT5; cases hT5
          · rw [List.mem_singleton.mp hm, ld5] at hT5; cases hT5
        have T210 : upd H9 ld (.lst (xs ++ [.ref T2])) T2 = some (.tup [.ref bp.1, .ref t, .ref ds]) := by
          rw [upd_ne (fun y => by rw [y, hld] at T20; cases T20)]
          exact T29
        generalize upd H9 ld (.lst (xs ++ [.ref T2])) = H10 at chg z10 lm10 ld10 T210 ⊢
        have k10 : Keep [b.p, b.d, lm, ld] H1 H10 := fun a o e n => chg a o (k5 a o e n) (fun z => n (by rw [z]; simp)) (fun z => n (by rw [z]; simp))
        have nw : Same (New H4 H5) (New H1 H10) := fun a o e => by
          obtain ⟨y1, y2⟩ := of_new e
          have y3 := s14.free y1
          exact new_of y3 (chg a o y2 (fun q => by rw [q, hlm] at y3; cases y3) (fun q => by rw [q, hld] at y3; cases y3))
        have pn := plus_new S1.same (H' := H10)
        have W9 : Newest cs tbl (sps.map (·.2)) mi b.f ⟨bp.2, (x, y), seenL cs ks⟩ (a, ⟨[.inr b.hand, .inl (b.n + 1)], x, y, seenM (b.f bp.2)⟩) := by
          refine ⟨List.mem_map.mpr ⟨bp, hbp, rfl⟩, by rw [hks], rfl, rfl, fun k a2 hk e => ?_⟩
          obtain ⟨q, c2, n, hq2, e7, hn⟩ := S1.mark k a2 hk
          rw [e7] at e
          have e : ([.inr c2.hand, .inl n] : List Key) = [.inr b.hand, .inl (b.n + 1)] := e
          injection e with h1 h2
          injection h1 with h1
          injection h2 with h2
          injection h2 with h2
          have := S1.hinj q i c2 b hq2 hb h1
          subst this
          rw [hb] at hq2
          cases hq2
          omega
        have step := S1.step hb hm k10 (b' := ⟨b.p, b.d, b.hand, b.n + 1, putK b.es bp.2 (.ref l), fun q => if q = bp.2 then [(a, ⟨[.inr b.hand, .inl (b.n + 1)], x, y, seenM (b.f bp.2)⟩)] else b.f q⟩) rfl rfl rfl (by show b.n ≤ b.n + 1; omega)
          ⟨dxb, chg _ _ hp5 nplm npld⟩ (by rw [← put_kvP]; exact chg _ _ hd5 ndlm ndld) ⟨once_put _ _ Bi.eonce, fun e he => ?_, fun q hq => ?_⟩ (fun q => ?_) (pn _ _ (new_of z0 z10)) (fun ls2 h2 => ?_)
          ⟨_, ld10, paired_snoc (hcells.mono plus_l) ⟨T2, bp.1, t, ds, rfl, pn _ _ (new_of T20 T210), plus_l _ _ fsp, plus_l _ _ t1, pn _ _ (new_of hds (chg _ _ ds5 (fun y => by rw [y, hlm] at hds; cases hds) (fun y => by rw [y, hld] at hds; cases hds)))⟩⟩
          (write_tab T1 Bi W9) (write_bk T1 Bi W9 (.ref l)) (fun q c' mc _ hc' hmc => write_other T1 (S1.ok q c' mc hc' hmc)) (fun k a2 hk => ?_)
        · exact k H10 _ _ _ _ _ (s01.trans plus_l) step (by rw [List.length_append]; exact Nat.le_refl _) (List.length_set ..)
        · rcases mem_put Bi.eonce he with y1 | ⟨y1, y2⟩
          · refine ⟨l, by rw [y1], ?_⟩
            rw [y1]
            show plus F1 (New H1 H10) l = some (.lst (refs (if bp.2 = bp.2 then _ else _)))
            rw [if_pos rfl]
            exact pn _ _ (nw _ _ hl5)
          · obtain ⟨l9, q1, q2⟩ := e3.each e y1
            refine ⟨l9, q1, plus_l _ _ ?_⟩
            show F1 l9 = some (.lst (refs (if e.1 = bp.2 then _ else _)))
            rw [if_neg y2]
            exact q2
        · have h0 : q ∈ Pcs (putK b.es bp.2 (.ref l)) ↔ q = bp.2 ∨ q ∈ Pcs b.es := has_put
          show (if q = bp.2 then _ else _) = _
          rw [if_neg fun y => hq (h0.mpr (.inl y))]
          exact e3.out q fun y => hq (h0.mpr (.inr y))
        · show WrsAt CW (plus F1 (New H1 H10)) (if q = bp.2 then _ else _)
          by_cases hq : q = bp.2
          · rw [if_pos hq]
            intro p hp
            rw [List.mem_singleton.mp hp]
            exact (ha5.mono nw).mono pn
          · rw [if_neg hq]
            exact (e6 q).mono plus_l
        · rw [hlm] at h2
          have e7 : ls.map V.ref = ls2.map V.ref := by
            injection h2 with h2
            injection h2 with h2
          rw [← e7]
          exact lm10
        · rcases snoc_at hk with ⟨_, y⟩ | ⟨_, y⟩
          · exact .inl y
          · rw [y]
            exact .inr rfl
end
end K82

set_option Elab.async false
set_option linter.all false
set_option maxRecDepth 100000
set_option maxHeartbeats 4000000
namespace K82
open PySem PySem.Spec PyProof.Rows L2

theorem cutV_take (xs : List V) (j : Nat) : cutV xs none (some (j : Int)) = xs.take j := by
  unfold cutV
  rw [HT.sIx_none, HT.sIx_nat, List.drop_zero, Nat.sub_zero]
  by_cases h : j ≤ xs.length
  · rw [Nat.min_eq_left h]
  · rw [Nat.min_eq_right (by omega), List.take_length, List.take_of_length_le (by omega)]
theorem cutV_mem {xs : List V} {lo hi : Option Int} {v : V} (h : v ∈ cutV xs lo hi) : v ∈ xs := List.mem_of_mem_drop (List.mem_of_mem_take h)
theorem cutV_39 (xs : List V) : (cutV xs (some 3) (some 39)).length ≤ 36 := by
  unfold cutV
  have e1 : HT.sIx xs.length 0 (some 3) = min 3 xs.length := HT.sIx_nat xs.length 0 3
  have e2 : HT.sIx xs.length xs.length (some 39) = min 39 xs.length := HT.sIx_nat xs.length xs.length 39
  rw [e1, e2, List.length_take, List.length_drop]
  omega
def hide (mt : List Addr) (H : Hp) : Hp := fun b => if b ∈ mt then none else H b
theorem hide_same {mt : List Addr} {H : Hp} : Same (hide mt H) H := fun b o e => by
  unfold hide at e
  split at e
  · cases e
  · exact e
theorem hide_out {mt : List Addr} {H : Hp} {b : Addr} (h : b ∉ mt) : hide mt H b = H b := if_neg h
theorem hide_in {mt : List Addr} {H : Hp} {b : Addr} (h : b ∈ mt) : hide mt H b = none := if_pos h
theorem tab_nil {ps : List Pr} : Tab [] [] ps where
  len := rfl
  pair := fun k a c h _ => by cases h
  inj := fun j k a b h _ _ => by cases h
  seen := fun j a h => by cases h
  key := fun j a h => by cases h
  low := fun j k h => by obtain ⟨c, e, _⟩ := seenBy_iff.mp h; cases e
  pc := fun j k h => by obtain ⟨c, e, _⟩ := seenBy_iff.mp h; cases e
  tr := fun i j k h => by obtain ⟨c, e, _⟩ := seenBy_iff.mp h; cases e
  spot := fun k c h => by cases h
  ckey := fun j c h => by cases h
  conce := fun j c h => by cases h
  aonce := fun j a h => by cases h
theorem bk_nil : BkOk [] [] [] [] (fun _ => []) where
  once := List.nodup_nil
  lt := fun k h => absurd h List.not_mem_nil
  mem := fun p a => ⟨fun h => absurd h List.not_mem_nil, fun ⟨k, h, _⟩ => absurd (lawHeld_mem h) List.not_mem_nil⟩
  keys := fun p => ⟨fun h => absurd h List.not_mem_nil, fun h => absurd rfl h⟩
  eonce := List.nodup_nil
  nd := fun p => List.nodup_nil
theorem map_ix {α β : Type} {g : α → β} {l : List α} (h : (l.map g).Nodup) {i j : Nat} {a b : α} (ha : l[i]? = some a) (hb : l[j]? = some b) (e : g a = g b) : i = j := by
  have h1 : (l.map g)[i]? = some (g a) := by rw [List.getElem?_map, ha]; rfl
  have h2 : (l.map g)[j]? = some (g b) := by rw [List.getElem?_map, hb]; rfl
  rw [← e] at h2
  exact nd_ix h h1 h2
/-- a new book -/
structure NewBk (CB : Addr) (H : Hp) (b : Bk) : Prop where
  n : b.n = 0
  es : b.es = []
  f : b.f = fun _ => []
  ins : ∃ dx, H b.p = some (.ins CB dx (bf b.hand 0 b.d))
  dict : H b.d = some (.dT [])
theorem hs_start {CB CW : Addr} {H : Hp} {lb ld lm sp : Addr} {bks : List Bk} {ls : List Addr} {sps : List At} (hb : ∀ b ∈ bks, NewBk CB H b) (np : (bks.map Bk.p).Nodup) (nd : (bks.map Bk.d).Nodup) (nh : (bks.map Bk.hand).Nodup)
    (hlb : H lb = some (.lst (bks.map fun b => V.ref b.p))) (hsp : H sp = some (.lst (atRefs sps))) (hst : ∀ b ∈ sps, H b.1 = some (.tup [.str b.2.1, .str b.2.2])) (hsn : (sps.map (·.2)).Nodup) (s1 : 1 ≤ sps.length) (s4 : sps.length ≤ 4)
    (hlm : H lm = some (.lst (ls.map V.ref))) (hls : ∀ l ∈ ls, H l = some (.lst []) ∧ l ≠ lm ∧ l ≠ ld) (hld : H ld = some (.lst [])) (n1 : lb ≠ lm) (n2 : lb ≠ ld) (n3 : sp ≠ lm) (n4 : sp ≠ ld) (n5 : lm ≠ ld) (hl : bks.length = ls.length) (b2 : 2 ≤ bks.length) (b5 : bks.length ≤ 5) :
    HS CB CW (hide (bks.map Bk.p ++ bks.map Bk.d ++ [lm, ld]) H) H lb ld lm sp bks (ls.map fun _ => []) [] [] sps ∧ ∀ a o, H a = some o → (∀ xs, o = .lst xs → a ≠ lm ∧ a ≠ ld) → (∀ C dx fs, o ≠ .ins C dx fs) → (∀ kvs, o ≠ .dT kvs) → hide (bks.map Bk.p ++ bks.map Bk.d ++ [lm, ld]) H a = some o := by
  have out : ∀ a o, H a = some o → (∀ xs, o = .lst xs → a ≠ lm ∧ a ≠ ld) → (∀ C dx fs, o ≠ .ins C dx fs) → (∀ kvs, o ≠ .dT kvs) → hide (bks.map Bk.p ++ bks.map Bk.d ++ [lm, ld]) H a = some o := fun a o e h1 h2 h3 => by
    rw [hide_out, e]
    intro hm
    rcases List.mem_append.mp hm with hm | hm
    · rcases List.mem_append.mp hm with hm | hm
      · obtain ⟨b, hbm, rfl⟩ := List.mem_map.mp hm
        obtain ⟨dx, q⟩ := (hb b hbm).ins
        rw [q] at e
        exact h2 _ _ _ (Option.some.inj e).symm
      · obtain ⟨b, hbm, rfl⟩ := List.mem_map.mp hm
        have q := (hb b hbm).dict
        rw [q] at e
        exact h3 _ (Option.some.inj e).symm
    · rcases List.mem_cons.mp hm with z | hm
      · rw [z, hlm] at e
        exact (h1 _ (Option.some.inj e).symm).1 z
      · have z := List.mem_singleton.mp hm
        rw [z, hld] at e
        exact (h1 _ (Option.some.inj e).symm).2 z
  have outL : ∀ a xs, H a = some (.lst xs) → a ≠ lm → a ≠ ld → hide (bks.map Bk.p ++ bks.map Bk.d ++ [lm, ld]) H a = some (.lst xs) := fun a xs e h1 h2 => out a _ e (fun _ _ => ⟨h1, h2⟩) (fun _ _ _ z => nomatch z) (fun _ z => nomatch z)
  have outT : ∀ a xs, H a = some (.tup xs) → hide (bks.map Bk.p ++ bks.map Bk.d ++ [lm, ld]) H a = some (.tup xs) := fun a xs e => out a _ e (fun _ z => nomatch z) (fun _ _ _ z => nomatch z) (fun _ z => nomatch z)
  refine ⟨{
    same := hide_same
    full := fun a ys e => outT a ys e
    lb := outL lb _ hlb n1 n2
    sp := outL sp _ hsp n3 n4
    spt := fun b hb => outT _ _ (hst b hb)
    snd := hsn
    s1 := s1
    s4 := s4
    bk := fun i b hi => ?_
    pinj := fun i j b c hi hj e => map_ix np hi hj e
    dinj := fun i j b c hi hj e => map_ix nd hi hj e
    hinj := fun i j b c hi hj e => map_ix nh hi hj e
    lmx := ⟨ls, hlm, ?_⟩
    ldx := ⟨[], hld, .nil⟩
    flm := hide_in (by simp)
    fld := hide_in (by simp)
    lmd := n5
    blen := by rw [List.length_map]; exact hl
    b2 := b2
    b5 := b5
    tab := tab_nil
    ok := fun i b m hi hm => ?_
    mark := fun k a h => by cases h }, out⟩
  · have hbm := List.mem_of_getElem? hi
    obtain ⟨h1, h2, h3, h4, h5⟩ := hb b hbm
    refine ⟨by rw [h1]; exact h4, by rw [h2]; exact h5, ?_, ?_, ?_, fun q => ?_⟩
    · rw [h2, h3]
      exact ⟨List.nodup_nil, fun e he => absurd he List.not_mem_nil, fun _ _ => rfl⟩
    · exact hide_in (List.mem_append_left _ (List.mem_append_left _ (List.mem_map.mpr ⟨b, hbm, rfl⟩)))
    · exact hide_in (List.mem_append_left _ (List.mem_append_right _ (List.mem_map.mpr ⟨b, hbm, rfl⟩)))
    · rw [h3]
      exact fun a ha => absurd ha List.not_mem_nil
  · have key : ∀ l : List Addr, (∀ a ∈ l, H a = some (.lst []) ∧ a ≠ lm ∧ a ≠ ld) → Paired (fun a m => hide (bks.map Bk.p ++ bks.map Bk.d ++ [lm, ld]) H a = some (.lst (natV m))) l (l.map fun _ => []) := by
      intro l
      induction l with
      | nil => exact fun _ => .nil
      | cons a l ih =>
        intro h
        obtain ⟨h1, h2, h3⟩ := h a List.mem_cons_self
        exact .cons (outL a _ h1 h2 h3) (ih fun b hb => h b (List.mem_cons_of_mem _ hb))
    exact key ls hls
  · obtain ⟨h1, h2, h3, h4, h5⟩ := hb b (List.mem_of_getElem? hi)
    have em : m = [] := by
      rw [List.getElem?_map] at hm
      obtain ⟨_, _, rfl⟩ := Option.map_eq_some_iff.mp hm
      rfl
    rw [h2, h3, em]
    exact bk_nil
/-- what a look needs -/
theorem HS.looks {CB CW : Addr} {F H : Hp} {lb ld lm sp : Addr} {bks : List Bk} {mets : List (List Nat)} {cs : List Cell} {tbl : List AW} {sps : List At} (S : HS CB CW F H lb ld lm sp bks mets cs tbl sps) (hc : cs.length < 60) {ix : Int} (h0 : 0 ≤ ix) (h1 : ix < bks.length) :
    ∃ (b : Bk) (l : Addr) (ls : List Addr) (m : List Nat), atI (bks.map fun b => V.ref b.p) ix = some (.ref b.p) ∧ H lm = some (.lst (ls.map V.ref)) ∧ atI (ls.map V.ref) ix = some (.ref l) ∧
      NotedAt F H ld l cs m ∧ BookAt CB H b.p b.d b.hand b.n b.es b.f ∧ (∀ q, WrsAt CW H (b.f q) ∧ (b.f q).length < 64) ∧ b.es.length ≤ 100 ∧ Agree cs m b.es b.f (sps.map (·.2)) := by
  obtain ⟨i, rfl⟩ := Int.eq_ofNat_of_zero_le h0
  have il : i < bks.length := by omega
  have hb := List.getElem?_eq_getElem il
  generalize bks[i] = b at hb
  have bl := S.blen
  have hm := List.getElem?_eq_getElem (show i < mets.length by omega)
  generalize mets[i] = m at hm
  obtain ⟨ls, hlm, hls⟩ := S.lmx
  obtain ⟨l, hl, fl⟩ := paired_get hls hm
  have B := S.ok i b m hb hm
  have A := S.bk i b hb
  have tl := S.tab.len
  refine ⟨b, l, ls, m, refs_at2 (g := Bk.p) hb, hlm, atI_nat (by rw [List.getElem?_map, hl]; rfl), S.noted hc hb hm fl, A.book S.same, fun q => ⟨(A.wr q).mono S.same, ?_⟩, ?_, agree_of S.tab B⟩
  · have := held_len S.tab B q
    omega
  · have h1 := es_len S.tab B
    have h2 := S.s4
    rw [List.length_map] at h1
    omega
end K82

set_option Elab.async false
set_option linter.all false
set_option maxRecDepth 100000
set_option maxHeartbeats 4000000
namespace K82
open PySem PySem.Spec PyProof.Rows L2

theorem sqT_mono {K : PySem.W.Frag} {H H' : Hp} {a : Addr} {xs : List V} (e : Same H H') (h : SqT K H a xs) : SqT K H' a xs := by
  rcases h with (h | ⟨o, h⟩) | h
  · exact .inl (.inl (e _ _ h))
  · exact .inl (.inr ⟨o, e _ _ h⟩)
  · exact .inr h
mutual
theorem Dp.mono {K : PySem.W.Frag} {H H' : Hp} (s : Same H H') : ∀ {v : V} {d : PyData}, Dp K H v d → Dp K H' v d
  | _, _, .non => .non
  | _, _, .bl b => .bl b
  | _, _, .int i => .int i
  | _, _, .str x => .str x
  | _, _, .lst h a => .lst (s.seq h) (DpAll.mono s a)
  | _, _, .tup h a => .tup (sqT_mono s h) (DpAll.mono s a)
theorem DpAll.mono {K : PySem.W.Frag} {H H' : Hp} (s : Same H H') : ∀ {vs : List V} {ds : List PyData}, DpAll K H vs ds → DpAll K H' vs ds
  | _, _, .nil => .nil
  | _, _, .cons a b => .cons (Dp.mono s a) (DpAll.mono s b)
end
/-- two that are alike, kept -/
def KeptAt (K : PySem.W.Frag) (G : Hp) (v : V) : Prop := ∃ (t a b : Addr) (d : PyData), v = .ref t ∧ G t = some (.tup [.ref a, .ref b]) ∧ Dp K G (.ref a) d ∧ Dp K G (.ref b) d ∧ d.plain = true ∧ d.depth ≤ 64
theorem KeptAt.mono {K : PySem.W.Frag} {G G' : Hp} {v : V} (h : KeptAt K G v) (s : Same G G') : KeptAt K G' v :=
  let ⟨t, a, b, d, e, h1, h2, h3, h4, h5⟩ := h
  ⟨t, a, b, d, e, s _ _ h1, Dp.mono s h2, Dp.mono s h3, h4, h5⟩
/-! ## law -/
def spLaw (K : PySem.W.Frag) : Sp := fun vs H Q _ => ∃ (a : Addr) (ns : List Int), vs = [.ref a] ∧ SqL K H a (ns.map V.int) ∧ ns.length ≤ 63 ∧ ∀ H', Q (.bl true) H'
abbrev nLaw : List Str := ["_law_script", "_law_shape", "_law_hands", "_law_names", "_law_spots", "_law_books", "_law_done", "_law_met", "_law_kept", "_law_cell", "_law_at", "_law_told_here", "_law_row", "_law_hand", "_law_one", "_law_other"]
theorem scLaw : FnScope nLaw ["_law_script"] (defScope sLaw) := ⟨rfl, rfl, rfl, by decide +kernel, rfl, by decide +kernel, by decide +kernel⟩
section
variable {P : Program} {w : World} {K : PySem.W.Frag} {mg : Str → Option Value} {base : Heap}
theorem ok_law {f CB CW fC fSo fB fD fL : Addr} {fd fdC fdSo fdB fdD fdL : FuncData} (F : Fun K "law" "law" sLaw f fd) (T : TxtB K mg CB) (mLen : mg "len" = none) (mRange : mg "range" = none)
    (GC : FnOk P w K mg base CX0 1 fC fdC ["_law_script", "_law_k"] (spCellAt K)) (kC : PySem.W.keepIn K (.ref fC) = true) (bC : Binds K fdC ["_law_script", "_law_k"] []) (gC : mg "_law_cell_at" = some (.ref fC))
    (GS : FnOk P w K mg base CX0 1 fSo fdSo ["_law_cell", "_law_many"] spSome) (kS : PySem.W.keepIn K (.ref fSo) = true) (bS : Binds K fdSo ["_law_cell", "_law_many"] []) (gS : mg "_law_some_words" = some (.ref fSo))
    (MB : Mk K CB fB) (GB : FnOk P w K mg base CX0 1 fB fdB ["self", "hand"] (spBInit CB)) (bB : Binds K fdB ["self", "hand"] [])
    (GD : FnOk P w K mg base CX0 4 fD fdD ["_law_books", "_law_done", "_law_met", "_law_spots", "_law_cell", "_law_plain"] (spDeed CB CW)) (kD : PySem.W.keepIn K (.ref fD) = true) (bD : Binds K fdD ["_law_books", "_law_done", "_law_met", "_law_spots", "_law_cell", "_law_plain"] []) (gD : mg "_law_deed" = some (.ref fD))
    (GL : FnOk P w K mg base CX0 5 fL fdL ["_law_book", "_law_done", "_law_met", "_law_spots", "_law_cell"] (spLooks CB CW)) (kL : PySem.W.keepIn K (.ref fL) = true) (bL : Binds K fdL ["_law_book", "_law_done", "_law_met", "_law_spots", "_law_cell"] []) (gL : mg "_law_looks" = some (.ref fL)) :
    FnOk P w K mg base CX0 6 f fd ["_law_script"] (spLaw K) := by
  refine F.ok scLaw (fun vs H Q E h => ?_) (fun cdv A outer s H vs Q E hr h => ?_)
  · obtain ⟨a, ns, rfl, _⟩ := h
    rfl
  · obtain ⟨a, ns, rfl, ha, hn, k⟩ := h
    have hu := hu_of hr
    have hr1 : Room 1 _ := hr.mono (by decide)
    have hr2 : Room (1 + 1) _ := hr.mono (by decide)
    have hr4 : Room 4 _ := hr.mono (by decide)
    refine ⟨_, pss_cons (ps_set (i := 1) scLaw.nd rfl (Or.inl rfl) (pe_call GC hr1 rfl gC kC bC .nil pass0 (pa_cons (pv 0) (pa_cons pe_int pa_nil))))
      (pss_cons (ps_set (i := 2) scLaw.nd rfl (Or.inl rfl) (pe_call GS hr1 rfl gS kS bS .nil pass0 (pa_cons (pe_call GC hr1 rfl gC kC bC .nil pass0 (pa_cons (pv 0) (pa_cons pe_int pa_nil))) (pa_cons (pe_op op_add pe_int (pe_op op_mod (pv 1) pe_int)) pa_nil))))
      (pss_cons (ps_set (i := 3) scLaw.nd rfl (Or.inl rfl) (pe_call GS hr1 rfl gS kS bS .nil pass0 (pa_cons (pe_call GC hr1 rfl gC kC bC .nil pass0 (pa_cons (pv 0) (pa_cons pe_int pa_nil))) (pa_cons pe_int pa_nil))))
      (pss_cons (ps_set (i := 4) scLaw.nd rfl (Or.inl rfl) (pe_lst (pa_cons (pe_tup (pa_cons (pe_ix ix_list (pv 3) pe_int (fun _ _ => rfl)) (pa_cons (pe_ix ix_list (pv 3) pe_int (fun _ _ => rfl)) pa_nil)))
        (pa_cons (pe_tup (pa_cons (pe_ix ix_list (pv 3) pe_int (fun _ _ => rfl)) (pa_cons (pe_ix ix_list (pv 3) pe_int (fun _ _ => rfl)) pa_nil)))
        (pa_cons (pe_tup (pa_cons (pe_ix ix_list (pv 3) pe_int (fun _ _ => rfl)) (pa_cons (pe_ix ix_list (pv 3) pe_int (fun _ _ => rfl)) pa_nil)))
        (pa_cons (pe_tup (pa_cons (pe_ix ix_list (pv 3) pe_int (fun _ _ => rfl)) (pa_cons (pe_ix ix_list (pv 3) pe_int (fun _ _ => rfl)) pa_nil))) pa_nil))))))
      (pss_cons (ps_set (i := 4) scLaw.nd rfl (Or.inl rfl) (pe_slice sl_list (pv 4) po_none (po_some (pe_op op_add pe_int (pe_op op_mod (pe_op op_fdiv (pv 1) pe_int) pe_int)))))
      (pss_cons (ps_setLc (i := 5) (own := [("_law_hand", 13)]) (g := gName 13) (tt := tYes) (te := tMake CB (spBInit CB) [] E0 (tCons (tVar 13) tNil)) (by rfl) scLaw.nd rfl rfl (sw_true rfl rfl rfl (by decide +kernel)) (pi_list (pv 2))
          (blkOk_by (own := [("_law_hand", 13)]) (N := nLaw) (sc := defScope sLaw) (by decide +kernel)) (fun _ _ _ _ _ => pg_name (i := 13) scLaw.nd rfl (Or.inl rfl)) (fun _ _ _ _ _ => pts_nil)
          (fun _ _ _ _ _ => by exact pe_make MB GB hr2 rfl T.mg bB .nil pass0 (pa_cons (pv 13) pa_nil)))
      (pss_cons (ps_set (i := 6) scLaw.nd rfl (Or.inl rfl) (pe_lst pa_nil))
      (pss_cons (ps_setLc (i := 7) (own := [("_law_hand", 13)]) (g := gName 13) (tt := tYes) (te := tLst tNil) (by rfl) scLaw.nd rfl rfl (sw_true rfl rfl rfl (by decide +kernel)) (pi_list (pv 2))
          (blkOk_by (own := [("_law_hand", 13)]) (N := nLaw) (sc := defScope sLaw) (by decide +kernel)) (fun _ _ _ _ _ => pg_name (i := 13) scLaw.nd rfl (Or.inl rfl)) (fun _ _ _ _ _ => pts_nil)
          (fun _ _ _ _ _ => by exact pe_lst pa_nil))
      (pss_cons (ps_set (i := 8) scLaw.nd rfl (Or.inl rfl) (pe_lst pa_nil))
      (pss_cons (ps_for PassesOwn.never rfl (pi_list (pe_slice sl_list (pv 0) (po_some pe_int) (po_some pe_int))) (pg_name (i := 9) scLaw.nd rfl (Or.inl rfl))
        (pss_cons (ps_expr (pe_call GD hr4 rfl gD kD bD .nil pass0 (pa_cons (pv 5) (pa_cons (pv 6) (pa_cons (pv 7) (pa_cons (pv 4) (pa_cons (pv 9) (pa_cons (pe_cmpR op_eq (pe_op op_mod (pe_op op_fdiv (pv 1) pe_int) pe_int) pe_int (nomark _)) pa_nil))))))))
        (pss_cons (ps_set (i := 10) scLaw.nd rfl (Or.inl rfl) (pe_op op_mod (pe_op op_fdiv (pv 9) pe_int) (pe_callB call_len_seq (by rfl) mLen PySem.boot_len (pa_cons (pv 5) pa_nil))))
        (pss_cons (ps_set (i := 11) scLaw.nd rfl (Or.inl rfl) (pe_call GL hr rfl gL kL bL .nil pass0 (pa_cons (pe_ix ix_list (pv 5) (pv 10) (fun _ _ => rfl)) (pa_cons (pv 6) (pa_cons (pe_ix ix_list (pv 7) (pv 10) (fun _ _ => rfl)) (pa_cons (pv 4) (pa_cons (pe_op op_fdiv (pv 9) pe_int) pa_nil)))))))
        (pss_cons (ps_if (pt_cmpR op_isN (pv 11) pe_non (nomark _)) (pss_one (ps_ret pe_bl)) pss_nil)
        (pss_one (ps_set (i := 8) scLaw.nd rfl (Or.inl rfl) (pe_op op_cat (pv 8) (pv 11)))))))))
      (pss_cons (ps_for PassesOwn.never rfl (pi_range1 (by exact rfl) mRange (pa_cons (pe_callB call_len_seq (by rfl) mLen PySem.boot_len (pa_cons (pv 5) pa_nil)) pa_nil)) (pg_name (i := 10) scLaw.nd rfl (Or.inl rfl))
        (pss_cons (ps_set (i := 11) scLaw.nd rfl (Or.inl rfl) (pe_call GL hr rfl gL kL bL .nil pass0 (pa_cons (pe_ix ix_list (pv 5) (pv 10) (fun _ _ => rfl)) (pa_cons (pv 6) (pa_cons (pe_ix ix_list (pv 7) (pv 10) (fun _ _ => rfl)) (pa_cons (pv 4) (pa_cons (pe_op op_fdiv (pv 1) pe_int) pa_nil)))))))
        (pss_cons (ps_if (pt_cmpR op_isN (pv 11) pe_non (nomark _)) (pss_one (ps_ret pe_bl)) pss_nil)
        (pss_cons (ps_for PassesOwn.never rfl (pi_list (pe_ix ix_tup (pe_ix ix_list (pv 11) pe_int (fun _ _ => rfl)) pe_int (fun _ _ => rfl))) (pg_name (i := 12) scLaw.nd rfl (Or.inl rfl))
          (pss_one (ps_expr (pe_bm PySem.F.plainAttrs_list PySem.F.slot_list_append PySem.F.type_list_append mt_append (pe_ix ix_tup (pv 12) pe_int (fun _ _ => rfl)) (pa_cons (pe_tup (pa_cons pe_str (pa_cons pe_str pa_nil))) pa_nil)))))
        (pss_cons (ps_expr (pe_bm PySem.F.plainAttrs_list PySem.F.slot_list_append PySem.F.type_list_append mt_append (pe_ix ix_tup (pe_ix ix_list (pv 11) pe_int (fun _ _ => rfl)) pe_int (fun _ _ => rfl)) (pa_cons pe_int pa_nil)))
        (pss_cons (ps_expr (pe_bm PySem.F.plainAttrs_list PySem.F.slot_list_append PySem.F.type_list_append mt_append (pe_ix ix_tup (pe_ix ix_list (pv 11) pe_int (fun _ _ => rfl)) pe_int (fun _ _ => rfl)) (pa_cons pe_int pa_nil)))
        (pss_one (ps_if (pt_cmpR op_isN (pe_call GL hr rfl gL kL bL .nil pass0 (pa_cons (pe_ix ix_list (pv 5) (pv 10) (fun _ _ => rfl)) (pa_cons (pv 6) (pa_cons (pe_ix ix_list (pv 7) (pv 10) (fun _ _ => rfl)) (pa_cons (pv 4) (pa_cons (pe_op op_fdiv (pv 1) pe_int) pa_nil)))))) pe_non (nomark _)) (pss_one (ps_ret pe_bl)) pss_nil))))))))
      (pss_one (ps_ret (pe_cmpR (op_eqP hr.units) (pe_lc (own := [("_law_one", 14), ("_law_other", 15)]) (g := gTup K 2 (gCons (gName 14) (gCons (gName 15) gNil))) (tt := tTest (tOp (rNeP K) (tVar 14) (tVar 15))) (te := tVar 14) rfl scLaw.nd (pi_list (pv 8))
          (blkOk_by (own := [("_law_one", 14), ("_law_other", 15)]) (N := nLaw) (sc := defScope sLaw) (by decide +kernel)) (fun _ _ _ _ _ => by exact pg_tup rfl (pgs_cons (pg_name (i := 14) scLaw.nd rfl (Or.inl rfl)) (pgs_cons (pg_name (i := 15) scLaw.nd rfl (Or.inl rfl)) pgs_nil)))
          (fun _ _ _ _ _ => by exact pts_one (pt_cmpR (op_neP hr.units) (pv 14) (pv 15) (nomark _))) (fun _ _ _ _ _ => by exact pv 14)) (pe_lst pa_nil) (nomark _)))))))))))))), ?_⟩
    refine ⟨_, rfl, a, ns, 0, rfl, ha, fun z0 => ?_⟩
    have em : (((2 + z0 % 4).toNat : Nat) : Int) = 2 + z0 % 4 := Int.toNat_of_nonneg (by have := Int.emod_nonneg z0 (show (4 : Int) ≠ 0 by decide); omega)
    have em2 := Int.emod_nonneg z0 (show (4 : Int) ≠ 0 by decide)
    have em3 := Int.emod_lt_of_pos z0 (show (0 : Int) < 4 by decide)
    generalize hmm : (2 + z0 % 4).toNat = mm at em
    refine ⟨_, rfl, a, ns, 1, rfl, ha, fun z1 => ?_⟩
    refine ⟨_, rfl, _, _, rfl, rfl, (by show (0 : Int) < 4; decide), _, _, rfl, rfl, z1, mm, (by rw [em]; rfl), by omega, fun H1 hp ws s1 hp0 hp1 hpl hpn => ?_⟩
    refine ⟨_, rfl, a, ns, 2, rfl, s1.seq ha, fun z2 => ?_⟩
    refine ⟨z2, 4, rfl, by omega, fun H2 np nws s2 np0 np1 npl npn => ?_⟩
    match nws, npl with
    | [w0, w1, w2, w3], _ =>
    have np2 : SqL K H2 np [.str w0, .str w1, .str w2, .str w3] := SqL.of np1
    refine ⟨_, rfl, np, _, _, _, rfl, rfl, np2, (by rfl), _, rfl, np, _, _, _, rfl, rfl, np2, (by rfl), (by show 2 ≤ sizeLine; decide), fun t1 ht1 => ?_⟩
    have s3 : Same H2 (upd H2 t1 (.tup [.str w0, .str w1])) := (Same.refl H2).new ht1
    have t11 : upd H2 t1 (.tup [.str w0, .str w1]) t1 = some (.tup [.str w0, .str w1]) := upd_same
    generalize upd H2 t1 (.tup [.str w0, .str w1]) = H3 at s3 t11 ⊢
    have np3 := s3.seq np2
    refine ⟨_, rfl, np, _, _, _, rfl, rfl, np3, (by rfl), _, rfl, np, _, _, _, rfl, rfl, np3, (by rfl), (by show 2 ≤ sizeLine; decide), fun t2 ht2 => ?_⟩
    have s4 : Same H3 (upd H3 t2 (.tup [.str w0, .str w2])) := (Same.refl H3).new ht2
    have t21 : upd H3 t2 (.tup [.str w0, .str w2]) t2 = some (.tup [.str w0, .str w2]) := upd_same
    generalize upd H3 t2 (.tup [.str w0, .str w2]) = H4 at s4 t21 ⊢
    have np4 := s4.seq np3
    refine ⟨_, rfl, np, _, _, _, rfl, rfl, np4, (by rfl), _, rfl, np, _, _, _, rfl, rfl, np4, (by rfl), (by show 2 ≤ sizeLine; decide), fun t3 ht3 => ?_⟩
    have s5 : Same H4 (upd H4 t3 (.tup [.str w3, .str w1])) := (Same.refl H4).new ht3
    have t31 : upd H4 t3 (.tup [.str w3, .str w1]) t3 = some (.tup [.str w3, .str w1]) := upd_same
    generalize upd H4 t3 (.tup [.str w3, .str w1]) = H5 at s5 t31 ⊢
    have np5 := s5.seq np4
    refine ⟨_, rfl, np, _, _, _, rfl, rfl, np5, (by rfl), _, rfl, np, _, _, _, rfl, rfl, np5, (by rfl), (by show 2 ≤ sizeLine; decide), fun t4 ht4 => ?_⟩
    have s6 : Same H5 (upd H5 t4 (.tup [.str w1, .str w0])) := (Same.refl H5).new ht4
    have t41 : upd H5 t4 (.tup [.str w1, .str w0]) t4 = some (.tup [.str w1, .str w0]) := upd_same
    generalize upd H5 t4 (.tup [.str w1, .str w0]) = H6 at s6 t41 ⊢
    refine ⟨(by show 4 ≤ sizeLine; decide), fun l0 hl0 => ?_⟩
    have s7 : Same H6 (upd H6 l0 (.lst [.ref t1, .ref t2, .ref t3, .ref t4])) := (Same.refl H6).new hl0
    have l07 : upd H6 l0 (.lst [.ref t1, .ref t2, .ref t3, .ref t4]) l0 = some (.lst [.ref t1, .ref t2, .ref t3, .ref t4]) := upd_same
    generalize upd H6 l0 (.lst [.ref t1, .ref t2, .ref t3, .ref t4]) = H7 at s7 l07 ⊢
    have q0 := Int.emod_nonneg (z0 / 4) (show (4 : Int) ≠ 0 by decide)
    have q1 := Int.emod_lt_of_pos (z0 / 4) (show (0 : Int) < 4 by decide)
    refine ⟨_, rfl, _, rfl, _, _, rfl, rfl, ⟨by decide, by decide⟩, _, _, rfl, rfl, (by show (0 : Int) < 4; decide), _, _, rfl, rfl, _, rfl, l0, _, rfl, SqL.of l07, fun sp hsp => ?_⟩
    obtain ⟨jj, hjj⟩ : ∃ jj : Nat, (1 + z0 / 4 % 4 : Int) = (jj : Int) := ⟨(1 + z0 / 4 % 4).toNat, (Int.toNat_of_nonneg (by omega)).symm⟩
    have ecut : cutV [.ref t1, .ref t2, .ref t3, .ref t4] none (some (1 + z0 / 4 % 4)) = atRefs (List.take jj [(t1, (w0, w1)), (t2, (w0, w2)), (t3, (w3, w1)), (t4, (w1, w0))]) := by
      rw [hjj, cutV_take]
      exact (List.map_take (f := fun b : At => V.ref b.1) (l := [(t1, (w0, w1)), (t2, (w0, w2)), (t3, (w3, w1)), (t4, (w1, w0))]) (i := jj)).symm
    have nd4 : w0 ≠ w1 ∧ w0 ≠ w2 ∧ w0 ≠ w3 ∧ w1 ≠ w2 ∧ w1 ≠ w3 := by
      simp only [List.nodup_cons, List.mem_cons, List.not_mem_nil, not_or, or_false] at npn
      exact ⟨npn.1.1, npn.1.2.1, npn.1.2.2, npn.2.1.1, npn.2.1.2⟩
    have bnd : (List.map (·.2) [(t1, (w0, w1)), (t2, (w0, w2)), (t3, (w3, w1)), (t4, (w1, w0))]).Nodup := by
      obtain ⟨n1, n2, n3, n4, n5⟩ := nd4
      simp only [List.map_cons, List.map_nil, List.nodup_cons, List.mem_cons, List.not_mem_nil, not_or, or_false, Prod.mk.injEq, not_and, not_false_eq_true, and_true, List.nodup_nil]
      exact ⟨⟨fun _ => n4, fun z => absurd z n3, fun z => absurd z n1⟩, ⟨fun z => absurd z n3, fun z => absurd z n1⟩, fun z => absurd z.symm n5⟩
    have btup : ∀ b ∈ [(t1, (w0, w1)), (t2, (w0, w2)), (t3, (w3, w1)), (t4, (w1, w0))], H7 b.1 = some (.tup [.str b.2.1, .str b.2.2]) := by
      intro b hb
      simp only [List.mem_cons, List.not_mem_nil, or_false] at hb
      rcases hb with rfl | rfl | rfl | rfl
      · exact s7 _ _ (s6 _ _ (s5 _ _ (s4 _ _ t11)))
      · exact s7 _ _ (s6 _ _ (s5 _ _ t21))
      · exact s7 _ _ (s6 _ _ t31)
      · exact s7 _ _ t41
    rw [ecut]
    have hspn : ((List.take jj [(t1, (w0, w1)), (t2, (w0, w2)), (t3, (w3, w1)), (t4, (w1, w0))]).map (·.2)).Nodup := bnd.sublist (List.Sublist.map _ (List.take_sublist _ _))
    have hspt : ∀ b ∈ List.take jj [(t1, (w0, w1)), (t2, (w0, w2)), (t3, (w3, w1)), (t4, (w1, w0))], H7 b.1 = some (.tup [.str b.2.1, .str b.2.2]) := fun b hb => btup b (List.mem_of_mem_take hb)
    have hsp1 : 1 ≤ (List.take jj [(t1, (w0, w1)), (t2, (w0, w2)), (t3, (w3, w1)), (t4, (w1, w0))]).length := by
      rw [List.length_take]
      show 1 ≤ min jj 4
      omega
    have hsp4 : (List.take jj [(t1, (w0, w1)), (t2, (w0, w2)), (t3, (w3, w1)), (t4, (w1, w0))]).length ≤ 4 := by
      rw [List.length_take]
      exact Nat.min_le_right _ _
    generalize List.take jj [(t1, (w0, w1)), (t2, (w0, w2)), (t3, (w3, w1)), (t4, (w1, w0))] = sps at hspn hspt hsp1 hsp4 ⊢
    have s8 : Same H7 (upd H7 sp (.lst (atRefs sps))) := (Same.refl H7).new hsp
    have sp8 : upd H7 sp (.lst (atRefs sps)) sp = some (.lst (atRefs sps)) := upd_same
    generalize upd H7 sp (.lst (atRefs sps)) = H8 at s8 sp8 ⊢
    have s18 : Same H1 H8 := ((((((s2.trans s3).trans s4).trans s5).trans s6).trans s7)).trans s8
    have hp8 : H8 hp = some (.lst (strV ws)) := s18 _ _ hp1
    have ha8 : SqL K H8 a (ns.map V.int) := (s1.trans s18).seq ha
    have hst8 : ∀ b ∈ sps, H8 b.1 = some (.tup [.str b.2.1, .str b.2.2]) := fun b hb => s8 _ _ (hspt b hb)
    clear s2 s3 s4 s5 s6 s7 s8 np1 np2 np3 np4 np5 t11 t21 t31 t41 l07 ecut bnd btup hspt hp1 s18 s1
    -- books
    refine ⟨_, rfl, hp, rfl, ⟨_, SqL.of hp8⟩, fun lb hlb => ?_⟩
    refine lc_list (K := K) (a := hp) (xs := strV ws) (fun i H' => ∃ bks : List Bk, Same H8 H' ∧ H' lb = some (.lst (bks.map fun b => V.ref b.p)) ∧ bks.map Bk.hand = ws.take i ∧ (∀ b ∈ bks, NewBk CB H' b) ∧ (bks.map Bk.p).Nodup ∧ (bks.map Bk.d).Nodup)
      ⟨[], (Same.refl H8).over hlb, upd_same, rfl, fun _ z => absurd z List.not_mem_nil, List.nodup_nil, List.nodup_nil⟩ (fun i H' _ ⟨_, sH, _⟩ => SqL.of (sH _ _ hp8)) ?_ ?_
    · rintro i x H9 hi ⟨bks, s9, hlb9, hh, hall, np, nd⟩
      obtain ⟨hand, hhd, rfl⟩ : ∃ hand, ws[i]? = some hand ∧ x = .str hand := by
        rw [List.getElem?_map] at hi
        obtain ⟨y, e1, e2⟩ := Option.map_eq_some_iff.mp hi
        exact ⟨y, e1, e2.symm⟩
      refine ⟨rfl, ?_⟩
      refine yes_if ?_
      refine ⟨_, rfl, fun bp dxp hbp hdx ndx => ⟨bp, dxp, hand, rfl, upd_same, fun H10 d hd0 hsame hp10 hd10 => ⟨rfl, ?_⟩⟩⟩
      have nbd : bp ≠ d := fun z => by rw [← z, upd_same] at hd0; cases hd0
      have hd0' : (upd H9 dxp (.own bp)) d = none := by rw [upd_ne nbd.symm] at hd0; exact hd0
      have ndd : dxp ≠ d := fun z => by rw [← z, upd_same] at hd0'; cases hd0'
      have hd9 : H9 d = none := by rw [upd_ne ndd.symm] at hd0'; exact hd0'
      have keep : Same H9 H10 := fun c o e => by
        have n1 := ne_of_none e hbp
        have n2 := ne_of_none e hd9
        rw [hsame c n1 n2, upd_ne n1, upd_ne (ne_of_none e hdx)]
        exact e
      have lb0 : H8 lb = none := hlb
      have lbw : bks.length ≤ 25 := by
        have h1 := congrArg List.length hh
        rw [List.length_map, List.length_take, hpl] at h1
        omega
      have nlp : lb ≠ bp := ne_of_none hlb9 hbp
      have nld : lb ≠ d := ne_of_none hlb9 hd9
      have neww : ∀ c o, H10 c = some o → c ≠ lb → upd H10 lb (.lst ((bks.map fun b => V.ref b.p) ++ [.ref bp])) c = some o := fun c o e n => by rw [upd_ne n]; exact e
      refine ⟨_, keep _ _ hlb9, ?_, bks ++ [⟨bp, d, hand, 0, [], fun _ => []⟩], (s9.trans keep).over lb0, ?_, ?_, ?_, ?_, ?_⟩
      · rw [List.length_map]
        exact small1000 (by omega)
      · rw [upd_same, List.map_append]
        rfl
      · rw [List.map_append, hh, take_one_more hhd]
        rfl
      · intro b hb
        rcases List.mem_append.mp hb with z | z
        · obtain ⟨h1, h2, h3, ⟨dx, h4⟩, h5⟩ := hall b z
          exact ⟨h1, h2, h3, ⟨dx, neww _ _ (keep _ _ h4) (ne_of h4 hlb9 (fun z => nomatch z))⟩, neww _ _ (keep _ _ h5) (ne_of h5 hlb9 (fun z => nomatch z))⟩
        · rw [List.mem_singleton.mp z]
          exact ⟨rfl, rfl, rfl, ⟨dxp, neww _ _ hp10 nlp.symm⟩, neww _ _ hd10 nld.symm⟩
      · rw [List.map_append]
        refine nd_snoc np fun hm => ?_
        obtain ⟨b, hb, e⟩ := List.mem_map.mp hm
        obtain ⟨dx, h4⟩ := (hall b hb).ins
        rw [e, hbp] at h4
        cases h4
      · rw [List.map_append]
        refine nd_snoc nd fun hm => ?_
        obtain ⟨b, hb, e⟩ := List.mem_map.mp hm
        have h5 := (hall b hb).dict
        rw [e, hd9] at h5
        cases h5
    · rintro H9 ⟨bks, s9, hlb9, hh, hall, npd, ndd⟩
      have e9 : ws.take (strV ws).length = ws := by rw [List.length_map, List.take_length]
      rw [e9] at hh
      have lbk : bks.length = mm := by
        have h1 := congrArg List.length hh
        rw [List.length_map] at h1
        omega
      have nh : (bks.map Bk.hand).Nodup := by rw [hh]; exact hpn
      have noN : ∀ r : Addr, ¬ decide (V.ref r = V.non) = true := fun r => by
        rw [decide_eq_true_iff]
        exact fun z => nomatch z
      -- done
      refine ⟨Nat.zero_le _, fun ld hld => ?_⟩
      have s10 : Same H9 (upd H9 ld (.lst [])) := (Same.refl H9).new hld
      have ld10 : upd H9 ld (.lst []) ld = some (.lst []) := upd_same
      generalize upd H9 ld (.lst []) = H10 at s10 ld10 ⊢
      have nlbd : lb ≠ ld := ne_of_none hlb9 hld
      have nspd : sp ≠ ld := ne_of_none (s9 _ _ sp8) hld
      have hp10 := s10 _ _ (s9 _ _ hp8)
      -- met
      refine ⟨_, rfl, hp, rfl, ⟨_, SqL.of hp10⟩, fun lm hlm => ?_⟩
      refine lc_list (K := K) (a := hp) (xs := strV ws) (fun i H' => ∃ ls : List Addr, Same H10 H' ∧ H' lm = some (.lst (ls.map V.ref)) ∧ ls.length = i ∧ ∀ l ∈ ls, H' l = some (.lst []) ∧ l ≠ lm ∧ l ≠ ld)
        ⟨[], (Same.refl H10).over hlm, upd_same, rfl, fun _ z => absurd z List.not_mem_nil⟩ (fun i H' _ ⟨_, sH, _⟩ => SqL.of (sH _ _ hp10)) ?_ ?_
      · rintro i x H11 hi ⟨ls, s11, hlm11, hl, hls⟩
        have il := (List.getElem?_eq_some_iff.mp hi).1
        rw [List.length_map] at il
        refine ⟨rfl, ?_⟩
        refine yes_if ?_
        refine ⟨Nat.zero_le _, fun l hl0 => ?_⟩
        have nl : lm ≠ l := ne_of_none hlm11 hl0
        refine ⟨_, (upd_ne nl).trans hlm11, ?_, ls ++ [l], (s11.new hl0).over hlm, ?_, ?_, ?_⟩
        · rw [List.length_map]
          exact small1000 (by omega)
        · rw [upd_same, List.map_append]
          rfl
        · rw [List.length_append, hl]
          rfl
        · intro l2 hl2
          rcases List.mem_append.mp hl2 with z | z
          · obtain ⟨e1, e2, e3⟩ := hls l2 z
            refine ⟨?_, e2, e3⟩
            rw [upd_ne e2, upd_ne (ne_of_none e1 hl0)]
            exact e1
          · rw [List.mem_singleton.mp z]
            refine ⟨?_, nl.symm, (ne_of_none (s11 _ _ ld10) hl0).symm⟩
            rw [upd_ne nl.symm, upd_same]
      rintro H11 ⟨ls, s11, hlm11, hl, hls⟩
      rw [List.length_map] at hl
      have nlmd : lm ≠ ld := (ne_of_none ld10 hlm).symm
      have nlbm : lb ≠ lm := ne_of_none (s10 _ _ hlb9) hlm
      have nspm : sp ≠ lm := ne_of_none (s10 _ _ (s9 _ _ sp8)) hlm
      -- kept
      refine ⟨Nat.zero_le _, fun k0 hk0 => ?_⟩
      have s12 : Same H11 (upd H11 k0 (.lst [])) := (Same.refl H11).new hk0
      have k012 : upd H11 k0 (.lst []) k0 = some (.lst []) := upd_same
      generalize upd H11 k0 (.lst []) = H12 at s12 k012 ⊢
      have s812 : Same H8 H12 := ((s9.trans s10).trans s11).trans s12
      refine ⟨_, rfl, _, rfl, _, rfl, a, _, rfl, s812.seq ha8, fun sc hsc => ?_⟩
      have hint : ∀ v ∈ cutV (ns.map V.int) (some 3) (some 39), ∃ n, v = V.int n := fun v hv => by
        obtain ⟨n, _, e⟩ := List.mem_map.mp (cutV_mem hv)
        exact ⟨n, e.symm⟩
      have hl39 := cutV_39 (ns.map V.int)
      generalize cutV (ns.map V.int) (some 3) (some 39) = scs at hint hl39 ⊢
      have s13 : Same H12 (upd H12 sc (.lst scs)) := (Same.refl H12).new hsc
      have sc13 : upd H12 sc (.lst scs) sc = some (.lst scs) := upd_same
      generalize upd H12 sc (.lst scs) = H13 at s13 sc13 ⊢
      have s913 : Same H9 H13 := ((s10.trans s11).trans s12).trans s13
      have s1113 : Same H11 H13 := s12.trans s13
      obtain ⟨S0, out0⟩ := hs_start (CB := CB) (CW := CW) (H := H13) (lb := lb) (ld := ld) (lm := lm) (sp := sp) (bks := bks) (ls := ls) (sps := sps) (fun b hb => by
          obtain ⟨h1, h2, h3, ⟨dx, h4⟩, h5⟩ := hall b hb
          exact ⟨h1, h2, h3, ⟨dx, s913 _ _ h4⟩, s913 _ _ h5⟩) npd ndd nh (s913 _ _ hlb9) (s913 _ _ (s9 _ _ sp8)) (fun b hb => s913 _ _ (s9 _ _ (hst8 b hb))) hspn hsp1 hsp4
        (s1113 _ _ hlm11) (fun l hl => ⟨s1113 _ _ (hls l hl).1, (hls l hl).2⟩) (s1113 _ _ (s11 _ _ ld10)) nlbm nlbd nspm nspd nlmd (by omega) (by omega) (by omega)
      have fsc0 := out0 sc _ sc13 (fun _ _ => ⟨(ne_of_none (s12 _ _ hlm11) hsc).symm, (ne_of_none (s12 _ _ (s11 _ _ ld10)) hsc).symm⟩) (fun _ _ _ z => nomatch z) (fun _ z => nomatch z)
      have fk0 := out0 k0 _ (s13 _ _ k012) (fun _ _ => ⟨(ne_of_none hlm11 hk0).symm, (ne_of_none (s11 _ _ ld10) hk0).symm⟩) (fun _ _ _ z => nomatch z) (fun _ z => nomatch z)
      clear out0
      generalize hide (bks.map Bk.p ++ bks.map Bk.d ++ [lm, ld]) H13 = F0 at S0 fsc0 fk0
      refine ⟨sc, rfl, ⟨_, SqL.of sc13⟩, for_list (K := K) (a := sc) (xs := scs) (fun i σ H' => ∃ (F1 : Hp) (bks1 : List Bk) (mets1 : List (List Nat)) (cs1 : List Cell) (tbl1 : List AW) (ka : Addr) (kxs : List V) (v9 v10 v11 : Option V),
          σ = [some (.ref a), some (.int z0), some (.ref hp), some (.ref np), some (.ref sp), some (.ref lb), some (.ref ld), some (.ref lm), some (.ref ka), v9, v10, v11, none, none, none, none] ∧
          HS CB CW F1 H' lb ld lm sp bks1 mets1 cs1 tbl1 sps ∧ cs1.length ≤ i ∧ F1 sc = some (.lst scs) ∧ F1 ka = some (.lst kxs) ∧ (∀ v ∈ kxs, KeptAt K F1 v) ∧ kxs.length ≤ 2 * i)
        ⟨F0, bks, _, [], [], k0, [], none, none, none, rfl, S0, Nat.le_refl _, fsc0, fk0, fun _ z => absurd z List.not_mem_nil, Nat.le_refl _⟩
        (fun i σ H' _ ⟨_, _, _, _, _, _, _, _, _, _, _, S, _, h, _⟩ => SqL.of (S.same _ _ h)) ?_ ?_⟩
      · rintro i x σ H14 hi ⟨F1, bks1, mets1, cs1, tbl1, ka, kxs, v9, v10, v11, rfl, S1, hc1, fsc, fka, hkx, lkx⟩
        have il := (List.getElem?_eq_some_iff.mp hi).1
        obtain ⟨n, rfl⟩ := hint x (List.mem_of_getElem? hi)
        refine ⟨_, rfl, _, rfl, _, rfl, _, rfl, _, rfl, _, rfl, _, _, rfl, rfl, ⟨by decide, by decide⟩, _, _, rfl, rfl, (by show (0 : Int) < 2; decide), rfl, ?_⟩
        refine ⟨F1, lb, ld, lm, sp, bks1, mets1, cs1, tbl1, sps, n, _, rfl, S1, by omega, fun H15 F2 bks2 mets2 cs2 tbl2 sF S2 lc2 lb2 => ?_⟩
        have B2 := S2.b2
        have hlb15 := S2.same _ _ S2.lb
        have lbk2 : (bks2.map fun b => V.ref b.p).length = bks2.length := List.length_map _
        have pos : (0 : Int) < ((bks2.map fun b => V.ref b.p).length : Int) := by omega
        obtain ⟨b, l, ls2, m, at1, hlm15, at2, N, BA, hw, hes, ag⟩ := S2.looks (by omega) (ix := n / 7 % ((bks2.map fun b => V.ref b.p).length : Int)) (Int.emod_nonneg _ (by omega)) (by have := Int.emod_lt_of_pos (n / 7) pos; omega)
        refine ⟨_, rfl, _, _, rfl, rfl, ⟨by decide, by decide⟩, _, rfl, lb, _, rfl, .inl (SqL.of hlb15), _, _, rfl, rfl, pos, ?_⟩
        refine ⟨_, rfl, _, rfl, lb, _, _, _, rfl, rfl, SqL.of hlb15, at1, _, rfl, _, rfl, _, rfl, lm, _, _, _, rfl, rfl, SqL.of hlm15, at2, _, rfl, _, rfl, _, _, rfl, rfl, ⟨by decide, by decide⟩, ?_⟩
        refine ⟨F2, b.p, b.d, ld, l, sp, _, b.hand, b.n, b.es, b.f, cs2, m, sps, rfl, N, S2.full, BA, hw, hes, S2.same _ _ S2.sp, S2.spt, S2.snd, S2.s1, S2.s4, ag, fun H16 r s16 hr0 LK => ?_⟩
        refine ⟨_, rfl, rfl, _, rfl, if_no (noN r) ?_⟩
        obtain ⟨⟨Hm, t5, t6, ta, da, ca, cl, rows, o1, o2, smh, hmr, hr16, g1, g2, g3, g4, g5, g6, g7, g8, g9, g10, g11, g12, g13⟩⟩ := LK
        have S3 := S2.grow s16
        have up : Same (plus F2 (New H15 Hm)) (plus F2 (New H15 H16)) := plus_mono (new_grow smh)
        have pn : Same (New H15 Hm) (plus F2 (New H15 H16)) := (new_grow smh).trans (plus_new S2.same)
        have kp1 : KeptAt K (plus F2 (New H15 H16)) (.ref t5) := ⟨t5, ta, da, encRows rows, rfl, up _ _ g1, dp_told (g3.mono pn), dp_told (g4.mono up), plain_told _, by have := depth_told rows; omega⟩
        have kp2 : KeptAt K (plus F2 (New H15 H16)) (.ref t6) := ⟨t6, ca, cl, encPs (o1.map (·.2)), rfl, up _ _ g2, dp_refs (pn _ _ g5) (fun b hb => up _ _ (g8 b hb)), by rw [g7]; exact dp_refs (pn _ _ g6) (fun b hb => up _ _ (g9 b hb)), plain_ps _, by have := depth_encPs (o1.map (·.2)); omega⟩
        have sF3 : Same F1 (plus F2 (New H15 H16)) := sF.trans plus_l
        generalize plus F2 (New H15 H16) = F3 at S3 kp1 kp2 sF3
        refine ⟨_, rfl, _, rfl, ka, r, kxs, _, rfl, rfl, S3.same _ _ (sF3 _ _ fka), hr16, ?_, fun kn hkn => ?_⟩
        · rw [sizeLine_eq]
          show kxs.length + 2 ≤ _
          omega
        have s17 : Same H16 (upd H16 kn (.lst (kxs ++ [.ref t5, .ref t6]))) := (Same.refl H16).new hkn
        have kn17 : upd H16 kn (.lst (kxs ++ [.ref t5, .ref t6])) kn = some (.lst (kxs ++ [.ref t5, .ref t6])) := upd_same
        generalize upd H16 kn (.lst (kxs ++ [.ref t5, .ref t6])) = H17 at s17 kn17 ⊢
        refine ⟨plus F3 (New H16 H17), bks2, mets2, cs2, tbl2, kn, kxs ++ [.ref t5, .ref t6], _, _, _, rfl, S3.grow s17, by omega, plus_l _ _ (sF3 _ _ fsc), plus_new S3.same _ _ (new_of hkn kn17), fun v hv => ?_, ?_⟩
        · rcases List.mem_append.mp hv with z | z
          · exact (hkx v z).mono (sF3.trans plus_l)
          · rcases List.mem_cons.mp z with z | z
            · rw [z]
              exact kp1.mono plus_l
            · rw [List.mem_singleton.mp z]
              exact kp2.mono plus_l
        · rw [List.length_append]
          show kxs.length + 2 ≤ _
          omega
      rintro σ H14 ⟨F1, bks1, mets1, cs1, tbl1, ka, kxs, v9, v10, v11, rfl, S1, hc1, fsc, fka, hkx, lkx⟩
      clear S0 fsc0 fk0
      have B2 := S1.b2
      have B5 := S1.b5
      have lbk1 : (bks1.map fun b => V.ref b.p).length = bks1.length := List.length_map _
      refine ⟨_, rfl, lb, _, rfl, .inl (SqL.of (S1.same _ _ S1.lb)), ((bks1.map fun b => V.ref b.p).length : Int), rfl, by omega, by omega, for_range (lo := 0) (n := ((bks1.map fun b => V.ref b.p).length : Int).toNat)
        (fun i σ H' => ∃ v10 v11 v12 : Option V, σ = [some (.ref a), some (.int z0), some (.ref hp), some (.ref np), some (.ref sp), some (.ref lb), some (.ref ld), some (.ref lm), some (.ref ka), v9, v10, v11, v12, none, none, none] ∧ Same H14 H')
        ⟨v10, v11, none, rfl, Same.refl _⟩ ?_ ?_⟩
      · rintro i σ H15 hi ⟨v10, v11, v12, rfl, s15⟩
        have il : i < bks1.length := by omega
        have S2 := S1.grow s15
        have hlb15 := S2.same _ _ S2.lb
        obtain ⟨b, l, ls2, m, at1, hlm15, at2, N, BA, hw, hes, ag⟩ := S2.looks (by omega) (ix := 0 + (i : Int)) (by omega) (by omega)
        refine ⟨_, rfl, _, rfl, lb, _, _, _, rfl, rfl, SqL.of hlb15, at1, _, rfl, _, rfl, _, rfl, lm, _, _, _, rfl, rfl, SqL.of hlm15, at2, _, rfl, _, rfl, _, _, rfl, rfl, ⟨by decide, by decide⟩, ?_⟩
        refine ⟨_, b.p, b.d, ld, l, sp, _, b.hand, b.n, b.es, b.f, cs1, m, sps, rfl, N, S2.full, BA, hw, hes, S2.same _ _ S2.sp, S2.spt, S2.snd, S2.s1, S2.s4, ag, fun H16 r s16 hr0 LK => ?_⟩
        refine ⟨_, rfl, rfl, _, rfl, if_no (noN r) ?_⟩
        obtain ⟨⟨Hm, t5, t6, ta, da, ca, cl, rows, o1, o2, smh, hmr, hr16, g1, g2, g3, g4, g5, g6, g7, g8, g9, g10, g11, g12, g13⟩⟩ := LK
        have inm : Same (plus (plus F1 (New H14 H15)) (New H15 Hm)) Hm := plus_in S2.same g13
        have m1 := inm _ _ g1
        have m2 := inm _ _ g2
        obtain ⟨xsT, hxT, rowsT⟩ := g3
        obtain ⟨ta0, tam⟩ := of_new hxT
        obtain ⟨ca0, cam⟩ := of_new g5
        have lxT : xsT.length = rows.length := Paired.length rowsT
        refine ⟨_, rfl, r, _, _, _, rfl, rfl, SqL.of hr16, (by rfl), t5, _, _, _, rfl, rfl, SqT.of (smh _ _ m1), (by rfl), ta, rfl, ⟨_, SqL.of (smh _ _ tam)⟩, for_list (K := K) (a := ta) (xs := xsT) (fun j σ H' => ∃ v12 : Option V,
            σ = [some (.ref a), some (.int z0), some (.ref hp), some (.ref np), some (.ref sp), some (.ref lb), some (.ref ld), some (.ref lm), some (.ref ka), v9, some (.int (0 + (i : Int))), some (.ref r), v12, none, none, none] ∧ Same H15 H' ∧
            (∀ c ys0, Hm c = some (.lst ys0) → H15 c = none → ∃ ys, H' c = some (.lst ys) ∧ ys.length ≤ ys0.length + j) ∧ (∀ c ys, Hm c = some (.tup ys) → H' c = some (.tup ys)) ∧ H' r = some (.lst [.ref t5, .ref t6]) ∧ H' ta = some (.lst xsT))
          ⟨v12, rfl, s16, fun c ys0 e _ => ⟨ys0, smh _ _ e, Nat.le_refl _⟩, fun c ys e => smh _ _ e, hr16, smh _ _ tam⟩ (fun j σ H' _ ⟨_, _, _, _, _, _, h⟩ => SqL.of h) ?_ ?_⟩
        · rintro j x σ H17 hj ⟨v12, rfl, s17, q1, q2, q3, q4⟩
          have jl := (List.getElem?_eq_some_iff.mp hj).1
          obtain ⟨row, _, t, L, bs, rfl, e1, e2, e3, e4, e5⟩ := paired_getL rowsT hj
          obtain ⟨L0, Lm⟩ := of_new e2
          obtain ⟨ys, hL, lys⟩ := q1 L _ Lm L0
          rw [List.length_map] at lys
          have nLr : L ≠ r := ne_of_none Lm hmr
          have nLta : L ≠ ta := fun z => by
            rw [z, tam] at Lm
            have e6 : xsT = atRefs bs := by
              injection Lm with Lm
              injection Lm with Lm
            have hx : V.ref t ∈ atRefs bs := by rw [← e6]; exact List.mem_of_getElem? hj
            obtain ⟨b9, hb9, e9⟩ := List.mem_map.mp hx
            have e9 : b9.1 = t := by injection e9 with e9
            have z1 := (of_new e1).2
            have z2 := (of_new (e5 b9 hb9)).2
            rw [e9, z1] at z2
            injection z2 with z2
            injection z2 with z2
            injection z2 with _ z2
            injection z2 with _ z2
            cases z2
          refine ⟨_, rfl, t, _, _, _, rfl, rfl, SqT.of (q2 _ _ (of_new e1).2), (by rfl), ?_⟩
          refine ⟨.inl ⟨rfl, _, SqL.of hL⟩, (by show 2 ≤ sizeLine; decide), fun c hc => ?_⟩
          have nLc : L ≠ c := ne_of_none hL hc
          refine ⟨L, ys, _, rfl, rfl, (upd_ne nLc).trans hL, small1000 (by omega), ?_⟩
          have old : ∀ c9 o, H17 c9 = some o → c9 ≠ L → upd (upd H17 c (.tup [.str "x", .str "y"])) L (.lst (ys ++ [.ref c])) c9 = some o := fun c9 o e n => by
            rw [upd_ne n, upd_ne (ne_of_none e hc)]
            exact e
          refine ⟨_, rfl, fun c9 o e => old c9 o (s17 _ _ e) (ne_of_none e L0), fun c9 ys0 e e0 => ?_, fun c9 ys9 e => old c9 _ (q2 _ _ e) (fun z => by rw [z, Lm] at e; cases e), old _ _ q3 nLr.symm, old _ _ q4 nLta.symm⟩
          by_cases z : c9 = L
          · rw [z, Lm] at e
            cases e
            refine ⟨ys ++ [.ref c], by rw [z]; exact upd_same, ?_⟩
            rw [List.length_append, List.length_map]
            show ys.length + 1 ≤ _
            omega
          · obtain ⟨ys1, h1, h2⟩ := q1 c9 ys0 e e0
            exact ⟨ys1, old _ _ h1 z, by omega⟩
        · rintro σ H17 ⟨v12, rfl, s17, q1, q2, q3, q4⟩
          obtain ⟨ys, hca, lys⟩ := q1 ca _ cam ca0
          rw [List.length_map] at lys
          have nrta : r ≠ ta := (ne_of_none tam hmr).symm
          refine ⟨_, rfl, r, _, _, _, rfl, rfl, SqL.of q3, (by rfl), t5, _, _, _, rfl, rfl, SqT.of (q2 _ _ m1), (by rfl), ?_⟩
          refine ⟨.inl ⟨rfl, _, SqL.of q4⟩, ta, xsT, _, rfl, rfl, q4, small1000 (by omega), ?_⟩
          have c18 : ∀ c9 o, H17 c9 = some o → c9 ≠ ta → upd H17 ta (.lst (xsT ++ [.int 5])) c9 = some o := fun c9 o e n => by rw [upd_ne n]; exact e
          generalize upd H17 ta (.lst (xsT ++ [.int 5])) = H18 at c18 ⊢
          have t6a : t6 ≠ ta := ne_of m2 tam (fun z => nomatch z)
          refine ⟨_, rfl, r, _, _, _, rfl, rfl, SqL.of (c18 _ _ q3 nrta), (by rfl), t6, _, _, _, rfl, rfl, SqT.of (c18 _ _ (q2 _ _ m2) t6a), (by rfl), ?_⟩
          refine ⟨.inl ⟨rfl, _, SqL.of (c18 _ _ hca g12.symm)⟩, ca, ys, _, rfl, rfl, c18 _ _ hca g12.symm, ?_, ?_⟩
          · rw [sizeLine_eq]
            omega
          have s19 : Same H15 (upd H18 ca (.lst (ys ++ [.int 5]))) := fun c9 o e => by
            rw [upd_ne (ne_of_none e ca0)]
            exact c18 _ _ (s17 _ _ e) (ne_of_none e ta0)
          generalize upd H18 ca (.lst (ys ++ [.int 5])) = H19 at s19 ⊢
          have s1419 := s15.trans s19
          have S3 := S1.grow s1419
          have hlb19 := S3.same _ _ S3.lb
          obtain ⟨b, l, ls2, m, at1, hlm19, at2, N, BA, hw, hes, ag⟩ := S3.looks (by omega) (ix := 0 + (i : Int)) (by omega) (by omega)
          refine ⟨_, rfl, _, rfl, lb, _, _, _, rfl, rfl, SqL.of hlb19, at1, _, rfl, _, rfl, _, rfl, lm, _, _, _, rfl, rfl, SqL.of hlm19, at2, _, rfl, _, rfl, _, _, rfl, rfl, ⟨by decide, by decide⟩, ?_⟩
          refine ⟨_, b.p, b.d, ld, l, sp, _, b.hand, b.n, b.es, b.f, cs1, m, sps, rfl, N, S3.full, BA, hw, hes, S3.same _ _ S3.sp, S3.spt, S3.snd, S3.s1, S3.s4, ag, fun H20 r2 s20 _ _ => ?_⟩
          exact ⟨rfl, _, rfl, if_no (noN r2) ⟨_, _, _, rfl, s1419.trans s20⟩⟩
      · rintro σ H15 ⟨v10, v11, v12, rfl, s15⟩
        have sF15 := S1.same.trans s15
        have hka := sF15 _ _ fka
        have eq1 : ∀ d : PyData, d.plain = true → PyData.eqv d d = true := PySem.SeqAt.eqv_refl_plain
        refine ⟨_, rfl, ka, rfl, ⟨_, SqL.of hka⟩, fun D hD => ?_⟩
        refine lc_list (K := K) (a := ka) (xs := kxs) (fun i H' => Same H15 H' ∧ H' D = some (.lst [])) ⟨(Same.refl H15).over hD, upd_same⟩ (fun i H' _ h => SqL.of (h.1 _ _ hka)) ?_ ?_
        · rintro i x H16 hi ⟨s16, hDl⟩
          obtain ⟨t, a1, b1, d, rfl, e1, e2, e3, e4, e5⟩ := (hkx x (List.mem_of_getElem? hi)).mono (sF15.trans s16)
          refine ⟨t, _, rfl, SqT.of e1, rfl, _, _, rfl, _, _, rfl, rfl, ?_⟩
          refine ⟨rfl, ?_⟩
          refine ⟨_, rfl, _, rfl, d, d, e2, e3, e4, e4, by omega, ?_⟩
          rw [eq1 d e4]
          exact ⟨_, rfl, if_no (by decide) ⟨s16, hDl⟩⟩
        · rintro H16 ⟨s16, hDl⟩
          refine ⟨Nat.zero_le _, fun Z hZ => ?_⟩
          have nDZ : D ≠ Z := ne_of_none hDl hZ
          exact ⟨.list [], .list [], .lst (SqL.of ((upd_ne nDZ).trans hDl)) .nil, .lst (SqL.of upd_same) .nil, rfl, rfl, by rw [depth_nil]; omega, k _⟩
end
end K82

set_option Elab.async false
set_option linter.all false
set_option maxRecDepth 100000
set_option maxHeartbeats 4000000
namespace K82
open PySem PySem.Spec PyProof.Rows L2

/-! ## what the top has written -/
theorem all_mk {P : Program} {w : World} {K : PySem.W.Frag} {h : Heap} {mg : Str → Option Value} {fa CW CB CN CS C1 C2 C3 C4 C5 C6 C7 C8 C9 C10 C11 C12 C13 f1 f2 f3 f4 f5 f6 f7 f8 f9 f10 f11 f12 f13 f14 f15 f16 f17 f18 f19 f20 f21 f22 f23 f24 : Addr} (X : K.In h) (G : h.Ns mainGlobals mg) (hfa : mg "law" = some (.ref fa))
    {od1 an1 od2 an2 od3 an3 od4 an4 od5 an5 od6 an6 od7 an7 od8 an8 od9 an9 od10 an10 od11 an11 od12 an12 od13 an13 od14 an14 od15 an15 od16 an16 od17 an17 od18 an18 od19 an19 od20 an20 od21 an21 od22 an22 od23 an23 od24 an24 : Option Addr} {sl1 sl2 sl3 sl4 sl5 sl6 sl7 sl8 sl9 sl10 sl11 sl12 sl13 sl14 sl15 sl16 sl17 sl18 sl19 sl20 sl21 sl22 sl23 sl24 : Array (Option Value)} {oc1 kV1 dc1 pm1 cd1 ct1 oc2 kV2 dc2 pm2 cd2 ct2 oc3 kV3 dc3 pm3 cd3 ct3 oc4 kV4 dc4 pm4 cd4 ct4 oc5 kV5 dc5 pm5 cd5 ct5 oc6 kV6 dc6 pm6 cd6 ct6 oc7 kV7 dc7 pm7 cd7 ct7 oc8 kV8 dc8 pm8 cd8 ct8 oc9 kV9 dc9 pm9 cd9 ct9 oc10 kV10 dc10 pm10 cd10 ct10 oc11 kV11 dc11 pm11 cd11 ct11 oc12 kV12 dc12 pm12 cd12 ct12 oc13 kV13 dc13 pm13 cd13 ct13 oc14 kV14 dc14 pm14 cd14 ct14 oc15 kV15 dc15 pm15 cd15 ct15 oc16 kV16 dc16 pm16 cd16 ct16 oc17 kV17 dc17 pm17 cd17 ct17 oc18 kV18 dc18 pm18 cd18 ct18 oc19 kV19 dc19 pm19 cd19 ct19 oc20 kV20 dc20 pm20 cd20 ct20 oc21 kV21 dc21 pm21 cd21 ct21 oc22 kV22 dc22 pm22 cd22 ct22 oc23 kV23 dc23 pm23 cd23 ct23 oc24 kV24 dc24 pm24 cd24 ct24 : Value}
    (aW : PySem.W.nsIn K mainGlobals "Writing" = some (some (.ref CW)))
    (aB : PySem.W.nsIn K mainGlobals "Book" = some (some (.ref CB)))
    (aN : PySem.W.nsIn K mainGlobals "NoWriting" = some (some (.ref CN)))
    (aS : PySem.W.nsIn K mainGlobals "SayError" = some (some (.ref CS)))
    (aO1 : PySem.W.nsIn K mainGlobals "NoPattern" = some (some (.ref C1)))
    (aO2 : PySem.W.nsIn K mainGlobals "NoPlace" = some (some (.ref C2)))
    (aO3 : PySem.W.nsIn K mainGlobals "NoRules" = some (some (.ref C3)))
    (aO4 : PySem.W.nsIn K mainGlobals "NoNumber" = some (some (.ref C4)))
    (aO5 : PySem.W.nsIn K mainGlobals "NoDay" = some (some (.ref C5)))
    (aO6 : PySem.W.nsIn K mainGlobals "NoTongue" = some (some (.ref C6)))
    (aO7 : PySem.W.nsIn K mainGlobals "NoThing" = some (some (.ref C7)))
    (aO8 : PySem.W.nsIn K mainGlobals "NoMessage" = some (some (.ref C8)))
    (aO9 : PySem.W.nsIn K mainGlobals "NoValue" = some (some (.ref C9)))
    (aO10 : PySem.W.nsIn K mainGlobals "Lacking" = some (some (.ref C10)))
    (aO11 : PySem.W.nsIn K mainGlobals "TooGreat" = some (some (.ref C11)))
    (aO12 : PySem.W.nsIn K mainGlobals "TooMany" = some (some (.ref C12)))
    (aO13 : PySem.W.nsIn K mainGlobals "Flawed" = some (some (.ref C13)))
    (a1 : PySem.W.nsIn K mainGlobals "seen_by_next" = some (some (.ref f1)))
    (l1 : K.lookup f1 = some ⟨oc1, od1, .func (PySem.W.fnOf "seen_by_next" "seen_by_next" (defArgs sSeen) (defBody sSeen) (defScope sSeen) .none kV1 dc1 pm1 an1 cd1 ct1), sl1⟩)
    (c1 : PySem.W.codeIn K cd1 "seen_by_next" = true)
    (k1 : PySem.W.keepIn K (.ref f1) = true)
    (a2 : PySem.W.nsIn K mainGlobals "unseen" = some (some (.ref f2)))
    (l2 : K.lookup f2 = some ⟨oc2, od2, .func (PySem.W.fnOf "unseen" "unseen" (defArgs sUnseen) (defBody sUnseen) (defScope sUnseen) .none kV2 dc2 pm2 an2 cd2 ct2), sl2⟩)
    (c2 : PySem.W.codeIn K cd2 "unseen" = true)
    (k2 : PySem.W.keepIn K (.ref f2) = true)
    (a3 : PySem.W.nsIn K mainGlobals "unlike" = some (some (.ref f3)))
    (l3 : K.lookup f3 = some ⟨oc3, od3, .func (PySem.W.fnOf "unlike" "unlike" (defArgs sUnlike) (defBody sUnlike) (defScope sUnlike) .none kV3 dc3 pm3 an3 cd3 ct3), sl3⟩)
    (c3 : PySem.W.codeIn K cd3 "unlike" = true)
    (k3 : PySem.W.keepIn K (.ref f3) = true)
    (a4 : PySem.W.nsIn K mainGlobals "_law_cell_at" = some (some (.ref f4)))
    (l4 : K.lookup f4 = some ⟨oc4, od4, .func (PySem.W.fnOf "_law_cell_at" "_law_cell_at" (defArgs sCellAt) (defBody sCellAt) (defScope sCellAt) .none kV4 dc4 pm4 an4 cd4 ct4), sl4⟩)
    (c4 : PySem.W.codeIn K cd4 "_law_cell_at" = true)
    (k4 : PySem.W.keepIn K (.ref f4) = true)
    (a5 : PySem.W.nsIn K mainGlobals "_law_some_words" = some (some (.ref f5)))
    (l5 : K.lookup f5 = some ⟨oc5, od5, .func (PySem.W.fnOf "_law_some_words" "_law_some_words" (defArgs sSome) (defBody sSome) (defScope sSome) .none kV5 dc5 pm5 an5 cd5 ct5), sl5⟩)
    (c5 : PySem.W.codeIn K cd5 "_law_some_words" = true)
    (k5 : PySem.W.keepIn K (.ref f5) = true)
    (a6 : PySem.W.nsIn K mainGlobals "_law_sign_row" = some (some (.ref f6)))
    (l6 : K.lookup f6 = some ⟨oc6, od6, .func (PySem.W.fnOf "_law_sign_row" "_law_sign_row" (defArgs sRow) (defBody sRow) (defScope sRow) .none kV6 dc6 pm6 an6 cd6 ct6), sl6⟩)
    (c6 : PySem.W.codeIn K cd6 "_law_sign_row" = true)
    (k6 : PySem.W.keepIn K (.ref f6) = true)
    (a7 : PySem.W.nsIn K mainGlobals "_law_another" = some (some (.ref f7)))
    (l7 : K.lookup f7 = some ⟨oc7, od7, .func (PySem.W.fnOf "_law_another" "_law_another" (defArgs sAnother) (defBody sAnother) (defScope sAnother) .none kV7 dc7 pm7 an7 cd7 ct7), sl7⟩)
    (c7 : PySem.W.codeIn K cd7 "_law_another" = true)
    (k7 : PySem.W.keepIn K (.ref f7) = true)
    (a8 : PySem.W.nsIn K mainGlobals "_law_none_told" = some (some (.ref f8)))
    (l8 : K.lookup f8 = some ⟨oc8, od8, .func (PySem.W.fnOf "_law_none_told" "_law_none_told" (defArgs sNone) (defBody sNone) (defScope sNone) .none kV8 dc8 pm8 an8 cd8 ct8), sl8⟩)
    (c8 : PySem.W.codeIn K cd8 "_law_none_told" = true)
    (k8 : PySem.W.keepIn K (.ref f8) = true)
    (a9 : PySem.W.nsIn K mainGlobals "_law_pair" = some (some (.ref f9)))
    (l9 : K.lookup f9 = some ⟨oc9, od9, .func (PySem.W.fnOf "_law_pair" "_law_pair" (defArgs sPair) (defBody sPair) (defScope sPair) .none kV9 dc9 pm9 an9 cd9 ct9), sl9⟩)
    (c9 : PySem.W.codeIn K cd9 "_law_pair" = true)
    (k9 : PySem.W.keepIn K (.ref f9) = true)
    (a10 : PySem.W.nsIn K mainGlobals "_law_drawn" = some (some (.ref f10)))
    (l10 : K.lookup f10 = some ⟨oc10, od10, .func (PySem.W.fnOf "_law_drawn" "_law_drawn" (defArgs sDrawn) (defBody sDrawn) (defScope sDrawn) .none kV10 dc10 pm10 an10 cd10 ct10), sl10⟩)
    (c10 : PySem.W.codeIn K cd10 "_law_drawn" = true)
    (k10 : PySem.W.keepIn K (.ref f10) = true)
    (a11 : PySem.W.nsIn K mainGlobals "_law_held" = some (some (.ref f11)))
    (l11 : K.lookup f11 = some ⟨oc11, od11, .func (PySem.W.fnOf "_law_held" "_law_held" (defArgs sHeld) (defBody sHeld) (defScope sHeld) .none kV11 dc11 pm11 an11 cd11 ct11), sl11⟩)
    (c11 : PySem.W.codeIn K cd11 "_law_held" = true)
    (k11 : PySem.W.keepIn K (.ref f11) = true)
    (a12 : PySem.W.nsIn K mainGlobals "_law_unlike" = some (some (.ref f12)))
    (l12 : K.lookup f12 = some ⟨oc12, od12, .func (PySem.W.fnOf "_law_unlike" "_law_unlike" (defArgs sLUnlike) (defBody sLUnlike) (defScope sLUnlike) .none kV12 dc12 pm12 an12 cd12 ct12), sl12⟩)
    (c12 : PySem.W.codeIn K cd12 "_law_unlike" = true)
    (k12 : PySem.W.keepIn K (.ref f12) = true)
    (a13 : PySem.W.nsIn K mainGlobals "_law_told" = some (some (.ref f13)))
    (l13 : K.lookup f13 = some ⟨oc13, od13, .func (PySem.W.fnOf "_law_told" "_law_told" (defArgs sLTold) (defBody sLTold) (defScope sLTold) .none kV13 dc13 pm13 an13 cd13 ct13), sl13⟩)
    (c13 : PySem.W.codeIn K cd13 "_law_told" = true)
    (k13 : PySem.W.keepIn K (.ref f13) = true)
    (a14 : PySem.W.nsIn K mainGlobals "_law_writing_is" = some (some (.ref f14)))
    (l14 : K.lookup f14 = some ⟨oc14, od14, .func (PySem.W.fnOf "_law_writing_is" "_law_writing_is" (defArgs sIs) (defBody sIs) (defScope sIs) .none kV14 dc14 pm14 an14 cd14 ct14), sl14⟩)
    (c14 : PySem.W.codeIn K cd14 "_law_writing_is" = true)
    (k14 : PySem.W.keepIn K (.ref f14) = true)
    (a15 : PySem.W.nsIn K mainGlobals "_law_looks" = some (some (.ref f15)))
    (l15 : K.lookup f15 = some ⟨oc15, od15, .func (PySem.W.fnOf "_law_looks" "_law_looks" (defArgs sLooks) (defBody sLooks) (defScope sLooks) .none kV15 dc15 pm15 an15 cd15 ct15), sl15⟩)
    (c15 : PySem.W.codeIn K cd15 "_law_looks" = true)
    (k15 : PySem.W.keepIn K (.ref f15) = true)
    (a16 : PySem.W.nsIn K mainGlobals "_law_deed" = some (some (.ref f16)))
    (l16 : K.lookup f16 = some ⟨oc16, od16, .func (PySem.W.fnOf "_law_deed" "_law_deed" (defArgs sDeed) (defBody sDeed) (defScope sDeed) .none kV16 dc16 pm16 an16 cd16 ct16), sl16⟩)
    (c16 : PySem.W.codeIn K cd16 "_law_deed" = true)
    (k16 : PySem.W.keepIn K (.ref f16) = true)
    (a17 : PySem.W.nsIn K mainGlobals "law" = some (some (.ref f17)))
    (l17 : K.lookup f17 = some ⟨oc17, od17, .func (PySem.W.fnOf "law" "law" (defArgs sLaw) (defBody sLaw) (defScope sLaw) .none kV17 dc17 pm17 an17 cd17 ct17), sl17⟩)
    (c17 : PySem.W.codeIn K cd17 "law" = true)
    (k17 : PySem.W.keepIn K (.ref f17) = true)
    (a18 : PySem.W.findIn K (.ref CW) "__init__" = some (some (.ref f18)))
    (i18 : PySem.W.isFn K (.ref f18) = true)
    (l18 : K.lookup f18 = some ⟨oc18, od18, .func (PySem.W.fnOf "__init__" "Writing.__init__" (defArgs sWInit) (defBody sWInit) (defScope sWInit) .none kV18 dc18 pm18 an18 cd18 ct18), sl18⟩)
    (c18 : PySem.W.codeIn K cd18 "Writing.__init__" = true)
    (k18 : PySem.W.keepIn K (.ref f18) = true)
    (a19 : PySem.W.findIn K (.ref CB) "__init__" = some (some (.ref f19)))
    (i19 : PySem.W.isFn K (.ref f19) = true)
    (l19 : K.lookup f19 = some ⟨oc19, od19, .func (PySem.W.fnOf "__init__" "Book.__init__" (defArgs sBInit) (defBody sBInit) (defScope sBInit) .none kV19 dc19 pm19 an19 cd19 ct19), sl19⟩)
    (c19 : PySem.W.codeIn K cd19 "Book.__init__" = true)
    (k19 : PySem.W.keepIn K (.ref f19) = true)
    (a20 : PySem.W.findIn K (.ref CB) "write" = some (some (.ref f20)))
    (i20 : PySem.W.isFn K (.ref f20) = true)
    (l20 : K.lookup f20 = some ⟨oc20, od20, .func (PySem.W.fnOf "write" "Book.write" (defArgs sWrite) (defBody sWrite) (defScope sWrite) .none kV20 dc20 pm20 an20 cd20 ct20), sl20⟩)
    (c20 : PySem.W.codeIn K cd20 "Book.write" = true)
    (k20 : PySem.W.keepIn K (.ref f20) = true)
    (a21 : PySem.W.findIn K (.ref CB) "take_in" = some (some (.ref f21)))
    (i21 : PySem.W.isFn K (.ref f21) = true)
    (l21 : K.lookup f21 = some ⟨oc21, od21, .func (PySem.W.fnOf "take_in" "Book.take_in" (defArgs sTakeIn) (defBody sTakeIn) (defScope sTakeIn) .none kV21 dc21 pm21 an21 cd21 ct21), sl21⟩)
    (c21 : PySem.W.codeIn K cd21 "Book.take_in" = true)
    (k21 : PySem.W.keepIn K (.ref f21) = true)
    (a22 : PySem.W.findIn K (.ref CB) "told" = some (some (.ref f22)))
    (i22 : PySem.W.isFn K (.ref f22) = true)
    (l22 : K.lookup f22 = some ⟨oc22, od22, .func (PySem.W.fnOf "told" "Book.told" (defArgs sTold) (defBody sTold) (defScope sTold) .none kV22 dc22 pm22 an22 cd22 ct22), sl22⟩)
    (c22 : PySem.W.codeIn K cd22 "Book.told" = true)
    (k22 : PySem.W.keepIn K (.ref f22) = true)
    (a23 : PySem.W.findIn K (.ref CB) "clashes" = some (some (.ref f23)))
    (i23 : PySem.W.isFn K (.ref f23) = true)
    (l23 : K.lookup f23 = some ⟨oc23, od23, .func (PySem.W.fnOf "clashes" "Book.clashes" (defArgs sClashes) (defBody sClashes) (defScope sClashes) .none kV23 dc23 pm23 an23 cd23 ct23), sl23⟩)
    (c23 : PySem.W.codeIn K cd23 "Book.clashes" = true)
    (k23 : PySem.W.keepIn K (.ref f23) = true)
    (a24 : PySem.W.findIn K (.ref CB) "writing" = some (some (.ref f24)))
    (i24 : PySem.W.isFn K (.ref f24) = true)
    (l24 : K.lookup f24 = some ⟨oc24, od24, .func (PySem.W.fnOf "writing" "Book.writing" (defArgs sWriting) (defBody sWriting) (defScope sWriting) .none kV24 dc24 pm24 an24 cd24 ct24), sl24⟩)
    (c24 : PySem.W.codeIn K cd24 "Book.writing" = true)
    (k24 : PySem.W.keepIn K (.ref f24) = true)
    (pgCW : PySem.W.plainGet K CW Str.empty = true)
    (hdCW : PySem.W.hasDictIn K CW = true)
    (poCW : PySem.W.plainOver K CW = true)
    (saCW : PySem.W.findIn K (.ref CW) "__setattr__" = some (some (.builtin "object.__setattr__")))
    (mkCW : PySem.W.makesIn K CW = true)
    (kcCW : PySem.W.keepIn K (.ref CW) = true)
    (pgCB : PySem.W.plainGet K CB Str.empty = true)
    (hdCB : PySem.W.hasDictIn K CB = true)
    (poCB : PySem.W.plainOver K CB = true)
    (saCB : PySem.W.findIn K (.ref CB) "__setattr__" = some (some (.builtin "object.__setattr__")))
    (mkCB : PySem.W.makesIn K CB = true)
    (kcCB : PySem.W.keepIn K (.ref CB) = true)
    (nCWmark : PySem.W.findIn K (.ref CW) "mark" = some none)
    (nCWwords : PySem.W.findIn K (.ref CW) "words" = some none)
    (nCWmade_from : PySem.W.findIn K (.ref CW) "made_from" = some none)
    (nCWseen : PySem.W.findIn K (.ref CW) "seen" = some none)
    (nCBhand : PySem.W.findIn K (.ref CB) "hand" = some none)
    (nCBmany : PySem.W.findIn K (.ref CB) "many" = some none)
    (nCBheld : PySem.W.findIn K (.ref CB) "held" = some none)
    (kN : PySem.W.keepIn K (.ref CN) = true)
    (xN : PySem.W.excIn K CN [.type "ValueError", .type "Exception", .type "BaseException", .type "object"] "ValueError.__new__" = true)
    (bN : PySem.W.subIn K (.ref CN) (.type "BaseException") = some true)
    (tN : PySem.W.typeIn K (.ref CN) = some (.type "type"))
    (eg : PySem.W.findIn K (.ref CN) "__getattribute__" = some (some (.builtin "BaseException.__getattribute__")))
    (ek : PySem.W.findIn K (.ref CN) "__getattr__" = some none)
    (ed : PySem.W.hasDictIn K CN = true)
    (ea : PySem.W.findIn K (.ref CN) "__class__" = some (some (.builtin "object.__class__")))
    (en : PySem.W.specialIn K (.builtin "object.__class__") "__get__" = some (some (.builtin "getset_descriptor.__get__")))
    (et : PySem.W.takesIn K (.builtin "object.__class__") = some true)
    (em : PySem.W.mroIn K CN (.type "object") = some true)
    (sS : PySem.W.subIn K (.ref CS) (.type "BaseException") = some true)
    (hS : PySem.W.hasDictIn K CS = true)
    (tS : PySem.W.typeIn K (.ref CS) = some (.type "type"))
    (uS : PySem.W.subIn K (.ref CN) (.ref CS) = some true)
    (vE : PySem.W.kitOne K (.ref CN) (.type "ValueError") = some true)
    (o1 : PySem.W.kitOne K (.ref CN) (.ref C1) = some false)
    (o2 : PySem.W.kitOne K (.ref CN) (.ref C2) = some false)
    (o3 : PySem.W.kitOne K (.ref CN) (.ref C3) = some false)
    (o4 : PySem.W.kitOne K (.ref CN) (.ref C4) = some false)
    (o5 : PySem.W.kitOne K (.ref CN) (.ref C5) = some false)
    (o6 : PySem.W.kitOne K (.ref CN) (.ref C6) = some false)
    (o7 : PySem.W.kitOne K (.ref CN) (.ref C7) = some false)
    (o8 : PySem.W.kitOne K (.ref CN) (.ref C8) = some false)
    (o9 : PySem.W.kitOne K (.ref CN) (.ref C9) = some false)
    (o10 : PySem.W.kitOne K (.ref CN) (.ref C10) = some false)
    (o11 : PySem.W.kitOne K (.ref CN) (.ref C11) = some false)
    (o12 : PySem.W.kitOne K (.ref CN) (.ref C12) = some false)
    (o13 : PySem.W.kitOne K (.ref CN) (.ref C13) = some false)
    (z_len : PySem.W.nsIn K mainGlobals "len" = some none)
    (z_range : PySem.W.nsIn K mainGlobals "range" = some none)
    (z_sorted : PySem.W.nsIn K mainGlobals "sorted" = some none)
    (z_set : PySem.W.nsIn K mainGlobals "set" = some none)
    (z_any : PySem.W.nsIn K mainGlobals "any" = some none)
    (z_isinstance : PySem.W.nsIn K mainGlobals "isinstance" = some none)
    (z_ValueError : PySem.W.nsIn K mainGlobals "ValueError" = some none)
    : ∃ fd : FuncData, (∀ (s : Shared) (v : Value), BindsTo s fd ⟨[v], []⟩ [("_law_script", v)]) ∧ ∀ base : Heap, K.In base → base.Ns mainGlobals mg → FnOk P w K mg base CX0 6 fa fd ["_law_script"] (spLaw K) := by
  have e := hfa.symm.trans (PySem.W.mg_of X G a17)
  cases e
  have F1 := fun_mk (st := sSeen) l1 c1 k1
  have b1 := F1.binds (ps := ["writings"]) fun _ _ _ _ _ _ us hl => match us, hl with | [_], _ => rfl
  have g1 := PySem.W.mg_of X G a1
  have F2 := fun_mk (st := sUnseen) l2 c2 k2
  have b2 := F2.binds (ps := ["writings"]) fun _ _ _ _ _ _ us hl => match us, hl with | [_], _ => rfl
  have g2 := PySem.W.mg_of X G a2
  have F3 := fun_mk (st := sUnlike) l3 c3 k3
  have b3 := F3.binds (ps := ["writings"]) fun _ _ _ _ _ _ us hl => match us, hl with | [_], _ => rfl
  have g3 := PySem.W.mg_of X G a3
  have F4 := fun_mk (st := sCellAt) l4 c4 k4
  have b4 := F4.binds (ps := ["_law_script", "_law_k"]) fun _ _ _ _ _ _ us hl => match us, hl with | [_, _], _ => rfl
  have g4 := PySem.W.mg_of X G a4
  have F5 := fun_mk (st := sSome) l5 c5 k5
  have b5 := F5.binds (ps := ["_law_cell", "_law_many"]) fun _ _ _ _ _ _ us hl => match us, hl with | [_, _], _ => rfl
  have g5 := PySem.W.mg_of X G a5
  have F6 := fun_mk (st := sRow) l6 c6 k6
  have b6 := F6.binds (ps := ["_law_cell"]) fun _ _ _ _ _ _ us hl => match us, hl with | [_], _ => rfl
  have g6 := PySem.W.mg_of X G a6
  have F7 := fun_mk (st := sAnother) l7 c7 k7
  have b7 := F7.binds (ps := ["_law_e"]) fun _ _ _ _ _ _ us hl => match us, hl with | [_], _ => rfl
  have g7 := PySem.W.mg_of X G a7
  have F8 := fun_mk (st := sNone) l8 c8 k8
  have b8 := F8.binds (ps := ["_law_book", "_law_piece"]) fun _ _ _ _ _ _ us hl => match us, hl with | [_, _], _ => rfl
  have g8 := PySem.W.mg_of X G a8
  have F9 := fun_mk (st := sPair) l9 c9 k9
  have b9 := F9.binds (ps := ["_law_cell", "_law_plain"]) fun _ _ _ _ _ _ us hl => match us, hl with | [_, _], _ => rfl
  have g9 := PySem.W.mg_of X G a9
  have F10 := fun_mk (st := sDrawn) l10 c10 k10
  have b10 := F10.binds (ps := ["_law_cell", "_law_many", "_law_spots", "_law_plain"]) fun _ _ _ _ _ _ us hl => match us, hl with | [_, _, _, _], _ => rfl
  have g10 := PySem.W.mg_of X G a10
  have F11 := fun_mk (st := sHeld) l11 c11 k11
  have b11 := F11.binds (ps := ["_law_done", "_law_met", "_law_piece"]) fun _ _ _ _ _ _ us hl => match us, hl with | [_, _, _], _ => rfl
  have g11 := PySem.W.mg_of X G a11
  have F12 := fun_mk (st := sLUnlike) l12 c12 k12
  have b12 := F12.binds (ps := ["_law_done", "_law_met", "_law_piece"]) fun _ _ _ _ _ _ us hl => match us, hl with | [_, _, _], _ => rfl
  have g12 := PySem.W.mg_of X G a12
  have F13 := fun_mk (st := sLTold) l13 c13 k13
  have b13 := F13.binds (ps := ["_law_done", "_law_met", "_law_spots"]) fun _ _ _ _ _ _ us hl => match us, hl with | [_, _, _], _ => rfl
  have g13 := PySem.W.mg_of X G a13
  have F14 := fun_mk (st := sIs) l14 c14 k14
  have b14 := F14.binds (ps := ["_law_book", "_law_piece", "_law_pairs"]) fun _ _ _ _ _ _ us hl => match us, hl with | [_, _, _], _ => rfl
  have g14 := PySem.W.mg_of X G a14
  have F15 := fun_mk (st := sLooks) l15 c15 k15
  have b15 := F15.binds (ps := ["_law_book", "_law_done", "_law_met", "_law_spots", "_law_cell"]) fun _ _ _ _ _ _ us hl => match us, hl with | [_, _, _, _, _], _ => rfl
  have g15 := PySem.W.mg_of X G a15
  have F16 := fun_mk (st := sDeed) l16 c16 k16
  have b16 := F16.binds (ps := ["_law_books", "_law_done", "_law_met", "_law_spots", "_law_cell", "_law_plain"]) fun _ _ _ _ _ _ us hl => match us, hl with | [_, _, _, _, _, _], _ => rfl
  have g16 := PySem.W.mg_of X G a16
  have F17 := fun_mk (st := sLaw) l17 c17 k17
  have b17 := F17.binds (ps := ["_law_script"]) fun _ _ _ _ _ _ us hl => match us, hl with | [_], _ => rfl
  have g17 := PySem.W.mg_of X G a17
  have F18 := fun_mk (st := sWInit) l18 c18 k18
  have b18 := F18.binds (ps := ["self", "mark", "words", "made_from", "seen"]) fun _ _ _ _ _ _ us hl => match us, hl with | [_, _, _, _, _], _ => rfl
  have F19 := fun_mk (st := sBInit) l19 c19 k19
  have b19 := F19.binds (ps := ["self", "hand"]) fun _ _ _ _ _ _ us hl => match us, hl with | [_, _], _ => rfl
  have F20 := fun_mk (st := sWrite) l20 c20 k20
  have b20 := F20.binds (ps := ["self", "tongue", "key", "text", "first"]) fun _ _ _ _ _ _ us hl => match us, hl with | [_, _, _, _, _], _ => rfl
  have F21 := fun_mk (st := sTakeIn) l21 c21 k21
  have b21 := F21.binds (ps := ["self", "other"]) fun _ _ _ _ _ _ us hl => match us, hl with | [_, _], _ => rfl
  have F22 := fun_mk (st := sTold) l22 c22 k22
  have b22 := F22.binds (ps := ["self"]) fun _ _ _ _ _ _ us hl => match us, hl with | [_], _ => rfl
  have F23 := fun_mk (st := sClashes) l23 c23 k23
  have b23 := F23.binds (ps := ["self"]) fun _ _ _ _ _ _ us hl => match us, hl with | [_], _ => rfl
  have F24 := fun_mk (st := sWriting) l24 c24 k24
  have b24 := F24.binds (ps := ["self", "tongue", "key"]) fun _ _ _ _ _ _ us hl => match us, hl with | [_, _, _], _ => rfl
  have m_len := PySem.W.mg_none_of X G z_len
  have m_range := PySem.W.mg_none_of X G z_range
  have m_sorted := PySem.W.mg_none_of X G z_sorted
  have m_set := PySem.W.mg_none_of X G z_set
  have m_any := PySem.W.mg_none_of X G z_any
  have m_isinstance := PySem.W.mg_none_of X G z_isinstance
  have m_ValueError := PySem.W.mg_none_of X G z_ValueError
  have tW : TxtW K mg CW := ⟨⟨pgCW, hdCW, poCW, saCW⟩, nCWmark, nCWwords, nCWmade_from, nCWseen, PySem.W.mg_of X G aW⟩
  have tB : TxtB K mg CB := ⟨⟨pgCB, hdCB, poCB, saCB⟩, nCBhand, nCBmany, nCBheld, PySem.W.mg_of X G aB⟩
  have tX : TxtN K mg CN := ⟨PySem.W.mg_of X G aN, kN, xN, bN, tN⟩
  have tC : Caught K mg CN CS := ⟨PySem.W.mg_of X G aS, PySem.W.exm_ref sS hS tS uS, m_ValueError, vE⟩
  have tO : Oths K mg CN C1 C2 C3 C4 C5 C6 C7 C8 C9 C10 C11 C12 C13 := ⟨⟨eg, ek, bN, ed, ea, en, et, em⟩, ⟨PySem.W.mg_of X G aO1, o1⟩, ⟨PySem.W.mg_of X G aO2, o2⟩, ⟨PySem.W.mg_of X G aO3, o3⟩, ⟨PySem.W.mg_of X G aO4, o4⟩, ⟨PySem.W.mg_of X G aO5, o5⟩, ⟨PySem.W.mg_of X G aO6, o6⟩, ⟨PySem.W.mg_of X G aO7, o7⟩, ⟨PySem.W.mg_of X G aO8, o8⟩, ⟨PySem.W.mg_of X G aO9, o9⟩, ⟨PySem.W.mg_of X G aO10, o10⟩, ⟨PySem.W.mg_of X G aO11, o11⟩, ⟨PySem.W.mg_of X G aO12, o12⟩, ⟨PySem.W.mg_of X G aO13, o13⟩⟩
  have TX : TxtX K mg CB CW CN CS C1 C2 C3 C4 C5 C6 C7 C8 C9 C10 C11 C12 C13 f3 f24 f7 _ _ _ := ⟨tB, tW, tX, tC, tO, m_sorted, m_set, m_len, m_isinstance, F3, b3, g3, F24, b24, ⟨a24, i24, k24⟩, F7, b7, g7⟩
  refine ⟨PySem.W.fnOf "law" "law" (defArgs sLaw) (defBody sLaw) (defScope sLaw) .none kV17 dc17 pm17 an17 cd17 ct17, fun s v => .of_eq rfl, fun base _ _ => ?_⟩
  exact ok_law F17 tB m_len m_range (ok_cellAt F4 m_len) k4 b4 g4 (ok_some F5 m_range) k5 b5 g5
    ⟨mkCB, a19, i19, kcCB⟩ (ok_binit F19 tB) b19
    (ok_deed F16 tB tW m_any m_len m_range F10 b10 g10 F9 b9 g9 F6 b6 g6 F11 b11 g11 F21 b21 ⟨a21, i21, k21⟩ F2 b2 g2 F20 b20 ⟨a20, i20, k20⟩ F1 b1 g1 ⟨mkCW, a18, i18, kcCW⟩ F18 b18) k16 b16 g16
    (ok_looks F15 TX F8 b8 g8 F22 b22 ⟨a22, i22, k22⟩ F23 b23 ⟨a23, i23, k23⟩ F14 b14 g14 F13 b13 g13 F12 b12 g12 F11 b11 g11) k15 b15 g15
theorem walk {l : PySem.W.OpenLaw} {q : Program} {loose : List Str} {XP : (Str → Option Value) → Heap → Prop} {YP : World → Heap → Prop} {d : DefRec} {K : Params → PySem.W.Frag} (hn : l.most = some 63) (hdf : d.params.defaults = [])
    (hY : ∀ (w : World) (h : Heap), YP w h → (K w.params).In h)
    (F : ∀ (w : World) (mg : Str → Option Value) (fa : Addr) (h : Heap), (K w.params).In h → h.Ns mainGlobals mg → mg d.name = some (.ref fa) →
      ∃ fd : FuncData, (∀ (s : Shared) (u : Value), BindsTo s fd ⟨[u], []⟩ [("_law_script", u)]) ∧ ∀ base : Heap, (K w.params).In base → base.Ns mainGlobals mg → FnOk l.prog w (K w.params) mg base CX0 6 fa fd ["_law_script"] (spLaw (K w.params))) :
    PySem.W.WalkO q loose XP YP l.row.toRowW d [] (fun f vs => PySem.call f vs) :=
  L2.walk_of (n := 63) (k := 6) (x := "_law_script") (CX := fun _ => CX0) (sp := fun w => spLaw (K w.params)) hn (by decide) hdf ⟨rfl, by decide, by decide⟩ hY F (fun _ _ a ns hl _ hS => ⟨a, ns, rfl, hS, hl, fun _ => rfl⟩) fun _ _ _ _ _ z => z
end K82

set_option Elab.async false
set_option linter.all false
open PySem PySem.W PyProof.Rows in
set_option maxRecDepth 100000 in
set_option maxHeartbeats 0 in
theorem PySem.Challenge.cw_saywell_k82_whole_who_saw_what_holds : PySem.Challenge.rw_saywell_k82_whole_who_saw_what.Holds := by
  w_on; o_law; k_head; (case hw => w_witness2)
  k_fill
  refine K82.walk (l := PySem.Challenge.rw_saywell_k82_whole_who_saw_what) rfl rfl (fun w h Y => PySem.W.kIn_of Y) ?F
  case F =>
    intro w mg fa h KX G hmg
    refine' K82.all_mk KX G hmg ?aW ?aB ?aN ?aS ?aO1 ?aO2 ?aO3 ?aO4 ?aO5 ?aO6 ?aO7 ?aO8 ?aO9 ?aO10 ?aO11 ?aO12 ?aO13 ?a1 ?l1 ?c1 ?k1 ?a2 ?l2 ?c2 ?k2 ?a3 ?l3 ?c3 ?k3 ?a4 ?l4 ?c4 ?k4 ?a5 ?l5 ?c5 ?k5 ?a6 ?l6 ?c6 ?k6 ?a7 ?l7 ?c7 ?k7 ?a8 ?l8 ?c8 ?k8 ?a9 ?l9 ?c9 ?k9 ?a10 ?l10 ?c10 ?k10 ?a11 ?l11 ?c11 ?k11 ?a12 ?l12 ?c12 ?k12 ?a13 ?l13 ?c13 ?k13 ?a14 ?l14 ?c14 ?k14 ?a15 ?l15 ?c15 ?k15 ?a16 ?l16 ?c16 ?k16 ?a17 ?l17 ?c17 ?k17 ?a18 ?i18 ?l18 ?c18 ?k18 ?a19 ?i19 ?l19 ?c19 ?k19 ?a20 ?i20 ?l20 ?c20 ?k20 ?a21 ?i21 ?l21 ?c21 ?k21 ?a22 ?i22 ?l22 ?c22 ?k22 ?a23 ?i23 ?l23 ?c23 ?k23 ?a24 ?i24 ?l24 ?c24 ?k24 ?pgCW ?hdCW ?poCW ?saCW ?mkCW ?kcCW ?pgCB ?hdCB ?poCB ?saCB ?mkCB ?kcCB ?nCWmark ?nCWwords ?nCWmade_from ?nCWseen ?nCBhand ?nCBmany ?nCBheld ?kN ?xN ?bN ?tN ?eg ?ek ?ed ?ea ?en ?et ?em ?sS ?hS ?tS ?uS ?vE ?o1 ?o2 ?o3 ?o4 ?o5 ?o6 ?o7 ?o8 ?o9 ?o10 ?o11 ?o12 ?o13 ?z_len ?z_range ?z_sorted ?z_set ?z_any ?z_isinstance ?z_ValueError
    (case aW => k_is)
    (case aB => k_is)
    (case aN => k_is)
    (case aS => k_is)
    (case aO1 => k_is)
    (case aO2 => k_is)
    (case aO3 => k_is)
    (case aO4 => k_is)
    (case aO5 => k_is)
    (case aO6 => k_is)
    (case aO7 => k_is)
    (case aO8 => k_is)
    (case aO9 => k_is)
    (case aO10 => k_is)
    (case aO11 => k_is)
    (case aO12 => k_is)
    (case aO13 => k_is)
    (case a1 => k_is)
    (case l1 => k_is)
    (case c1 => k_is)
    (case k1 => k_is)
    (case a2 => k_is)
    (case l2 => k_is)
    (case c2 => k_is)
    (case k2 => k_is)
    (case a3 => k_is)
    (case l3 => k_is)
    (case c3 => k_is)
    (case k3 => k_is)
    (case a4 => k_is)
    (case l4 => k_is)
    (case c4 => k_is)
    (case k4 => k_is)
    (case a5 => k_is)
    (case l5 => k_is)
    (case c5 => k_is)
    (case k5 => k_is)
    (case a6 => k_is)
    (case l6 => k_is)
    (case c6 => k_is)
    (case k6 => k_is)
    (case a7 => k_is)
    (case l7 => k_is)
    (case c7 => k_is)
    (case k7 => k_is)
    (case a8 => k_is)
    (case l8 => k_is)
    (case c8 => k_is)
    (case k8 => k_is)
    (case a9 => k_is)
    (case l9 => k_is)
    (case c9 => k_is)
    (case k9 => k_is)
    (case a10 => k_is)
    (case l10 => k_is)
    (case c10 => k_is)
    (case k10 => k_is)
    (case a11 => k_is)
    (case l11 => k_is)
    (case c11 => k_is)
    (case k11 => k_is)
    (case a12 => k_is)
    (case l12 => k_is)
    (case c12 => k_is)
    (case k12 => k_is)
    (case a13 => k_is)
    (case l13 => k_is)
    (case c13 => k_is)
    (case k13 => k_is)
    (case a14 => k_is)
    (case l14 => k_is)
    (case c14 => k_is)
    (case k14 => k_is)
    (case a15 => k_is)
    (case l15 => k_is)
    (case c15 => k_is)
    (case k15 => k_is)
    (case a16 => k_is)
    (case l16 => k_is)
    (case c16 => k_is)
    (case k16 => k_is)
    (case a17 => k_is)
    (case l17 => k_is)
    (case c17 => k_is)
    (case k17 => k_is)
    (case a18 => k_is)
    (case i18 => k_is)
    (case l18 => k_is)
    (case c18 => k_is)
    (case k18 => k_is)
    (case a19 => k_is)
    (case i19 => k_is)
    (case l19 => k_is)
    (case c19 => k_is)
    (case k19 => k_is)
    (case a20 => k_is)
    (case i20 => k_is)
    (case l20 => k_is)
    (case c20 => k_is)
    (case k20 => k_is)
    (case a21 => k_is)
    (case i21 => k_is)
    (case l21 => k_is)
    (case c21 => k_is)
    (case k21 => k_is)
    (case a22 => k_is)
    (case i22 => k_is)
    (case l22 => k_is)
    (case c22 => k_is)
    (case k22 => k_is)
    (case a23 => k_is)
    (case i23 => k_is)
    (case l23 => k_is)
    (case c23 => k_is)
    (case k23 => k_is)
    (case a24 => k_is)
    (case i24 => k_is)
    (case l24 => k_is)
    (case c24 => k_is)
    (case k24 => k_is)
    (case pgCW => k_is)
    (case hdCW => k_is)
    (case poCW => k_is)
    (case saCW => k_is)
    (case mkCW => k_is)
    (case kcCW => k_is)
    (case pgCB => k_is)
    (case hdCB => k_is)
    (case poCB => k_is)
    (case saCB => k_is)
    (case mkCB => k_is)
    (case kcCB => k_is)
    (case nCWmark => k_is)
    (case nCWwords => k_is)
    (case nCWmade_from => k_is)
    (case nCWseen => k_is)
    (case nCBhand => k_is)
    (case nCBmany => k_is)
    (case nCBheld => k_is)
    (case kN => k_is)
    (case xN => kernel_rfl)
    (case bN => k_is)
    (case tN => k_is)
    (case eg => k_is)
    (case ek => k_is)
    (case ed => k_is)
    (case ea => k_is)
    (case en => k_is)
    (case et => k_is)
    (case em => k_is)
    (case sS => k_is)
    (case hS => k_is)
    (case tS => k_is)
    (case uS => k_is)
    (case vE => kit_is)
    (case o1 => kit_is)
    (case o2 => kit_is)
    (case o3 => kit_is)
    (case o4 => kit_is)
    (case o5 => kit_is)
    (case o6 => kit_is)
    (case o7 => kit_is)
    (case o8 => kit_is)
    (case o9 => kit_is)
    (case o10 => kit_is)
    (case o11 => kit_is)
    (case o12 => kit_is)
    (case o13 => kit_is)
    (case z_len => k_is)
    (case z_range => k_is)
    (case z_sorted => k_is)
    (case z_set => k_is)
    (case z_any => k_is)
    (case z_isinstance => k_is)
    (case z_ValueError => k_is)

