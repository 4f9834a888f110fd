import PyProof.Rows.All
import Wide.All
import OpenK.AllK
import Wide.FinOn
import HandS.ForMost
import HandS.DictTup
import HandS.DictComp
import HandS.ListItems
import HandS.TupAny
import HandS.TupLen
import HandS.Walk
import HandS.More
import HandS.Small
import KE.KDictPairs
import KE.KDictKeyed
import KE.KEqDict
import HandS.Style
import PySem.Challenge.RW_everyoctetonce_k35_ports_of_translators
set_option Elab.async false
set_option linter.all false
set_option maxRecDepth 100000
set_option maxHeartbeats 4000000
/-! Own rules: dicts whose keys are tuples: walked by items, as a list of items. -/
namespace E8
open PySem PySem.Spec PyProof.Rows L2

/-- what stands in a dict with tuple keys, entry by entry -/
theorem ent_of {P : Program} {w : World} {H : Hp} {h : Heap} {d : Addr} {kvs : List (List L2.Key × V)} (x : ObjOk P w H h d (.dT kvs)) :
    kvs.length ≤ sizeLine ∧ (d == sysModules) = false ∧ ∃ (o : Obj) (es : Array DictEntry) (ep : Nat), h.get? d = some o ∧ o.dict = none ∧ DT.Raw h d es ep ∧ o.data = .dict es ep ∧ es.size = kvs.length ∧
      ∀ (i : Nat) (k : List L2.Key) (v : V), kvs[i]? = some (k, v) → ∃ (en : DictEntry) (q : Addr), es[i]? = some en ∧ en.key = .ref q ∧ H q = some (.tup (k.map kV)) ∧ RelV v en.val := by
  obtain ⟨z, y, xs, pr, o, es, ep, ho, hx, hd, he, hn⟩ := x
  refine ⟨z, y, o, es, ep, ho, hx.2.1, ⟨o, ho, hx, hd⟩, hd, ?_, fun i k v e => ?_⟩
  · rw [size_of_entries he]
    exact (Paired.length pr).symm
  · obtain ⟨b, hb, e1, e2, e3⟩ := L2.paired_get pr e
    have q := entry_at he i
    rw [hb] at q
    exact ⟨_, b.2.1, q, rfl, e2, e3⟩

/-- the pairs of a locked dict with tuple keys, each a new tuple -/
def ItT (d : Addr) (o : Obj) (kvs : List (List L2.Key × V)) : It where
  go := fun i H => H d = some (.frz o (.dT kvs)) ∧ i < kvs.length
  yld := fun i H x H' => ∃ T k v q, kvs[i]? = some (k, v) ∧ H q = some (.tup (k.map kV)) ∧ x = .ref T ∧ H T = none ∧ H' = upd H T (.tup [.ref q, v])
  stop := fun i H => H d = some (.frz o (.dT kvs)) ∧ kvs.length ≤ i

theorem turn_itemsT {P : Program} {w : World} {K : PySem.W.Frag} {d : Addr} {o : Obj} {kvs : List (List L2.Key × V)} {elts : List Expr} {kk : Nat} {tpos : Pos} {es : Array DictEntry} {ep : Nat} (it : Addr) (hod : o.data = .dict es ep) :
    Turn P w K (.Tuple elts kk tpos) (ItT d o kvs) [it] it (fun i h => ∃ ok ov, IsItemIter h it d i es.size ep ok ov) where
  mem := List.mem_cons_self
  obj := fun i h st b hb => by
    obtain ⟨ok, ov, e⟩ := st
    obtain rfl : b = it := by simpa using hb
    exact ⟨_, e, fun v z => nomatch z⟩
  keep := fun i h h' st k => by
    obtain ⟨ok, ov, e⟩ := st
    exact ⟨ok, ov, k it (by simp) _ e⟩
  item := by
    intro X hP hw hK hc i pins s σ H E I hf st hg
    subst hP hw hK
    obtain ⟨hd, hi⟩ := hg
    obtain ⟨hgd, x⟩ := I.hok d _ hd
    obtain ⟨z, hs, o', es', ep', ho', hdn, raw, hdt, hsz, ent⟩ := ent_of x
    rw [hgd] at ho'
    cases ho'
    obtain ⟨rfl, rfl⟩ := dict_ep hod hdt
    obtain ⟨ok, ov, he⟩ := st
    have hlt : it < s.heap.objs.size := Heap.lt_size he
    have his : i < es'.size := by omega
    obtain ⟨⟨k, v⟩, hkv⟩ : ∃ p, kvs[i]? = some p := ⟨kvs[i], List.getElem?_eq_getElem hi⟩
    obtain ⟨en, q, h1, h2, h3, h4⟩ := ent i k v hkv
    have hen : es'[i] = en := Option.some.inj ((Array.getElem?_eq_getElem his).symm.trans h1)
    refine DT.nextI he raw his fun h' ho hT hz hk => ?_
    refine ⟨_, rfl, wpAny_letOwnedTupleGo_items (s := { s with heap := h' }) ho fun h'' he' sb => ?_⟩
    have hT2 : h''.get? s.heap.objs.size = some { cls := .type "tuple", data := .seq #[es'[i].key, es'[i].val] } := (sb.2 _ (Nat.ne_of_gt hlt)).trans hT
    have new : ObjOk X.prog X.w (upd H s.heap.objs.size (.tup [.ref q, v])) h'' s.heap.objs.size (.tup [.ref q, v]) :=
      ⟨by show 2 ≤ sizeLine; decide, [es'[i].key, es'[i].val], .cons (by rw [hen]; exact h2) (.cons (by rw [hen]; exact h4) .nil), ⟨_, hT2, rfl, _, rfl⟩⟩
    have I1 : Inv X pins σ (upd H s.heap.objs.size (.tup [.ref q, v])) { s with heap := h'' } :=
      I.turnedNew (t' := s.toks) (ch := [it]) (fun b ob hb e => (sb.2 b (by simpa using hb)).trans (hk b ob (by simpa using hb) e)) hf (Nat.le_refl _) new
    refine ⟨.ref s.heap.objs.size, _, I1, rfl, ⟨_, k, v, q, hkv, h3, rfl, I.hok.fresh (Nat.le_refl _), rfl⟩, ⟨_, _, he'⟩, fun b hb => ?_⟩
    obtain rfl : b = it := by simpa using hb
    rw [upd_ne (Nat.ne_of_lt hlt)]
    exact (hf b hb).1
  done := by
    intro X hP hw hK hc i pins s σ H E I hf st hg
    subst hP hw hK
    obtain ⟨hd, hi⟩ := hg
    obtain ⟨hgd, x⟩ := I.hok d _ hd
    obtain ⟨f0, f1, f2, f3, f4, f5⟩ := hf it (by simp)
    obtain ⟨z, hs, o', es', ep', ho', hdn, raw, hdt, hsz, ent⟩ := ent_of x
    rw [hgd] at ho'
    cases ho'
    obtain ⟨rfl, rfl⟩ := dict_ep hod hdt
    obtain ⟨ok, ov, he⟩ := st
    exact DT.endI (I.ok.hd hc) he raw (by omega) fun h' eb => ⟨rfl, I.turned (t' := s.toks) (fun b ob hb e => eb b ob hb e) f0 f1 f3 f4 f5⟩
  self := fun A i s Q E st h => by
    obtain ⟨ok, ov, e⟩ := st
    exact PySem.W.kcp_self e h

/-- for a, b in d.items(): the dict is locked -/
def iItT (td : TE) : TI := fun σ H R => td σ H fun x H1 => ∃ d o kvs, x = .ref d ∧ H1 d = some (.frz o (.dT kvs)) ∧ R (ItT d o kvs) H1
section
variable {X : Cx} {e : Expr} {td : TE} {apos cpos : Pos}
theorem pi_itemsT {elts : List Expr} {kk : Nat} {tpos : Pos} (he : PE X e td) (hbase : attributeBase e "items" X.env (eval e X.env) = eval e X.env := by rfl) (hline : (apos.endLine == cpos.line) = true := by rfl) :
    PI X (.Tuple elts kk tpos) (.Call (.Attribute e "items" apos) [] [] cpos) (iItT td) := by
  refine ⟨fun pins s σ H R I h => ?_⟩
  refine wpAny_Call_method (T := "dict") (id := "dict.items") hbase rfl hline F.plainAttrs_dict F.slot_dict_items F.type_dict_items ?_
  refine thn (he.run pins s σ H _ I h) fun u s1 ⟨x, H1, I1, rx, d, o, kvs, ex, hd, q⟩ => ?_
  subst ex
  obtain rfl : u = Value.ref d := rx
  obtain ⟨hgd, xo⟩ := I1.hok d _ hd
  obtain ⟨z, hs, o', es, ep, ho', hdn, raw, hdt, hsz, ent⟩ := ent_of xo
  have eo := ho'.symm.trans hgd
  cases eo
  have I2 : Inv X pins σ H1 { s1 with heap := s1.heap.push { cls := .type "dict_items", data := .fields #[.ref d] } } := I1.kept (t' := s1.toks) fun b ob q => Heap.get?_push_of_some _ q
  refine ⟨raw.typeIs, fun b eb => ?_, ?_⟩
  · cases eb
    exact ⟨_, hgd, hdn⟩
  · refine method_meetsIn F.slot_dict_items F.entry_dict_items rfl (PySem.evalArgs_none ⟨rfl, raw.typeIs, F.args_dict_items_1 _, _, DT.meetsItems (es := es) (ep := ep) hs, ⟨raw, ?_⟩⟩)
    refine DT.iterI (d := d) (es := es) (ep := ep) ⟨_, Heap.get?_push_size _ rfl, rfl, rfl⟩ (raw.push _) (pi_one (tk := s1.toks) I2 _ (turn_itemsT _ hdt) ⟨.none, .none, ?_⟩ q)
    exact Heap.get?_push_size _ rfl
end
end E8
namespace E8
open PySem PySem.Spec PyProof.Rows L2

/-! ### list(d.items()), whatever the keys are -/
section
variable {prog : Program} {w : World} {A : Around} {E : Value → Shared → Prop} {s : Shared} {r d : Addr} {es : Array DictEntry} {ep : Nat}
theorem list_init_view {R : Result → Shared → Prop} (hh : A.handled = none) (hv : s.heap.IsItemsView r d) (hm : DT.Raw s.heap d es ep) (S : Addr) (hSr : S ≠ r) (hSd : d ≠ S)
    (hS : s.heap.get? S = some { cls := .type "list", data := .seq #[] }) (hn : es.size ≤ sizeLine)
    (hR : ∀ h' tk acc c as, (∀ b o, b ≠ S → s.heap.get? b = some o → h'.get? b = some o) → h'.get? S = some { cls := .type "list", dict := none, data := .seq acc c, slots := #[] } →
      as.length = es.size → DT.Made es S h' as → acc.toList = as.map Value.ref → R (.ok (.ret .none)) { s with heap := h', toks := tk }) :
    wpAny (model prog w) A.in1 (Builtin.«list.__init__» ⟨[.ref S, .ref r], []⟩)
      (fun fin s' => match fin with | .done f => R (.ok f) s' | .again c' => c'.quiet = true ∧ codeAny (model prog w) A c' R s') (fun e s' => R (.error e) s') s := by
  have start : Builtin.«list.__init__» ⟨[.ref S, .ref r], []⟩ = (do
      let old ← Builtin.List.listItems (.ref S)
      Builtin.List.listUpdate (.ref S) (fun _ => #[])
      letGo old.toList.reverse
      Builtin.List.listExtendWith (.ref S) (.ref r) .none) := rfl
  rw [start]
  refine wpAny_bind ?_
  unfold Builtin.List.listItems
  refine wpAny_bind (wpAny_seqItems hS rfl (wpAny_pure ?_))
  have next : ∀ x : Sem Fin, (Builtin.List.listUpdate (.ref S) (fun _ => #[]) >>= fun _ => x) = (updateSeq S (fun _ => #[]) >>= fun _ => x) := fun _ => rfl
  rw [next]
  refine wpAny_bind (wpAny_updateSeq hS rfl ?_)
  have hS2 := Heap.get?_update_self (Obj.mapSeq fun _ => (#[] : Array Value)) hS rfl
  have oth : ∀ b o, b ≠ S → s.heap.get? b = some o → (s.heap.update S (Obj.mapSeq fun _ => (#[] : Array Value))).get? b = some o := fun b o hb e =>
    (Heap.get?_update_other _ _ (Ne.symm hb)).trans e
  refine wpAny_bind (wpAny_letGo ?_)
  obtain ⟨ov, hov, hvr⟩ := hv
  refine DT.extI (es := es) (ep := ep) hh ⟨ov, oth r ov hSr.symm hov, hvr⟩ (hm.at' fun o e => oth d o hSd e) S hSr hSd .none _ hS2 ?_ hn
  intro h' tk acc c as hk hS' hl hG hacc
  refine hR h' tk acc c as ?_ hS' hl ?_ hacc
  · intro b o hb e
    exact hk b o hb (oth b o hb e)
  · exact hG.low (Nat.le_of_lt (Heap.lt_size hS2))

theorem list_view {Q : Value → Shared → Prop} (hh : A.handled = none) (hv : s.heap.IsItemsView r d) (hm : DT.Raw s.heap d es ep) (hn : es.size ≤ sizeLine)
    (hQ : ∀ h' tk acc c as, (∀ b o, s.heap.get? b = some o → h'.get? b = some o) → h'.get? s.heap.objs.size = some { cls := .type "list", dict := none, data := .seq acc c, slots := #[] } →
      as.length = es.size → DT.Made es s.heap.objs.size h' as → acc.toList = as.map Value.ref → Q (.ref s.heap.objs.size) { s with heap := h', toks := tk }) :
    wpAny (model prog w) A (call (.type "list") [.ref r]) Q E s := by
  refine callType_codes (Q₁ := fun obj s₁ => obj = .ref s.heap.objs.size ∧ s₁ = { s with heap := s.heap.push { cls := .type "list", data := .seq #[] } })
    PySem.F.called_list (PySem.F.typeCall_list_1 _) PySem.F.entry_list_init (code_list_new _ ⟨rfl, rfl⟩) ?_
  rintro obj s1 ⟨rfl, rfl⟩
  have hS : (s.heap.push { cls := .type "list", data := .seq #[] }).get? s.heap.objs.size = some { cls := .type "list", data := .seq #[] } := Heap.get?_push_size _ rfl
  obtain ⟨ov, hov, hvr⟩ := id hv
  have hr : r < s.heap.objs.size := Heap.lt_size hov
  have hd : d < s.heap.objs.size := hm.lt
  refine ⟨⟨_, hS, rfl⟩, PySem.F.args_list_init_2 _ _, ?_⟩
  refine list_init_view (A := A.in1) (es := es) (ep := ep) hh ⟨ov, Heap.get?_push_of_some _ hov, hvr⟩ (hm.push _) _ (Nat.ne_of_gt hr) (Nat.ne_of_lt hd) hS hn ?_
  intro h' tk acc c as hk hS' hl hG hacc
  refine ⟨rfl, hQ h' tk acc c as (fun b o e => ?_) hS' hl hG hacc⟩
  exact hk b o (Nat.ne_of_lt (Heap.lt_size e)) (Heap.get?_push_of_some _ e)
end

/-- tuples laid at their addresses -/
def layT : Hp → List Addr → List (List V) → Hp
  | H, a :: as, x :: xs => layT (upd H a (.tup x)) as xs
  | H, _, _ => H
theorem layT_off {b : Addr} : ∀ (as : List Addr) (xs : List (List V)) (H : Hp), b ∉ as → layT H as xs b = H b
  | [], _, _, _ => rfl
  | _ :: _, [], _, _ => rfl
  | a :: as, x :: xs, H, h => by
    have h1 : b ≠ a := fun z => h (z ▸ List.mem_cons_self)
    have h2 : b ∉ as := fun z => h (List.mem_cons_of_mem _ z)
    show layT (upd H a (.tup x)) as xs b = H b
    rw [layT_off as xs _ h2, upd_ne h1]
theorem layT_at : ∀ (as : List Addr) (xs : List (List V)) (H : Hp) (i : Nat) (a : Addr) (x : List V), as.Nodup → as[i]? = some a → xs[i]? = some x → layT H as xs a = some (.tup x)
  | [], _, _, i, a, x, _, h, _ => by simp at h
  | _ :: _, [], _, i, a, x, _, _, h => by simp at h
  | a0 :: as, x0 :: xs, H, 0, a, x, hn, h1, h2 => by
    obtain rfl : a0 = a := by simpa using h1
    obtain rfl : x0 = x := by simpa using h2
    show layT (upd H a0 (.tup x0)) as xs a0 = _
    rw [layT_off as xs _ (List.nodup_cons.mp hn).1, upd_same]
  | a0 :: as, x0 :: xs, H, i + 1, a, x, hn, h1, h2 => by
    show layT (upd H a0 (.tup x0)) as xs a = _
    exact layT_at as xs _ i a x (List.nodup_cons.mp hn).2 (by simpa using h1) (by simpa using h2)
/-- list(d.items()): a new list of new pairs -/
def rItL : V → Hp → VK → Prop := fun x H Q => ∃ (d : Addr) (kvs : List (List L2.Key × V)), x = .ref d ∧ H d = some (.dT kvs) ∧
  ∀ (H' : Hp) (p : Addr) (ts : List Addr), Same H H' → H p = none → H' p = some (.lst (ts.map V.ref)) → ts.length = kvs.length →
    (∀ (i : Nat) (t : Addr) (k : List L2.Key) (v : V), ts[i]? = some t → kvs[i]? = some (k, v) → ∃ q, H q = some (.tup (k.map kV)) ∧ H' t = some (.tup [.ref q, v])) → Q (.ref p) H'
def tItL (te : TE) : TE := fun σ H Q => te σ H fun x H1 => rItL x H1 Q

theorem vals_of_refs : ∀ as : List Addr, Vals (as.map V.ref) (as.map Value.ref)
  | [] => .nil
  | _ :: as => .cons rfl (vals_of_refs as)
section
variable {X : Cx} {e : Expr} {te : TE} {p apos cpos pos : Pos}
theorem pe_itL (hc : X.calm = true) (he : PE X e te) (hg : Gl X "list") (hm : X.mg "list" = none) (hv : bootBuiltins "list" = some (.type "list")) (hbase : attributeBase e "items" X.env (eval e X.env) = eval e X.env := by rfl) (hline : (apos.endLine == cpos.line) = true := by rfl)
    (hs : starEach [.Call (.Attribute e "items" apos) [] [] cpos] X.env = (false, eval (.Call (.Attribute e "items" apos) [] [] cpos) X.env) :: starEach [] X.env := by rfl) :
    PE X (.Call (.Name "list" p) [.Call (.Attribute e "items" apos) [] [] cpos] [] pos) (tItL te) := by
  refine ⟨fun pins s σ H Q I hq => ?_⟩
  refine wpAny_Call_Name_kw (ld_blt I hg hm hv ?_)
  refine PyProof.Rows.callWith_type1 ?_ hs rfl
  rw [hs]
  have back : backTo pos ((false, eval (.Call (.Attribute e "items" apos) [] [] cpos) X.env) :: starEach [] X.env) = (false, eval (.Call (.Attribute e "items" apos) [] [] cpos) X.env) :: backTo pos (starEach [] X.env) := rfl
  rw [back]
  refine Calls.spliced_cons ?_
  refine wpAny_Call_method (T := "dict") (id := "dict.items") hbase rfl hline F.plainAttrs_dict F.slot_dict_items F.type_dict_items ?_
  refine thn (he.run pins s σ H _ I hq) fun u s1 ⟨x, H1, I1, rx, d, kvs, ex, hd, q⟩ => ?_
  subst ex
  obtain rfl : u = Value.ref d := rx
  obtain ⟨hz, hs0, o, es, ep, hgd, hdn, raw, hdt, hsz, ent⟩ := ent_of (I1.hok d _ hd)
  have I2 : Inv X pins σ H1 { s1 with heap := s1.heap.push { cls := .type "dict_items", data := .fields #[.ref d] } } := I1.kept (t' := s1.toks) fun b ob q => Heap.get?_push_of_some _ q
  refine ⟨raw.typeIs, fun b eb => ?_, ?_⟩
  · cases eb
    exact ⟨_, hgd, hdn⟩
  refine method_meetsIn F.slot_dict_items F.entry_dict_items rfl (PySem.evalArgs_none ⟨rfl, raw.typeIs, F.args_dict_items_1 _, _, DT.meetsItems (es := es) (ep := ep) hs0, ⟨raw, ?_⟩⟩)
  refine Calls.spliced_nil ?_
  refine list_view (d := d) (es := es) (ep := ep) (I1.ok.hd hc) ⟨_, Heap.get?_push_size _ rfl, rfl, rfl⟩ (raw.push _) (by omega) ?_
  intro h' tk acc c as hk hS hl hG hacc
  dsimp only at hk hS hG hl ⊢
  generalize hP : (s1.heap.push { cls := .type "dict_items", data := .fields #[.ref d] }).objs.size = S at hS hG ⊢
  have nd : as.Nodup := List.Pairwise.imp (fun {a b} (h : a < b) => Nat.ne_of_lt h) hG.rise
  have newS : H1 S = none := I2.hok.fresh (Nat.le_of_eq hP)
  have new : ∀ t ∈ as, H1 t = none := fun t ht => I2.hok.fresh (by show (s1.heap.push _).objs.size ≤ t; rw [hP]; exact Nat.le_of_lt (hG.above t ht))
  have hSn : S ∉ as := fun z => Nat.lt_irrefl _ (hG.above _ z)
  -- the pairs by their places
  have key : ∃ xs : List (List V), xs.length = kvs.length ∧ ∀ (i : Nat) (k : List L2.Key) (v : V), kvs[i]? = some (k, v) → ∃ q, xs[i]? = some [V.ref q, v] ∧ H1 q = some (.tup (k.map kV)) ∧ ∃ en, es[i]? = some en ∧ en.key = .ref q ∧ RelV v en.val := by
    have each : ∀ i : _root_.Fin kvs.length, ∃ x : List V, ∃ q, x = [V.ref q, kvs[i].2] ∧ H1 q = some (.tup (kvs[i].1.map kV)) ∧ ∃ en, es[i.1]? = some en ∧ en.key = .ref q ∧ RelV kvs[i].2 en.val := fun i => by
      obtain ⟨en, q, h1, h2, h3, h4⟩ := ent i.1 kvs[i].1 kvs[i].2 (List.getElem?_eq_getElem i.2)
      exact ⟨_, q, rfl, h3, en, h1, h2, h4⟩
    obtain ⟨f, hf⟩ : ∃ f : _root_.Fin kvs.length → List V, ∀ i : _root_.Fin kvs.length, ∃ q, f i = [V.ref q, kvs[i].2] ∧ H1 q = some (.tup (kvs[i].1.map kV)) ∧ ∃ en, es[i.1]? = some en ∧ en.key = .ref q ∧ RelV kvs[i].2 en.val :=
      ⟨fun i => (each i).choose, fun i => (each i).choose_spec⟩
    refine ⟨List.ofFn f, by simp, fun i k v e => ?_⟩
    obtain ⟨hi, ei⟩ := List.getElem?_eq_some_iff.mp e
    obtain ⟨q, h1, h2, h3⟩ := hf ⟨i, hi⟩
    have e1 : kvs[(⟨i, hi⟩ : _root_.Fin kvs.length)] = (k, v) := ei
    rw [e1] at h1 h2 h3
    refine ⟨q, ?_, h2, h3⟩
    rw [List.getElem?_ofFn, dif_pos hi]
    exact congrArg some h1
  obtain ⟨xs, hxl, hxs⟩ := key
  have off : ∀ b, b ∉ as → b ≠ S → layT (upd H1 S (.lst (as.map V.ref))) as xs b = H1 b := fun b h1 h2 => by rw [layT_off as xs _ h1, upd_ne h2]
  have kp : Same H1 (layT (upd H1 S (.lst (as.map V.ref))) as xs) := fun b u e => by
    rw [off b (fun z => by rw [new b z] at e; cases e) (fun z => by rw [z, newS] at e; cases e)]
    exact e
  have eS : layT (upd H1 S (.lst (as.map V.ref))) as xs S = some (.lst (as.map V.ref)) := by rw [layT_off as xs _ hSn, upd_same]
  have at_ : ∀ (i : Nat) (t : Addr) (k : List L2.Key) (v : V), as[i]? = some t → kvs[i]? = some (k, v) → ∃ q, H1 q = some (.tup (k.map kV)) ∧ layT (upd H1 S (.lst (as.map V.ref))) as xs t = some (.tup [.ref q, v]) := fun i t k v e1 e2 => by
    obtain ⟨q, h1, h2, _⟩ := hxs i k v e2
    exact ⟨q, h2, layT_at as xs _ i t _ nd e1 h1⟩
  refine ⟨.ref S, _, ?_, rfl, q _ S as kp newS eS (by omega) at_⟩
  refine I2.call' (ch := []) rfl ⟨fun b o q _ _ _ => hk b o q, fun b o q _ _ _ => ⟨o.slots, hk b o q⟩, fun b o q n _ => ?_, fun b o q _ => ⟨o, hk b o q⟩, fun b xs q => kp b _ q, fun b o u q => kp b _ q, fun b ps q => ⟨#[], by rw [kp b _ q]; simp⟩⟩ (fun b u q => ?_) I2.bare fun b z => by simp at z
  · have lt : b < S := by rw [← hP]; exact Heap.lt_size q
    rw [off b (fun z => absurd lt (Nat.not_lt.mpr (Nat.le_of_lt (hG.above b z)))) (Nat.ne_of_lt lt)]
    exact n
  · by_cases hb : b ∈ as
    · obtain ⟨i, ei⟩ := List.mem_iff_getElem?.mp hb
      have hi : i < as.length := (List.getElem?_eq_some_iff.mp ei).1
      obtain ⟨⟨k, v⟩, ek⟩ : ∃ kv, kvs[i]? = some kv := ⟨kvs[i]'(by omega), List.getElem?_eq_getElem _⟩
      obtain ⟨q', h1, h2, en, h3, h4, h5⟩ := hxs i k v ek
      rw [layT_at as xs _ i b _ nd ei h1] at q
      cases q
      obtain ⟨en', g1, g2⟩ := hG.pairs i b ei
      rw [h3] at g1
      cases g1
      exact ⟨by show 2 ≤ sizeLine; decide, [en.key, en.val], .cons h4 (.cons h5 .nil), ⟨_, g2, rfl, _, rfl⟩⟩
    · by_cases hb2 : b = S
      · rw [hb2] at q ⊢
        rw [eS] at q
        cases q
        refine ⟨by rw [List.length_map]; omega, acc.toList, c, by rw [hacc]; exact vals_of_refs as, ?_⟩
        rw [Array.toArray_toList]
        exact hS
      · rw [off b hb hb2] at q
        exact (I2.hok b u q).stay (fun d v _ y => hk d v y) (fun d y => kp d _ y) fun d xs y => kp d _ y
end
end E8
namespace E8
open PySem PySem.Spec PyProof.Rows L2

/-! ### {k: v for .. in ..} whose keys are tuples -/
theorem empty_dT {P : Program} {w : World} {H : Hp} (h : Heap) (hb : sysModules < h.objs.size) : ObjOk P w H (h.push { cls := .type "dict", data := .dict #[] }) h.objs.size (.dT []) := dt_empty h hb
theorem setT {X : Cx} {pins : List (Addr × Obj)} {σ : L2.St} {H : Hp} {s : Shared} {E : Value → Shared → Prop} {D b : Addr} {kvs : List (List L2.Key × V)} {k : List L2.Key} {v : V} {r : Value} {Q : Unit → Shared → Prop}
    (hu : X.A.units < cLine) (I : Inv X pins σ H s) (hD : H D = some (.dT kvs)) (hb : H b = some (.tup (k.map kV))) (hz : kvs.length < sizeLine) (rv : RelV v r)
    (h : ∀ s', Inv X pins σ (upd H D (.dT (putK kvs k v))) s' → Q () s') : wpAny (model X.prog X.w) X.A (dictSet D (.ref b) r) Q E s := by
  obtain ⟨z, hd, xs, rel, dd⟩ := dt_of I.hok hD
  have l1 : xs.length ≤ sizeLine := by rw [← Paired.length rel]; exact z
  have l2 : (putK kvs k v).length ≤ sizeLine := Nat.le_trans (length_putK kvs k v) hz
  refine wpAny_dictSet_heap (hsz := l1) (knd := tupleKind (mixKind X.prog X.w)) hu (key_of I.hok hb) dd fun h' dd' hs => h _ ?_
  obtain ⟨q, es, ep, hq, g2, g3, g4, _, g5⟩ := dd'
  refine d_write I (by rw [hD]; exact True.intro) hs ⟨q, hq⟩ ⟨l2, hd, _, (rel.put k hb rv).keeps fun c ys ec => ?_, q, es, ep, hq, g2, g3, g4, g5⟩
  rw [upd_ne (ne_of ec hD fun z => nomatch z)]
  exact ec
/-- the reading: D the new dict -/
def tDcT (wi : TI) (g : TG) (tt : TT) (tk tv : TE) (vs : List Nat) : TE := fun σ H Q => wi σ H fun J H1 => ∀ D, H1 D = none →
  ∃ W : Nat → Nat → Hp → Prop, (∃ m, W 0 m (upd H1 D (.dT []))) ∧ ∀ i m H, W i m H →
    (J.stop i H ∧ Q (.ref D) H) ∨ (J.go i H ∧ ∃ Nx : Hp → Prop, (∀ H', Nx H' → ∃ m', m' < m ∧ W (i + 1) m' H') ∧
      ∀ x H', J.yld i H x H' → g x (wipe σ vs) H' fun σ2 H2 => wipe σ2 vs = wipe σ vs ∧ tt σ2 H2 fun b H3 =>
        if b = true then tk σ2 H3 fun y H4 => tv σ2 H4 fun z H5 => ∃ kvs k b, y = .ref b ∧ H5 b = some (.tup (k.map kV)) ∧ H5 D = some (.dT kvs) ∧ kvs.length < sizeLine ∧ Nx (upd H5 D (.dT (putK kvs k z)))
        else Nx H3)
section
variable {X : Cx} {kx vx tg iter : Expr} {ifs : List Expr} {scope : Scope} {own : List (Str × Nat)} {pos : Pos} {wi : TI} {g : TG} {tt : TT} {tk tv : TE}
abbrev InBlk (X : Cx) (scope : Scope) (P : Cx → Prop) : Prop := ∀ (s : Shared) (H : Hp) (C : Addr) (cl : List (Str × Addr)) (fp : List Addr), P (X.blk s H scope (compEnvC scope cl C X.env) fp)
theorem dcT_core {pins : List (Addr × Obj)} {s : Shared} {σ : L2.St} {H : Hp} {Q : VK} {pos' : Pos} {use : Option (Value → Sem Unit)} {Qf : Value → Shared → Prop}
    (hc : X.calm = true) (hu : X.A.units < cLine) (hN : X.N.Nodup) (I : Inv X pins σ H s) (hi : PI X tg iter wi) (ok : BlkOk X.N X.env.scope scope own)
    (hg : InBlk X scope fun Y => PG Y tg g) (ht : InBlk X scope fun Y => PTs Y ifs tt) (hk : InBlk X scope fun Y => PE Y kx tk) (he : InBlk X scope fun Y => PE Y vx tv)
    (hs : ∀ x, foldedSetIterable iter X.env x = pure x) (h : tDcT wi g tt tk tv (own.map (·.2)) σ H Q)
    (hRR : ∀ D C s' m H', Inv X pins σ H' s' → Q (.ref D) H' → s'.heap.Ns C m → FpOk X pins H' C → compPost (model X.prog X.w) X.A X.xe use Qf (.ref D) C (.ok .next) s') :
    wpAny (model X.prog X.w) X.A (comprehension (.DictComp kx vx [⟨tg, iter, ifs, 0⟩] scope pos) scope X.env pos' newDict false (eval iter X.env) use) Qf X.xe s := by
  have cells : ∀ y ∈ scope.names, y.2 = .free → ∃ c, X.env.cells.lookup y.1 = some c := fun y hy e =>
    (ok.free y hy e).elim (fun k => I.ok.has _ (.inl k)) fun k => I.ok.has _ (.inr k)
  refine wpAny_comprehension_free (use := use) rfl hs (closure_ok cells) ok.kind (fun y hy e => by rw [ok.uniq y hy, e]) ?_
  refine thn (hi.run pins s σ H _ I h) fun xv s1 hx => thn hx fun itv s2 h2 => ?_
  obtain ⟨it, fp, tn, J, H2, e, I2, T, st2, f2, q⟩ := h2
  subst e
  refine wpAny_newObj_type (newEnv_comp ?_)
  generalize hD : s2.heap.objs.size = D
  have nD : H2 D = none := I2.hok.fresh (Nat.le_of_eq hD)
  obtain ⟨W, ⟨m0, w0⟩, turn⟩ := q D nD
  generalize h3 : s2.heap.push { cls := .type "dict", data := .dict #[] } = hp3
  have s3e : ∃ s3 : Shared, s3 = { s2 with heap := hp3 } := ⟨_, rfl⟩
  obtain ⟨s3, hs3⟩ := s3e
  have h3' : s3.heap = s2.heap.push { cls := .type "dict", data := .dict #[] } := by rw [hs3]; exact h3.symm
  have I3 : Inv X pins σ (upd H2 D (.dT [])) s3 := by
    rw [hs3, ← h3]
    refine I2.laid (t' := s2.toks) (fun b o e => Heap.get?_push_of_some _ e) (Nat.le_of_eq hD) ?_
    rw [← hD]
    exact empty_dT s2.heap I2.big
  have small : ∀ b ∈ fp, b < s2.heap.objs.size := fun b hb => by
    obtain ⟨o, e, _⟩ := T.obj _ _ st2 b hb
    exact Heap.lt_size e
  have f3 : ∀ b ∈ fp, FpOk X pins (upd H2 D (.dT [])) b ∧ b < s3.heap.objs.size := fun b hb => by
    have lt := small b hb
    refine ⟨⟨?_, (f2 b hb).2⟩, by rw [h3', Heap.size_push]; exact Nat.lt_succ_of_lt lt⟩
    rw [upd_ne (by rw [← hD]; exact Nat.ne_of_lt lt)]
    exact (f2 b hb).1
  have st3 : tn 0 s3.heap := T.keep _ _ _ st2 fun b _ o e => by rw [h3']; exact Heap.get?_push_of_some _ e
  have I4 := block_start I3 ok hN f3
  generalize hcl : cellsFrom (s3.heap.objs.size + 1) scope.names (cloFrom X.env.cells scope.names []) = cl at I4
  have pg := hg s3 (upd H2 D (.dT [])) s3.heap.objs.size cl fp
  have pt := ht s3 (upd H2 D (.dT [])) s3.heap.objs.size cl fp
  have pk := hk s3 (upd H2 D (.dT [])) s3.heap.objs.size cl fp
  have pe := he s3 (upd H2 D (.dT [])) s3.heap.objs.size cl fp
  have goal : codeAny (model X.prog X.w) X.A (.compStart (.DictComp kx vx [⟨tg, iter, ifs, 0⟩] scope pos) 0 (.ref it) (.ref D) (compEnvC scope cl s3.heap.objs.size X.env))
      (compPost (model X.prog X.w) X.A X.xe use Qf (.ref D) s3.heap.objs.size) { s3 with heap := pushCells (s3.heap.push { cls := .type "dict", data := .dict #[] }) scope.names } := by
    have nfp : ∀ b ∈ fp, (upd H2 D (.dT [])) b = none := fun b hb => (f3 b hb).1.1
    generalize hce : compEnvC scope cl s3.heap.objs.size X.env = ce at I4 pg pt pk pe ⊢
    have cL : ce.locals = s3.heap.objs.size := by rw [← hce]; rfl
    generalize hH3 : upd H2 D (.dT []) = H3 at I3 I4 pg pt pk pe w0 nfp f3
    generalize hs4 : ({ s3 with heap := pushCells (s3.heap.push { cls := .type "dict", data := .dict #[] }) scope.names } : Shared) = s4 at I4 ⊢
    have st4 : tn 0 s4.heap := T.keep _ _ _ st3 fun b _ o e => by rw [← hs4]; exact pushCells_keeps _ _ _ _ (Heap.get?_push_of_some _ e)
    have stat : ∀ {σ' : L2.St} {H' : Hp} {s' : Shared}, Inv (X.blk s3 H3 scope ce fp) [] σ' H' s' → (∀ b ∈ fp, H' b = none) → ∀ b ∈ fp, FpOk (X.blk s3 H3 scope ce fp) [] H' b := fun I' hn b hb =>
      ⟨hn b hb, (I'.ok.exf b hb).1, I'.ok.exfs b hb, .inl hb, (I'.ok.exf b hb).2, fun p hp => absurd (show p ∈ ([] : List (Addr × Obj)) ++ [] from hp) (by simp)⟩
    have loop : codeAny (model X.prog X.w) X.A (.compLoop (.DictComp kx vx [⟨tg, iter, ifs, 0⟩] scope pos) 0 (.ref it) (.ref D) ce) (compPost (model X.prog X.w) X.A X.xe use Qf (.ref D) s3.heap.objs.size) s4 := by
      refine compLoop_anyD (fun n s' => ∃ i H', Inv (X.blk s3 H3 scope ce fp) [] (wipe σ (own.map (·.2))) H' s' ∧ tn i s'.heap ∧ (∀ b ∈ fp, H' b = none) ∧ W i n H') ?_ m0 ⟨0, H3, I4, st4, nfp, w0⟩
      rintro n s5 ⟨i, H5, I5, st5, n5, w5⟩
      rcases turn i n H5 w5 with ⟨stop, qq⟩ | ⟨go, Nx, hNx, step⟩
      · refine thnF (T.done (X.blk s3 H3 scope ce fp) rfl rfl rfl hc i [] s5 _ H5 (fun _ _ => False) I5 (stat I5 n5) st5 stop) ?_
        rintro r s6 ⟨hr, I6⟩
        subst hr
        have I7 : Inv X pins σ H5 s6 := I3.call' (ch := fp) I6.os I6.base I6.hok I6.bare fun b hb =>
          let z := (f3 b hb).1
          ⟨z.2.2.2.1, z.2.1, z.2.2.2.2.1, z.2.2.2.2.2⟩
        have nC : H5 s3.heap.objs.size = none := cL ▸ (show H5 ce.locals = none from I6.free)
        obtain ⟨m, hn, _⟩ := I6.loc
        have hn' : s6.heap.Ns s3.heap.objs.size m := cL ▸ (show s6.heap.Ns ce.locals m from hn)
        exact hRR D s3.heap.objs.size s6 m H5 I7 qq hn' (I3.fpOk (Nat.le_refl _) nC)
      · refine thnF (T.item (X.blk s3 H3 scope ce fp) rfl rfl rfl hc i [] s5 _ H5 (fun _ _ => False) I5 (stat I5 n5) st5 go) ?_
        rintro r s6 ⟨u, hr, h6⟩
        subst hr
        refine thnF h6 ?_
        rintro _ s7 ⟨x, H7, I7, r7, y7, st7, n7⟩
        have I7' := I7.pinned (stat I7 n7) (T.obj _ _ st7)
        refine thnF (pg.run _ s7 _ H7 x u _ I7' r7 (step x H7 y7)) ?_
        rintro _ s8 ⟨σ8, H8, I8, hw8, q8⟩
        refine thnF (pt.run _ s8 σ8 H8 _ I8 q8) ?_
        rintro b s9 ⟨H9, I9, q9⟩
        have fin : ∀ {s' : Shared} {H' : Hp}, Inv (X.blk s3 H3 scope ce fp) ([] ++ pinsAt fp s7.heap) σ8 H' s' → Nx H' →
            ∃ m, m < n ∧ ∃ i H', Inv (X.blk s3 H3 scope ce fp) [] (wipe σ (own.map (·.2))) H' s' ∧ tn i s'.heap ∧ (∀ b ∈ fp, H' b = none) ∧ W i m H' := fun {s' H'} I' nx => by
          obtain ⟨m', hm, w'⟩ := hNx H' nx
          have pin' : ∀ b ∈ fp, ∀ o, s7.heap.get? b = some o → s'.heap.get? b = some o ∧ H' b = none := fun b hb o e =>
            let z := I'.pin (b, o) (List.mem_append_right _ (List.mem_append_right _ (mem_pinsAt hb e)))
            ⟨z.1, z.2.1⟩
          have hl : (wipe σ (own.map (·.2))).length = σ8.length := by rw [← hw8, wipe_length]
          refine ⟨m', hm, i + 1, H', (I'.unpinned (pins := [])).weak hl (fun j v e => ?_), T.keep _ _ _ st7 fun b hb o e => (pin' b hb o e).1, fun b hb => ?_, w'⟩
          · rw [← hw8] at e
            exact (wipe_some e).1
          · obtain ⟨o, e, _⟩ := T.obj _ _ st7 b hb
            exact (pin' b hb o e).2
        cases b with
        | false =>
          simp only [Bool.false_eq_true, if_false] at q9 ⊢
          exact fin I9 q9
        | true =>
          simp only [if_true] at q9 ⊢
          refine thnF (pk.run _ s9 σ8 H9 _ I9 q9) ?_
          rintro z s10 ⟨yk, H10, I10, r10, q10⟩
          refine thnF (pe.run _ s10 σ8 H10 _ I10 q10) ?_
          rintro z2 s11 ⟨yv, H11, I11, r11, kvs, k, b, ek, hb11, hD11, hz11, nx⟩
          subst ek
          obtain rfl : z = Value.ref b := r10
          exact setT (X := X.blk s3 H3 scope ce fp) hu I11 hD11 hb11 hz11 r11 fun s12 I12 => fin I12 nx
    exact codeAny_compStart_dict loop (T.self X.A 0 _ _ _ st4 loop)
  rw [← hcl, hs3] at goal
  exact goal
theorem pe_dcT (hc : X.calm = true) (hu : X.A.units < cLine) (hN : X.N.Nodup) (hi : PI X tg iter wi) (ok : BlkOk X.N X.env.scope scope own)
    (hg : ∀ (s1 : Shared) (H1 : Hp) (C1 : Addr) (cl1 : List (Str × Addr)) (fp1 : List Addr), PG (X.blk s1 H1 scope (compEnvC scope cl1 C1 X.env) fp1) tg g)
    (ht : ∀ (s1 : Shared) (H1 : Hp) (C1 : Addr) (cl1 : List (Str × Addr)) (fp1 : List Addr), PTs (X.blk s1 H1 scope (compEnvC scope cl1 C1 X.env) fp1) ifs tt)
    (hk : ∀ (s1 : Shared) (H1 : Hp) (C1 : Addr) (cl1 : List (Str × Addr)) (fp1 : List Addr), PE (X.blk s1 H1 scope (compEnvC scope cl1 C1 X.env) fp1) kx tk)
    (he : ∀ (s1 : Shared) (H1 : Hp) (C1 : Addr) (cl1 : List (Str × Addr)) (fp1 : List Addr), PE (X.blk s1 H1 scope (compEnvC scope cl1 C1 X.env) fp1) vx tv)
    (hs : ∀ x, foldedSetIterable iter X.env x = pure x := by intro _; rfl) :
    PE X (.DictComp kx vx [⟨tg, iter, ifs, 0⟩] scope pos) (tDcT wi g tt tk tv (own.map (·.2))) := by
  refine ⟨fun pins s σ H Q I h => ?_⟩
  rw [arm_eval_DictComp]
  refine dcT_core hc hu hN I hi ok hg ht hk he hs h ?_
  intro D C s' m H' I' q hn f
  refine ⟨m, hn, fun h'' sb => ?_⟩
  obtain ⟨f0, f1, f2, f3, f4, f5⟩ := f
  exact ⟨.ref D, H', I'.turned (t' := s'.toks) (fun b o hb e => (sb.2 b hb).trans e) f0 f1 f3 f4 f5, rfl, q⟩
end
end E8
namespace E8
open PySem PySem.Spec PyProof.Rows L2

/-! ### dict(a list of pairs), the keys tuples, no key twice -/
section
variable {X : Cx}
theorem call_dictPT (hcalm : X.calm = true) (hu : X.A.units + 64 < cLine) : CallR X (.type "dict") (fun xs H Q => ∃ (a : Addr) (ps : List Addr) (kvs : List (List L2.Key × V)), xs = [.ref a] ∧ SqL X.K H a (ps.map V.ref) ∧ ps.length = kvs.length ∧ (kvs.map (·.1)).Nodup ∧
    (∀ (i : Nat) (p : Addr) (k : List L2.Key) (v : V), ps[i]? = some p → kvs[i]? = some (k, v) → ∃ q, H p = some (.tup [.ref q, v]) ∧ H q = some (.tup (k.map kV))) ∧
    ∀ p, H p = none → Q (.ref p) (upd H p (.dT kvs))) := by
  intro pins s σ H xs us Q I r q
  obtain ⟨a, ps, kvs, ex, hq, hl, hn, hp, q⟩ := q
  subst ex
  obtain ⟨u, eu, rx⟩ := vals1 r
  subst eu
  cases rx
  obtain ⟨its, rv, pl, hz⟩ := I.list hq
  obtain rfl := refs_at rv
  rw [List.length_map] at hz
  obtain ⟨o, n, ho, hc, hd, hdat⟩ := pl
  -- the entries
  have each : ∀ i : _root_.Fin kvs.length, ∃ y : Addr × Value, ∃ p, ps[i.1]? = some p ∧ IsTup s.heap p #[.ref y.1, y.2] ∧ H y.1 = some (.tup (kvs[i].1.map kV)) ∧ RelV kvs[i].2 y.2 := fun i => by
    have hi : i.1 < ps.length := by omega
    obtain ⟨q, h1, h2⟩ := hp i.1 ps[i.1] kvs[i].1 kvs[i].2 (List.getElem?_eq_getElem hi) (List.getElem?_eq_getElem i.2)
    obtain ⟨_, its, rv', ht⟩ := I.hok _ _ h1
    obtain ⟨u, y, e, ru, ry⟩ := vals2 rv'
    subst e
    cases (show u = Value.ref q from ru)
    exact ⟨(q, y), _, List.getElem?_eq_getElem hi, ht, h2, ry⟩
  obtain ⟨f, hf⟩ : ∃ f : _root_.Fin kvs.length → Addr × Value, ∀ i : _root_.Fin kvs.length, ∃ p, ps[i.1]? = some p ∧ IsTup s.heap p #[.ref (f i).1, (f i).2] ∧ H (f i).1 = some (.tup (kvs[i].1.map kV)) ∧ RelV kvs[i].2 (f i).2 :=
    ⟨fun i => (each i).choose, fun i => (each i).choose_spec⟩
  have at3 : ∀ {α : Type} (g : _root_.Fin kvs.length → α) (j : Nat) (y : α), (List.ofFn g)[j]? = some y → ∃ hj : j < kvs.length, g ⟨j, hj⟩ = y := fun g j y e => by
    rw [List.getElem?_ofFn] at e
    by_cases hj : j < kvs.length
    · rw [dif_pos hj] at e
      exact ⟨hj, Option.some.inj e⟩
    · rw [dif_neg hj] at e
      cases e
  generalize hys : (List.ofFn fun i : _root_.Fin kvs.length => (kvs[i].1, f i)) = ys
  have yl : ys.length = kvs.length := by rw [← hys]; simp
  have ys_at : ∀ (j : Nat) (k : List L2.Key) (v : V), kvs[j]? = some (k, v) → ∃ (b : Addr) (u : Value) (p : Addr), ys[j]? = some (k, b, u) ∧ ps[j]? = some p ∧ IsTup s.heap p #[.ref b, u] ∧ H b = some (.tup (k.map kV)) ∧ RelV v u := fun j k v e => by
    obtain ⟨hj, ej⟩ := List.getElem?_eq_some_iff.mp e
    obtain ⟨p, h1, h2, h3, h4⟩ := hf ⟨j, hj⟩
    have e1 : kvs[(⟨j, hj⟩ : _root_.Fin kvs.length)] = (k, v) := ej
    rw [e1] at h3 h4
    refine ⟨(f ⟨j, hj⟩).1, (f ⟨j, hj⟩).2, p, ?_, h1, h2, h3, h4⟩
    rw [← hys, List.getElem?_ofFn, dif_pos hj, e1]
  have ys_back : ∀ (j : Nat) (y : List L2.Key × Addr × Value), ys[j]? = some y → ∃ (v : V) (p : Addr), kvs[j]? = some (y.1, v) ∧ ps[j]? = some p ∧ IsTup s.heap p #[.ref y.2.1, y.2.2] ∧ H y.2.1 = some (.tup (y.1.map kV)) ∧ RelV v y.2.2 := fun j y e => by
    have hj : j < kvs.length := by rw [← yl]; exact (List.getElem?_eq_some_iff.mp e).1
    obtain ⟨⟨k, v⟩, ek⟩ : ∃ kv, kvs[j]? = some kv := ⟨kvs[j], List.getElem?_eq_getElem hj⟩
    obtain ⟨b, u, p, h1, h2, h3, h4, h5⟩ := ys_at j k v ek
    rw [e] at h1
    cases h1
    exact ⟨v, p, ek, h2, h3, h4, h5⟩
  have keys : ys.map (·.1) = kvs.map (·.1) := by
    refine List.ext_getElem? fun j => ?_
    rw [List.getElem?_map, List.getElem?_map]
    cases e : kvs[j]? with
    | none =>
      have : ys[j]? = none := List.getElem?_eq_none (by rw [yl]; exact List.getElem?_eq_none_iff.mp e)
      rw [this]
      rfl
    | some kv =>
      obtain ⟨b, u, p, h1, _⟩ := ys_at j kv.1 kv.2 e
      rw [h1]
      rfl
  have hz2 : kvs.length ≤ sizeLine := by rw [← hl]; exact hz
  have isK : ∀ y ∈ ys, (tupleKind (mixKind X.prog X.w)).is s.heap y.1 y.2.1 := fun y hy => by
    obtain ⟨j, ej⟩ := List.mem_iff_getElem?.mp hy
    obtain ⟨v, p, _, _, _, h4, _⟩ := ys_back j y ej
    exact key_of I.hok h4
  refine PySem.call_dict_pairsH (knd := tupleKind (mixKind X.prog X.w)) (ps := ys) (PairArg.list a (ps.map Value.ref).toArray (fun j => ps.getD j 0) (ys.map fun y => (Value.ref y.2.1, y.2.2))) (I.ok.hd hcalm)
    (show X.A.units + 1 + 1 < cLine by omega) ⟨⟨o, n, ho, hc, hd, hdat⟩, ?_, ?_⟩ ⟨?_, ?_⟩ ?_ (by rw [List.length_map, yl]; exact hz2) ?_
  · rw [List.length_map, yl]; simp [hl]
  · intro j k v e
    rw [List.getElem?_map] at e
    obtain ⟨y, ey, e2⟩ := Option.map_eq_some_iff.mp e
    cases e2
    obtain ⟨v, p, h1, h2, h3, _⟩ := ys_back j y ey
    have hgd : ps.getD j 0 = p := by rw [List.getD_eq_getElem?_getD, h2]; rfl
    obtain ⟨ob, hob, hcl, m, hda⟩ := h3
    refine ⟨by simp [h2, hgd], .inl ?_⟩
    show s.heap.IsTuple (ps.getD j 0) _
    rw [hgd]
    exact ⟨ob, hob, hcl, m, hda⟩
  · rw [List.length_map]
  · intro i k v e
    have e' : (ys.map fun y => (Value.ref y.2.1, y.2.2))[i]? = some (k, v) := e
    rw [List.getElem?_map] at e'
    obtain ⟨y, ey, e2⟩ := Option.map_eq_some_iff.mp e'
    cases e2
    exact ⟨y.1, y.2.1, ey, rfl⟩
  · intro h' hk y hy
    refine tupleKind_stays.stays (fun b ob vs m e _ => ?_) (isK y hy)
    exact hk b ob (Nat.ne_of_lt (Heap.lt_size e)) (fun z => nomatch z) e
  · intro h' tk hm' hk
    rw [PySem.storedAllH_nil_of_nodup ys (by rw [keys]; exact hn)] at hm'
    have hs : (s.heap.objs.size == sysModules) = false := beq_eq_false_iff_ne.mpr (Nat.ne_of_gt I.big)
    have hfree := I.hok.fresh (Nat.le_refl s.heap.objs.size)
    obtain ⟨o', es, ep, g1, g2, g3, g4, _, g5⟩ := hm'
    refine ⟨.ref s.heap.objs.size, upd H s.heap.objs.size (.dT kvs), I.laid (t' := tk) (fun b ob e => hk b ob (fun z => nomatch z) e) (Nat.le_refl _) ⟨hz2, hs, ys, ?_, o', es, ep, g1, g2, g3, g4, g5⟩, rfl, q _ hfree⟩
    have paired : ∀ (l : List (List L2.Key × V)) (m : List (List L2.Key × Addr × Value)), l.length = m.length → (∀ (j : Nat) (y : List L2.Key × Addr × Value), m[j]? = some y → ∃ v, l[j]? = some (y.1, v) ∧ H y.2.1 = some (.tup (y.1.map kV)) ∧ RelV v y.2.2) →
        Paired (fun (p : List L2.Key × V) (q : List L2.Key × Addr × Value) => p.1 = q.1 ∧ upd H s.heap.objs.size (.dT kvs) q.2.1 = some (.tup (p.1.map kV)) ∧ RelV p.2 q.2.2) l m := by
      intro l
      induction l with
      | nil =>
        intro m hlm _
        cases m with
        | nil => exact .nil
        | cons _ _ => cases hlm
      | cons p l ih =>
        intro m hlm hm
        cases m with
        | nil => cases hlm
        | cons y m =>
          obtain ⟨v, e1, e2, e3⟩ := hm 0 y rfl
          obtain rfl : p = (y.1, v) := by simpa using e1
          refine .cons ⟨rfl, ?_, e3⟩ (ih m (Nat.succ.inj hlm) fun j y' e => hm (j + 1) y' (by simpa using e))
          rw [upd_ne (ne_of_none e2 hfree)]
          exact e2
    refine paired kvs ys yl.symm fun j y e => ?_
    obtain ⟨v, p, h1, h2, h3, h4, h5⟩ := ys_back j y e
    exact ⟨v, h1, h4, h5⟩
end

/-! ### two dicts with tuple keys and int values, the same: d != e is False -/
section
variable {prog : Program} {w : World} {K : Type} [DecidableEq K] {knd : HeapKind prog w K} {A : Around} {E : Value → Shared → Prop} {s : Shared}
theorem same_pairsT {nm : String} {a b : Addr} {xa xb : List (K × Addr × Value)} {Q : Bool → Shared → Prop} (hu : knd.room A) (ha : (a == sysModules) = false) (hb : (b == sysModules) = false)
    (da : s.heap.DictOfH knd a xa) (db : s.heap.DictOfH knd b xb) (hl : xa.length = xb.length)
    (all : ∀ (i : Nat) (k : K) (q : Addr) (v : Value), xa[i]? = some (k, q, v) → ∃ (j : Nat) (q' : Addr) (v' : Value), xb[j]? = some (k, q', v') ∧ SeqAt.EqAt A s v v' true) (h : Q true s) :
    wpAny (model prog w) A (Builtin.Dict.samePairs nm a b) Q E s := by
  obtain ⟨oa, es, ep, hoa, _, hda, hea, hia, hna⟩ := da
  obtain ⟨ob, es', ep', hob, _, hdb, heb, hib, hnb⟩ := db
  have hla : es.size = xa.length := size_of_entries hea
  have hlb : es'.size = xb.length := size_of_entries heb
  unfold Builtin.Dict.samePairs Builtin.Dict.showsAll
  rw [if_neg (by rw [ha]; exact Bool.false_ne_true), if_neg (by rw [hb]; exact Bool.false_ne_true)]
  refine wpAny_bind (wpAny_pure (wpAny_bind (wpAny_pure ?_)))
  refine wpAny_bind (wpAny_dictEntries hoa hda ?_)
  dsimp only
  refine wpAny_bind (wpAny_dictEntries hob hdb ?_)
  have hsz : es.size = es'.size := by omega
  rw [if_neg (by rw [hsz]; simp)]
  refine wpAny_bind (wpAny_dictEpoch hoa hda ?_)
  refine wpAny_bind ?_
  rw [Std.Legacy.Range.forIn_eq_forIn_range']
  simp only [Std.Legacy.Range.size, Nat.sub_zero, Nat.add_sub_cancel, Nat.div_one]
  refine wpAny_forIn_list _ (fun rest q s' => s' = s ∧ q = (none, ()) ∧ ∃ i, rest = List.range' i (es.size - i) ∧ i ≤ es.size) _ ?_ ?_ _ _ ⟨rfl, rfl, 0, by simp, Nat.zero_le _⟩
  · rintro x rest q s' ⟨rfl, rfl, i, hr, hi⟩
    have hlt : i < es.size := by
      rcases Nat.lt_or_ge i es.size with h | h
      · exact h
      · rw [Nat.sub_eq_zero_of_le h] at hr
        simp at hr
    obtain ⟨rfl, hrest⟩ : x = i ∧ rest = List.range' (i + 1) (es.size - (i + 1)) := by
      have e : es.size - i = (es.size - (i + 1)) + 1 := by omega
      rw [e, List.range'_succ] at hr
      injection hr with h1 h2
      exact ⟨h1, h2⟩
    refine wpAny_bind (wpAny_dictEntries hoa hda ?_)
    have hxa : x < xa.length := by omega
    obtain ⟨⟨k, p, v⟩, ek⟩ : ∃ y, xa[x]? = some y := ⟨xa[x], List.getElem?_eq_getElem hxa⟩
    have een : es[x]? = some (entryOfKey knd (k, p, v)) := by rw [entry_at hea x, ek]; rfl
    rw [een]
    have hkey : knd.is s'.heap k p := hia _ (List.mem_of_getElem? ek)
    show wpAny _ _ (holding [Value.ref p, v] _ >>= _) _ _ _
    refine wpAny_bind (wpAny_holding (wpAny_bind ?_))
    obtain ⟨j0, q0, v0, ej, hev⟩ := all x k p v ek
    refine wpAny_dictFind_heap (knd := knd) hu hkey hob hdb heb hib hnb (fun hno => absurd ej (hno j0 _)) fun j pv ej' => ?_
    obtain rfl : j = j0 := idxH_unique hnb ej' ej
    rw [ej] at ej'
    cases ej'
    dsimp only
    refine wpAny_bind (wpAny_dictEntries hob hdb ?_)
    have een' : es'[j]? = some (entryOfKey knd (k, q0, v0)) := by rw [entry_at heb j, ej]; rfl
    rw [een']
    refine wpAny_holding (hev prog w _ _ ?_)
    show wpAny _ _ (if (!true) = true then _ else _) _ _ _
    rw [if_neg (by decide)]
    refine wpAny_bind (wpAny_dictEpoch hoa hda ?_)
    rw [if_neg (by simp)]
    exact wpAny_pure ⟨rfl, rfl, x + 1, hrest, hlt⟩
  · rintro q s' ⟨rfl, rfl, i, hr, hi⟩
    exact wpAny_pure h
theorem ne_dictT {a b : Addr} {xa xb : List (K × Addr × Value)} {Q : Value → Shared → Prop} (hu1 : A.units < cLine) (hu : knd.room A.in1) (ha : (a == sysModules) = false) (hb : (b == sysModules) = false)
    (da : s.heap.DictOfH knd a xa) (db : s.heap.DictOfH knd b xb) (hl : xa.length = xb.length)
    (all : ∀ (i : Nat) (k : K) (q : Addr) (v : Value), xa[i]? = some (k, q, v) → ∃ (j : Nat) (q' : Addr) (v' : Value), xb[j]? = some (k, q', v') ∧ SeqAt.EqAt A.in1 s v v' true) (h : Q (.bool false) s) :
    wpAny (model prog w) A (compareOp .NotEq (.ref a) (.ref b)) Q E s := by
  refine wpAny_richCompare_same_room (op := .NotEq) da.typeIs db.typeIs PySem.F.slot_dict_ne (wpAny_call_entry PySem.F.slot_dict_ne da.typeIs PySem.F.entry_dict_ne ?_ (PySem.F.args_dict_ne_2 _ _)) hu1
  have shape : Builtin.«dict.__ne__» ⟨[.ref a, .ref b], []⟩ = Builtin.«dict.__ne__» ⟨[.ref a, .ref b], []⟩ := rfl
  clear shape
  unfold Builtin.«dict.__ne__»
  refine wpAny_bind ?_
  unfold Builtin.Dict.dictSlotArgs
  refine wpAny_bind (wpAny_notOrdered_dict da.typeIs ?_)
  have args : (pure (Value.ref a, Value.ref b) : Sem (Value × Value)) = pure (Value.ref a, Value.ref b) := rfl
  clear args
  refine wpAny_pure ?_
  refine wpAny_bind (wpAny_isInstance (T := "dict") db.typeIs PySem.F.sub_dict_dict ?_)
  simp only [Bool.not_true, Bool.false_eq_true, if_false]
  refine wpAny_bind (wpAny_pure (wpAny_bind (wpAny_pure ?_)))
  refine wpAny_bind (same_pairsT hu ha hb da db hl all ?_)
  refine wpAny_pure ⟨_, rfl, ?_, ?_⟩
  · exact fun x => nomatch x
  · simpa using h
end
/-- d != e, two dicts with tuple keys, the same ints in the same order -/
def rNeT : R2 := fun x y H Q => ∃ (a b : Addr) (ks : List (List L2.Key × Int)), x = .ref a ∧ y = .ref b ∧ H a = some (.dT (ks.map fun p => (p.1, V.int p.2))) ∧ H b = some (.dT (ks.map fun p => (p.1, V.int p.2))) ∧ Q (.bl false) H
theorem op_neT {X : Cx} (hu : X.A.units + 1 < cLine) : OpR X (compareOp .NotEq) rNeT := by
  intro pins s σ H x y v u Q I rx ry h
  obtain ⟨a, b, ks, rfl, rfl, ea, eb, q⟩ := h
  obtain rfl : v = Value.ref a := rx
  obtain rfl : u = Value.ref b := ry
  obtain ⟨_, ya, xa, ra, da⟩ := dt_of I.hok ea
  obtain ⟨_, yb, xb, rb, db⟩ := dt_of I.hok eb
  have la : ks.length = xa.length := by have := Paired.length ra; rwa [List.length_map] at this
  have lb : ks.length = xb.length := by have := Paired.length rb; rwa [List.length_map] at this
  refine ne_dictT (knd := tupleKind (mixKind X.prog X.w)) (by omega) (tupleKind_room_in1 hu) ya yb da db (by omega) (fun i k p v e => ?_) ⟨.bl false, H, I, rfl, q⟩
  have hi : i < ks.length := by rw [la]; exact (List.getElem?_eq_some_iff.mp e).1
  obtain ⟨⟨k0, n⟩, ek⟩ : ∃ y, ks[i]? = some y := ⟨ks[i], List.getElem?_eq_getElem hi⟩
  have em : (ks.map fun p => (p.1, V.int p.2))[i]? = some (k0, V.int n) := by rw [List.getElem?_map, ek]; rfl
  obtain ⟨ya', e1, e2, _, e3⟩ := L2.paired_get ra em
  rw [e] at e1
  cases e1
  obtain ⟨yb', g1, g2, _, g3⟩ := L2.paired_get rb em
  obtain rfl : k0 = k := e2
  obtain ⟨t, rfl⟩ : ∃ t, v = Value.int n t := e3
  obtain ⟨k1, q1, v1⟩ := yb'
  obtain rfl : k0 = k1 := g2
  obtain ⟨t', rfl⟩ : ∃ t, v1 = Value.int n t := g3
  refine ⟨i, q1, _, g1, ?_⟩
  have z := SeqAt.EqAt.int_int (A := X.A.in1) (s := s) n t n t'
  simpa using z
end E8
/-! k35: the text by places, the data, what stands in the heap. -/
namespace T35
open PySem PySem.Spec PyProof.Rows L2 E8

def top (i : Nat) : Stmt := PySem.Challenge.pw_everyoctetonce_k35_ports_of_translators.main.body.getD i (.Pass ⟨0, 0, 0, 0⟩)
abbrev sInit : Stmt := inClass (top 4) 0
abbrev sIs : Stmt := inClass (top 4) 1
abbrev sForget : Stmt := inClass (top 4) 2
abbrev sPort : Stmt := inClass (top 4) 3
abbrev sOut : Stmt := inClass (top 4) 4
abbrev sIn : Stmt := inClass (top 4) 5
abbrev sTable : Stmt := inClass (top 4) 6
abbrev sBegin : Stmt := top 6
abbrev sTake : Stmt := top 7
abbrev sPick : Stmt := top 8
abbrev sOctets : Stmt := top 9
abbrev sLaw : Stmt := top 10

/-! ### the data: rows of a table (key, own port, time) -/
abbrev Row := List Int × Int × Int
def look (es : List Row) (k : List Int) : Option (Int × Int) := (es.find? fun e => decide (e.1 = k)).map (·.2)
def put (es : List Row) (k : List Int) (r : Int × Int) : List Row :=
  if (es.any fun e => decide (e.1 = k)) = true then es.map (fun e => if e.1 = k then (e.1, r) else e) else es ++ [(k, r)]
def keyOf (k : List Int) : List L2.Key := k.map Sum.inl
theorem keyOf_kV (k : List Int) : (keyOf k).map kV = k.map V.int := by
  unfold keyOf
  rw [List.map_map]
  rfl
theorem keyOf_inj {a b : List Int} (h : keyOf a = keyOf b) : a = b := by
  induction a generalizing b with
  | nil => cases b with
    | nil => rfl
    | cons _ _ => cases h
  | cons x a ih => cases b with
    | nil => cases h
    | cons y b =>
      have h' : (Sum.inl x : L2.Key) :: keyOf a = Sum.inl y :: keyOf b := h
      injection h' with h1 h2
      injection h1 with h1
      rw [h1, ih h2]
theorem look_none {es : List Row} {k : List Int} : look es k = none ↔ ∀ e ∈ es, e.1 ≠ k := by
  unfold look
  rw [Option.map_eq_none_iff, List.find?_eq_none]
  exact ⟨fun h e he => by simpa using h e he, fun h e he => by simpa using h e he⟩
theorem look_some {es : List Row} {k : List Int} {r : Int × Int} (h : look es k = some r) : (k, r) ∈ es := by
  unfold look at h
  obtain ⟨e, h1, h2⟩ := Option.map_eq_some_iff.mp h
  have h3 := List.find?_some h1
  have h4 := List.mem_of_find?_eq_some h1
  have h5 : e.1 = k := by simpa using h3
  rw [← h5, ← h2]
  exact h4
theorem look_of_mem {es : List Row} (nd : (es.map (·.1)).Nodup) {k : List Int} {r : Int × Int} (h : (k, r) ∈ es) : look es k = some r := by
  induction es with
  | nil => cases h
  | cons e es ih =>
    rw [List.map_cons, List.nodup_cons] at nd
    unfold look
    rw [List.find?_cons]
    by_cases he : e.1 = k
    · rw [decide_eq_true he]
      rcases List.mem_cons.mp h with z | z
      · rw [← z]; rfl
      · exact absurd (List.mem_map.mpr ⟨_, z, he.symm⟩) nd.1
    · rw [decide_eq_false he]
      rcases List.mem_cons.mp h with z | z
      · exact absurd (by rw [← z]) he
      · exact ih nd.2 z
theorem any_look {es : List Row} {k : List Int} : (es.any fun e => decide (e.1 = k)) = (look es k).isSome := by
  unfold look
  rw [Option.isSome_map]
  induction es with
  | nil => rfl
  | cons e es ih =>
    rw [List.any_cons, List.find?_cons]
    by_cases he : e.1 = k
    · rw [decide_eq_true he]; rfl
    · rw [decide_eq_false he, ih]; rfl
theorem put_new {es : List Row} {k : List Int} (r : Int × Int) (h : look es k = none) : put es k r = es ++ [(k, r)] := by
  unfold put
  rw [any_look, h]
  rfl
theorem put_old {es : List Row} {k : List Int} {q : Int × Int} (r : Int × Int) (h : look es k = some q) : put es k r = es.map (fun e => if e.1 = k then (e.1, r) else e) := by
  unfold put
  rw [any_look, h]
  rfl
theorem put_keys (es : List Row) (k : List Int) (r : Int × Int) : (put es k r).map (·.1) = if (look es k).isSome = true then es.map (·.1) else es.map (·.1) ++ [k] := by
  unfold put
  rw [any_look]
  by_cases h : (look es k).isSome = true
  · rw [if_pos h, if_pos h, List.map_map]
    refine List.map_congr_left fun e _ => ?_
    show (if e.1 = k then (e.1, r) else e).1 = e.1
    split <;> rfl
  · rw [if_neg h, if_neg h, List.map_append]
    rfl
theorem put_nd {es : List Row} (nd : (es.map (·.1)).Nodup) (k : List Int) (r : Int × Int) : ((put es k r).map (·.1)).Nodup := by
  rw [put_keys]
  split
  · exact nd
  · rename_i h
    refine List.nodup_append.mpr ⟨nd, by simp, fun a ha b hb e => ?_⟩
    have hb' : b = k := by simpa using hb
    subst e
    rw [hb'] at ha
    obtain ⟨e, he, ek⟩ := List.mem_map.mp ha
    exact look_none.mp (by simpa using h) e he ek
theorem put_len (es : List Row) (k : List Int) (r : Int × Int) : (put es k r).length ≤ es.length + 1 := by
  unfold put
  split
  · rw [List.length_map]; omega
  · rw [List.length_append]; exact Nat.le_refl _

/-! ### in the heap -/
def RowRel (H : Hp) (kv : List L2.Key × V) (e : Row) : Prop := kv.1 = keyOf e.1 ∧ ∃ t, kv.2 = .ref t ∧ H t = some (.tup [.int e.2.1, .int e.2.2])
structure TabAt (H : Hp) (d : Addr) (es : List Row) : Prop where
  ex : ∃ kvs, H d = some (.dT kvs) ∧ Paired (RowRel H) kvs es
  nd : (es.map (·.1)).Nodup
/-- all but what stands at these addresses stays -/
def But (S : List Addr) (H H' : Hp) : Prop := ∀ b o, H b = some o → b ∉ S → H' b = some o
theorem But.refl (S : List Addr) (H : Hp) : But S H H := fun _ _ e _ => e
theorem But.trans {S : List Addr} {H H1 H2 : Hp} (a : But S H H1) (b : But S H1 H2) : But S H H2 := fun x o e hx => b x o (a x o e hx) hx
theorem But.of_same {S : List Addr} {H H' : Hp} (s : Same H H') : But S H H' := fun b o e _ => s b o e
theorem But.mono {S S' : List Addr} {H H' : Hp} (a : But S H H') (h : ∀ x ∈ S, x ∈ S') : But S' H H' := fun b o e hb => a b o e fun z => hb (h b z)
theorem same_new {H : Hp} {p : Addr} {o : HO} (hp : H p = none) : Same H (upd H p o) := fun b u e => by rw [upd_ne (ne_of_none e hp)]; exact e
theorem but_upd {H : Hp} {p : Addr} {o : HO} : But [p] H (upd H p o) := fun b u e hb => by rw [upd_ne (fun z => hb (by simp [z]))]; exact e
theorem RowRel.keep {H H' : Hp} (k : ∀ t xs, H t = some (.tup xs) → H' t = some (.tup xs)) {kv : List L2.Key × V} {e : Row} (r : RowRel H kv e) : RowRel H' kv e :=
  ⟨r.1, let ⟨t, h1, h2⟩ := r.2; ⟨t, h1, k _ _ h2⟩⟩
theorem rows_keep {H H' : Hp} (k : ∀ t xs, H t = some (.tup xs) → H' t = some (.tup xs)) {kvs : List (List L2.Key × V)} {es : List Row} (r : Paired (RowRel H) kvs es) : Paired (RowRel H') kvs es :=
  Paired.mapP r fun _ _ h => h.keep k
theorem rows_look {H : Hp} {kvs : List (List L2.Key × V)} {es : List Row} (r : Paired (RowRel H) kvs es) (k : List Int) :
    (look es k = none ∧ valV kvs (keyOf k) = none) ∨ ∃ q t, look es k = some q ∧ valV kvs (keyOf k) = some (.ref t) ∧ H t = some (.tup [.int q.1, .int q.2]) := by
  induction r with
  | nil => exact .inl ⟨rfl, rfl⟩
  | @cons kv e kvs es h t ih =>
    obtain ⟨h1, a, h2, h3⟩ := h
    unfold look valV
    rw [List.find?_cons, List.find?_cons]
    by_cases he : e.1 = k
    · rw [decide_eq_true he, decide_eq_true (show kv.1 = keyOf k by rw [h1, he])]
      exact .inr ⟨e.2, a, rfl, by rw [← h2]; rfl, h3⟩
    · rw [decide_eq_false he, decide_eq_false (show ¬ kv.1 = keyOf k from fun z => he (keyOf_inj (h1.symm.trans z)))]
      exact ih
theorem rows_put {H : Hp} {kvs : List (List L2.Key × V)} {es : List Row} (r : Paired (RowRel H) kvs es) (k : List Int) (q : Int × Int) {t : Addr} (ht : H t = some (.tup [.int q.1, .int q.2])) : Paired (RowRel H) (putK kvs (keyOf k) (.ref t)) (put es k q) := by
  unfold putK put
  have ea : (kvs.any fun kv => decide (kv.1 = keyOf k)) = (es.any fun e => decide (e.1 = k)) := by
    induction r with
    | nil => rfl
    | @cons kv e kvs es h t ih =>
      rw [List.any_cons, List.any_cons, ih]
      congr 1
      by_cases he : e.1 = k
      · rw [decide_eq_true he, decide_eq_true (show kv.1 = keyOf k by rw [h.1, he])]
      · rw [decide_eq_false he, decide_eq_false (show ¬ kv.1 = keyOf k from fun z => he (keyOf_inj (h.1.symm.trans z)))]
  rw [ea]
  split
  · rename_i hh
    clear ea hh
    induction r with
    | nil => exact .nil
    | @cons kv e kvs es h t ih =>
      refine .cons ?_ ih
      show RowRel H (if kv.1 = keyOf k then (kv.1, V.ref _) else kv) (if e.1 = k then (e.1, q) else e)
      by_cases he : e.1 = k
      · rw [if_pos he, if_pos (show kv.1 = keyOf k by rw [h.1, he])]
        exact ⟨h.1, _, rfl, ht⟩
      · rw [if_neg he, if_neg (show ¬ kv.1 = keyOf k from fun z => he (keyOf_inj (h.1.symm.trans z)))]
        exact h
  · rename_i hh
    clear ea hh
    induction r with
    | nil => exact .cons ⟨rfl, t, rfl, ht⟩ .nil
    | @cons kv e kvs es h t ih => exact .cons h ih
theorem TabAt.len {H : Hp} {d : Addr} {es : List Row} {kvs : List (List L2.Key × V)} (r : Paired (RowRel H) kvs es) : kvs.length = es.length := Paired.length r
/-- a dict of ints -/
def tabOf (es : List Row) : List (List L2.Key × Int) := es.map fun e => (keyOf e.1, e.2.1)

/-! ### a translator in the heap -/
def flds (n : Int) (ti d : Addr) : List (Str × V) := [("_node", .int n), ("_inside", .ref ti), ("_ports", .ref d)]
theorem flds_in (n : Int) (ti d : Addr) : (flds n ti d).lookup ("_inside" : Str) = some (.ref ti) := by kernel_rfl
theorem flds_po (n : Int) (ti d : Addr) : (flds n ti d).lookup ("_ports" : Str) = some (.ref d) := by kernel_rfl
theorem flds_put (n : Int) (ti d d' : Addr) : putF "_ports" (.ref d') (flds n ti d) = flds n ti d' := by kernel_rfl
theorem flds_mk (n : Int) (ti d : Addr) : putF "_ports" (.ref d) (putF "_inside" (.ref ti) (putF "_node" (.int n) [])) = flds n ti d := by kernel_rfl
structure TrAt (C : Addr) (H : Hp) (p d : Addr) (ins : List Int) (es : List Row) : Prop where
  ob : ∃ n dx ti, H p = some (.ins C dx (flds n ti d)) ∧ H ti = some (.tup (ins.map V.int))
  tab : TabAt H d es

/-! ### what the defs reckon -/
def fresh (es : List Row) (now : Int) : List Row := es.filter fun e => decide (now - e.2.2 < 1600)
def takenOf (es : List Row) (tl : List Int) : List Int := (es.filter fun e => decide (e.1.drop 2 = tl)).map fun e => e.2.1
def freeOf (es : List Row) (tl : List Int) : List Int := ((List.range 64).map fun i => (64 : Int) + (i : Nat)).filter fun z => decide (z ∉ takenOf es tl)
/-- the port for a key, and the table behind it -/
def portOf (es : List Row) (k : List Int) (now : Int) : Option (Int × List Row) := match look es k with
  | some q => some (q.1, put es k (q.1, now))
  | none => match freeOf es (k.drop 2) with
    | [] => none
    | f :: _ => some (f, put (put es k (f, now)) k (f, now))

/-! ### promises -/
def spInit (C : Addr) : Sp := fun vs H Q _ => ∃ (p dx ti : Addr) (n : Int) (ins : List Int), vs = [.ref p, .int n, .ref ti] ∧ H p = some (.ins C dx []) ∧ H ti = some (.tup (ins.map V.int)) ∧
  ∀ d H', H d = none → TrAt C H' p d ins [] → But [p] H H' → Q .non H'
def spIs (C : Addr) : Sp := fun vs H Q _ => ∃ (p d : Addr) (n : Int) (ins : List Int) (es : List Row), vs = [.ref p, .int n] ∧ TrAt C H p d ins es ∧ Q (.bl (decide (n ∈ ins))) H
def spForget (C : Addr) : Sp := fun vs H Q _ => ∃ (p d : Addr) (now : Int) (ins : List Int) (es : List Row), vs = [.ref p, .int now] ∧ TrAt C H p d ins es ∧ es.length ≤ 1000 ∧ (∀ e ∈ es, e.1.length = 4) ∧
  ∀ d' H', H d' = none → TrAt C H' p d' ins (fresh es now) → But [p] H H' → Q .non H'
def spPort (C : Addr) : Sp := fun vs H Q _ => ∃ (p d kt : Addr) (now : Int) (k ins : List Int) (es : List Row), vs = [.ref p, .ref kt, .int now] ∧ TrAt C H p d ins es ∧ es.length ≤ 1000 ∧ (∀ e ∈ es, e.1.length = 4) ∧ k.length = 4 ∧ H kt = some (.tup (k.map V.int)) ∧
  ∀ H', But [d] H H' → match portOf es k now with
    | none => TrAt C H' p d ins es → Q .non H'
    | some (z, es') => TrAt C H' p d ins es' → Q (.int z) H'
structure Txt (K : PySem.W.Frag) (mg : Str → Option Value) (C : Addr) : Prop where
  cl : Cls K C
  nN : NoAttr K C "_node"
  nI : NoAttr K C "_inside"
  nP : NoAttr K C "_ports"
  kept : ∃ t, mg "KEPT" = some (.int 1600 t)
  first : ∃ t, mg "FIRST_PORT" = some (.int 64 t)
  most : ∃ t, mg "MOST_PORT" = some (.int 127 t)
  range : mg "range" = none
  len : mg "len" = none
  tuple : mg "tuple" = none
  list : mg "list" = none

/-! ### rules within a comprehension: the written part by name -/
section
variable {X : Cx} {K : PySem.W.Frag}
theorem pg_tupK {es : List Expr} {kk : Nat} {t : TGs} {n : Nat} {pos : Pos} (hK : X.K = K) (hc : X.calm = true) (h : PGs X es t)
    (hn : (assignEach es X.env).length = n := by rfl) (hst : (assignEach es X.env).findIdx? (·.1) = none := by rfl) : PG X (.Tuple es kk pos) (gTup K n t) := by
  subst hK
  exact pg_tup hc h hn hst
theorem ix_tupK (hK : X.K = K) : IxR X (rIxT K) := by
  subst hK
  exact ix_tup
theorem op_eqDK (hK : X.K = K) (hu : X.A.units + 64 < cLine) : OpR X (compareOp .Eq) (rEqD K) := by
  subst hK
  exact op_eqD hu
theorem sl_tupK (hK : X.K = K) : SlR X (rSlT K) := by
  subst hK
  exact sl_tup
theorem op_notInK (hK : X.K = K) : OpR X (compareOp .NotIn) (rIn K true) := by
  subst hK
  exact op_notIn_seq
end

/-! ### walks over a locked dict's pairs -/
theorem walk_itemsT {d : Addr} {o : Obj} {kvs : List (List L2.Key × V)} : Walk (ItT d o kvs) kvs.length (fun H => H d = some (.frz o (.dT kvs)))
    (fun i H x H' => ∃ T k v q, kvs[i]? = some (k, v) ∧ H q = some (.tup (k.map kV)) ∧ x = .ref T ∧ H T = none ∧ H' = upd H T (.tup [.ref q, v])) :=
  ⟨fun _ _ hi q => ⟨q, hi⟩, fun _ q => ⟨q, Nat.le_refl _⟩, fun _ _ _ _ _ _ y => y⟩
/-- a dict comprehension over anything walked -/
theorem dcT_it {J : It} {n : Nat} {G : Hp → Prop} {Y : Nat → Hp → V → Hp → Prop} (w : Walk J n G Y) {g : TG} {tt : TT} {tk tv : TE} {vs : List Nat} {σ : L2.St} {H1 : Hp} {D : Addr} {Qd : Hp → Prop} (Pv : Nat → Hp → Prop) (h0 : Pv 0 (upd H1 D (.dT []))) (hG : ∀ i H, i ≤ n → Pv i H → G H)
    (hs : ∀ i x H H', i < n → Pv i H → Y i H x H' → g x (wipe σ vs) H' fun σ2 H2 => wipe σ2 vs = wipe σ vs ∧ tt σ2 H2 fun b H3 =>
      if b = true then tk σ2 H3 fun y H4 => tv σ2 H4 fun z H5 => ∃ kvs k b, y = .ref b ∧ H5 b = some (.tup (k.map kV)) ∧ H5 D = some (.dT kvs) ∧ kvs.length < sizeLine ∧ Pv (i + 1) (upd H5 D (.dT (putK kvs k z))) else Pv (i + 1) H3)
    (hd : ∀ H, Pv n H → Qd H) :
    ∃ W : Nat → Nat → Hp → Prop, (∃ m, W 0 m (upd H1 D (.dT []))) ∧ ∀ i m H, W i m H →
      (J.stop i H ∧ Qd H) ∨ (J.go i H ∧ ∃ Nx : Hp → Prop, (∀ H', Nx H' → ∃ m', m' < m ∧ W (i + 1) m' H') ∧ ∀ x H', J.yld i H x H' → g x (wipe σ vs) H' fun σ2 H2 => wipe σ2 vs = wipe σ vs ∧ tt σ2 H2 fun b H3 =>
        if b = true then tk σ2 H3 fun y H4 => tv σ2 H4 fun z H5 => ∃ kvs k b, y = .ref b ∧ H5 b = some (.tup (k.map kV)) ∧ H5 D = some (.dT kvs) ∧ kvs.length < sizeLine ∧ Nx (upd H5 D (.dT (putK kvs k z))) else Nx H3) := by
  refine ⟨fun i m H => m = n - i ∧ i ≤ n ∧ Pv i H, ⟨n, rfl, Nat.zero_le _, h0⟩, ?_⟩
  rintro i m H ⟨rfl, hi, p⟩
  have q := hG i H hi p
  rcases Nat.lt_or_ge i n with hlt | hge
  · refine .inr ⟨w.goes i H hlt q, Pv (i + 1), fun H' p' => ⟨n - (i + 1), by omega, rfl, hlt, p'⟩, fun x H' y => ?_⟩
    exact hs i x H H' hlt p (w.yields i H x H' hlt q y)
  · obtain rfl : i = n := Nat.le_antisymm hi hge
    exact .inl ⟨w.stops H q, hd H p⟩
end T35
namespace T35
open PySem PySem.Spec PyProof.Rows L2 E8
section
variable {P : Program} {w : World} {K : PySem.W.Frag} {mg : Str → Option Value} {base : Heap}
theorem tabAt_nil {H : Hp} {d : Addr} (h : H d = some (.dT [])) : TabAt H d [] := ⟨⟨[], h, .nil⟩, List.nodup_nil⟩
theorem scI : FnScope ["self", "node", "inside"] ["self", "node", "inside"] (defScope sInit) := ⟨rfl, rfl, rfl, by decide +kernel, rfl, by decide +kernel, by decide +kernel⟩
theorem ok_init {f C : Addr} {fd : FuncData} (F : Fun K "__init__" "Translator.__init__" sInit f fd) (T : Txt K mg C) : FnOk P w K mg base CX0 1 f fd ["self", "node", "inside"] (spInit C) := by
  refine F.ok scI (fun vs H Q E h => ?_) (fun cdv A outer s H vs Q E hr h => ?_)
  · obtain ⟨p, dx, ti, n, ins, rfl, _⟩ := h
    rfl
  · obtain ⟨p, dx, ti, n, ins, rfl, hp, ht, k⟩ := h
    refine ⟨_, pss_cons (ps_fld (pv 0) (pv 1) rfl) (pss_cons (ps_fld (pv 0) (pv 2) rfl) (pss_one (ps_fld (pv 0) pe_dnewT rfl))), ?_⟩
    refine ⟨_, rfl, _, rfl, p, C, dx, [], rfl, hp, T.cl, T.nN, (by show 0 < 1000; decide), ?_⟩
    refine ⟨_, rfl, _, rfl, p, C, dx, _, rfl, upd_same, T.cl, T.nI, (by show 1 < 1000; decide), ?_⟩
    intro d hd
    have npd : p ≠ d := ne_of_none upd_same hd
    refine ⟨_, rfl, p, C, dx, _, rfl, (by rw [upd_ne npd]; exact upd_same), T.cl, T.nP, Nat.le_of_ble_eq_true (by kernel_rfl), ?_⟩
    have hd0 : H d = none := by rw [upd_ne npd.symm, upd_ne npd.symm] at hd; exact hd
    have tp : ti ≠ p := ne_of ht hp fun z => nomatch z
    refine k d _ hd0 ⟨⟨n, dx, ti, Eq.trans upd_same (congrArg (fun l => some (HO.ins C dx l)) (flds_mk n ti d)), ?_⟩, tabAt_nil ?_⟩ ?_
    · rw [upd_ne tp, upd_ne (ne_of_none ht hd0), upd_ne tp, upd_ne tp]
      exact ht
    · rw [upd_ne npd.symm, upd_same]
    · intro b o e hb
      have hb' : b ≠ p := fun z => hb (by simp [z])
      rw [upd_ne hb', upd_ne (ne_of_none e hd0), upd_ne hb', upd_ne hb']
      exact e
theorem inV_ints (n : Int) (ns : List Int) : inV (.int n) (ns.map V.int) = decide (n ∈ ns) := by
  unfold inV
  induction ns with
  | nil => rfl
  | cons x ns ih =>
    rw [List.map_cons, List.any_cons, ih]
    have e : eqV (.int x) (.int n) = decide (n = x) := by
      show (x == n) = decide (n = x)
      by_cases h : x = n
      · rw [h]; simp
      · rw [decide_eq_false (fun z => h z.symm)]
        simpa using h
    rw [e]
    by_cases h : n = x <;> simp [h]
theorem flat_ints (ns : List Int) : (ns.map V.int).all flatV = true := by
  rw [List.all_eq_true]
  intro x hx
  obtain ⟨n, _, rfl⟩ := List.mem_map.mp hx
  rfl
theorem scS : FnScope ["self", "node"] ["self", "node"] (defScope sIs) := ⟨rfl, rfl, rfl, by decide +kernel, rfl, by decide +kernel, by decide +kernel⟩
theorem ok_is {f C : Addr} {fd : FuncData} (F : Fun K "is_inside" "Translator.is_inside" sIs f fd) (T : Txt K mg C) : FnOk P w K mg base CX0 1 f fd ["self", "node"] (spIs C) := by
  refine F.ok scS (fun vs H Q E h => ?_) (fun cdv A outer s H vs Q E hr h => ?_)
  · obtain ⟨p, d, n, ins, es, rfl, _⟩ := h
    rfl
  · obtain ⟨p, d, n, ins, es, rfl, R, k⟩ := h
    obtain ⟨⟨m, dx, ti, h1, h2⟩, _⟩ := id R
    refine ⟨_, pss_one (ps_ret (pe_cmpR op_in_seq (pv 1) (pe_fld (pv 0) rfl) (by rfl))), ?_⟩
    refine ⟨_, rfl, _, rfl, p, C, dx, _, _, rfl, h1, T.cl, T.nI, flds_in _ _ _, ti, _, rfl, .inr (SqT.of h2), rfl, flat_ints ins, ?_⟩
    show Q (.bl (inV (.int n) (ins.map V.int))) H
    rw [inV_ints]
    exact k
end
end T35
namespace T35
open PySem PySem.Spec PyProof.Rows L2 E8
theorem rows_at {H : Hp} {kvs : List (List L2.Key × V)} {es : List Row} (r : Paired (RowRel H) kvs es) {i : Nat} {k : List L2.Key} {v : V} (h : kvs[i]? = some (k, v)) :
    ∃ e t, es[i]? = some e ∧ k = keyOf e.1 ∧ v = .ref t ∧ H t = some (.tup [.int e.2.1, .int e.2.2]) := by
  obtain ⟨e, he, h1, t, h2, h3⟩ := L2.paired_get r h
  exact ⟨e, t, he, h1, h2, h3⟩
theorem take_filter {α : Type} {p : α → Bool} {es : List α} {i : Nat} {e : α} (h : es[i]? = some e) : (es.take (i + 1)).filter p = (es.take i).filter p ++ (if p e = true then [e] else []) := by
  have hi : i < es.length := (List.getElem?_eq_some_iff.mp h).1
  rw [List.take_add_one, h, List.filter_append]
  congr 1
  show List.filter p [e] = _
  rw [List.filter_cons, List.filter_nil]
theorem paired_snoc {α β : Type} {F : α → β → Prop} {xs : List α} {ys : List β} {x : α} {y : β} (h : Paired F xs ys) (q : F x y) : Paired F (xs ++ [x]) (ys ++ [y]) := by
  induction h with
  | nil => exact .cons q .nil
  | cons r t ih => exact .cons r ih
/-- a key that no earlier row has -/
theorem valV_none_of {H : Hp} {acc : List (List L2.Key × V)} {es : List Row} (r : Paired (RowRel H) acc es) {k : List Int} (h : ∀ e ∈ es, e.1 ≠ k) : valV acc (keyOf k) = none := by
  rcases rows_look r k with ⟨_, e⟩ | ⟨q, t, e, _⟩
  · exact e
  · exact absurd (look_some e) fun z => h _ z rfl
theorem nd_take {es : List Row} (nd : (es.map (·.1)).Nodup) {i : Nat} {e : Row} (he : es[i]? = some e) : ∀ x ∈ es.take i, x.1 ≠ e.1 := by
  intro x hx z
  obtain ⟨j, hj, ej⟩ := List.mem_take_iff_getElem.mp hx
  have hi : i < es.length := (List.getElem?_eq_some_iff.mp he).1
  have hjl : j < es.length := by omega
  have e1 : (es.map (·.1))[j]? = some e.1 := by rw [List.getElem?_map, List.getElem?_eq_getElem hjl, ej, ← z]; rfl
  have e2 : (es.map (·.1))[i]? = some e.1 := by rw [List.getElem?_map, he]; rfl
  have hji : j < i := by omega
  have hml : j < (es.map (·.1)).length := by rw [List.length_map]; exact hjl
  have := (List.getElem?_inj hml nd).mp (e1.trans e2.symm)
  omega
section
variable {P : Program} {w : World} {K : PySem.W.Frag} {mg : Str → Option Value} {base : Heap}
theorem scF : FnScope ["self", "now", "key", "own"] ["self", "now"] (defScope sForget) := ⟨rfl, rfl, rfl, by decide +kernel, rfl, by decide +kernel, by decide +kernel⟩
theorem ok_forget {f C : Addr} {fd : FuncData} (F : Fun K "_forget" "Translator._forget" sForget f fd) (T : Txt K mg C) : FnOk P w K mg base CX0 1 f fd ["self", "now"] (spForget C) := by
  refine F.ok scF (fun vs H Q E h => ?_) (fun cdv A outer s H vs Q E hr h => ?_)
  · obtain ⟨p, d, now, ins, es, rfl, _⟩ := h
    rfl
  · obtain ⟨p, d, now, ins, es, rfl, R, hlen, hk4, k⟩ := h
    obtain ⟨⟨m, dx, ti, h1, h2⟩, ⟨kvs, hd, hrow⟩, nd⟩ := id R
    obtain ⟨tk, hkept⟩ := T.kept
    have npd : p ≠ d := ne_of h1 hd fun z => nomatch z
    have hlk : kvs.length = es.length := Paired.length hrow
    refine ⟨_, pss_one (ps_fld (pv 0) (pe_lock (pe_dcT rfl hr.units0 scF.nd (pi_itemsT (pe_fld (pv 0) rfl)) (blkOk_by (own := [("key", 2), ("own", 3)]) (N := ["self", "now", "key", "own"]) (sc := defScope sForget) (by decide +kernel))
      (fun _ _ _ _ _ => pg_tupK (K := K) (n := 2) rfl rfl (pgs_cons (pg_name (i := 2) scF.nd rfl (Or.inl rfl)) (pgs_cons (pg_name (i := 3) scF.nd rfl (Or.inl rfl)) pgs_nil)))
      (fun _ _ _ _ _ => pts_one (pt_cmpR op_lt (pe_op op_sub (pv 1) (pe_ix (ix_tupK (K := K) rfl) (pv 3) pe_int (fun _ _ => rfl))) (pe_glob (v := .int 1600) rfl hkept ⟨_, rfl⟩) (nomark _)))
      (fun _ _ _ _ _ => pv 2) (fun _ _ _ _ _ => pv 3))) rfl), ?_⟩
    refine ⟨d, .dT kvs, hd, True.intro, fun od => ?_⟩
    refine ⟨_, rfl, p, C, dx, _, _, rfl, (by rw [upd_ne npd]; exact h1), T.cl, T.nP, flds_po _ _ _, d, od, kvs, rfl, upd_same, ?_⟩
    intro D hD
    have hD0 : H D = none := by
      by_cases z : D = d
      · rw [z, upd_same] at hD; cases hD
      · rw [upd_ne z] at hD; exact hD
    have nDd : D ≠ d := fun z => by rw [z, upd_same] at hD; cases hD
    refine dcT_it walk_itemsT (fun i H' => H' d = some (.frz od (.dT kvs)) ∧ But [d] H H' ∧ ∃ acc, H' D = some (.dT acc) ∧ Paired (RowRel H') acc (fresh (es.take i) now)) ?_ ?_ ?_ ?_
    · refine ⟨by rw [upd_ne nDd.symm]; exact upd_same, fun b o e hb => ?_, [], upd_same, .nil⟩
      have hbd : b ≠ d := fun z => hb (by simp [z])
      rw [upd_ne (ne_of_none e hD0), upd_ne hbd]
      exact e
    · exact fun i H' _ h => h.1
    · rintro i x H0 H' hi ⟨hl, hb, acc, ha, hrr⟩ ⟨T0, kk, v, q, hkv, hq, rfl, hT, rfl⟩
      obtain ⟨e, t, he, rfl, rfl, ht⟩ := rows_at hrow hkv
      have htd : t ≠ d := ne_of ht hd fun z => nomatch z
      have hdT : d ≠ T0 := ne_of_none hl hT
      have hDT : D ≠ T0 := ne_of_none ha hT
      have ht0 : H0 t = some (.tup [.int e.2.1, .int e.2.2]) := hb t _ ht (by simp [htd])
      have keep : ∀ t' xs, H0 t' = some (.tup xs) → (upd H0 T0 (.tup [.ref q, .ref t])) t' = some (.tup xs) := fun t' xs z => by rw [upd_ne (ne_of_none z hT)]; exact z
      have ht1 : (upd H0 T0 (.tup [.ref q, .ref t])) t = some (.tup [.int e.2.1, .int e.2.2]) := by rw [upd_ne (ne_of_none ht0 hT)]; exact ht0
      refine ⟨T0, _, rfl, SqT.of upd_same, rfl, _, _, rfl, _, _, rfl, rfl, rfl, ?_⟩
      refine ⟨_, rfl, _, rfl, t, _, _, _, rfl, rfl, SqT.of ht1, atI_nat (j := 1) rfl, _, _, rfl, rfl, _, _, rfl, rfl, _, rfl, ?_⟩
      have hb1 : But [d] H (upd H0 T0 (.tup [.ref q, .ref t])) := fun b o z hbd => by rw [upd_ne (ne_of_none (hb b o z hbd) hT)]; exact hb b o z hbd
      have et := take_filter (p := fun e : Row => decide (now - e.2.2 < 1600)) he
      by_cases hlt : now - e.2.2 < 1600
      · rw [decide_eq_true hlt]
        refine iteT ⟨_, rfl, _, rfl, acc, keyOf e.1, q, rfl, keep _ _ hq, by rw [upd_ne hDT]; exact ha, ?_, ?_⟩
        · have := Paired.length hrr
          have l1 : (fresh (es.take i) now).length ≤ es.length := Nat.le_trans (List.length_filter_le _ _) (by rw [List.length_take]; omega)
          exact small1000 (by omega)
        · refine ⟨by rw [upd_ne nDd.symm, upd_ne hdT]; exact hl, fun b o z hbd => ?_, _, upd_same, ?_⟩
          · rw [upd_ne (fun y => by rw [y, hD0] at z; cases z)]
            exact hb1 b o z hbd
          · have nk : valV acc (keyOf e.1) = none := valV_none_of hrr fun x hx => nd_take nd he x ((List.mem_filter.mp hx).1)
            show Paired _ _ (fresh (es.take (i + 1)) now)
            unfold fresh
            rw [et, putK_new _ nk]
            simp only [hlt, decide_true, if_true]
            have k2 : ∀ t xs, H0 t = some (.tup xs) → (upd (upd H0 T0 (.tup [.ref q, .ref t])) D (.dT (acc ++ [(keyOf e.1, .ref t)]))) t = some (.tup xs) := fun t' xs z => by
              rw [upd_ne (ne_of z ha fun y => nomatch y), upd_ne (ne_of_none z hT)]; exact z
            refine paired_snoc (rows_keep (fun t' xs z => ?_) hrr) ⟨rfl, t, rfl, ?_⟩
            · rw [upd_ne (ne_of z ha fun y => nomatch y), upd_ne (ne_of_none z hT)]; exact z
            · rw [upd_ne (ne_of ht0 ha fun y => nomatch y), upd_ne (ne_of_none ht0 hT)]; exact ht0
      · rw [decide_eq_false hlt]
        refine iteF ⟨by rw [upd_ne hdT]; exact hl, hb1, acc, by rw [upd_ne hDT]; exact ha, ?_⟩
        show Paired _ _ (fresh (es.take (i + 1)) now)
        unfold fresh
        rw [et]
        simp only [hlt, decide_false, Bool.false_eq_true, if_false, List.append_nil]
        exact rows_keep keep hrr
    · rintro H' ⟨hl, hb, acc, ha, hrr⟩
      refine ⟨hl, ?_⟩
      have hp' : H' p = some (.ins C dx (flds m ti d)) := hb p _ h1 (by simp [npd])
      have nDp : D ≠ p := fun z => by rw [z, h1] at hD0; cases hD0
      have ntd : ti ≠ d := ne_of h2 hd fun z => nomatch z
      have ntp : ti ≠ p := ne_of h2 h1 fun z => nomatch z
      have hti : H' ti = _ := hb ti _ h2 (by simp [ntd])
      refine ⟨_, rfl, p, C, dx, _, rfl, (by rw [upd_ne npd]; exact hp'), T.cl, T.nP, (by show 3 < 1000; decide), ?_⟩
      refine k D _ hD0 ⟨⟨m, dx, ti, Eq.trans upd_same (congrArg (fun l => some (HO.ins C dx l)) (flds_put m ti d D)), by rw [upd_ne ntp, upd_ne ntd]; exact hti⟩, ⟨acc, by rw [upd_ne nDp, upd_ne nDd]; exact ha, ?_⟩, ?_⟩ ?_
      · rw [hlk, List.take_length] at hrr
        refine rows_keep (fun t xs z => ?_) hrr
        rw [upd_ne (ne_of z hp' fun y => nomatch y), upd_ne (fun y => by rw [y, hl] at z; cases z)]
        exact z
      · exact List.Nodup.sublist (List.Sublist.map _ List.filter_sublist) nd
      · intro b o e hbp
        have hb' : b ≠ p := fun z => hbp (by simp [z])
        rw [upd_ne hb']
        by_cases z : b = d
        · rw [z, upd_same, ← hd, ← z]; exact e
        · rw [upd_ne z]; exact hb b o e (by simp [z])
end
end T35
namespace T35
open PySem PySem.Spec PyProof.Rows L2 E8
/-! ### tuples of ints compared -/
theorem dp_ints {K : PySem.W.Frag} {H : Hp} : ∀ ns : List Int, DpAll K H (ns.map V.int) (ns.map PyData.int)
  | [] => .nil
  | n :: ns => .cons (.int n) (dp_ints ns)
theorem eqvAll_ints : ∀ (a b : List Int), PyData.eqvAll (a.map PyData.int) (b.map PyData.int) = decide (a = b)
  | [], [] => by simp [PyData.eqvAll]
  | [], _ :: _ => by simp [PyData.eqvAll]
  | _ :: _, [] => by simp [PyData.eqvAll]
  | x :: a, y :: b => by
    rw [List.map_cons, List.map_cons, PyData.eqvAll, eqvAll_ints a b]
    have h : PyData.eqv (.int x) (.int y) = decide (x = y) := by simp [PyData.eqv, Bool.beq_eq_decide_eq]
    rw [h]
    by_cases h1 : x = y <;> by_cases h2 : a = b <;> simp [h1, h2]
theorem eqv_tups (a b : List Int) : PyData.eqv (.tuple (a.map PyData.int)) (.tuple (b.map PyData.int)) = decide (a = b) := by
  rw [← eqvAll_ints, PyData.eqv]
theorem shaped_tup_ints (ns : List Int) : SeqAt.shaped (.tuple (ns.map PyData.int)) = true := by
  simp [SeqAt.shaped, PyData.canLay0, PyData.depth, PySem.W.ke_canLayAll0, PySem.W.ke_depthAll]
theorem cut2 {k : List Int} (h : k.length = 4) : cutV (k.map V.int) (some 2) none = (k.drop 2).map V.int := by
  match k, h with
  | [a, b, c, d], _ => rfl
theorem not_whole {k : List Int} (h : k.length = 4) : ¬ (HT.sIx (k.map V.int).length 0 (some 2) = 0 ∧ HT.sIx (k.map V.int).length (k.map V.int).length none = (k.map V.int).length) := by
  match k, h with
  | [a, b, c, d], _ => exact fun z => by cases z.1
theorem small1000' {n : Nat} (h : n ≤ 1001) : n < sizeLine := Nat.lt_of_le_of_lt h (by decide)
theorem portOf_nil {es : List Row} {k : List Int} {now : Int} (h : look es k = none) (hf : freeOf es (k.drop 2) = []) : portOf es k now = none := by
  unfold portOf
  simp only [h, hf]
theorem portOf_cons {es : List Row} {k : List Int} {now f : Int} {r : List Int} (h : look es k = none) (hf : freeOf es (k.drop 2) = f :: r) : portOf es k now = some (f, put (put es k (f, now)) k (f, now)) := by
  unfold portOf
  simp only [h, hf]
theorem freeOf_eq (es : List Row) (tl : List Int) : freeOf es tl = ((List.range 64).map fun i => (64 : Int) + (i : Nat)).filter fun z => decide (z ∉ takenOf es tl) := rfl
theorem range_take {f : Nat → Int} {n i : Nat} (h : i < n) {p : Int → Bool} : (((List.range n).take (i + 1)).map f).filter p = (((List.range n).take i).map f).filter p ++ (if p (f i) = true then [f i] else []) := by
  have e : (List.range n)[i]? = some i := by rw [List.getElem?_range h]
  rw [List.take_add_one, e, List.map_append, List.filter_append]
  congr 1
  show List.filter p [f i] = _
  rw [List.filter_cons, List.filter_nil]
section
variable {P : Program} {w : World} {K : PySem.W.Frag} {mg : Str → Option Value} {base : Heap}
abbrev nP : List Str := ["self", "key", "now", "taken", "free", "_", "goal", "port", "own"]
theorem scP : FnScope nP ["self", "key", "now"] (defScope sPort) := ⟨rfl, rfl, rfl, by decide +kernel, rfl, by decide +kernel, by decide +kernel⟩
theorem ok_port {f C : Addr} {fd : FuncData} (F : Fun K "_port" "Translator._port" sPort f fd) (T : Txt K mg C) : FnOk P w K mg base CX0 1 f fd ["self", "key", "now"] (spPort C) := by
  refine F.ok scP (fun vs H Q E h => ?_) (fun cdv A outer s H vs Q E hr h => ?_)
  · obtain ⟨p, d, kt, now, kk, ins, es, rfl, _⟩ := h
    rfl
  · obtain ⟨p, d, kt, now, kk, ins, es, rfl, R, hlen, hk4, hkl, hkt, k⟩ := h
    obtain ⟨⟨m, dx, ti, h1, h2⟩, ⟨kvs, hd, hrow⟩, nd⟩ := id R
    obtain ⟨tf, hfirst⟩ := T.first
    obtain ⟨tm, hmost⟩ := T.most
    have hu := hu_of hr
    have npd : p ≠ d := ne_of h1 hd fun z => nomatch z
    have ntd : ti ≠ d := ne_of h2 hd fun z => nomatch z
    have nkd : kt ≠ d := ne_of hkt hd fun z => nomatch z
    have hlk : kvs.length = es.length := Paired.length hrow
    have hkt' : H kt = some (.tup ((keyOf kk).map kV)) := by rw [keyOf_kV]; exact hkt
    refine ⟨_, pss_cons (ps_if (pt_cmp (pc_dnotin hu (pv 1) (pe_fld (pv 0) rfl)))
        (pss_cons (ps_set (i := 3) scP.nd rfl (Or.inr rfl) (pe_lock (pe_lc rfl scP.nd (pi_itemsT (pe_fld (pv 0) rfl)) (blkOk_by (own := [("_", 5), ("goal", 6), ("port", 7), ("own", 8)]) (N := nP) (sc := defScope sPort) (by decide +kernel))
          (fun _ _ _ _ _ => pg_tupK (K := K) (n := 2) rfl rfl (pgs_cons (pg_tupK (K := K) (n := 4) rfl rfl (pgs_cons (pg_name (i := 5) scP.nd rfl (Or.inl rfl)) (pgs_cons (pg_name (i := 5) scP.nd rfl (Or.inl rfl)) (pgs_cons (pg_name (i := 6) scP.nd rfl (Or.inl rfl)) (pgs_cons (pg_name (i := 7) scP.nd rfl (Or.inl rfl)) pgs_nil)))))
            (pgs_cons (pg_tupK (K := K) (n := 2) rfl rfl (pgs_cons (pg_name (i := 8) scP.nd rfl (Or.inl rfl)) (pgs_cons (pg_name (i := 5) scP.nd rfl (Or.inl rfl)) pgs_nil))) pgs_nil)))
          (fun _ _ _ _ _ => pts_one (pt_cmpR (op_eqDK (K := K) rfl hr.units) (pe_tup (pa_cons (pv 6) (pa_cons (pv 7) pa_nil))) (pe_slice (sl_tupK (K := K) rfl) (pv 1) (po_some pe_int) po_none) (nomark _)))
          (fun _ _ _ _ _ => pv 8))))
        (pss_cons (ps_setLc (i := 4) rfl scP.nd rfl rfl (sw_true rfl rfl rfl (by decide +kernel)) (pi_range2 rfl T.range (pa_cons (pe_glob (v := .int 64) rfl hfirst ⟨_, rfl⟩) (pa_cons (pe_op op_add (pe_glob (v := .int 127) rfl hmost ⟨_, rfl⟩) pe_int) pa_nil)))
          (blkOk_by (own := [("own", 8)]) (N := nP) (sc := defScope sPort) (by decide +kernel)) (fun _ _ _ _ _ => pg_name (i := 8) scP.nd rfl (Or.inl rfl))
          (fun _ _ _ _ _ => pts_one (pt_cmpR (op_notInK (K := K) rfl) (pv 8) (pv 3) (by rfl))) (fun _ _ _ _ _ => pv 8))
        (pss_cons (ps_if (pt_not (pt_truth (pv 4) (by intro _; rfl))) (pss_one (ps_ret pe_non)) pss_nil)
        (pss_one (ps_dput hu (pe_fld (pv 0) rfl) (pv 1) (pe_tup (pa_cons (pe_ix ix_list (pv 4) pe_int (fun _ _ => rfl)) (pa_cons (pv 2) pa_nil))) rfl))))) pss_nil)
      (pss_cons (ps_dput hu (pe_fld (pv 0) rfl) (pv 1) (pe_tup (pa_cons (pe_ix ix_tup (pe_dget hu (pe_fld (pv 0) rfl) (pv 1) (fun _ _ => rfl)) pe_int (fun _ _ => rfl)) (pa_cons (pv 2) pa_nil))) rfl)
      (pss_one (ps_ret (pe_ix ix_tup (pe_dget hu (pe_fld (pv 0) rfl) (pv 1) (fun _ _ => rfl)) pe_int (fun _ _ => rfl))))), ?_⟩
    -- key not in self._ports
    refine ⟨_, rfl, _, rfl, p, C, dx, _, _, rfl, h1, T.cl, T.nP, flds_po _ _ _, d, _, rfl, DGet.t (k := keyOf kk) hd hkt', _, rfl, ?_⟩
    -- what comes last, from a table that has the key
    have fin : ∀ (es1 : List Row) (q : Int × Int) (H1 : Hp) (kv1 : List (List L2.Key × V)), But [d] H H1 → H1 d = some (.dT kv1) → Paired (RowRel H1) kv1 es1 → (es1.map (·.1)).Nodup → look es1 kk = some q → es1.length ≤ 2000 →
        ∀ (tq : Addr), valV kv1 (keyOf kk) = some (.ref tq) → H1 tq = some (.tup [.int q.1, .int q.2]) → ∀ t2, H1 t2 = none →
        But [d] H (upd (upd H1 t2 (.tup [.int q.1, .int now])) d (.dT (putK kv1 (keyOf kk) (.ref t2)))) ∧
        TrAt C (upd (upd H1 t2 (.tup [.int q.1, .int now])) d (.dT (putK kv1 (keyOf kk) (.ref t2)))) p d ins (put es1 kk (q.1, now)) ∧
        DGet (upd (upd H1 t2 (.tup [.int q.1, .int now])) d (.dT (putK kv1 (keyOf kk) (.ref t2)))) d (.ref kt) (some (.ref t2)) := by
      intro es1 q H1 kv1 hb hd1 hr1 nd1 hl1 hz tq hv htq t2 ht2
      have n2d : t2 ≠ d := fun z => by rw [z, hd1] at ht2; cases ht2
      have bb : But [d] H (upd (upd H1 t2 (.tup [.int q.1, .int now])) d (.dT (putK kv1 (keyOf kk) (.ref t2)))) := fun b o e hbd => by
        have hbd' : b ≠ d := fun z => hbd (by simp [z])
        rw [upd_ne hbd', upd_ne (ne_of_none (hb b o e hbd) ht2)]
        exact hb b o e hbd
      refine ⟨bb, ⟨⟨m, dx, ti, bb p _ h1 (by simp [npd]), bb ti _ h2 (by simp [ntd])⟩, ⟨_, upd_same, ?_⟩, put_nd nd1 kk _⟩, ?_⟩
      · refine rows_put (rows_keep (fun t xs z => ?_) hr1) kk (q.1, now) (by rw [upd_ne n2d, upd_same])
        rw [upd_ne (ne_of z hd1 fun y => nomatch y), upd_ne (ne_of_none z ht2)]
        exact z
      · have e := DGet.t (H := upd (upd H1 t2 (.tup [.int q.1, .int now])) d (.dT (putK kv1 (keyOf kk) (.ref t2)))) (a := d) (b := kt) (kvs := putK kv1 (keyOf kk) (.ref t2)) (k := keyOf kk) upd_same (by rw [upd_ne nkd, upd_ne (ne_of_none (hb kt _ hkt' (by simp [nkd])) ht2)]; exact hb kt _ hkt' (by simp [nkd]))
        rw [valV_put, if_pos rfl] at e
        exact e
    rcases rows_look hrow kk with ⟨hno, hv⟩ | ⟨q, tq, hq, hv, htq⟩
    · rw [hv]
      refine iteT ?_
      -- taken = [..]
      refine ⟨d, .dT kvs, hd, True.intro, fun od => ?_⟩
      refine ⟨_, rfl, p, C, dx, _, _, rfl, (by rw [upd_ne npd]; exact h1), T.cl, T.nP, flds_po _ _ _, d, od, kvs, rfl, upd_same, ?_⟩
      intro D hD
      have hD0 : H D = none := by
        by_cases z : D = d
        · rw [z, upd_same] at hD; cases hD
        · rw [upd_ne z] at hD; exact hD
      have nDd : D ≠ d := fun z => by rw [z, upd_same] at hD; cases hD
      refine lc_it walk_itemsT (fun i H' => H' d = some (.frz od (.dT kvs)) ∧ But [d] H H' ∧ H' D = some (.lst ((takenOf (es.take i) (kk.drop 2)).map V.int))) ?_ ?_ ?_ ?_
      · refine ⟨by rw [upd_ne nDd.symm]; exact upd_same, fun b o e hb => ?_, upd_same⟩
        have hbd : b ≠ d := fun z => hb (by simp [z])
        rw [upd_ne (ne_of_none e hD0), upd_ne hbd]
        exact e
      · exact fun i H' _ h => h.1
      · rintro i x H0 H' hi ⟨hl, hb, ha⟩ ⟨T0, k0, v, q, hkv, hq, rfl, hT, rfl⟩
        obtain ⟨e, t, he, rfl, rfl, ht⟩ := rows_at hrow hkv
        have htd : t ≠ d := ne_of ht hd fun z => nomatch z
        have hdT : d ≠ T0 := ne_of_none hl hT
        have hDT : D ≠ T0 := ne_of_none ha hT
        have ht0 : H0 t = some (.tup [.int e.2.1, .int e.2.2]) := hb t _ ht (by simp [htd])
        have he4 : e.1.length = 4 := hk4 e (List.mem_of_getElem? he)
        obtain ⟨a1, a2, a3, a4, ee⟩ : ∃ a1 a2 a3 a4, e.1 = [a1, a2, a3, a4] := by
          match h : e.1, he4 with
          | [a, b, c, d], _ => exact ⟨a, b, c, d, rfl⟩
        have hq1 : (upd H0 T0 (.tup [.ref q, .ref t])) q = some (.tup [.int a1, .int a2, .int a3, .int a4]) := by
          rw [upd_ne (ne_of_none hq hT), hq, keyOf_kV, ee]
          rfl
        have ht1 : (upd H0 T0 (.tup [.ref q, .ref t])) t = some (.tup [.int e.2.1, .int e.2.2]) := by rw [upd_ne (ne_of_none ht0 hT)]; exact ht0
        have hb1 : But [d] H (upd H0 T0 (.tup [.ref q, .ref t])) := fun b o z hbd => by rw [upd_ne (ne_of_none (hb b o z hbd) hT)]; exact hb b o z hbd
        have hl1 : (upd H0 T0 (.tup [.ref q, .ref t])) d = some (.frz od (.dT kvs)) := by rw [upd_ne hdT]; exact hl
        have ha1 : (upd H0 T0 (.tup [.ref q, .ref t])) D = some (.lst ((takenOf (es.take i) (kk.drop 2)).map V.int)) := by rw [upd_ne hDT]; exact ha
        refine ⟨T0, _, rfl, SqT.of upd_same, rfl, _, _, rfl, ?_⟩
        generalize hHx : upd H0 T0 (.tup [.ref q, .ref t]) = Hx at hq1 ht1 hb1 hl1 ha1 ⊢
        refine ⟨q, _, rfl, SqT.of hq1, rfl, _, _, rfl, _, _, rfl, _, _, rfl, _, _, rfl, rfl, ?_⟩
        refine ⟨_, _, rfl, t, _, rfl, SqT.of ht1, rfl, _, _, rfl, _, _, rfl, rfl, rfl, rfl, ?_⟩
        -- (goal, port) == key[2:]
        refine ⟨_, rfl, _, rfl, (by show 2 ≤ sizeLine; decide), fun t1 hn1 => ?_⟩
        have hk1 : Hx kt = some (.tup (kk.map V.int)) := hb1 kt _ hkt (by simp [nkd])
        refine ⟨_, rfl, _, rfl, kt, _, rfl, SqT.of (by rw [upd_ne (ne_of_none hk1 hn1)]; exact hk1), not_whole hkl, fun t3 hn3 => ?_⟩
        have hn31 : t3 ≠ t1 := fun z => by rw [z, upd_same] at hn3; cases hn3
        have hn30 : Hx t3 = none := by rw [upd_ne hn31] at hn3; exact hn3
        refine ⟨.tuple ([a3, a4].map PyData.int), .tuple ((kk.drop 2).map PyData.int), .tup (xs := [a3, a4].map V.int) (SqT.of (by rw [upd_ne hn31.symm, upd_same]; rfl)) (dp_ints [a3, a4]), .tup (xs := (kk.drop 2).map V.int) (SqT.of (by rw [upd_same, cut2 hkl])) (dp_ints (kk.drop 2)), ?_, ?_, _, rfl, ?_⟩
        · exact shaped_tup_ints [a3, a4]
        · exact shaped_tup_ints (kk.drop 2)
        rw [eqv_tups]
        have et := take_filter (p := fun e : Row => decide (e.1.drop 2 = kk.drop 2)) he
        have e2 : e.1.drop 2 = [a3, a4] := by rw [ee]; rfl
        have nD1 : D ≠ t1 := ne_of_none ha1 hn1
        have nD3 : D ≠ t3 := ne_of_none ha1 hn30
        have nd1 : d ≠ t1 := ne_of_none hl1 hn1
        have nd3 : d ≠ t3 := ne_of_none hl1 hn30
        have hb3 : But [d] H (upd (upd Hx t1 (.tup [.int a3, .int a4])) t3 (.tup (cutV (kk.map V.int) (some 2) none))) := fun b o z hbd => by
          rw [upd_ne (ne_of_none (hb1 b o z hbd) hn30), upd_ne (ne_of_none (hb1 b o z hbd) hn1)]
          exact hb1 b o z hbd
        by_cases hc : [a3, a4] = kk.drop 2
        · rw [decide_eq_true hc]
          refine iteT ⟨_, rfl, _, by rw [upd_ne nD3, upd_ne nD1]; exact ha1, ?_, ?_⟩
          · rw [List.length_map]
            have l1 : (takenOf (es.take i) (kk.drop 2)).length ≤ es.length := by
              unfold takenOf
              rw [List.length_map]
              exact Nat.le_trans (List.length_filter_le _ _) (by rw [List.length_take]; omega)
            exact small1000 (by omega)
          · refine ⟨by rw [upd_ne nDd.symm, upd_ne nd3, upd_ne nd1]; exact hl1, fun b o z hbd => ?_, ?_⟩
            · rw [upd_ne (fun y => by rw [y, hD0] at z; cases z)]
              exact hb3 b o z hbd
            · rw [upd_same]
              unfold takenOf
              rw [et]
              simp only [e2, hc, decide_true, if_true, List.map_append]
              rfl
        · rw [decide_eq_false hc]
          refine iteF ⟨by rw [upd_ne nd3, upd_ne nd1]; exact hl1, hb3, ?_⟩
          rw [upd_ne nD3, upd_ne nD1, ha1]
          unfold takenOf
          rw [et]
          simp only [e2, hc, decide_false, Bool.false_eq_true, if_false, List.append_nil]
      · rintro H1 ⟨hl, hb, ha⟩
        refine ⟨hl, ?_⟩
        rw [hlk, List.take_length] at ha
        -- free = [..]
        have hb1 : Same H (upd H1 d (.dT kvs)) := fun b o e => by
          by_cases z : b = d
          · rw [z, upd_same, ← hd, ← z]; exact e
          · rw [upd_ne z]; exact hb b o e (by simp [z])
        have ha1 : (upd H1 d (.dT kvs)) D = some (.lst ((takenOf es (kk.drop 2)).map V.int)) := by rw [upd_ne nDd]; exact ha
        generalize upd H1 d (.dT kvs) = H2 at hb1 ha1 ⊢
        refine ⟨_, _, rfl, rfl, 64, 128, rfl, by decide, ?_⟩
        intro D2 hD2
        have hD2s : ∀ b o, H2 b = some o → b ≠ D2 := fun b o e z => by rw [z, hD2] at e; cases e
        refine lc_it (walk_range (lo := 64) (n := 64)) (fun i H' => H' = upd H2 D2 (.lst (((((List.range 64).take i).map fun i => (64 : Int) + (i : Nat)).filter fun z => decide (z ∉ takenOf es (kk.drop 2))).map V.int))) rfl (fun _ _ _ _ => trivial) ?_ ?_
        · rintro i x H0 H' hi rfl ⟨rfl, rfl⟩
          refine ⟨rfl, _, rfl, _, rfl, D, _, rfl, .inl (SqL.of (by rw [upd_ne (hD2s D _ ha1)]; exact ha1)), rfl, flat_ints _, _, rfl, ?_⟩
          have eb : (if true = true then !inV (V.int (64 + (i : Nat))) ((takenOf es (kk.drop 2)).map V.int) else inV (V.int (64 + (i : Nat))) ((takenOf es (kk.drop 2)).map V.int)) = decide ((64 : Int) + (i : Nat) ∉ takenOf es (kk.drop 2)) := by
            rw [if_pos rfl, inV_ints]
            by_cases z : (64 : Int) + (i : Nat) ∈ takenOf es (kk.drop 2) <;> simp [z]
          rw [eb]
          have er := range_take (f := fun i => (64 : Int) + (i : Nat)) (p := fun z => decide (z ∉ takenOf es (kk.drop 2))) hi
          by_cases hz : (64 : Int) + (i : Nat) ∈ takenOf es (kk.drop 2)
          · rw [decide_eq_false (fun z => z hz)]
            refine iteF ?_
            rw [er]
            simp only [hz, not_true_eq_false, decide_false, Bool.false_eq_true, if_false, List.append_nil]
          · rw [decide_eq_true hz]
            refine iteT ⟨_, rfl, _, upd_same, ?_, ?_⟩
            · rw [List.length_map]
              refine small1000 (Nat.le_trans (List.length_filter_le _ _) ?_)
              rw [List.length_map, List.length_take, List.length_range]
              omega
            · rw [er, upd_upd]
              simp only [hz, not_false_eq_true, decide_true, if_true, List.map_append]
              rfl
        · rintro H3 rfl
          rw [show (List.range 64).take 64 = List.range 64 from List.take_of_length_le (by rw [List.length_range]; exact Nat.le_refl _), ← freeOf_eq]
          refine ⟨_, rfl, _, .inl ⟨_, SqL.of upd_same, rfl⟩, ?_⟩
          have h1b : H2 p = _ := hb1 p _ h1
          have hdb : H2 d = _ := hb1 d _ hd
          have hktb : H2 kt = _ := hb1 kt _ hkt'
          have sm : Same H (upd H2 D2 (.lst ((freeOf es (kk.drop 2)).map V.int))) := fun b o e => by rw [upd_ne (hD2s b o (hb1 b o e))]; exact hb1 b o e
          cases hf : freeOf es (kk.drop 2) with
          | nil =>
            refine iteT ?_
            rw [hf] at sm
            have po := portOf_nil (now := now) hno hf
            have kk2 := k _ (But.of_same sm)
            rw [po] at kk2
            exact kk2 ⟨⟨m, dx, ti, sm p _ h1, sm ti _ h2⟩, ⟨kvs, sm d _ hd, rows_keep (fun t xs z => sm t _ z) hrow⟩, nd⟩
          | cons fz fr =>
            refine iteF ?_
            rw [hf] at sm
            have po := portOf_cons (now := now) hno hf
            generalize hH4 : upd H2 D2 (.lst ((fz :: fr).map V.int)) = H4 at sm ⊢
            have hD4 : H4 D2 = some (.lst ((fz :: fr).map V.int)) := by rw [← hH4, upd_same]
            refine ⟨_, rfl, D2, _, _, _, rfl, rfl, SqL.of hD4, atI_nat (j := 0) rfl, _, rfl, (by show 2 ≤ sizeLine; decide), fun t1 ht1 => ?_⟩
            have n1d : t1 ≠ d := fun z => by rw [z, sm d _ hd] at ht1; cases ht1
            have up1 : ∀ b o, H b = some o → (upd H4 t1 (.tup [.int fz, .int now])) b = some o := fun b o e => by rw [upd_ne (ne_of_none (sm b o e) ht1)]; exact sm b o e
            refine ⟨_, rfl, p, C, dx, _, _, rfl, up1 p _ h1, T.cl, T.nP, flds_po _ _ _, _, rfl, d, _, rfl, DPut.t (k := keyOf kk) (up1 d _ hd) (up1 kt _ hkt') (small1000 (by omega)), ?_⟩
            -- the rest, the key being new
            have pk : putK kvs (keyOf kk) (.ref t1) = kvs ++ [(keyOf kk, .ref t1)] := putK_new _ hv
            have hb5 : But [d] H (upd (upd H4 t1 (.tup [.int fz, .int now])) d (.dT (putK kvs (keyOf kk) (.ref t1)))) := fun b o e hbd => by rw [upd_ne (fun z => hbd (by simp [z]))]; exact up1 b o e
            have hr5 : Paired (RowRel (upd (upd H4 t1 (.tup [.int fz, .int now])) d (.dT (putK kvs (keyOf kk) (.ref t1))))) (putK kvs (keyOf kk) (.ref t1)) (put es kk (fz, now)) := by
              refine rows_put (rows_keep (fun t xs z => ?_) hrow) kk (fz, now) (by rw [upd_ne n1d, upd_same])
              rw [upd_ne (ne_of z hd fun y => nomatch y)]
              exact up1 t _ z
            have l5 : look (put es kk (fz, now)) kk = some (fz, now) := by
              rw [put_new _ hno]
              exact look_of_mem (by rw [← put_new _ hno]; exact put_nd nd kk _) (by simp)
            have v5 : valV (putK kvs (keyOf kk) (.ref t1)) (keyOf kk) = some (.ref t1) := by rw [valV_put, if_pos rfl]
            have ht5 : (upd (upd H4 t1 (.tup [.int fz, .int now])) d (.dT (putK kvs (keyOf kk) (.ref t1)))) t1 = some (.tup [.int fz, .int now]) := by rw [upd_ne n1d, upd_same]
            have f5 := fin _ (fz, now) _ _ hb5 upd_same hr5 (put_nd nd kk _) l5 (Nat.le_trans (put_len _ _ _) (by omega)) t1 v5 ht5
            have len5 : (putK kvs (keyOf kk) (.ref t1)).length ≤ 1001 := Nat.le_trans (length_putK _ _ _) (by omega)
            have hdx : (upd (upd H4 t1 (.tup [.int fz, .int now])) d (.dT (putK kvs (keyOf kk) (.ref t1)))) d = some (.dT (putK kvs (keyOf kk) (.ref t1))) := upd_same
            generalize upd (upd H4 t1 (.tup [.int fz, .int now])) d (.dT (putK kvs (keyOf kk) (.ref t1))) = H5 at hb5 hr5 ht5 f5 hdx ⊢
            have hd5 : H5 d = some (.dT (putK kvs (keyOf kk) (.ref t1))) := hdx
            have d5 : DGet H5 d (.ref kt) (some (.ref t1)) := by
              have e := DGet.t (H := H5) (k := keyOf kk) hd5 (hb5 kt _ hkt' (by simp [nkd]))
              rw [v5] at e
              exact e
            refine ⟨_, rfl, p, C, dx, _, _, rfl, hb5 p _ h1 (by simp [npd]), T.cl, T.nP, flds_po _ _ _, _, rfl, d, _, rfl, d5, ?_⟩
            refine ⟨t1, _, _, _, rfl, rfl, SqT.of ht5, atI_nat (j := 0) rfl, _, rfl, (by show 2 ≤ sizeLine; decide), fun t2 hn2 => ?_⟩
            obtain ⟨g1, g2, g3⟩ := f5 t2 hn2
            have n2d : t2 ≠ d := fun z => by rw [z, hd5] at hn2; cases hn2
            have up5 : ∀ b o, H b = some o → b ≠ d → (upd H5 t2 (.tup [.int fz, .int now])) b = some o := fun b o e z => by rw [upd_ne (ne_of_none (hb5 b o e (by simp [z])) hn2)]; exact hb5 b o e (by simp [z])
            refine ⟨_, rfl, p, C, dx, _, _, rfl, up5 p _ h1 npd, T.cl, T.nP, flds_po _ _ _, _, rfl, d, _, rfl, DPut.t (k := keyOf kk) (by rw [upd_ne n2d.symm]; exact hd5) (up5 kt _ hkt' nkd) (small1000' len5), ?_⟩
            -- return self._ports[key][0]
            refine ⟨_, rfl, p, C, dx, _, _, rfl, g1 p _ h1 (by simp [npd]), T.cl, T.nP, flds_po _ _ _, _, rfl, d, _, rfl, g3, ?_⟩
            refine ⟨t2, _, _, _, rfl, rfl, SqT.of (by rw [upd_ne n2d, upd_same]), atI_nat (j := 0) rfl, ?_⟩
            have kk2 := k _ g1
            rw [po] at kk2
            exact kk2 g2
    · rw [hv]
      refine iteF ?_
      have po : portOf es kk now = some (q.1, put es kk (q.1, now)) := by unfold portOf; simp only [hq]
      have f5 := fin es q H kvs (But.refl _ _) hd hrow nd hq (by omega) tq hv htq
      have d5 : DGet H d (.ref kt) (some (.ref tq)) := by
        have e := DGet.t (H := H) (k := keyOf kk) hd hkt'
        rw [hv] at e
        exact e
      have hb5 : But [d] H H := But.refl _ _
      have len5 : kvs.length ≤ 1001 := by omega
      refine ⟨_, rfl, p, C, dx, _, _, rfl, hb5 p _ h1 (by simp [npd]), T.cl, T.nP, flds_po _ _ _, _, rfl, d, _, rfl, d5, ?_⟩
      refine ⟨tq, _, _, _, rfl, rfl, SqT.of htq, atI_nat (j := 0) rfl, _, rfl, (by show 2 ≤ sizeLine; decide), fun t2 hn2 => ?_⟩
      obtain ⟨g1, g2, g3⟩ := f5 t2 hn2
      have n2d : t2 ≠ d := fun z => by rw [z, hd] at hn2; cases hn2
      have up5 : ∀ b o, H b = some o → b ≠ d → (upd H t2 (.tup [.int q.1, .int now])) b = some o := fun b o e z => by rw [upd_ne (ne_of_none (hb5 b o e (by simp [z])) hn2)]; exact hb5 b o e (by simp [z])
      refine ⟨_, rfl, p, C, dx, _, _, rfl, up5 p _ h1 npd, T.cl, T.nP, flds_po _ _ _, _, rfl, d, _, rfl, DPut.t (k := keyOf kk) (by rw [upd_ne n2d.symm]; exact hd) (up5 kt _ hkt' nkd) (small1000' len5), ?_⟩
      -- return self._ports[key][0]
      refine ⟨_, rfl, p, C, dx, _, _, rfl, g1 p _ h1 (by simp [npd]), T.cl, T.nP, flds_po _ _ _, _, rfl, d, _, rfl, g3, ?_⟩
      refine ⟨t2, _, _, _, rfl, rfl, SqT.of (by rw [upd_ne n2d, upd_same]), atI_nat (j := 0) rfl, ?_⟩
      have kk2 := k _ g1
      rw [po] at kk2
      exact kk2 g2
end
end T35
namespace T35
open PySem PySem.Spec PyProof.Rows L2 E8
/-! ### outward, inward, table: what they reckon -/
def outOf (es : List Row) (goal source : Int) (b : List Int) (now : Int) : Option (List Int) × List Row := match b with
  | b0 :: b1 :: r => match portOf (fresh es now) [source, b0, goal, b1] now with
    | none => (none, fresh es now)
    | some (z, es') => (some (z :: b1 :: r), es')
  | _ => (none, fresh es now)
def ResAt (H : Hp) (v : V) : Option (List Int) → Prop
  | none => v = .non
  | some r => ∃ t, v = .ref t ∧ H t = some (.tup (r.map V.int))
def spOut (C : Addr) : Sp := fun vs H Q _ => ∃ (p d bt : Addr) (goal source now : Int) (b ins : List Int) (es : List Row), vs = [.ref p, .int goal, .int source, .ref bt, .int now] ∧ TrAt C H p d ins es ∧ es.length ≤ 1000 ∧ (∀ e ∈ es, e.1.length = 4) ∧
  H bt = some (.tup (b.map V.int)) ∧ b.length ≤ 1000 ∧ ∀ d' H' v, H d' = none → But [p] H H' → TrAt C H' p d' ins (outOf es goal source b now).2 → ResAt H' v (outOf es goal source b now).1 → Q v H'
theorem fresh_len (es : List Row) (now : Int) : (fresh es now).length ≤ es.length := List.length_filter_le _ _
theorem fresh_4 {es : List Row} (h : ∀ e ∈ es, e.1.length = 4) (now : Int) : ∀ e ∈ fresh es now, e.1.length = 4 := fun e he => h e (List.mem_filter.mp he).1
theorem cut1 (x : V) (xs : List V) : cutV (x :: xs) (some 1) none = xs := by
  unfold cutV
  have e : HT.sIx (x :: xs).length 0 (some 1) = 1 := by
    have := HT.sIx_nat (x :: xs).length 0 1
    rw [show ((1 : Nat) : Int) = 1 from rfl] at this
    rw [this, List.length_cons]
    omega
  rw [e]
  show (xs.drop 0).take ((x :: xs).length - 1) = xs
  rw [List.drop_zero, List.length_cons, Nat.add_sub_cancel]
  exact List.take_length
theorem not_whole1 (x : V) (xs : List V) : ¬ (HT.sIx (x :: xs).length 0 (some 1) = 0 ∧ HT.sIx (x :: xs).length (x :: xs).length none = (x :: xs).length) := by
  rintro ⟨h, _⟩
  have := HT.sIx_nat (x :: xs).length 0 1
  rw [show ((1 : Nat) : Int) = 1 from rfl] at this
  rw [this, List.length_cons] at h
  omega
theorem cut2b (x y : V) (xs : List V) : cutV (x :: y :: xs) (some 2) none = xs := by
  unfold cutV
  have e : HT.sIx (x :: y :: xs).length 0 (some 2) = 2 := by
    have := HT.sIx_nat (x :: y :: xs).length 0 2
    rw [show ((2 : Nat) : Int) = 2 from rfl] at this
    rw [this, List.length_cons, List.length_cons]
    omega
  rw [e]
  show (xs.drop 0).take ((x :: y :: xs).length - 2) = xs
  rw [List.drop_zero, List.length_cons, List.length_cons]
  exact List.take_length
theorem not_whole2 (x y : V) (xs : List V) : ¬ (HT.sIx (x :: y :: xs).length 0 (some 2) = 0 ∧ HT.sIx (x :: y :: xs).length (x :: y :: xs).length none = (x :: y :: xs).length) := by
  rintro ⟨h, _⟩
  have := HT.sIx_nat (x :: y :: xs).length 0 2
  rw [show ((2 : Nat) : Int) = 2 from rfl] at this
  rw [this, List.length_cons, List.length_cons] at h
  omega
section
variable {P : Program} {w : World} {K : PySem.W.Frag} {mg : Str → Option Value} {base : Heap}
theorem scO : FnScope ["self", "goal", "source", "body", "now", "port"] ["self", "goal", "source", "body", "now"] (defScope sOut) := ⟨rfl, rfl, rfl, by decide +kernel, rfl, by decide +kernel, by decide +kernel⟩
theorem ok_out {f fF fP C : Addr} {fd fdF fdP : FuncData} (F : Fun K "outward" "Translator.outward" sOut f fd) (T : Txt K mg C) (FF : Fun K "_forget" "Translator._forget" sForget fF fdF) (bF : Binds K fdF ["self", "now"] []) (mF : Meth K C "_forget" fF)
    (FP : Fun K "_port" "Translator._port" sPort fP fdP) (bP : Binds K fdP ["self", "key", "now"] []) (mP : Meth K C "_port" fP) : FnOk P w K mg base CX0 2 f fd ["self", "goal", "source", "body", "now"] (spOut C) := by
  have GF : FnOk P w K mg base CX0 1 fF fdF ["self", "now"] (spForget C) := ok_forget FF T
  have GP : FnOk P w K mg base CX0 1 fP fdP ["self", "key", "now"] (spPort C) := ok_port FP T
  refine F.ok scO (fun vs H Q E h => ?_) (fun cdv A outer s H vs Q E hr h => ?_)
  · obtain ⟨p, d, bt, goal, source, now, b, ins, es, rfl, _⟩ := h
    rfl
  · obtain ⟨p, d, bt, goal, source, now, b, ins, es, rfl, R, hlen, hk4, hb, hbl, k⟩ := h
    refine ⟨_, pss_cons (ps_expr (pe_meth (pv 0) T.cl mF GF hr bF .nil pass0 (pa_cons (pv 4) pa_nil)))
      (pss_cons (ps_if (pt_cmpR op_lt (pe_callB call_len_seq (by rfl) T.len PySem.boot_len (pa_cons (pv 3) pa_nil)) pe_int (nomark _)) (pss_one (ps_ret pe_non)) pss_nil)
      (pss_cons (ps_set (i := 5) scO.nd rfl (Or.inl rfl) (pe_meth (pv 0) T.cl mP GP hr bP .nil pass0 (pa_cons (pe_tup (pa_cons (pv 2) (pa_cons (pe_ix ix_tup (pv 3) pe_int (fun _ _ => rfl)) (pa_cons (pv 1) (pa_cons (pe_ix ix_tup (pv 3) pe_int (fun _ _ => rfl)) pa_nil))))) (pa_cons (pv 4) pa_nil))))
      (pss_one (ps_ret (pe_ifExp (pt_cmpR op_isN (pv 5) pe_non (nomark _)) pe_non (pe_op op_catT (pe_tup (pa_cons (pv 5) pa_nil)) (pe_callTy call_tuple_of (by rfl) T.tuple (by decide +kernel) (pa_cons (pe_slice sl_tup (pv 3) (po_some pe_int) po_none) pa_nil)))))))), ?_⟩
    obtain ⟨⟨m, dx, ti, h1, h2⟩, _⟩ := id R
    refine ⟨_, rfl, p, dx, _, rfl, h1, (by kernel_rfl), _, rfl, p, d, now, ins, es, rfl, R, hlen, hk4, fun d1 H1 hd1 R1 b1 => ?_⟩
    have nbp : bt ≠ p := ne_of hb h1 fun z => nomatch z
    have hb1 : H1 bt = some (.tup (b.map V.int)) := b1 bt _ hb (by simp [nbp])
    refine ⟨_, rfl, bt, _, rfl, .inr (SqT.of hb1), _, _, rfl, rfl, _, rfl, ?_⟩
    rw [List.length_map]
    match b, hb, hbl, hb1, k with
    | [], hb, hbl, hb1, k => exact iteT (k d1 H1 _ hd1 b1 R1 rfl)
    | [b0], hb, hbl, hb1, k => exact iteT (k d1 H1 _ hd1 b1 R1 rfl)
    | b0 :: b1' :: r, hb, hbl, hb1, k =>
      have hlt : decide (((b0 :: b1' :: r).length : Int) < 2) = false := decide_eq_false (by rw [List.length_cons, List.length_cons]; omega)
      rw [hlt]
      refine iteF ?_
      obtain ⟨⟨m1, dx1, ti1, g1, g2⟩, _⟩ := id R1
      refine ⟨_, rfl, p, dx1, _, rfl, g1, (by kernel_rfl), _, rfl, _, rfl, bt, _, _, _, rfl, rfl, SqT.of hb1, atI_nat (j := 0) rfl, _, rfl, _, rfl, bt, _, _, _, rfl, rfl, SqT.of hb1, atI_nat (j := 1) rfl, (by show 4 ≤ sizeLine; decide), fun kt hkt => ?_⟩
      have up1 : Same H1 (upd H1 kt (.tup [.int source, .int b0, .int goal, .int b1'])) := same_new hkt
      have R2 : TrAt C (upd H1 kt (.tup [.int source, .int b0, .int goal, .int b1'])) p d1 ins (fresh es now) := by
        obtain ⟨⟨m1, dx1, ti1, g1, g2⟩, ⟨kvs, g3, g4⟩, g5⟩ := R1
        exact ⟨⟨m1, dx1, ti1, up1 _ _ g1, up1 _ _ g2⟩, ⟨kvs, up1 _ _ g3, rows_keep (fun t xs z => up1 t _ z) g4⟩, g5⟩
      refine ⟨_, rfl, p, d1, kt, now, [source, b0, goal, b1'], ins, fresh es now, rfl, R2, Nat.le_trans (fresh_len _ _) hlen, fresh_4 hk4 now, rfl, upd_same, fun H2 bb2 => ?_⟩
      have nd1 : ∀ x o, H x = some o → x ≠ d1 := fun x o e z => by rw [z, hd1] at e; cases e
      have hb2 : But [p] H H2 := fun x o e hx => bb2 x o (up1 x o (b1 x o e hx)) (by simp [nd1 x o e])
      have eo : outOf es goal source (b0 :: b1' :: r) now = match portOf (fresh es now) [source, b0, goal, b1'] now with | none => (none, fresh es now) | some (z, es') => (some (z :: b1' :: r), es') := rfl
      rw [eo] at k
      cases hpo : portOf (fresh es now) [source, b0, goal, b1'] now with
      | none =>
        rw [hpo] at k
        intro R3
        refine ⟨_, rfl, rfl, _, rfl, ?_⟩
        exact iteT (k d1 H2 _ hd1 hb2 R3 rfl)
      | some ze =>
        obtain ⟨z, es'⟩ := ze
        rw [hpo] at k
        intro R3
        refine ⟨_, rfl, rfl, _, rfl, ?_⟩
        refine iteF ?_
        have hbt2 : H2 bt = some (.tup ((b0 :: b1' :: r).map V.int)) := hb2 bt _ hb (by simp [nbp])
        refine ⟨_, rfl, (by show 1 ≤ sizeLine; decide), fun t1 hn1 => ?_⟩
        refine ⟨_, rfl, _, rfl, bt, _, rfl, SqT.of (by rw [upd_ne (ne_of_none hbt2 hn1)]; exact hbt2), not_whole1 _ _, fun t2 hn2 => ?_⟩
        have n21 : t2 ≠ t1 := fun z => by rw [z, upd_same] at hn2; cases hn2
        refine ⟨t2, _, rfl, .inr ⟨SqT.of upd_same, ?_⟩⟩
        refine ⟨t1, t2, _, _, rfl, rfl, SqT.of (by rw [upd_ne n21.symm, upd_same]), SqT.of upd_same, (fun z => by cases z), ?_, fun z => ?_, fun _ t3 hn3 => ?_⟩
        · rw [List.map_cons, cut1]
          show 0 + 1 + ((b1' :: r).map V.int).length ≤ sizeLine
          rw [List.length_map]
          have : (b1' :: r).length ≤ 1000 := by simp only [List.length_cons] at hbl ⊢; omega
          exact Nat.le_of_lt (Nat.lt_of_le_of_lt (show 0 + 1 + (b1' :: r).length ≤ 1001 by omega) (by decide))
        · rw [List.map_cons, cut1] at z
          cases z
        · have n3 : ∀ x o, H2 x = some o → x ≠ t3 := fun x o e z => by
            have e1 : x ≠ t1 := ne_of_none e hn1
            have e2 : x ≠ t2 := fun y => by rw [y] at e; rw [upd_ne n21, e] at hn2; cases hn2
            rw [← z, upd_ne e2, upd_ne e1, e] at hn3
            cases hn3
          have n2' : ∀ x o, H2 x = some o → x ≠ t2 := fun x o e y => by rw [y] at e; rw [upd_ne n21, e] at hn2; cases hn2
          have sm : Same H2 (upd (upd (upd H2 t1 (.tup [.int z])) t2 (.tup (cutV ((b0 :: b1' :: r).map V.int) (some 1) none))) t3 (.tup ([.int z] ++ cutV ((b0 :: b1' :: r).map V.int) (some 1) none))) := fun x o e => by
            rw [upd_ne (n3 x o e), upd_ne (n2' x o e), upd_ne (ne_of_none e hn1)]
            exact e
          refine k d1 _ _ hd1 (fun x o e hx => sm x o (hb2 x o e hx)) ?_ ⟨t3, rfl, ?_⟩
          · obtain ⟨⟨m1, dx1, ti1, g1, g2⟩, ⟨kvs, g3, g4⟩, g5⟩ := R3
            exact ⟨⟨m1, dx1, ti1, sm _ _ g1, sm _ _ g2⟩, ⟨kvs, sm _ _ g3, rows_keep (fun t xs z => sm t _ z) g4⟩, g5⟩
          · rw [upd_same, List.map_cons, cut1]
            rfl
end
end T35
namespace T35
open PySem PySem.Spec PyProof.Rows L2 E8
def hitOf (source b0 b1 : Int) (e : Row) : Bool := decide (e.2.1 = b1) && decide (e.1.drop 2 = [source, b0])
def inOf (es : List Row) (source : Int) (b : List Int) (now : Int) : Option (Int × List Int) × List Row := match b with
  | b0 :: b1 :: r => match (fresh es now).find? (hitOf source b0 b1) with
    | none => (none, fresh es now)
    | some e => (some (e.1.getD 0 0, b0 :: e.1.getD 1 0 :: r), put (fresh es now) e.1 (e.2.1, now))
  | _ => (none, fresh es now)
def ResIn (H : Hp) (v : V) : Option (Int × List Int) → Prop
  | none => v = .non
  | some (n, r) => ∃ t t', v = .ref t ∧ H t = some (.tup [.int n, .ref t']) ∧ H t' = some (.tup (r.map V.int))
def spIn (C : Addr) : Sp := fun vs H Q _ => ∃ (p d bt : Addr) (source now : Int) (b ins : List Int) (es : List Row), vs = [.ref p, .int source, .ref bt, .int now] ∧ TrAt C H p d ins es ∧ es.length ≤ 1000 ∧ (∀ e ∈ es, e.1.length = 4) ∧
  H bt = some (.tup (b.map V.int)) ∧ b.length ≤ 1000 ∧ ∀ d' H' v, H d' = none → But [p] H H' → TrAt C H' p d' ins (inOf es source b now).2 → ResIn H' v (inOf es source b now).1 → Q v H'
def spTable (C : Addr) : Sp := fun vs H Q _ => ∃ (p d : Addr) (ins : List Int) (es : List Row), vs = [.ref p] ∧ TrAt C H p d ins es ∧ es.length ≤ 1000 ∧
  ∀ t H', H t = none → Same H H' → H' t = some (.dT ((tabOf es).map fun q => (q.1, V.int q.2))) → Q (.ref t) H'
theorem TrAt.keep {C : Addr} {H H' : Hp} {p d : Addr} {ins : List Int} {es : List Row} (s : Same H H') (R : TrAt C H p d ins es) : TrAt C H' p d ins es := by
  obtain ⟨⟨m1, dx1, ti1, g1, g2⟩, ⟨kvs, g3, g4⟩, g5⟩ := R
  exact ⟨⟨m1, dx1, ti1, s _ _ g1, s _ _ g2⟩, ⟨kvs, s _ _ g3, rows_keep (fun t xs z => s t _ z) g4⟩, g5⟩
theorem find_skip {p : Row → Bool} {es : List Row} {i : Nat} (h : ∀ j e, j < i → es[j]? = some e → p e = false) : es.find? p = (es.drop i).find? p := by
  induction es generalizing i with
  | nil => simp
  | cons e es ih =>
    cases i with
    | zero => rfl
    | succ i =>
      rw [List.drop_succ_cons, List.find?_cons, h 0 e (Nat.succ_pos _) rfl]
      exact ih fun j e' hj he => h (j + 1) e' (Nat.succ_lt_succ hj) (by simpa using he)
section
variable {P : Program} {w : World} {K : PySem.W.Frag} {mg : Str → Option Value} {base : Heap}
abbrev nI : List Str := ["self", "source", "body", "now", "key", "own", "_"]
theorem scN : FnScope nI ["self", "source", "body", "now"] (defScope sIn) := ⟨rfl, rfl, rfl, by decide +kernel, rfl, by decide +kernel, by decide +kernel⟩
theorem ok_in {f fF C : Addr} {fd fdF : FuncData} (F : Fun K "inward" "Translator.inward" sIn f fd) (T : Txt K mg C) (FF : Fun K "_forget" "Translator._forget" sForget fF fdF) (bF : Binds K fdF ["self", "now"] []) (mF : Meth K C "_forget" fF) :
    FnOk P w K mg base CX0 2 f fd ["self", "source", "body", "now"] (spIn C) := by
  have GF : FnOk P w K mg base CX0 1 fF fdF ["self", "now"] (spForget C) := ok_forget FF T
  refine F.ok scN (fun vs H Q E h => ?_) (fun cdv A outer s H vs Q E hr h => ?_)
  · obtain ⟨p, d, bt, source, now, b, ins, es, rfl, _⟩ := h
    rfl
  · obtain ⟨p, d, bt, source, now, b, ins, es, rfl, R, hlen, hk4, hb, hbl, k⟩ := h
    have hu := hu_of hr
    refine ⟨_, pss_cons (ps_expr (pe_meth (pv 0) T.cl mF GF hr bF .nil pass0 (pa_cons (pv 3) pa_nil)))
      (pss_cons (ps_if (pt_cmpR op_lt (pe_callB call_len_seq (by rfl) T.len PySem.boot_len (pa_cons (pv 2) pa_nil)) pe_int (nomark _)) (pss_one (ps_ret pe_non)) pss_nil)
      (pss_cons (ps_for PassesOwn.never rfl (pi_list (pe_itL rfl (pe_fld (pv 0) rfl) rfl T.list (by decide +kernel)))
          (pg_tup rfl (pgs_cons (pg_name (i := 4) scN.nd rfl (Or.inl rfl)) (pgs_cons (pg_tup rfl (pgs_cons (pg_name (i := 5) scN.nd rfl (Or.inl rfl)) (pgs_cons (pg_name (i := 6) scN.nd rfl (Or.inl rfl)) pgs_nil))) pgs_nil)))
          (pss_one (ps_if (PW.pt (pw_and (pt_cmpR op_eq (pv 5) (pe_ix ix_tup (pv 2) pe_int (fun _ _ => rfl)) (nomark _))
              (pw_and1 (pt_cmpR (op_eqD hr.units) (pe_slice sl_tup (pv 4) (po_some pe_int) po_none) (pe_tup (pa_cons (pv 1) (pa_cons (pe_ix ix_tup (pv 2) pe_int (fun _ _ => rfl)) pa_nil))) (nomark _)))))
            (pss_cons (ps_dput hu (pe_fld (pv 0) rfl) (pv 4) (pe_tup (pa_cons (pv 5) (pa_cons (pv 3) pa_nil))) rfl)
            (pss_one (ps_ret (pe_tup (pa_cons (pe_ix ix_tup (pv 4) pe_int (fun _ _ => rfl)) (pa_cons (pe_op op_catT (pe_tup (pa_cons (pe_ix ix_tup (pv 2) pe_int (fun _ _ => rfl)) (pa_cons (pe_ix ix_tup (pv 4) pe_int (fun _ _ => rfl)) pa_nil)))
              (pe_callTy call_tuple_of (by rfl) T.tuple (by decide +kernel) (pa_cons (pe_slice sl_tup (pv 2) (po_some pe_int) po_none) pa_nil))) pa_nil)))))) pss_nil)))
      (pss_one (ps_ret pe_non)))), ?_⟩
    obtain ⟨⟨m, dx, ti, h1, h2⟩, _⟩ := id R
    refine ⟨_, rfl, p, dx, _, rfl, h1, (by kernel_rfl), _, rfl, p, d, now, ins, es, rfl, R, hlen, hk4, fun d1 H1 hd1 R1 b1 => ?_⟩
    have nbp : bt ≠ p := ne_of hb h1 fun z => nomatch z
    have hb1 : H1 bt = some (.tup (b.map V.int)) := b1 bt _ hb (by simp [nbp])
    refine ⟨_, rfl, bt, _, rfl, .inr (SqT.of hb1), _, _, rfl, rfl, _, rfl, ?_⟩
    rw [List.length_map]
    match b, hb, hbl, hb1, k with
    | [], hb, hbl, hb1, k => exact iteT (k d1 H1 _ hd1 b1 R1 rfl)
    | [b0], hb, hbl, hb1, k => exact iteT (k d1 H1 _ hd1 b1 R1 rfl)
    | b0 :: b1' :: r, hb, hbl, hb1, k =>
      have hlt : decide (((b0 :: b1' :: r).length : Int) < 2) = false := decide_eq_false (by rw [List.length_cons, List.length_cons]; omega)
      rw [hlt]
      refine iteF ?_
      obtain ⟨⟨m1, dx1, ti1, g1, g2⟩, ⟨kvs, g3, g4⟩, nd1⟩ := id R1
      have hlk : kvs.length = (fresh es now).length := Paired.length g4
      have f4 := fresh_4 hk4 now
      have ne1 : ∀ x o, H x = some o → x ≠ d1 := fun x o e z => by rw [z, hd1] at e; cases e
      refine ⟨_, rfl, p, C, dx1, _, _, rfl, g1, T.cl, T.nP, flds_po _ _ _, d1, kvs, rfl, g3, fun H2 lp ts sm2 hlp hlp2 htl hts => ?_⟩
      refine ⟨lp, rfl, ⟨_, SqL.of hlp2⟩, ?_⟩
      refine for_list (K := K) (xs := ts.map V.ref) (fun i σ' H' => Same H2 H' ∧ (∃ v4 v5 v6, σ' = [some (.ref p), some (.int source), some (.ref bt), some (.int now), v4, v5, v6]) ∧ ∀ j e, j < i → (fresh es now)[j]? = some e → hitOf source b0 b1' e = false) ?_ ?_ ?_ ?_
      · exact ⟨Same.refl _, ⟨none, none, none, rfl⟩, fun j e hj => absurd hj (Nat.not_lt_zero _)⟩
      · rintro i σ' H' _ ⟨sm, _⟩
        exact SqL.of (sm _ _ hlp2)
      · rintro i x σ' H' hx ⟨sm, ⟨v4, v5, v6, rfl⟩, hno⟩
        rw [List.getElem?_map] at hx
        obtain ⟨t, ht, rfl⟩ := Option.map_eq_some_iff.mp hx
        have hi : i < kvs.length := by rw [← htl]; exact (List.getElem?_eq_some_iff.mp ht).1
        obtain ⟨⟨kk, v⟩, hkv⟩ : ∃ p, kvs[i]? = some p := ⟨kvs[i], List.getElem?_eq_getElem hi⟩
        obtain ⟨q, hq, htt⟩ := hts i t kk v ht hkv
        obtain ⟨e, tv, he, rfl, rfl, htv⟩ := rows_at g4 hkv
        have he4 : e.1.length = 4 := f4 e (List.mem_of_getElem? he)
        have sm12 : Same H1 H' := sm2.trans sm
        have hq' : H' q = some (.tup (e.1.map V.int)) := by rw [← keyOf_kV]; exact sm12 q _ hq
        have htv' : H' tv = _ := sm12 tv _ htv
        have hbt' : H' bt = some (.tup ((b0 :: b1' :: r).map V.int)) := sm12 bt _ hb1
        refine ⟨t, _, rfl, SqT.of (sm _ _ htt), rfl, _, _, rfl, _, _, rfl, ⟨tv, _, rfl, SqT.of htv', rfl, _, _, rfl, _, _, rfl, rfl, ?_⟩⟩
        refine ⟨rfl, ?_⟩
        -- own == body[1]
        refine ⟨_, rfl, _, rfl, bt, _, _, _, rfl, rfl, SqT.of hbt', atI_nat (j := 1) rfl, rfl, _, rfl, ?_⟩
        have e1 : decide (V.int e.2.1 = V.int b1') = decide (e.2.1 = b1') := by
          by_cases z : e.2.1 = b1'
          · rw [z]; simp
          · rw [decide_eq_false z, decide_eq_false (fun y => z (V.int.inj y))]
        show (if decide (V.int e.2.1 = V.int b1') = true then _ else _)
        rw [e1]
        have next : ∀ H3 v4 v5 v6, Same H' H3 → hitOf source b0 b1' e = false →
            (Same H2 H3 ∧ (∃ w4 w5 w6, [some (V.ref p), some (V.int source), some (V.ref bt), some (V.int now), v4, v5, v6] = [some (V.ref p), some (V.int source), some (V.ref bt), some (V.int now), w4, w5, w6]) ∧
              ∀ j e, j < i + 1 → (fresh es now)[j]? = some e → hitOf source b0 b1' e = false) := fun H3 v4 v5 v6 s3 hf => by
          refine ⟨sm.trans s3, ⟨v4, v5, v6, rfl⟩, fun j e' hj he' => ?_⟩
          rcases Nat.lt_succ_iff_lt_or_eq.mp hj with z | z
          · exact hno j e' z he'
          · rw [z, he] at he'
            cases he'
            exact hf
        by_cases hc1 : e.2.1 = b1'
        · rw [decide_eq_true hc1]
          refine iteT ?_
          refine ⟨_, rfl, _, rfl, q, _, rfl, SqT.of hq', not_whole he4, fun t3 hn3 => ?_⟩
          have u3 : Same H' (upd H' t3 (.tup (cutV (e.1.map V.int) (some 2) none))) := same_new hn3
          refine ⟨_, rfl, _, rfl, bt, _, _, _, rfl, rfl, SqT.of (u3 _ _ hbt'), atI_nat (j := 0) rfl, (by show 2 ≤ sizeLine; decide), fun t4 hn4 => ?_⟩
          have u4 := u3.trans (same_new (o := .tup [V.int source, V.int b0]) hn4)
          have n34 : t3 ≠ t4 := ne_of_none upd_same hn4
          refine ⟨.tuple ((e.1.drop 2).map PyData.int), .tuple ([source, b0].map PyData.int), .tup (xs := (e.1.drop 2).map V.int) (SqT.of (by rw [upd_ne n34, upd_same, cut2 he4])) (dp_ints _), .tup (xs := [source, b0].map V.int) (SqT.of (by rw [upd_same]; rfl)) (dp_ints [source, b0]), shaped_tup_ints _, shaped_tup_ints [source, b0], _, rfl, ?_⟩
          rw [eqv_tups]
          by_cases hc2 : e.1.drop 2 = [source, b0]
          · rw [decide_eq_true hc2]
            refine iteT ?_
            have hit : hitOf source b0 b1' e = true := by unfold hitOf; simp [hc1, hc2]
            have hfind : (fresh es now).find? (hitOf source b0 b1') = some e := by
              rw [find_skip hno, List.drop_eq_getElem_cons (show i < (fresh es now).length by omega)]
              have eg : (fresh es now)[i]'(by omega) = e := Option.some.inj ((List.getElem?_eq_getElem _).symm.trans he)
              rw [List.find?_cons, eg, hit]
            have ei : inOf es source (b0 :: b1' :: r) now = (some (e.1.getD 0 0, b0 :: e.1.getD 1 0 :: r), put (fresh es now) e.1 (e.2.1, now)) := by
              show (match (fresh es now).find? (hitOf source b0 b1') with | none => _ | some e => _) = _
              rw [hfind]
            rw [ei] at k
            generalize hH4 : upd (upd H' t3 (.tup (cutV (e.1.map V.int) (some 2) none))) t4 (.tup [V.int source, V.int b0]) = H4 at u4 ⊢
            have u14 : Same H1 H4 := sm12.trans u4
            refine ⟨_, rfl, _, rfl, (by show 2 ≤ sizeLine; decide), fun t5 hn5 => ?_⟩
            have u5 : Same H1 (upd H4 t5 (.tup [.int e.2.1, .int now])) := u14.trans (same_new hn5)
            have hk5 : (upd H4 t5 (.tup [.int e.2.1, .int now])) q = some (.tup ((keyOf e.1).map kV)) := by rw [keyOf_kV]; exact (u4.trans (same_new hn5)) _ _ hq'
            have ll := fresh_len es now
            refine ⟨_, rfl, p, C, dx1, _, _, rfl, u5 _ _ g1, T.cl, T.nP, flds_po _ _ _, _, rfl, d1, _, rfl, DPut.t (k := keyOf e.1) (u5 _ _ g3) hk5 (small1000 (by omega)), ?_⟩
            have n5 : t5 ≠ d1 := fun z => by rw [z, u14 _ _ g3] at hn5; cases hn5
            generalize hH6 : upd (upd H4 t5 (.tup [.int e.2.1, .int now])) d1 (.dT (putK kvs (keyOf e.1) (.ref t5))) = H6
            have b6 : But [d1] H1 H6 := fun x o ex hx => by rw [← hH6, upd_ne (fun z => hx (by simp [z]))]; exact u5 x o ex
            have R6 : TrAt C H6 p d1 ins (put (fresh es now) e.1 (e.2.1, now)) := by
              refine ⟨⟨m1, dx1, ti1, b6 _ _ g1 ?_, b6 _ _ g2 ?_⟩, ⟨_, by rw [← hH6, upd_same], rows_put (rows_keep (fun t xs z => b6 t _ z ?_) g4) e.1 (e.2.1, now) (by rw [← hH6, upd_ne n5, upd_same])⟩, put_nd nd1 _ _⟩
              · have : p ≠ d1 := ne_of g1 g3 fun y => nomatch y
                simp [this]
              · have : ti1 ≠ d1 := ne_of g2 g3 fun y => nomatch y
                simp [this]
              · have : t ≠ d1 := ne_of z g3 fun y => nomatch y
                simp [this]
            have nq : q ≠ d1 := ne_of hq g3 fun y => nomatch y
            have nbt : bt ≠ d1 := ne1 _ _ hb
            have hq6 : H6 q = some (.tup (e.1.map V.int)) := by rw [← keyOf_kV]; exact b6 q _ hq (by simp [nq])
            have hb6 : H6 bt = some (.tup ((b0 :: b1' :: r).map V.int)) := b6 bt _ hb1 (by simp [nbt])
            obtain ⟨a1, a2, a3, a4, ee⟩ : ∃ a1 a2 a3 a4, e.1 = [a1, a2, a3, a4] := by
              match h : e.1, he4 with
              | [a, b, c, d], _ => exact ⟨a, b, c, d, rfl⟩
            have hq7 : H6 q = some (.tup [.int a1, .int a2, .int a3, .int a4]) := by rw [hq6, ee]; rfl
            refine ⟨_, rfl, q, _, _, _, rfl, rfl, SqT.of hq7, atI_nat (j := 0) rfl, ?_⟩
            refine ⟨_, rfl, bt, _, _, _, rfl, rfl, SqT.of hb6, atI_nat (j := 0) rfl, _, rfl, q, _, _, _, rfl, rfl, SqT.of hq7, atI_nat (j := 1) rfl, (by show 2 ≤ sizeLine; decide), fun t7 hn7 => ?_⟩
            have u7 := same_new (o := .tup [V.int b0, V.int a2]) hn7
            refine ⟨_, rfl, _, rfl, bt, _, rfl, SqT.of (u7 _ _ hb6), not_whole2 _ _ _, fun t8 hn8 => ?_⟩
            have u8 := u7.trans (same_new (o := .tup (cutV ((b0 :: b1' :: r).map V.int) (some 2) none)) hn8)
            have n78 : t7 ≠ t8 := ne_of_none upd_same hn8
            refine ⟨t8, _, rfl, .inr ⟨SqT.of upd_same, ?_⟩⟩
            refine ⟨t7, t8, _, _, rfl, rfl, SqT.of (by rw [upd_ne n78, upd_same]), SqT.of upd_same, (fun z => by cases z), ?_, fun z => ?_, fun _ t9 hn9 => ?_⟩
            · rw [List.map_cons, List.map_cons, cut2b]
              show 0 + 1 + 1 + (r.map V.int).length ≤ sizeLine
              rw [List.length_map]
              rw [List.length_cons, List.length_cons] at hbl
              exact Nat.le_of_lt (Nat.lt_of_le_of_lt (show 0 + 1 + 1 + r.length ≤ 1001 by omega) (by decide))
            · -- nothing behind
              rw [List.map_cons, List.map_cons, cut2b] at z
              obtain rfl : r = [] := by cases r with
                | nil => rfl
                | cons _ _ => cases z
              refine ⟨(by show 2 ≤ sizeLine; decide), fun t10 hn10 => ?_⟩
              have u10 := u8.trans (same_new (o := .tup [V.int a1, V.ref t7]) hn10)
              have n710 : t7 ≠ t10 := ne_of_none (o := .tup [V.int b0, V.int a2]) (by rw [upd_ne n78, upd_same]) hn10
              refine k d1 _ _ hd1 (fun x o ex hx => u10 x o (b6 x o (b1 x o ex hx) (by simp [ne1 x o ex]))) (R6.keep u10) ⟨t10, t7, rfl, ?_, ?_⟩
              · rw [upd_same, ee]; rfl
              · rw [upd_ne n710, upd_ne n78, upd_same, ee]; rfl
            · have u9 := u8.trans (same_new (o := .tup ([V.int b0, V.int a2] ++ cutV ((b0 :: b1' :: r).map V.int) (some 2) none)) hn9)
              refine ⟨(by show 2 ≤ sizeLine; decide), fun t10 hn10 => ?_⟩
              have u10 := u9.trans (same_new (o := .tup [V.int a1, V.ref t9]) hn10)
              have n910 : t9 ≠ t10 := ne_of_none upd_same hn10
              refine k d1 _ _ hd1 (fun x o ex hx => u10 x o (b6 x o (b1 x o ex hx) (by simp [ne1 x o ex]))) (R6.keep u10) ⟨t10, t9, rfl, ?_, ?_⟩
              · rw [upd_same, ee]; rfl
              · rw [upd_ne n910, upd_same, List.map_cons, List.map_cons, cut2b, ee]; rfl
          · rw [decide_eq_false hc2]
            exact iteF (next _ _ _ _ u4 (by unfold hitOf; simp [hc2]))
        · rw [decide_eq_false hc1]
          exact iteF (iteF (next _ _ _ _ (Same.refl _) (by unfold hitOf; simp [hc1])))
      · rintro σ' H' ⟨sm, _, hno⟩
        rw [List.length_map, htl, hlk] at hno
        have hfind : (fresh es now).find? (hitOf source b0 b1') = none := by
          rw [List.find?_eq_none]
          intro e he
          obtain ⟨j, hj⟩ := List.mem_iff_getElem?.mp he
          rw [hno j e (List.getElem?_eq_some_iff.mp hj).1 hj]
          exact Bool.false_ne_true
        have ei : inOf es source (b0 :: b1' :: r) now = (none, fresh es now) := by
          show (match (fresh es now).find? (hitOf source b0 b1') with | none => _ | some e => _) = _
          rw [hfind]
        rw [ei] at k
        exact k d1 H' .non hd1 (fun x o ex hx => sm x o (sm2 x o (b1 x o ex hx))) (R1.keep (sm2.trans sm)) rfl
end
end T35
namespace T35
open PySem PySem.Spec PyProof.Rows L2 E8
theorem tabOf_take (es : List Row) (i : Nat) : tabOf (es.take i) = (tabOf es).take i := by
  unfold tabOf
  rw [List.map_take]
theorem putK_fresh {acc : List (List L2.Key × V)} {k : List L2.Key} {v : V} (h : k ∉ acc.map (·.1)) : putK acc k v = acc ++ [(k, v)] := by
  refine putK_new v ?_
  unfold valV
  rw [Option.map_eq_none_iff, List.find?_eq_none]
  intro x hx
  have : x.1 ≠ k := fun z => h (List.mem_map.mpr ⟨x, hx, z⟩)
  simp [this]
section
variable {P : Program} {w : World} {K : PySem.W.Frag} {mg : Str → Option Value} {base : Heap}
abbrev nT : List Str := ["self", "key", "own", "_"]
theorem scT : FnScope nT ["self"] (defScope sTable) := ⟨rfl, rfl, rfl, by decide +kernel, rfl, by decide +kernel, by decide +kernel⟩
theorem ok_table {f C : Addr} {fd : FuncData} (F : Fun K "table" "Translator.table" sTable f fd) (T : Txt K mg C) : FnOk P w K mg base CX0 1 f fd ["self"] (spTable C) := by
  refine F.ok scT (fun vs H Q E h => ?_) (fun cdv A outer s H vs Q E hr h => ?_)
  · obtain ⟨p, d, ins, es, rfl, _⟩ := h
    rfl
  · obtain ⟨p, d, ins, es, rfl, R, hlen, k⟩ := h
    obtain ⟨⟨m, dx, ti, h1, h2⟩, ⟨kvs, hd, hrow⟩, nd⟩ := id R
    have npd : p ≠ d := ne_of h1 hd fun z => nomatch z
    have hlk : kvs.length = es.length := Paired.length hrow
    refine ⟨_, pss_one (ps_ret (pe_lock (pe_dcT rfl hr.units0 scT.nd (pi_itemsT (pe_fld (pv 0) rfl)) (blkOk_by (own := [("key", 1), ("own", 2), ("_", 3)]) (N := nT) (sc := defScope sTable) (by decide +kernel))
      (fun _ _ _ _ _ => pg_tupK (K := K) (n := 2) rfl rfl (pgs_cons (pg_name (i := 1) scT.nd rfl (Or.inl rfl)) (pgs_cons (pg_tupK (K := K) (n := 2) rfl rfl (pgs_cons (pg_name (i := 2) scT.nd rfl (Or.inl rfl)) (pgs_cons (pg_name (i := 3) scT.nd rfl (Or.inl rfl)) pgs_nil))) pgs_nil)))
      (fun _ _ _ _ _ => pts_nil) (fun _ _ _ _ _ => pv 1) (fun _ _ _ _ _ => pv 2)))), ?_⟩
    refine ⟨d, .dT kvs, hd, True.intro, fun od => ?_⟩
    refine ⟨_, rfl, p, C, dx, _, _, rfl, (by rw [upd_ne npd]; exact h1), T.cl, T.nP, flds_po _ _ _, d, od, kvs, rfl, upd_same, ?_⟩
    intro D hD
    have hD0 : H D = none := by
      by_cases z : D = d
      · rw [z, upd_same] at hD; cases hD
      · rw [upd_ne z] at hD; exact hD
    have nDd : D ≠ d := fun z => by rw [z, upd_same] at hD; cases hD
    refine dcT_it walk_itemsT (fun i H' => H' d = some (.frz od (.dT kvs)) ∧ But [d] H H' ∧ H' D = some (.dT ((tabOf (es.take i)).map fun q => (q.1, V.int q.2)))) ?_ ?_ ?_ ?_
    · refine ⟨by rw [upd_ne nDd.symm]; exact upd_same, fun b o e hb => ?_, upd_same⟩
      have hbd : b ≠ d := fun z => hb (by simp [z])
      rw [upd_ne (ne_of_none e hD0), upd_ne hbd]
      exact e
    · exact fun i H' _ h => h.1
    · rintro i x H0 H' hi ⟨hl, hb, ha⟩ ⟨T0, kk, v, q, hkv, hq, rfl, hT, rfl⟩
      obtain ⟨e, t, he, rfl, rfl, ht⟩ := rows_at hrow hkv
      have htd : t ≠ d := ne_of ht hd fun z => nomatch z
      have hdT : d ≠ T0 := ne_of_none hl hT
      have hDT : D ≠ T0 := ne_of_none ha hT
      have ht0 : H0 t = some (.tup [.int e.2.1, .int e.2.2]) := hb t _ ht (by simp [htd])
      have ht1 : (upd H0 T0 (.tup [.ref q, .ref t])) t = some (.tup [.int e.2.1, .int e.2.2]) := by rw [upd_ne (ne_of_none ht0 hT)]; exact ht0
      refine ⟨T0, _, rfl, SqT.of upd_same, rfl, _, _, rfl, _, _, rfl, ⟨t, _, rfl, SqT.of ht1, rfl, _, _, rfl, _, _, rfl, rfl, ?_⟩⟩
      refine ⟨rfl, rfl, ?_⟩
      unfold tYes
      refine iteT ?_
      refine ⟨_, rfl, _, rfl, _, keyOf e.1, q, rfl, by rw [upd_ne (ne_of_none hq hT)]; exact hq, by rw [upd_ne hDT]; exact ha, ?_, ?_⟩
      · rw [List.length_map]
        unfold tabOf
        rw [List.length_map, List.length_take]
        exact small1000 (by omega)
      · refine ⟨by rw [upd_ne nDd.symm, upd_ne hdT]; exact hl, fun b o z hbd => ?_, ?_⟩
        · rw [upd_ne (fun y => by rw [y, hD0] at z; cases z), upd_ne (ne_of_none (hb b o z hbd) hT)]
          exact hb b o z hbd
        · rw [upd_same]
          have nk : keyOf e.1 ∉ ((tabOf (es.take i)).map fun q => (q.1, V.int q.2)).map (·.1) := by
            intro z
            rw [List.map_map] at z
            obtain ⟨y, hy, ey⟩ := List.mem_map.mp z
            obtain ⟨x, hx, ex⟩ := List.mem_map.mp hy
            have : keyOf x.1 = keyOf e.1 := by rw [← ey, ← ex]; rfl
            exact nd_take nd he x hx (keyOf_inj this)
          rw [putK_fresh nk]
          have et : es.take (i + 1) = es.take i ++ [e] := by rw [List.take_add_one, he]; rfl
          rw [et]
          unfold tabOf
          rw [List.map_append, List.map_append]
          rfl
    · rintro H' ⟨hl, hb, ha⟩
      refine ⟨hl, ?_⟩
      rw [hlk, List.take_length] at ha
      refine k D _ hD0 (fun b o e => ?_) (by rw [upd_ne nDd]; exact ha)
      by_cases z : b = d
      · rw [z, upd_same, ← hd, ← z]; exact e
      · rw [upd_ne z]; exact hb b o e (by simp [z])
end
end T35
namespace T35
open PySem PySem.Spec PyProof.Rows L2 E8
/-! ### the law's own draws -/
structure DrawAt (H : Hp) (a b : Addr) (ns : List Int) : Prop where
  ex : ∃ (j : Nat) (rest seed : Int), H a = some (.lst [.ref b, .int (j : Int), .int rest, .int seed]) ∧ j ≤ ns.length ∧ 0 ≤ rest ∧ 0 ≤ seed ∧ seed < 2147483647
  scr : H b = some (.lst (ns.map V.int))
  len : ns.length ≤ 63
structure TxtL (mg : Str → Option Value) : Prop where
  int : mg "int" = none
  list : mg "list" = none
  len : mg "len" = none
  abs : mg "abs" = none
  tuple : mg "tuple" = none
  range : mg "range" = none
def spBegin (K : PySem.W.Frag) : Sp := fun vs H Q _ => ∃ (a : Addr) (ns : List Int), vs = [.ref a] ∧ SqL K H a (ns.map V.int) ∧ ns.length ≤ 63 ∧
  ∀ d b H', H d = none → H b = none → Same H H' → DrawAt H' d b ns → Q (.ref d) H'
def spTake : Sp := fun vs H Q _ => ∃ (a b : Addr) (ns : List Int) (many : Int), vs = [.ref a, .int many] ∧ DrawAt H a b ns ∧ 0 < many ∧ many < 1000000 ∧
  ∀ r H', 0 ≤ r → r < many → But [a] H H' → DrawAt H' a b ns → Q (.int r) H'
section
variable {P : Program} {w : World} {K : PySem.W.Frag} {mg : Str → Option Value} {base : Heap}
theorem scB : FnScope ["script", "seed", "cell"] ["script"] (defScope sBegin) := ⟨rfl, rfl, rfl, by decide +kernel, rfl, by decide +kernel, by decide +kernel⟩
theorem ok_begin {f : Addr} {fd : FuncData} (F : Fun K "_law_begin" "_law_begin" sBegin f fd) (T : TxtL mg) : FnOk P w K mg base CX0 1 f fd ["script"] (spBegin K) := by
  refine F.ok scB (fun vs H Q E h => ?_) (fun cdv A outer s H vs Q E hr h => ?_)
  · obtain ⟨a, ns, rfl, _⟩ := h
    rfl
  · obtain ⟨a, ns, rfl, hS, hlen, k⟩ := h
    refine ⟨_, pss_cons (ps_set (i := 1) scB.nd rfl (Or.inl rfl) pe_int)
      (pss_cons (ps_for PassesOwn.never rfl (pi_list (pv 0)) (pg_name (i := 2) scB.nd rfl (Or.inl rfl))
        (pss_one (ps_set (i := 1) scB.nd rfl (Or.inl rfl) (pe_op op_mod (pe_op op_add (pe_op op_add (pe_op op_mul (pv 1) pe_int) (pe_op op_mod (pe_callTy call_int1 (by rfl) T.int boot_int (pa_cons (pv 2) pa_nil)) pe_int)) pe_int) pe_int))))
      (pss_one (ps_ret (pe_lst (pa_cons (pe_callTy call_list_of (by rfl) T.list (by decide +kernel) (pa_cons (pv 0) pa_nil)) (pa_cons pe_int (pa_cons pe_int (pa_cons (pv 1) pa_nil)))))))), ?_⟩
    refine ⟨_, rfl, a, rfl, ⟨_, hS⟩, ?_⟩
    refine for_list (K := K) (xs := ns.map V.int) (fun i σ' H' => H' = H ∧ ∃ (z : Int) (v : Option V), σ' = [some (.ref a), some (.int z), v] ∧ 0 ≤ z ∧ z < 2147483647) ?_ ?_ ?_ ?_
    · exact ⟨rfl, 1, none, rfl, by decide, by decide⟩
    · rintro i σ' H' _ ⟨rfl, _⟩
      exact hS
    · rintro i x σ' H' hx ⟨rfl, z, v, rfl, hz0, hz1⟩
      rw [List.getElem?_map] at hx
      obtain ⟨n, hn, rfl⟩ := Option.map_eq_some_iff.mp hx
      refine ⟨_, rfl, _, _, rfl, rfl, .inl ⟨by omega, by omega⟩, ?_⟩
      refine ⟨_, rfl, .inl ⟨_, rfl, _, _, rfl, rfl, (by show (0 : Int) < 2147483629; decide), ?_⟩⟩
      refine ⟨_, _, rfl, rfl, _, _, rfl, rfl, _, _, rfl, rfl, (by show (0 : Int) < 2147483647; decide), ?_⟩
      exact ⟨rfl, _, _, rfl, Int.emod_nonneg _ (by decide), Int.emod_lt_of_pos _ (by decide)⟩
    · rintro σ' H' ⟨rfl, z, v, rfl, hz0, hz1⟩
      refine ⟨_, rfl, a, _, rfl, .inl hS, fun b hb => ?_⟩
      refine ⟨_, rfl, (by show 4 ≤ sizeLine; decide), fun d hd => ?_⟩
      have nbd : b ≠ d := ne_of_none upd_same hd
      have hd0 : H' d = none := by rw [upd_ne nbd.symm] at hd; exact hd
      refine k d b _ hd0 hb (fun x o e => by rw [upd_ne (ne_of_none e hd0), upd_ne (ne_of_none e hb)]; exact e) ⟨⟨0, 0, z, upd_same, Nat.zero_le _, by decide, hz0, hz1⟩, by rw [upd_ne nbd, upd_same], hlen⟩
abbrev nK : List Str := ["d", "many", "small", "digit"]
theorem scK : FnScope nK ["d", "many"] (defScope sTake) := ⟨rfl, rfl, rfl, by decide +kernel, rfl, by decide +kernel, by decide +kernel⟩
theorem ok_take {f : Addr} {fd : FuncData} (F : Fun K "_law_take" "_law_take" sTake f fd) (T : TxtL mg) : FnOk P w K mg base CX0 1 f fd ["d", "many"] spTake := by
  refine F.ok scK (fun vs H Q E h => ?_) (fun cdv A outer s H vs Q E hr h => ?_)
  · obtain ⟨a, b, ns, many, rfl, _⟩ := h
    rfl
  · obtain ⟨a, b, ns, many, rfl, R, hm0, hm1, k⟩ := h
    obtain ⟨tR, hR, fin⟩ : ∃ tR, PSs (cxOf CX0 P w K mg base nK "_law_take" (defScope sTake) f cdv A outer s H E).nox ((defBody sTake).drop 1) tR ∧
        ∀ v2 v3 H1, DrawAt H1 a b ns → But [a] H H1 → tR { nx := fun _ H' => Q .non H', rt := Q } [some (.ref a), some (.int many), v2, v3] H1 := by
      refine ⟨_, pss_cons (ps_if (pt_cmpR op_gt (pe_ix ix_list (pv 0) pe_int (fun _ _ => rfl)) pe_int (nomark _))
          (pss_cons (ps_set (i := 3) scK.nd rfl (Or.inl rfl) (pe_op op_mod (pe_callTy call_int1 (by rfl) T.int boot_int (pa_cons (pe_ix ix_list (pv 0) pe_int (fun _ _ => rfl)) pa_nil)) (pv 1)))
          (pss_cons (ps_asg (pe_op op_fdiv (pe_callTy call_int1 (by rfl) T.int boot_int (pa_cons (pe_ix ix_list (pv 0) pe_int (fun _ _ => rfl)) pa_nil)) (pv 1)) (pg_sub (pv 0) pe_int set_list))
          (pss_one (ps_ret (pv 3))))) pss_nil)
        (pss_cons (ps_asg (pe_op op_mod (pe_callTy call_int1 (by rfl) T.int boot_int (pa_cons (pe_op op_add (pe_op op_mul (pe_ix ix_list (pv 0) pe_int (fun _ _ => rfl)) pe_int) pe_int) pa_nil)) pe_int) (pg_sub (pv 0) pe_int set_list))
        (pss_one (ps_ret (pe_op op_mod (pe_callTy call_int1 (by rfl) T.int boot_int (pa_cons (pe_op op_fdiv (pe_ix ix_list (pv 0) pe_int (fun _ _ => rfl)) pe_int) pa_nil)) (pv 1))))), ?_⟩
      rintro v2 v3 H1 ⟨⟨j, rest, seed, h1, hj, hr0, hs0, hs1⟩, hb, hl⟩ b1
      have nba : b ≠ a := by
        rintro rfl
        rw [h1] at hb
        match ns, hb with
        | [], hb => cases hb
        | _ :: _, hb => cases hb
      refine ⟨_, rfl, a, _, _, _, rfl, rfl, SqL.of h1, atI_nat (j := 2) rfl, _, _, rfl, rfl, _, rfl, ?_⟩
      refine ite2 (fun hpos => ?_) (fun hneg => ?_)
      · refine ⟨_, rfl, a, _, _, _, rfl, rfl, SqL.of h1, atI_nat (j := 2) rfl, .inl ⟨_, rfl, _, rfl, _, _, rfl, rfl, hm0, ?_⟩⟩
        refine ⟨_, rfl, a, _, _, _, rfl, rfl, SqL.of h1, atI_nat (j := 2) rfl, .inl ⟨_, rfl, _, rfl, _, _, rfl, rfl, ⟨hm0, by omega⟩, ?_⟩⟩
        refine ⟨_, rfl, a, _, _, 2, rfl, rfl, h1, rfl, ?_⟩
        refine ⟨_, rfl, ?_⟩
        refine k _ _ (Int.emod_nonneg _ (by omega)) (Int.emod_lt_of_pos _ hm0) (fun x o e hx => by rw [upd_ne (fun z => hx (by simp [z]))]; exact b1 x o e hx) ⟨⟨j, rest / many, seed, upd_same, hj, Int.ediv_nonneg hr0 (by omega), hs0, hs1⟩, by rw [upd_ne nba]; exact hb, hl⟩
      · refine ⟨_, rfl, a, _, _, _, rfl, rfl, SqL.of h1, atI_nat (j := 3) rfl, _, _, rfl, rfl, .inl ⟨by omega, by omega⟩, _, _, rfl, rfl, .inl ⟨_, rfl, _, _, rfl, rfl, (by show (0 : Int) < 2147483647; decide), ?_⟩⟩
        refine ⟨_, rfl, a, _, _, 3, rfl, rfl, h1, rfl, ?_⟩
        refine ⟨_, rfl, a, _, _, _, rfl, rfl, SqL.of upd_same, atI_nat (j := 3) rfl, _, _, rfl, rfl, ⟨by decide, by decide⟩, .inl ⟨_, rfl, _, rfl, _, _, rfl, rfl, hm0, ?_⟩⟩
        refine k _ _ (Int.emod_nonneg _ (by omega)) (Int.emod_lt_of_pos _ hm0) (fun x o e hx => by rw [upd_ne (fun z => hx (by simp [z]))]; exact b1 x o e hx) ⟨⟨j, rest, _, upd_same, hj, hr0, Int.emod_nonneg _ (by decide), Int.emod_lt_of_pos _ (by decide)⟩, by rw [upd_ne nba]; exact hb, hl⟩
    obtain ⟨⟨j, rest, seed, h1, hj, hr0, hs0, hs1⟩, hb, hl⟩ := id R
    have nba : b ≠ a := by
      rintro rfl
      rw [h1] at hb
      match ns, hb with
      | [], hb => cases hb
      | _ :: _, hb => cases hb
    refine ⟨_, pss_cons (ps_if (PW.pt (pw_and (pt_cmpR op_eq (pe_ix ix_list (pv 0) pe_int (fun _ _ => rfl)) pe_int (nomark _)) (pw_and1 (pt_cmpR op_lt (pe_ix ix_list (pv 0) pe_int (fun _ _ => rfl)) (pe_callB call_len_seq (by rfl) T.len PySem.boot_len (pa_cons (pe_ix ix_list (pv 0) pe_int (fun _ _ => rfl)) pa_nil)) (nomark _)))))
        (pss_cons (ps_asg (pe_callB call_abs (by rfl) T.abs (by decide +kernel) (pa_cons (pe_callTy call_int1 (by rfl) T.int boot_int (pa_cons (pe_ix ix_list (pe_ix ix_list (pv 0) pe_int (fun _ _ => rfl)) (pe_ix ix_list (pv 0) pe_int (fun _ _ => rfl)) (fun _ _ => rfl)) pa_nil)) pa_nil)) (pg_sub (pv 0) pe_int set_list))
        (pss_cons (ps_asg (pe_op op_add (pe_ix ix_list (pv 0) pe_int (fun _ _ => rfl)) pe_int) (pg_sub (pv 0) pe_int set_list))
        (pss_one (ps_if (pt_chain op_lt op_lt pe_int (pe_ix ix_list (pv 0) pe_int (fun _ _ => rfl)) (pv 1))
          (pss_cons (ps_set (i := 2) scK.nd rfl (Or.inl rfl) (pe_ix ix_list (pv 0) pe_int (fun _ _ => rfl)))
          (pss_cons (ps_asg pe_int (pg_sub (pv 0) pe_int set_list))
          (pss_one (ps_ret (pv 2))))) pss_nil)))) pss_nil) hR, ?_⟩
    refine ⟨_, rfl, a, _, _, _, rfl, rfl, SqL.of h1, atI_nat (j := 2) rfl, rfl, _, rfl, ?_⟩
    refine ite2 (fun h20 => ?_) (fun _ => ?_)
    · refine ⟨_, rfl, a, _, _, _, rfl, rfl, SqL.of h1, atI_nat (j := 1) rfl, _, rfl, a, _, _, _, rfl, rfl, SqL.of h1, atI_nat (j := 0) rfl, b, _, rfl, .inl (SqL.of hb), _, _, rfl, rfl, _, rfl, ?_⟩
      rw [List.length_map]
      refine ite2 (fun hlt => ?_) (fun _ => ?_)
      · have hjl : j < ns.length := by have := of_decide_eq_true hlt; omega
        obtain ⟨n, hn⟩ : ∃ n, ns[j]? = some n := ⟨ns[j], List.getElem?_eq_getElem hjl⟩
        refine ⟨_, rfl, a, _, _, _, rfl, rfl, SqL.of h1, atI_nat (j := 0) rfl, _, rfl, a, _, _, _, rfl, rfl, SqL.of h1, atI_nat (j := 1) rfl, b, _, _, _, rfl, rfl, SqL.of hb, atI_nat (j := j) (v := V.int n) (by rw [List.getElem?_map, hn]; rfl), .inl ⟨_, rfl, _, rfl, ?_⟩⟩
        refine ⟨_, rfl, a, _, _, 2, rfl, rfl, h1, rfl, ?_⟩
        refine ⟨_, rfl, a, _, _, _, rfl, rfl, SqL.of upd_same, atI_nat (j := 1) rfl, _, _, rfl, rfl, ?_⟩
        refine ⟨_, rfl, a, _, _, 1, rfl, rfl, upd_same, rfl, ?_⟩
        rw [upd_upd]
        have hab : (0 : Int) ≤ (if n < 0 then -n else n) := by split <;> omega
        generalize (if n < 0 then -n else n) = z at hab ⊢
        have e0 : (([V.ref b, V.int (j : Int), V.int rest, V.int seed] : List V).set 2 (V.int z)).set 1 ((fun i j : Int => V.int (i + j)) (j : Int) 1) = [V.ref b, V.int ((j + 1 : Nat) : Int), V.int z, V.int seed] := by
          have e1 : ((j + 1 : Nat) : Int) = (j : Int) + 1 := by omega
          rw [e1]
          rfl
        rw [e0]
        have hb2 : But [a] H (upd H a (.lst [V.ref b, V.int ((j + 1 : Nat) : Int), V.int z, V.int seed])) := fun x o e hx => by rw [upd_ne (fun z => hx (by simp [z]))]; exact e
        have hb3 : (upd H a (.lst [V.ref b, V.int ((j + 1 : Nat) : Int), V.int z, V.int seed])) b = some (.lst (ns.map V.int)) := by rw [upd_ne nba]; exact hb
        have h13 : (upd H a (.lst [V.ref b, V.int ((j + 1 : Nat) : Int), V.int z, V.int seed])) a = some (.lst [.ref b, .int ((j + 1 : Nat) : Int), .int z, .int seed]) := upd_same
        generalize upd H a (.lst [V.ref b, V.int ((j + 1 : Nat) : Int), V.int z, V.int seed]) = H3 at hb2 hb3 h13 ⊢
        have R3 : DrawAt H3 a b ns := ⟨⟨j + 1, z, seed, h13, hjl, hab, hs0, hs1⟩, hb3, hl⟩
        refine ⟨_, rfl, a, _, _, _, rfl, rfl, SqL.of h13, atI_nat (j := 2) rfl, _, _, rfl, rfl, _, rfl, ?_⟩
        by_cases c1 : (0 : Int) < z
        · rw [decide_eq_true c1]
          refine iteT ⟨_, rfl, _, _, rfl, rfl, _, rfl, ?_⟩
          refine ite2 (fun c2 => ?_) (fun _ => ?_)
          · have c3 := of_decide_eq_true c2
            refine ⟨_, rfl, a, _, _, _, rfl, rfl, SqL.of h13, atI_nat (j := 2) rfl, ?_⟩
            refine ⟨_, rfl, a, _, _, 2, rfl, rfl, h13, rfl, ?_⟩
            refine ⟨_, rfl, ?_⟩
            refine k z _ hab c3 (fun x o e hx => by rw [upd_ne (fun z => hx (by simp [z]))]; exact hb2 x o e hx) ⟨⟨j + 1, 0, seed, upd_same, hjl, by decide, hs0, hs1⟩, by rw [upd_ne nba]; exact hb3, hl⟩
          · exact fin _ _ _ R3 hb2
        · rw [decide_eq_false c1]
          exact iteF ⟨_, rfl, iteF (fin _ _ _ R3 hb2)⟩
      · exact fin _ _ _ R (But.refl _ _)
    · exact iteF (fin _ _ _ R (But.refl _ _))
end
end T35
namespace T35
open PySem PySem.Spec PyProof.Rows L2 E8
def spPick (K : PySem.W.Frag) : Sp := fun vs H Q _ => ∃ (a b m : Addr) (ns : List Int) (xs : List V), vs = [.ref a, .ref m] ∧ DrawAt H a b ns ∧ m ≠ a ∧ (H m = some (.lst xs) ∨ H m = some (.tup xs)) ∧ 0 < xs.length ∧ xs.length < 1000 ∧
  ∀ (x : V) (H' : Hp), x ∈ xs → But [a] H H' → DrawAt H' a b ns → Q x H'
def spOctets : Sp := fun vs H Q _ => ∃ (a b : Addr) (ns : List Int) (most : Int), vs = [.ref a, .int most] ∧ DrawAt H a b ns ∧ 0 ≤ most ∧ most < 1000 ∧
  ∀ (t : Addr) (zs : List Int) (H' : Hp), H t = none → (zs.length : Int) ≤ most → H' t = some (.tup (zs.map V.int)) → But [a] H H' → DrawAt H' a b ns → Q (.ref t) H'
section
variable {P : Program} {w : World} {K : PySem.W.Frag} {mg : Str → Option Value} {base : Heap}
theorem scPk : FnScope ["d", "menu"] ["d", "menu"] (defScope sPick) := ⟨rfl, rfl, rfl, by decide +kernel, rfl, by decide +kernel, by decide +kernel⟩
theorem ok_pick {f fT : Addr} {fd fdT : FuncData} (F : Fun K "_law_pick" "_law_pick" sPick f fd) (T : TxtL mg) (FT : Fun K "_law_take" "_law_take" sTake fT fdT) (bT : Binds K fdT ["d", "many"] []) (gT : mg "_law_take" = some (.ref fT)) : FnOk P w K mg base CX0 2 f fd ["d", "menu"] (spPick K) := by
  have GT : FnOk P w K mg base CX0 1 fT fdT ["d", "many"] spTake := ok_take FT T
  refine F.ok scPk (fun vs H Q E h => ?_) (fun cdv A outer s H vs Q E hr h => ?_)
  · obtain ⟨a, b, m, ns, xs, rfl, _⟩ := h
    rfl
  · obtain ⟨a, b, m, ns, xs, rfl, R, nma, hm, hl0, hl1, k⟩ := h
    refine ⟨_, pss_one (ps_ret (pe_ix ix_seq (pv 1) (pe_call GT hr rfl gT FT.kp bT .nil pass0 (pa_cons (pv 0) (pa_cons (pe_callB call_len_seq (by rfl) T.len PySem.boot_len (pa_cons (pv 1) pa_nil)) pa_nil))) (fun _ _ => rfl))), ?_⟩
    refine ⟨_, rfl, _, rfl, _, rfl, m, xs, rfl, ?_, ?_⟩
    · rcases hm with hm | hm
      · exact .inl (SqL.of hm)
      · exact .inr (SqT.of hm)
    · refine ⟨a, b, ns, _, rfl, R, by omega, by omega, fun r H' h0 h1 hb R' => ?_⟩
      obtain ⟨j, rfl⟩ : ∃ j : Nat, r = (j : Int) := ⟨r.toNat, by omega⟩
      have hj : j < xs.length := by omega
      have hx : xs[j]? = some xs[j] := List.getElem?_eq_getElem hj
      have q := k xs[j] H' (List.getElem_mem hj) hb R'
      rcases hm with hm | hm
      · exact .inl ⟨m, xs, _, _, rfl, rfl, SqL.of (hb m _ hm (by simp [nma])), atI_nat hx, q⟩
      · exact .inr (.inl ⟨m, xs, _, _, rfl, rfl, SqT.of (hb m _ hm (by simp [nma])), atI_nat hx, q⟩)
theorem scOc : FnScope ["d", "most", "k"] ["d", "most"] (defScope sOctets) := ⟨rfl, rfl, rfl, by decide +kernel, rfl, by decide +kernel, by decide +kernel⟩
theorem ok_octets {f fT fP : Addr} {fd fdT fdP : FuncData} (F : Fun K "_law_octets" "_law_octets" sOctets f fd) (T : TxtL mg) (FT : Fun K "_law_take" "_law_take" sTake fT fdT) (bT : Binds K fdT ["d", "many"] []) (gT : mg "_law_take" = some (.ref fT))
    (FP : Fun K "_law_pick" "_law_pick" sPick fP fdP) (bP : Binds K fdP ["d", "menu"] []) (gP : mg "_law_pick" = some (.ref fP)) : FnOk P w K mg base CX0 3 f fd ["d", "most"] spOctets := by
  have GT : FnOk P w K mg base CX0 1 fT fdT ["d", "many"] spTake := ok_take FT T
  have GP : FnOk P w K mg base CX0 2 fP fdP ["d", "menu"] (spPick K) := ok_pick FP T FT bT gT
  refine F.ok scOc (fun vs H Q E h => ?_) (fun cdv A outer s H vs Q E hr h => ?_)
  · obtain ⟨a, b, ns, most, rfl, _⟩ := h
    rfl
  · obtain ⟨a, b, ns, most, rfl, R, hm0, hm1, k⟩ := h
    have hr1 : Room 1 _ := hr.mono (by decide)
    refine ⟨_, pss_one (ps_ret (pe_callTy call_tuple_of (by rfl) T.tuple (by decide +kernel) (pa_cons (pe_lc rfl scOc.nd (pi_range1 rfl T.range (pa_cons (pe_call GT hr1 rfl gT FT.kp bT .nil pass0 (pa_cons (pv 0) (pa_cons (pe_op op_add (pv 1) pe_int) pa_nil))) pa_nil))
      (blkOk_by (own := [("k", 2)]) (N := ["d", "most", "k"]) (sc := defScope sOctets) (by decide +kernel)) (fun _ _ _ _ _ => pg_name (i := 2) scOc.nd rfl (Or.inl rfl)) (fun _ _ _ _ _ => pts_nil)
      (fun _ _ _ _ _ => pe_call GP hr rfl gP FP.kp bP .nil pass0 (pa_cons (pv 0) (pa_cons (pe_lst (pa_cons (pe_call GT hr1 rfl gT FT.kp bT .nil pass0 (pa_cons (pv 0) (pa_cons pe_int pa_nil))) (pa_cons pe_int (pa_cons pe_int (pa_cons pe_int pa_nil))))) pa_nil)))) pa_nil))), ?_⟩
    refine ⟨_, rfl, _, rfl, _, _, rfl, rfl, a, b, ns, _, rfl, R, by omega, by omega, fun r H1 hr0 hr1' hb1 R1 => ?_⟩
    refine ⟨r, rfl, by omega, by omega, fun D hD => ?_⟩
    have nDa : ∀ {H : Hp}, DrawAt H a b ns → H D = none → D ≠ a ∧ D ≠ b := fun R z => by
      obtain ⟨⟨j, rest, seed, h1, _⟩, hb, _⟩ := R
      exact ⟨(fun y => by rw [y, h1] at z; cases z), (fun y => by rw [y, hb] at z; cases z)⟩
    obtain ⟨nDa1, nDb1⟩ := nDa R1 hD
    have putD : ∀ {H : Hp} {o : HO}, DrawAt H a b ns → DrawAt (upd H D o) a b ns := fun R => by
      obtain ⟨⟨j, rest, seed, h1, hh⟩, hb, hl⟩ := R
      exact ⟨⟨j, rest, seed, by rw [upd_ne nDa1.symm]; exact h1, hh⟩, by rw [upd_ne nDb1.symm]; exact hb, hl⟩
    refine lc_it walk_range (fun i H' => But [a] H1 H' ∧ DrawAt H' a b ns ∧ ∃ zs : List Int, H' D = some (.lst (zs.map V.int)) ∧ zs.length = i) ?_ (fun _ _ _ _ => trivial) ?_ ?_
    · exact ⟨But.of_same (same_new hD), putD R1, [], upd_same, rfl⟩
    · rintro i x H0 H' hi ⟨hb, R0, zs, hz, hzl⟩ ⟨rfl, rfl⟩
      refine ⟨rfl, ?_⟩
      unfold tYes
      refine iteT ?_
      refine ⟨_, rfl, _, rfl, a, b, ns, 256, rfl, R0, by decide, by decide, fun r2 H2 h0 h1 hb2 R2 => ?_⟩
      refine ⟨(by show 4 ≤ sizeLine; decide), fun m hm => ?_⟩
      have u : Same H2 (upd H2 m (.lst [.int r2, .int 255, .int 0, .int 126])) := same_new hm
      obtain ⟨⟨j, rest, seed, g1, gg⟩, g2, g3⟩ := id R2
      have nma : m ≠ a := fun z => by rw [z, g1] at hm; cases hm
      refine ⟨a, b, m, ns, [.int r2, .int 255, .int 0, .int 126], rfl, ⟨⟨j, rest, seed, u _ _ g1, gg⟩, u _ _ g2, g3⟩, nma, .inl upd_same, (by show 0 < 4; decide), (by show 4 < 1000; decide), fun x H3 hx hb3 R3 => ?_⟩
      obtain ⟨z, rfl⟩ : ∃ z, x = V.int z := by
        simp only [List.mem_cons, List.not_mem_nil, or_false] at hx
        rcases hx with h | h | h | h <;> exact ⟨_, h⟩
      have hD3 : H3 D = some (.lst (zs.map V.int)) := hb3 D _ (u D _ (hb2 D _ hz (by simp [nDa1]))) (by simp [nDa1])
      refine ⟨_, hD3, by rw [List.length_map]; exact small1000 (by omega), ?_⟩
      refine ⟨fun x o e hx => ?_, putD R3, zs ++ [z], by rw [upd_same, List.map_append]; rfl, by rw [List.length_append, hzl]; rfl⟩
      rw [upd_ne (fun y => by rw [y, hD] at e; cases e)]
      exact hb3 x o (u x o (hb2 x o (hb x o e hx) hx)) hx
    · rintro H2 ⟨hb2, R2, zs, hz, hzl⟩
      refine ⟨D, _, rfl, .inl ⟨SqL.of hz, fun t ht => ?_⟩⟩
      have u := same_new (o := .tup (zs.map V.int)) ht
      have t0 : H t = none := by
        cases e : H t with
        | none => rfl
        | some o =>
          by_cases z : t = a
          · obtain ⟨⟨j, rest, seed, g1, gg⟩, g2, g3⟩ := R2
            rw [z, g1] at ht; cases ht
          · rw [hb2 t o (hb1 t o e (by simp [z])) (by simp [z])] at ht; cases ht
      obtain ⟨⟨j, rest, seed, g1, gg⟩, g2, g3⟩ := R2
      refine k t zs _ t0 (by omega) upd_same (fun x o e hx => u x o (hb2 x o (hb1 x o e hx) hx)) ⟨⟨j, rest, seed, u _ _ g1, gg⟩, u _ _ g2, g3⟩
end
end T35
namespace T35
open PySem PySem.Spec PyProof.Rows L2 E8
/-! ### defs by their promises -/
structure FN (P : Program) (w : World) (K : PySem.W.Frag) (mg : Str → Option Value) (base : Heap) (k : Nat) (x : Str) (ps : List Str) (sp : Sp) : Prop where
  ex : ∃ (f : Addr) (fd : FuncData), FnOk P w K mg base CX0 k f fd ps sp ∧ mg x = some (.ref f) ∧ PySem.W.keepIn K (.ref f) = true ∧ Binds K fd ps []
structure MT (P : Program) (w : World) (K : PySem.W.Frag) (mg : Str → Option Value) (base : Heap) (C : Addr) (k : Nat) (m : Str) (ps : List Str) (sp : Sp) : Prop where
  ex : ∃ (f : Addr) (fd : FuncData), FnOk P w K mg base CX0 k f fd ps sp ∧ Cls K C ∧ Meth K C m f ∧ Binds K fd ps []
structure MK (P : Program) (w : World) (K : PySem.W.Frag) (mg : Str → Option Value) (base : Heap) (C : Addr) (k : Nat) (x : Str) (ps : List Str) (sp : Sp) : Prop where
  ex : ∃ (f : Addr) (fd : FuncData), FnOk P w K mg base CX0 k f fd ps sp ∧ Mk K C f ∧ mg x = some (.ref C) ∧ Binds K fd ps []
section
variable {X : Cx} {k : Nat} {x m : Str} {ps : List Str} {sp : Sp} {C : Addr} {p pos apos : Pos} {e o : Expr} {es : List Expr} {ta : TE} {t : TA}
theorem pe_fn (F : FN X.prog X.w X.K X.mg X.base k x ps sp) (hr : Room k X.A) (hg : Gl X x) (ha : PA X (e :: es) t) (hdb : (x == ("__debug__" : Str)) = false := by decide)
    (he : starEach (e :: es) X.env = (false, eval e X.env) :: starEach es X.env := by rfl) (hpl : (backTo pos (starEach es X.env)).any (·.1) = false := by rfl) :
    PE X (.Call (.Name x p) (e :: es) [] pos) (tCall sp [] E0 t) := by
  obtain ⟨f, fd, G, hm, hk, hb⟩ := F.ex
  exact pe_call G hr hg hm hk hb .nil pass0 ha hdb he hpl
theorem pe_mt {pl : Sem Bool} (F : MT X.prog X.w X.K X.mg X.base C k m ps sp) (hr : Room k X.A) (he : PE X o ta) (ha : PA X (e :: es) t)
    (hst : starEach (e :: es) X.env = (false, eval e X.env) :: starEach es X.env := by rfl) (hpl : (backTo pos (starEach es X.env)).any (·.1) = false := by rfl)
    (ht : eval (.Call (.Attribute o m apos) (e :: es) [] pos) X.env = (do
      let ov ← eval o X.env
      standAt apos.atName
      let (f, first) ← holding [ov] (getMethod ov m pl)
      callWith pos f first (backTo pos (starEach (e :: es) X.env)) (backToKw pos (keywordEach [] X.env))) := by rfl) :
    PE X (.Call (.Attribute o m apos) (e :: es) [] pos) (tMeth C m sp [] E0 ta t) := by
  obtain ⟨f, fd, G, hc, hm, hb⟩ := F.ex
  exact pe_meth he hc hm G hr hb .nil pass0 ha hst hpl ht
theorem pe_mt0 {pl : Sem Bool} (F : MT X.prog X.w X.K X.mg X.base C k m ps sp) (hr : Room k X.A) (he : PE X o ta)
    (ht : eval (.Call (.Attribute o m apos) [] [] pos) X.env = (do
      let ov ← eval o X.env
      standAt apos.atName
      let (f, first) ← holding [ov] (getMethod ov m pl)
      callWith pos f first (backTo pos (starEach [] X.env)) (backToKw pos (keywordEach [] X.env))) := by rfl) :
    PE X (.Call (.Attribute o m apos) [] [] pos) (tMeth C m sp [] E0 ta tNil) := by
  obtain ⟨f, fd, G, hc, hm, hb⟩ := F.ex
  exact pe_meth0 he hc hm G hr hb .nil pass0 ht
theorem pe_new (F : MK X.prog X.w X.K X.mg X.base C k x ps sp) (hr : Room (k + 1) X.A) (hg : Gl X x) (ha : PA X (e :: es) t) (hdb : (x == ("__debug__" : Str)) = false := by decide)
    (he : starEach (e :: es) X.env = (false, eval e X.env) :: starEach es X.env := by rfl) (hpl : (backTo pos (starEach es X.env)).any (·.1) = false := by rfl) :
    PE X (.Call (.Name x p) (e :: es) [] pos) (tMake C sp [] E0 t) := by
  obtain ⟨f, fd, G, M, hm, hb⟩ := F.ex
  exact pe_make M G hr hg hm hb .nil pass0 ha hdb he hpl
end

/-! ### the mathematics of the law -/
def ports3 : List Int := [128, 129, 130]
def allKeys : List (List Int) := [1, 3].flatMap fun s => [128, 129, 130].flatMap fun p => [4, 5].flatMap fun g => [7, 8].map fun o => [s, p, g, o]
structure Good (es : List Row) : Prop where
  keys : ∀ e ∈ es, e.1 ∈ allKeys
  nd : (es.map (·.1)).Nodup
  apart : ∀ e ∈ es, ∀ e' ∈ es, e.1.drop 2 = e'.1.drop 2 → e.2.1 = e'.2.1 → e.1 = e'.1
theorem mem_allKeys {s p g o : Int} (hs : s = 1 ∨ s = 3) (hp : p = 128 ∨ p = 129 ∨ p = 130) (hg : g = 4 ∨ g = 5) (ho : o = 7 ∨ o = 8) : [s, p, g, o] ∈ allKeys := by
  rcases hs with rfl | rfl <;> rcases hp with rfl | rfl | rfl <;> rcases hg with rfl | rfl <;> rcases ho with rfl | rfl <;> decide
theorem allKeys_4 : ∀ k ∈ allKeys, k.length = 4 := by decide
theorem nodup_le {α : Type} [DecidableEq α] : ∀ {xs ys : List α}, xs.Nodup → (∀ x ∈ xs, x ∈ ys) → xs.length ≤ ys.length
  | [], _, _, _ => Nat.zero_le _
  | x :: xs, ys, hn, h => by
    have hx := h x List.mem_cons_self
    have hn' := List.nodup_cons.mp hn
    have ih := nodup_le (xs := xs) (ys := ys.erase x) hn'.2 fun y hy => (List.mem_erase_of_ne (fun z : y = x => hn'.1 (by rw [← z]; exact hy))).mpr (h y (List.mem_cons_of_mem _ hy))
    rw [List.length_erase_of_mem hx] at ih
    have : 0 < ys.length := List.length_pos_of_mem hx
    rw [List.length_cons]
    omega
theorem Good.len {es : List Row} (g : Good es) : es.length ≤ 24 := by
  have h := nodup_le g.nd (ys := allKeys) fun x hx => by
    obtain ⟨e, he, rfl⟩ := List.mem_map.mp hx
    exact g.keys e he
  rw [List.length_map] at h
  exact h
theorem Good.four {es : List Row} (g : Good es) : ∀ e ∈ es, e.1.length = 4 := fun e he => allKeys_4 _ (g.keys e he)
theorem Good.fresh {es : List Row} (g : Good es) (now : Int) : Good (fresh es now) where
  keys := fun e he => g.keys e (List.mem_filter.mp he).1
  nd := List.Nodup.sublist (List.Sublist.map _ List.filter_sublist) g.nd
  apart := fun e he e' he' => g.apart e (List.mem_filter.mp he).1 e' (List.mem_filter.mp he').1
theorem mem_put {es : List Row} {k : List Int} {r : Int × Int} {e : Row} (h : e ∈ put es k r) : e = (k, r) ∨ (e ∈ es ∧ e.1 ≠ k) := by
  unfold put at h
  split at h
  · obtain ⟨x, hx, rfl⟩ := List.mem_map.mp h
    by_cases z : x.1 = k
    · rw [if_pos z, z]; exact .inl rfl
    · rw [if_neg z]; exact .inr ⟨hx, z⟩
  · rename_i hn
    rw [any_look] at hn
    have hn' : look es k = none := by simpa using hn
    rcases List.mem_append.mp h with h | h
    · exact .inr ⟨h, look_none.mp hn' e h⟩
    · exact .inl (by simpa using h)
/-- a row that stands is put again at another time -/
theorem Good.again {es : List Row} (g : Good es) {k : List Int} {q : Int × Int} (h : look es k = some q) (t : Int) : Good (put es k (q.1, t)) where
  keys := fun e he => by
    rcases mem_put he with rfl | ⟨h1, _⟩
    · exact g.keys (k, q) (look_some h)
    · exact g.keys e h1
  nd := put_nd g.nd _ _
  apart := fun e he e' he' h1 h2 => by
    rcases mem_put he with rfl | ⟨a, b⟩ <;> rcases mem_put he' with rfl | ⟨a', b'⟩
    · rfl
    · exact g.apart (k, q) (look_some h) e' a' h1 h2
    · exact g.apart e a (k, q) (look_some h) h1 h2
    · exact g.apart e a e' a' h1 h2
/-- a new row, with a port that no other one of its goal has -/
theorem Good.new {es : List Row} (g : Good es) {k : List Int} (hk : k ∈ allKeys) {f t : Int} (hf : f ∉ takenOf es (k.drop 2)) : Good (put es k (f, t)) where
  keys := fun e he => by
    rcases mem_put he with rfl | ⟨h1, _⟩
    · exact hk
    · exact g.keys e h1
  nd := put_nd g.nd _ _
  apart := fun e he e' he' h1 h2 => by
    have no : ∀ x ∈ es, x.1.drop 2 = k.drop 2 → x.2.1 ≠ f := fun x hx h3 h4 => hf (by
      unfold takenOf
      exact List.mem_map.mpr ⟨x, List.mem_filter.mpr ⟨hx, decide_eq_true h3⟩, h4⟩)
    rcases mem_put he with rfl | ⟨a, b⟩ <;> rcases mem_put he' with rfl | ⟨a', b'⟩
    · rfl
    · exact absurd h2.symm (no e' a' h1.symm)
    · exact absurd h2 (no e a h1)
    · exact g.apart e a e' a' h1 h2
theorem put_put (es : List Row) (k : List Int) (r r' : Int × Int) : put (put es k r) k r' = put es k r' := by
  by_cases h : (look es k).isSome = true
  · obtain ⟨q, hq⟩ := Option.isSome_iff_exists.mp h
    have h2 : (look (put es k r) k).isSome = true := by
      cases z : look (put es k r) k with
      | some _ => rfl
      | none =>
        have := look_none.mp z
        obtain ⟨e, he, ek⟩ : ∃ e ∈ put es k r, e.1 = k := by
          rw [put_old r hq]
          exact ⟨(k, r), List.mem_map.mpr ⟨(k, q), look_some hq, by simp⟩, rfl⟩
        exact absurd ek (this e he)
    obtain ⟨q2, hq2⟩ := Option.isSome_iff_exists.mp h2
    rw [put_old r' hq2, put_old r hq, put_old r' hq, List.map_map]
    refine List.map_congr_left fun e _ => ?_
    show (if (if e.1 = k then (e.1, r) else e).1 = k then _ else _) = _
    by_cases z : e.1 = k
    · simp [z]
    · simp [z]
  · have hn : look es k = none := by simpa using h
    have h2 : look (es ++ [(k, r)]) k = some r ∨ ∃ q, look (es ++ [(k, r)]) k = some q := by
      right
      cases z : look (es ++ [(k, r)]) k with
      | some q => exact ⟨q, rfl⟩
      | none => exact absurd rfl (look_none.mp z (k, r) (by simp))
    obtain ⟨q, hq⟩ : ∃ q, look (es ++ [(k, r)]) k = some q := by
      rcases h2 with h2 | h2
      · exact ⟨_, h2⟩
      · exact h2
    rw [put_new r hn, put_new r' hn, put_old r' hq, List.map_append]
    congr 1
    · refine (List.map_congr_left fun e he => ?_).trans (List.map_id es)
      show (if e.1 = k then _ else _) = e
      rw [if_neg (look_none.mp hn e he)]
    · simp
theorem fresh_idem (es : List Row) (now : Int) : fresh (fresh es now) now = fresh es now := by
  unfold fresh
  rw [List.filter_filter]
  congr 1
  funext e
  rw [Bool.and_self]
/-- the law's list of free ports, from 64 to 79 -/
def free16 (es : List Row) (tl : List Int) : List Int := ((List.range 16).map fun i => (64 : Int) + (i : Nat)).filter fun z => decide (z ∉ takenOf es tl)
theorem freeOf_split (es : List Row) (tl : List Int) : ∃ r, freeOf es tl = free16 es tl ++ r := by
  unfold freeOf free16
  refine ⟨((List.range' 16 48).map fun i => (64 : Int) + (i : Nat)).filter fun z => decide (z ∉ takenOf es tl), ?_⟩
  have e : List.range 64 = List.range 16 ++ List.range' 16 48 := by decide
  rw [e, List.map_append, List.filter_append]
theorem taken_small {es : List Row} (g : Good es) (tl : List Int) : (takenOf es tl).length ≤ 6 := by
  unfold takenOf
  rw [List.length_map]
  have nd : ((es.filter fun e => decide (e.1.drop 2 = tl)).map fun e => e.1).Nodup := List.Nodup.sublist (List.Sublist.map _ List.filter_sublist) g.nd
  have h := nodup_le nd (ys := allKeys.filter fun k => decide (k.drop 2 = tl)) fun x hx => by
    obtain ⟨e, he, rfl⟩ := List.mem_map.mp hx
    obtain ⟨h1, h2⟩ := List.mem_filter.mp he
    exact List.mem_filter.mpr ⟨g.keys e h1, h2⟩
  rw [List.length_map] at h
  refine Nat.le_trans h ?_
  have cnt : ∀ tl : List Int, (allKeys.filter fun k => decide (k.drop 2 = tl)).length ≤ 6 := by
    intro tl
    by_cases h1 : tl = [4, 7]
    · subst h1; decide
    by_cases h2 : tl = [4, 8]
    · subst h2; decide
    by_cases h3 : tl = [5, 7]
    · subst h3; decide
    by_cases h4 : tl = [5, 8]
    · subst h4; decide
    have none : (allKeys.filter fun k => decide (k.drop 2 = tl)) = [] := by
      rw [List.filter_eq_nil_iff]
      intro k hk z
      have z' : k.drop 2 = tl := of_decide_eq_true z
      have all : ∀ k ∈ allKeys, k.drop 2 = [4, 7] ∨ k.drop 2 = [4, 8] ∨ k.drop 2 = [5, 7] ∨ k.drop 2 = [5, 8] := by decide
      rcases all k hk with a | a | a | a
      · exact h1 (z'.symm.trans a)
      · exact h2 (z'.symm.trans a)
      · exact h3 (z'.symm.trans a)
      · exact h4 (z'.symm.trans a)
    rw [none]
    exact Nat.zero_le _
  exact cnt tl
theorem range16_nd : ((List.range 16).map fun i => (64 : Int) + (i : Nat)).Nodup := by decide
theorem range16_pw : ((List.range 16).map fun i => (64 : Int) + (i : Nat)).Pairwise (· < ·) := by decide
theorem free16_pos {es : List Row} (g : Good es) (tl : List Int) : 0 < (free16 es tl).length := by
  rcases Nat.eq_zero_or_pos (free16 es tl).length with z | z
  · exfalso
    have z' := List.length_eq_zero_iff.mp z
    unfold free16 at z'
    rw [List.filter_eq_nil_iff] at z'
    have h := nodup_le range16_nd (ys := takenOf es tl) fun x hx => by
      have := z' x hx
      simpa using this
    have h2 := taken_small g tl
    rw [List.length_map, List.length_range] at h
    omega
  · exact z
/-- the least one is the first one -/
theorem free_least {es : List Row} (g : Good es) {tl : List Int} {m : Int} (h1 : m ∈ free16 es tl) (h2 : ∀ y, y ∈ free16 es tl → m ≤ y) : ∃ r, freeOf es tl = m :: r := by
  obtain ⟨r, hr⟩ := freeOf_split es tl
  have pw : (free16 es tl).Pairwise (· < ·) := List.Pairwise.sublist List.filter_sublist range16_pw
  cases hf : free16 es tl with
  | nil => rw [hf] at h1; cases h1
  | cons x xs =>
    rw [hf] at h1 h2 pw hr
    have hx : m = x := by
      have a := h2 x List.mem_cons_self
      rcases List.mem_cons.mp h1 with h | h
      · exact h
      · have := (List.pairwise_cons.mp pw).1 m h
        omega
    subst hx
    exact ⟨xs ++ r, hr⟩
theorem not_taken {es : List Row} {tl : List Int} {m : Int} (h : m ∈ free16 es tl) : m ∉ takenOf es tl := by
  have := (List.mem_filter.mp h).2
  simpa using this
end T35
namespace T35
open PySem PySem.Spec PyProof.Rows L2 E8
abbrev nL : List Str := ["script", "d", "inside", "own", "table", "now", "k", "key", "port", "goal", "other", "source", "rest", "taken", "at", "due", "told", "full", "one"]
theorem scL : FnScope nL ["script"] (defScope sLaw) := ⟨rfl, rfl, rfl, by decide +kernel, rfl, by decide +kernel, by decide +kernel⟩
def forOf : Stmt → List Stmt
  | Stmt.For _ _ b _ _ => b
  | _ => []
def loopBody : List Stmt := forOf ((defBody sLaw).getD 5 (.Pass ⟨0, 0, 0, 0⟩))
def stAt (l : List Stmt) (i : Nat) : Stmt := l.getD i (.Pass ⟨0, 0, 0, 0⟩)
def thenOf : Stmt → List Stmt
  | Stmt.If _ b _ _ => b
  | _ => []
def elseOf : Stmt → List Stmt
  | Stmt.If _ _ b _ => b
  | _ => []
/-- what the law takes from the module -/
structure TxtW (mg : Str → Option Value) : Prop where
  dict : mg "dict" = none
  min : mg "min" = none
  range : mg "range" = none
section
variable {P : Program} {w : World} {K : PySem.W.Frag} {mg : Str → Option Value} {base : Heap} {f : Addr} {cdv : Value} {A : Around} {outer : List Env} {s : Shared} {H0 : Hp} {E : XK}
abbrev XL (P : Program) (w : World) (K : PySem.W.Frag) (mg : Str → Option Value) (base : Heap) (f : Addr) (cdv : Value) (A : Around) (outer : List Env) (s : Shared) (H0 : Hp) (E : XK) : Cx := (cxOf CX0 P w K mg base nL "law" (defScope sLaw) f cdv A outer s H0 E).nox
/-- the deeper place of the law's body -/
abbrev AL (A : Around) (s : Shared) (f : Addr) (cdv : Value) : Around := A.deeper (envOfC "law" (defScope sLaw) s.heap.objs.size f cdv)
/-- the pairs that are handed to dict(..) -/
def PairsAt (H : Hp) (ps : List Addr) (kv : List (List L2.Key × V)) : Prop := Paired (fun (p : Addr) (q : List L2.Key × V) => ∃ b, H p = some (.tup [.ref b, q.2]) ∧ H b = some (.tup (q.1.map kV))) ps kv
theorem PairsAt.keep {H H' : Hp} {ps : List Addr} {kv : List (List L2.Key × V)} (k : ∀ t xs, H t = some (.tup xs) → H' t = some (.tup xs)) (h : PairsAt H ps kv) : PairsAt H' ps kv :=
  Paired.mapP h fun p q z => by
    obtain ⟨b, h1, h2⟩ := z
    exact ⟨b, k _ _ h1, k _ _ h2⟩
theorem PairsAt.get {H : Hp} {ps : List Addr} {kv : List (List L2.Key × V)} (h : PairsAt H ps kv) : ∀ (i : Nat) (p : Addr) (k : List L2.Key) (v : V), ps[i]? = some p → kv[i]? = some (k, v) → ∃ q, H p = some (.tup [.ref q, v]) ∧ H q = some (.tup (k.map kV)) := by
  intro i p k v h1 h2
  obtain ⟨y, hy, b, h3, h4⟩ := L2.paired_get h h1
  rw [h2] at hy
  cases hy
  exact ⟨b, h3, h4⟩
theorem dget_lock {H : Hp} {d b : Addr} {od : Obj} {kvs : List (List L2.Key × V)} {k : List L2.Key} {v : V} (h : H d = some (.frz od (.dT kvs))) (hb : H b = some (.tup (k.map kV))) (hv : valV kvs k = some v) : DGet H d (.ref b) (some v) :=
  .inr ⟨kvs, k, b, .inr ⟨od, h⟩, rfl, hb, hv.symm⟩
theorem rows_keys {H : Hp} {kvs : List (List L2.Key × V)} {es : List Row} (r : Paired (RowRel H) kvs es) : kvs.map (·.1) = es.map fun e => keyOf e.1 := by
  induction r with
  | nil => rfl
  | cons h t ih => rw [List.map_cons, List.map_cons, ih, h.1]
theorem keys_nd {es : List Row} (nd : (es.map (·.1)).Nodup) : (es.map fun e => keyOf e.1).Nodup := by
  have e : (es.map fun e => keyOf e.1) = (es.map (·.1)).map keyOf := by rw [List.map_map]; rfl
  rw [e]
  clear e
  revert nd
  generalize es.map (·.1) = l
  intro nd
  induction l with
  | nil => exact List.nodup_nil
  | cons x xs ih =>
    rw [List.nodup_cons] at nd
    rw [List.map_cons, List.nodup_cons]
    refine ⟨fun z => ?_, ih nd.2⟩
    obtain ⟨y, hy, ey⟩ := List.mem_map.mp z
    exact nd.1 (by rw [← keyOf_inj ey]; exact hy)
theorem val_row {H : Hp} {kvs : List (List L2.Key × V)} {es : List Row} (r : Paired (RowRel H) kvs es) (nd : (es.map (·.1)).Nodup) {e : Row} (he : e ∈ es) : ∃ t, valV kvs (keyOf e.1) = some (.ref t) ∧ H t = some (.tup [.int e.2.1, .int e.2.2]) := by
  have hl := look_of_mem nd (show (e.1, e.2) ∈ es from he)
  rcases rows_look r e.1 with ⟨h, _⟩ | ⟨q, t, h1, h2, h3⟩
  · rw [hl] at h; cases h
  · rw [hl] at h1
    cases h1
    exact ⟨t, h2, h3⟩
/-- table = dict([(key, table[key]) for key in table if now - table[key][1] < 1600]) -/
theorem blk_refresh (hr : Room 3 (AL A s f cdv)) (W : TxtW mg) : ∃ t, PS (XL P w K mg base f cdv A outer s H0 E) (stAt loopBody 1) t ∧
    ∀ (D : Ends) (v0 v1 v2 v3 v6 v7 v8 v9 v10 v11 v12 v13 v14 v15 v16 v17 v18 : Option V) (H : Hp) (dt : Addr) (now : Int) (es : List Row), TabAt H dt es → es.length ≤ 1000 →
      (∀ dt' H', H dt' = none → Same H H' → TabAt H' dt' (fresh es now) → D.nx [v0, v1, v2, v3, some (.ref dt'), some (.int now), v6, v7, v8, v9, v10, v11, v12, v13, v14, v15, v16, v17, v18] H') →
      t D [v0, v1, v2, v3, some (.ref dt), some (.int now), v6, v7, v8, v9, v10, v11, v12, v13, v14, v15, v16, v17, v18] H := by
  have hu := hu_of hr
  refine ⟨_, ps_set (i := 4) scL.nd rfl (Or.inr rfl) (pe_callTy (call_dictPT rfl hr.units) (by rfl) W.dict (by decide +kernel) (pa_cons (pe_lock (pe_lc rfl scL.nd (pi_keys (pv 4)) (blkOk_by (own := [("key", 7)]) (N := nL) (sc := defScope sLaw) (by decide +kernel))
    (fun _ _ _ _ _ => pg_name (i := 7) scL.nd rfl (Or.inl rfl))
    (fun _ _ _ _ _ => pts_one (pt_cmpR op_lt (pe_op op_sub (pv 5) (pe_ix (ix_tupK (K := K) rfl) (pe_dget hu (pv 4) (pv 7) (fun _ _ => rfl)) pe_int (fun _ _ => rfl))) pe_int (nomark _)))
    (fun _ _ _ _ _ => pe_tup (pa_cons (pv 7) (pa_cons (pe_dget hu (pv 4) (pv 7) (fun _ _ => rfl)) pa_nil))))) pa_nil)), ?_⟩
  intro D v0 v1 v2 v3 v6 v7 v8 v9 v10 v11 v12 v13 v14 v15 v16 v17 v18 H dt now es R hlen k
  obtain ⟨⟨kvs, hd, hrow⟩, nd⟩ := id R
  have hlk : kvs.length = es.length := Paired.length hrow
  refine ⟨dt, .dT kvs, hd, True.intro, fun od => ?_⟩
  refine ⟨_, rfl, dt, od, rfl, .inr ⟨kvs, upd_same, ?_⟩⟩
  intro D1 hD
  have nDd : D1 ≠ dt := fun z => by rw [z, upd_same] at hD; cases hD
  have hD0 : H D1 = none := by rw [upd_ne nDd] at hD; exact hD
  refine lc_it walk_keysT (fun i H' => H' dt = some (.frz od (.dT kvs)) ∧ But [dt] H H' ∧ ∃ ps kv, H' D1 = some (.lst (ps.map V.ref)) ∧ Paired (RowRel H') kv (fresh (es.take i) now) ∧ PairsAt H' ps kv) ?_ ?_ ?_ ?_
  · refine ⟨by rw [upd_ne nDd.symm]; exact upd_same, fun b o e hb => ?_, [], [], upd_same, .nil, .nil⟩
    have hbd : b ≠ dt := fun z => hb (by simp [z])
    rw [upd_ne (ne_of_none e hD0), upd_ne hbd]
    exact e
  · exact fun i H' _ h => h.1
  · rintro i x H1 H' hi ⟨hl, hb, ps, kv, ha, hr1, hr2⟩ ⟨rfl, kk, v, q, hkv, rfl, hq⟩
    obtain ⟨e, t, he, rfl, rfl, ht⟩ := rows_at hrow hkv
    obtain ⟨t', hv, ht2⟩ := val_row hrow nd (List.mem_of_getElem? he)
    have ntd : t' ≠ dt := ne_of ht2 hd fun z => nomatch z
    have ht' : H' t' = some (.tup [.int e.2.1, .int e.2.2]) := hb t' _ ht2 (by simp [ntd])
    have g := dget_lock hl hq hv
    refine ⟨rfl, ?_⟩
    refine ⟨_, rfl, _, rfl, _, rfl, dt, _, rfl, g, t', _, _, _, rfl, rfl, SqT.of ht', atI_nat (j := 1) rfl, _, _, rfl, rfl, _, _, rfl, rfl, _, rfl, ?_⟩
    have et := take_filter (p := fun e : Row => decide (now - e.2.2 < 1600)) he
    by_cases hlt : now - e.2.2 < 1600
    · rw [decide_eq_true hlt]
      refine iteT ?_
      refine ⟨_, rfl, _, rfl, _, rfl, dt, _, rfl, g, (by show 2 ≤ sizeLine; decide), fun p hp => ?_⟩
      have nDp : D1 ≠ p := ne_of_none ha hp
      have u : Same H' (upd H' p (.tup [.ref q, .ref t'])) := same_new hp
      have l1 : (fresh (es.take i) now).length ≤ es.length := Nat.le_trans (List.length_filter_le _ _) (by rw [List.length_take]; omega)
      have l2 : ps.length = kv.length := Paired.length hr2
      have l3 : kv.length = (fresh (es.take i) now).length := Paired.length hr1
      refine ⟨_, u _ _ ha, by rw [List.length_map]; exact small1000 (by omega), ?_⟩
      have keepT : ∀ t xs, H' t = some (.tup xs) → (upd (upd H' p (.tup [.ref q, .ref t'])) D1 (.lst (ps.map V.ref ++ [V.ref p]))) t = some (.tup xs) := fun t xs z => by
        rw [upd_ne (ne_of z ha fun y => nomatch y)]
        exact u _ _ z
      refine ⟨by rw [upd_ne nDd.symm]; exact u _ _ hl, fun b o z hbd => ?_, ps ++ [p], kv ++ [(keyOf e.1, V.ref t')], by rw [upd_same, List.map_append]; rfl, ?_, ?_⟩
      · rw [upd_ne (fun y => by rw [y, hD0] at z; cases z)]
        exact u _ _ (hb b o z hbd)
      · show Paired _ _ (fresh (es.take (i + 1)) now)
        unfold fresh
        rw [et]
        simp only [hlt, decide_true, if_true]
        exact paired_snoc (rows_keep keepT hr1) ⟨rfl, t', rfl, keepT _ _ ht'⟩
      · exact paired_snoc (hr2.keep keepT) ⟨q, by rw [upd_ne nDp.symm, upd_same], keepT _ _ hq⟩
    · rw [decide_eq_false hlt]
      refine iteF ⟨hl, hb, ps, kv, ha, ?_, hr2⟩
      show Paired _ _ (fresh (es.take (i + 1)) now)
      unfold fresh
      rw [et]
      simp only [hlt, decide_false, Bool.false_eq_true, if_false, List.append_nil]
      exact hr1
  · rintro H1 ⟨hl, hb, ps, kv, ha, hr1, hr2⟩
    refine ⟨hl, ?_⟩
    rw [hlk, List.take_length] at hr1
    have keepT : ∀ t xs, H1 t = some (.tup xs) → (upd H1 dt (.dT kvs)) t = some (.tup xs) := fun t xs z => by rw [upd_ne (fun y => by rw [y, hl] at z; cases z)]; exact z
    have sm : Same H (upd H1 dt (.dT kvs)) := fun b o e => by
      by_cases z : b = dt
      · rw [z, upd_same, ← hd, ← z]; exact e
      · rw [upd_ne z]; exact hb b o e (by simp [z])
    have nd2 : ((fresh es now).map (·.1)).Nodup := List.Nodup.sublist (List.Sublist.map _ List.filter_sublist) nd
    refine ⟨D1, ps, kv, rfl, SqL.of (by rw [upd_ne nDd]; exact ha), Paired.length hr2, by rw [rows_keys hr1]; exact keys_nd nd2, (hr2.keep keepT).get, fun p hp => ?_⟩
    have u : Same (upd H1 dt (.dT kvs)) (upd (upd H1 dt (.dT kvs)) p (.dT kv)) := same_new hp
    have hp0 : H p = none := (sm.free hp)
    exact k p _ hp0 (sm.trans u) ⟨⟨kv, upd_same, rows_keep (fun t xs z => u t _ (keepT t xs z)) hr1⟩, nd2⟩
end
end T35
namespace T35
open PySem PySem.Spec PyProof.Rows L2 E8
/-! ### what stands while the law walks -/
theorem DrawAt.ab {H : Hp} {a b : Addr} {ns : List Int} (R : DrawAt H a b ns) : b ≠ a := by
  obtain ⟨⟨j, rest, seed, h1, _⟩, hb, _⟩ := R
  rintro rfl
  rw [h1] at hb
  match ns, hb with
  | [], hb => cases hb
  | _ :: _, hb => cases hb
theorem DrawAt.keep {H H' : Hp} {a b : Addr} {ns : List Int} (h : ∀ x xs, H x = some (.lst xs) → H' x = some (.lst xs)) (R : DrawAt H a b ns) : DrawAt H' a b ns := by
  obtain ⟨⟨j, rest, seed, h1, g⟩, hb, hl⟩ := R
  exact ⟨⟨j, rest, seed, h _ _ h1, g⟩, h _ _ hb, hl⟩
structure Mid (C : Addr) (H : Hp) (a b p d dt ti : Addr) (ns : List Int) (es0 es : List Row) : Prop where
  dr : DrawAt H a b ns
  tr : TrAt C H p d [1, 3] es0
  tab : TabAt H dt es
  ins : H ti = some (.tup [.int 1, .int 3])
  ne : dt ≠ d
section
variable {C : Addr} {H H' : Hp} {a b p d dt ti : Addr} {ns : List Int} {es0 es : List Row}
theorem TabAt.keepB {S : List Addr} (k : But S H H') (hd : dt ∉ S) (ht : ∀ x ∈ S, ∀ xs, H x ≠ some (.tup xs)) (R : TabAt H dt es) : TabAt H' dt es := by
  obtain ⟨⟨kvs, g3, g4⟩, g5⟩ := R
  exact ⟨⟨kvs, k _ _ g3 hd, rows_keep (fun t xs z => k t _ z fun y => ht t y xs z) g4⟩, g5⟩
theorem TrAt.keepB {S : List Addr} {ins : List Int} (k : But S H H') (hp : p ∉ S) (hd : d ∉ S) (ht : ∀ x ∈ S, ∀ xs, H x ≠ some (.tup xs)) (R : TrAt C H p d ins es) : TrAt C H' p d ins es := by
  obtain ⟨⟨m1, dx1, ti1, g1, g2⟩, g⟩ := R
  exact ⟨⟨m1, dx1, ti1, k _ _ g1 hp, k _ _ g2 fun y => ht _ y _ g2⟩, g.keepB k hd ht⟩
theorem Mid.same (s : Same H H') (R : Mid C H a b p d dt ti ns es0 es) : Mid C H' a b p d dt ti ns es0 es :=
  ⟨R.dr.keep fun x _ e => s x _ e, R.tr.keep s, R.tab.keepB (But.of_same (S := []) s) (by simp) (by simp), s _ _ R.ins, R.ne⟩
theorem Mid.draw (k : But [a] H H') (dr : DrawAt H' a b ns) (R : Mid C H a b p d dt ti ns es0 es) : Mid C H' a b p d dt ti ns es0 es := by
  obtain ⟨⟨⟨j, rest, seed, h1, _⟩, _⟩, tr, tab, ins, ne⟩ := R
  have nt : ∀ x ∈ [a], ∀ xs, H x ≠ some (.tup xs) := fun x hx xs e => by
    obtain rfl : x = a := by simpa using hx
    rw [h1] at e; cases e
  obtain ⟨⟨m1, dx1, ti1, g1, g2⟩, ⟨kvs, g3, g4⟩, g5⟩ := id tr
  obtain ⟨⟨kvs', g3', g4'⟩, g5'⟩ := id tab
  have n1 : p ≠ a := ne_of g1 h1 fun z => nomatch z
  have n2 : d ≠ a := ne_of g3 h1 fun z => nomatch z
  have n3 : dt ≠ a := ne_of g3' h1 fun z => nomatch z
  have n4 : ti ≠ a := ne_of ins h1 fun z => nomatch z
  exact ⟨dr, tr.keepB k (by simp [n1]) (by simp [n2]) nt, tab.keepB k (by simp [n3]) nt, k _ _ ins (by simp [n4]), ne⟩
theorem Mid.tabNew {dt' : Addr} {es' : List Row} (s : Same H H') (h0 : H dt' = none) (t : TabAt H' dt' es') (R : Mid C H a b p d dt ti ns es0 es) : Mid C H' a b p d dt' ti ns es0 es' :=
  ⟨R.dr.keep fun x _ e => s x _ e, R.tr.keep s, t, s _ _ R.ins, fun z => by
    obtain ⟨_, ⟨kvs, g3, _⟩, _⟩ := R.tr
    rw [z, g3] at h0; cases h0⟩
theorem Mid.tabPut {es' : List Row} (k : But [dt] H H') (t : TabAt H' dt es') (R : Mid C H a b p d dt ti ns es0 es) : Mid C H' a b p d dt ti ns es0 es' := by
  obtain ⟨dr, tr, tab, ins, ne⟩ := R
  obtain ⟨⟨m1, dx1, ti1, g1, g2⟩, ⟨kvs, g3, g4⟩, g5⟩ := id tr
  obtain ⟨⟨kvs', g3', g4'⟩, g5'⟩ := id tab
  have nt : ∀ x ∈ [dt], ∀ xs, H x ≠ some (.tup xs) := fun x hx xs e => by
    obtain rfl : x = dt := by simpa using hx
    rw [g3'] at e; cases e
  have n1 : p ≠ dt := ne_of g1 g3' fun z => nomatch z
  have n4 : ti ≠ dt := ne_of ins g3' fun z => nomatch z
  refine ⟨dr.keep fun x xs e => k x _ e ?_, tr.keepB k (by simp [n1]) (by simp [ne.symm]) nt, t, k _ _ ins (by simp [n4]), ne⟩
  have : x ≠ dt := ne_of e g3' fun z => nomatch z
  simp [this]
theorem Mid.trNew {d' : Addr} {es0' : List Row} (k : But [p] H H') (h0 : H d' = none) (tr' : TrAt C H' p d' [1, 3] es0') (R : Mid C H a b p d dt ti ns es0 es) : Mid C H' a b p d' dt ti ns es0' es := by
  obtain ⟨dr, tr, tab, ins, ne⟩ := R
  obtain ⟨⟨m1, dx1, ti1, g1, g2⟩, ⟨kvs, g3, g4⟩, g5⟩ := id tr
  obtain ⟨⟨kvs', g3', g4'⟩, g5'⟩ := id tab
  have nt : ∀ x ∈ [p], ∀ xs, H x ≠ some (.tup xs) := fun x hx xs e => by
    obtain rfl : x = p := by simpa using hx
    rw [g1] at e; cases e
  have n1 : dt ≠ p := ne_of g3' g1 fun z => nomatch z
  have n4 : ti ≠ p := ne_of ins g1 fun z => nomatch z
  refine ⟨dr.keep fun x xs e => k x _ e ?_, tr', tab.keepB k (by simp [n1]) nt, k _ _ ins (by simp [n4]), fun z => ?_⟩
  · have : x ≠ p := ne_of e g1 fun z => nomatch z
    simp [this]
  · rw [← z, g3'] at h0; cases h0
end
/-- the helpers that draw -/
structure Hlp (P : Program) (w : World) (K : PySem.W.Frag) (mg : Str → Option Value) (base : Heap) (C : Addr) : Prop where
  beg : FN P w K mg base 1 "_law_begin" ["script"] (spBegin K)
  take : FN P w K mg base 1 "_law_take" ["d", "many"] spTake
  pick : FN P w K mg base 2 "_law_pick" ["d", "menu"] (spPick K)
  oct : FN P w K mg base 3 "_law_octets" ["d", "most"] spOctets
  isI : MT P w K mg base C 1 "is_inside" ["self", "node"] (spIs C)
  out : MT P w K mg base C 2 "outward" ["self", "goal", "source", "body", "now"] (spOut C)
  inw : MT P w K mg base C 2 "inward" ["self", "source", "body", "now"] (spIn C)
  tab : MT P w K mg base C 1 "table" ["self"] (spTable C)
  new : MK P w K mg base C 1 "Translator" ["self", "node", "inside"] (spInit C)
section
variable {P : Program} {w : World} {K : PySem.W.Frag} {mg : Str → Option Value} {base : Heap} {f : Addr} {cdv : Value} {A : Around} {outer : List Env} {s : Shared} {H0 : Hp} {E : XK} {C : Addr}
/-- now = now + _law_pick(..) -/
theorem blk_now (hr : Room 4 (AL A s f cdv)) (L : Hlp P w K mg base C) : ∃ t, PS (XL P w K mg base f cdv A outer s H0 E) (stAt loopBody 0) t ∧
    ∀ (D : Ends) (v0 v2 v3 v4 v6 v7 v8 v9 v10 v11 v12 v13 v14 v15 v16 v17 v18 : Option V) (H : Hp) (a b p d dt ti : Addr) (ns : List Int) (es0 es : List Row) (now : Int), Mid C H a b p d dt ti ns es0 es →
      (∀ (now' : Int) H', Mid C H' a b p d dt ti ns es0 es → D.nx [v0, some (.ref a), v2, v3, v4, some (.int now'), v6, v7, v8, v9, v10, v11, v12, v13, v14, v15, v16, v17, v18] H') →
      t D [v0, some (.ref a), v2, v3, v4, some (.int now), v6, v7, v8, v9, v10, v11, v12, v13, v14, v15, v16, v17, v18] H := by
  have hr2 : Room 2 (AL A s f cdv) := hr.mono (by decide)
  refine ⟨_, ps_set (i := 5) scL.nd rfl (Or.inr rfl) (pe_op op_add (pv 5) (pe_fn L.pick hr2 rfl (pa_cons (pv 1) (pa_cons (pe_lst (pa_cons pe_int (pa_cons pe_int (pa_cons pe_int (pa_cons pe_int (pa_cons pe_int (pa_cons pe_int (pa_cons pe_int pa_nil)))))))) pa_nil)))), ?_⟩
  intro D v0 v2 v3 v4 v6 v7 v8 v9 v10 v11 v12 v13 v14 v15 v16 v17 v18 H a b p d dt ti ns es0 es now R k
  refine ⟨_, rfl, _, rfl, (by show 7 ≤ sizeLine; decide), fun m hm => ?_⟩
  have u : Same H (upd H m (.lst [.int 0, .int 1, .int 30, .int 100, .int 1599, .int 1600, .int 1601])) := same_new hm
  have R1 := R.same u
  have nma : m ≠ a := fun z => by
    obtain ⟨⟨⟨j, rest, seed, h1, _⟩, _⟩, _⟩ := R
    rw [z, h1] at hm; cases hm
  refine ⟨a, b, m, ns, _, rfl, R1.dr, nma, .inl upd_same, (by show 0 < 7; decide), (by show 7 < 1000; decide), fun x H' hx hb dr => ?_⟩
  obtain ⟨z, rfl⟩ : ∃ z, x = V.int z := by
    simp only [List.mem_cons, List.not_mem_nil, or_false] at hx
    rcases hx with h | h | h | h | h | h | h <;> exact ⟨_, h⟩
  exact ⟨_, _, rfl, rfl, k _ _ (R1.draw hb dr)⟩
/-- port, goal, other = .. -/
theorem blk_three (hr : Room 4 (AL A s f cdv)) (L : Hlp P w K mg base C) : ∃ t, PS (XL P w K mg base f cdv A outer s H0 E) (stAt loopBody 2) t ∧
    ∀ (D : Ends) (v0 v2 v3 v4 v5 v6 v7 v8 v9 v10 v11 v12 v13 v14 v15 v16 v17 v18 : Option V) (H : Hp) (a b p d dt ti : Addr) (ns : List Int) (es0 es : List Row), Mid C H a b p d dt ti ns es0 es →
      (∀ (x y z : Int) H', (x = 128 ∨ x = 129 ∨ x = 130) → (y = 4 ∨ y = 5) → (z = 7 ∨ z = 8) → Mid C H' a b p d dt ti ns es0 es → D.nx [v0, some (.ref a), v2, v3, v4, v5, v6, v7, some (.int x), some (.int y), some (.int z), v11, v12, v13, v14, v15, v16, v17, v18] H') →
      t D [v0, some (.ref a), v2, v3, v4, v5, v6, v7, v8, v9, v10, v11, v12, v13, v14, v15, v16, v17, v18] H := by
  have hr1 : Room 1 (AL A s f cdv) := hr.mono (by decide)
  refine ⟨_, ps_par3 (i := 8) (j := 9) (l := 10) rfl scL.nd rfl rfl rfl (by decide) (by decide) (by decide) rfl rfl rfl
    (pa_cons (pe_op op_add pe_int (pe_fn L.take hr1 rfl (pa_cons (pv 1) (pa_cons pe_int pa_nil)))) (pa_cons (pe_op op_add pe_int (pe_fn L.take hr1 rfl (pa_cons (pv 1) (pa_cons pe_int pa_nil)))) (pa_cons (pe_op op_add pe_int (pe_fn L.take hr1 rfl (pa_cons (pv 1) (pa_cons pe_int pa_nil)))) pa_nil))) (by kernel_rfl), ?_⟩
  intro D v0 v2 v3 v4 v5 v6 v7 v8 v9 v10 v11 v12 v13 v14 v15 v16 v17 v18 H a b p d dt ti ns es0 es R k
  refine ⟨_, rfl, a, b, ns, 3, rfl, R.dr, by decide, by decide, fun r1 H1 h11 h12 hb1 dr1 => ⟨_, _, rfl, rfl, ?_⟩⟩
  have R1 := R.draw hb1 dr1
  refine ⟨_, rfl, a, b, ns, 2, rfl, dr1, by decide, by decide, fun r2 H2 h21 h22 hb2 dr2 => ⟨_, _, rfl, rfl, ?_⟩⟩
  have R2 := R1.draw hb2 dr2
  refine ⟨_, rfl, a, b, ns, 2, rfl, dr2, by decide, by decide, fun r3 H3 h31 h32 hb3 dr3 => ⟨_, _, rfl, rfl, ?_⟩⟩
  have R3 := R2.draw hb3 dr3
  exact ⟨_, _, _, rfl, k _ _ _ _ (by omega) (by omega) (by omega) R3⟩
/-- source = _law_pick(d, inside) -/
theorem blk_source (hr : Room 4 (AL A s f cdv)) (L : Hlp P w K mg base C) : ∃ t, PS (XL P w K mg base f cdv A outer s H0 E) (stAt loopBody 3) t ∧
    ∀ (D : Ends) (v0 v3 v4 v5 v6 v7 v8 v9 v10 v11 v12 v13 v14 v15 v16 v17 v18 : Option V) (H : Hp) (a b p d dt ti : Addr) (ns : List Int) (es0 es : List Row), Mid C H a b p d dt ti ns es0 es →
      (∀ (x : Int) H', (x = 1 ∨ x = 3) → Mid C H' a b p d dt ti ns es0 es → D.nx [v0, some (.ref a), some (.ref ti), v3, v4, v5, v6, v7, v8, v9, v10, some (.int x), v12, v13, v14, v15, v16, v17, v18] H') →
      t D [v0, some (.ref a), some (.ref ti), v3, v4, v5, v6, v7, v8, v9, v10, v11, v12, v13, v14, v15, v16, v17, v18] H := by
  have hr2 : Room 2 (AL A s f cdv) := hr.mono (by decide)
  refine ⟨_, ps_set (i := 11) scL.nd rfl (Or.inl rfl) (pe_fn L.pick hr2 rfl (pa_cons (pv 1) (pa_cons (pv 2) pa_nil))), ?_⟩
  intro D v0 v3 v4 v5 v6 v7 v8 v9 v10 v11 v12 v13 v14 v15 v16 v17 v18 H a b p d dt ti ns es0 es R k
  have nta : ti ≠ a := by
    obtain ⟨⟨⟨j, rest, seed, h1, _⟩, _⟩, _⟩ := id R
    exact ne_of R.ins h1 fun z => nomatch z
  refine ⟨_, rfl, _, rfl, a, b, ti, ns, _, rfl, R.dr, nta, .inr R.ins, (by show 0 < 2; decide), (by show 2 < 1000; decide), fun x H' hx hb dr => ?_⟩
  simp only [List.mem_cons, List.not_mem_nil, or_false] at hx
  rcases hx with rfl | rfl
  · exact k _ _ (.inl rfl) (R.draw hb dr)
  · exact k _ _ (.inr rfl) (R.draw hb dr)
/-- rest = _law_octets(d, 5) -/
theorem blk_rest (hr : Room 4 (AL A s f cdv)) (L : Hlp P w K mg base C) : ∃ t, PS (XL P w K mg base f cdv A outer s H0 E) (stAt loopBody 4) t ∧
    ∀ (D : Ends) (v0 v2 v3 v4 v5 v6 v7 v8 v9 v10 v11 v12 v13 v14 v15 v16 v17 v18 : Option V) (H : Hp) (a b p d dt ti : Addr) (ns : List Int) (es0 es : List Row), Mid C H a b p d dt ti ns es0 es →
      (∀ (t : Addr) (zs : List Int) H', zs.length ≤ 5 → H' t = some (.tup (zs.map V.int)) → Mid C H' a b p d dt ti ns es0 es → D.nx [v0, some (.ref a), v2, v3, v4, v5, v6, v7, v8, v9, v10, v11, some (.ref t), v13, v14, v15, v16, v17, v18] H') →
      t D [v0, some (.ref a), v2, v3, v4, v5, v6, v7, v8, v9, v10, v11, v12, v13, v14, v15, v16, v17, v18] H := by
  have hr3 : Room 3 (AL A s f cdv) := hr.mono (by decide)
  refine ⟨_, ps_set (i := 12) scL.nd rfl (Or.inl rfl) (pe_fn L.oct hr3 rfl (pa_cons (pv 1) (pa_cons pe_int pa_nil))), ?_⟩
  intro D v0 v2 v3 v4 v5 v6 v7 v8 v9 v10 v11 v12 v13 v14 v15 v16 v17 v18 H a b p d dt ti ns es0 es R k
  refine ⟨_, rfl, a, b, ns, 5, rfl, R.dr, by decide, by decide, fun t zs H' h0 hl ht hb dr => ?_⟩
  exact k _ zs _ (by omega) ht (R.draw hb dr)
end
end T35
namespace T35
open PySem PySem.Spec PyProof.Rows L2 E8
theorem rCat_of {K : PySem.W.Frag} {H : Hp} {Q : V → Hp → Prop} {a b : Addr} {xs ys : List V} (ha : H a = some (.tup xs)) (hb : H b = some (.tup ys)) (hne : xs ≠ []) (hl : xs.length + ys.length ≤ 1000)
    (k : ∀ p H', Same H H' → H' p = some (.tup (xs ++ ys)) → Q (.ref p) H') : rCatT K (.ref a) (.ref b) H Q := by
  refine ⟨a, b, xs, ys, rfl, rfl, SqT.of ha, SqT.of hb, hne, Nat.le_of_lt (small1000 hl), fun z => ?_, fun _ p hp => k p _ (same_new hp) upd_same⟩
  subst z
  exact k a H (Same.refl _) (by rw [List.append_nil]; exact ha)
theorem look_put {es : List Row} (nd : (es.map (·.1)).Nodup) (k : List Int) (r : Int × Int) : look (put es k r) k = some r := by
  refine look_of_mem (put_nd nd k r) ?_
  unfold put
  rw [any_look]
  by_cases h : (look es k).isSome = true
  · rw [if_pos h]
    obtain ⟨q, hq⟩ := Option.isSome_iff_exists.mp h
    exact List.mem_map.mpr ⟨(k, q), look_some hq, by simp⟩
  · rw [if_neg h]
    simp
theorem tab_put {H : Hp} {dt t2 : Addr} {kvs : List (List L2.Key × V)} {es : List Row} (hd : H dt = some (.dT kvs)) (hrow : Paired (RowRel H) kvs es) (nd : (es.map (·.1)).Nodup) (k : List Int) (x y : Int) (ht2 : H t2 = none) :
    But [dt] H (upd (upd H t2 (.tup [.int x, .int y])) dt (.dT (putK kvs (keyOf k) (.ref t2)))) ∧ TabAt (upd (upd H t2 (.tup [.int x, .int y])) dt (.dT (putK kvs (keyOf k) (.ref t2)))) dt (put es k (x, y)) := by
  have n2d : t2 ≠ dt := fun z => by rw [z, hd] at ht2; cases ht2
  refine ⟨fun b o e hbd => ?_, ⟨_, upd_same, ?_⟩, put_nd nd k _⟩
  · have hbd' : b ≠ dt := fun z => hbd (by simp [z])
    rw [upd_ne hbd', upd_ne (ne_of_none e ht2)]
    exact e
  · refine rows_put (rows_keep (fun t xs z => ?_) hrow) k (x, y) (by rw [upd_ne n2d, upd_same])
    rw [upd_ne (ne_of z hd fun y => nomatch y), upd_ne (ne_of_none z ht2)]
    exact z
abbrev bodyA : List Stmt := thenOf (stAt loopBody 5)
abbrev bodyB : List Stmt := elseOf (stAt loopBody 5)
section
variable {P : Program} {w : World} {K : PySem.W.Frag} {mg : Str → Option Value} {base : Heap} {f : Addr} {cdv : Value} {A : Around} {outer : List Env} {s : Shared} {H0 : Hp} {E : XK} {C : Addr}
/-- key = (source, port, goal, other) -/
theorem blk_key : ∃ t, PS (XL P w K mg base f cdv A outer s H0 E) (stAt bodyA 0) t ∧
    ∀ (D : Ends) (v0 v1 v2 v3 v4 v5 v6 v7 v12 v13 v14 v15 v16 v17 v18 : Option V) (H : Hp) (x8 x9 x10 x11 : Int),
      (∀ kt H', Same H H' → H' kt = some (.tup ([x11, x8, x9, x10].map V.int)) → D.nx [v0, v1, v2, v3, v4, v5, v6, some (.ref kt), some (.int x8), some (.int x9), some (.int x10), some (.int x11), v12, v13, v14, v15, v16, v17, v18] H') →
      t D [v0, v1, v2, v3, v4, v5, v6, v7, some (.int x8), some (.int x9), some (.int x10), some (.int x11), v12, v13, v14, v15, v16, v17, v18] H := by
  refine ⟨_, ps_set (i := 7) scL.nd rfl (Or.inr rfl) (pe_tup (pa_cons (pv 11) (pa_cons (pv 8) (pa_cons (pv 9) (pa_cons (pv 10) pa_nil))))), ?_⟩
  intro D v0 v1 v2 v3 v4 v5 v6 v7 v12 v13 v14 v15 v16 v17 v18 H x8 x9 x10 x11 k
  refine ⟨_, rfl, _, rfl, _, rfl, _, rfl, (by show 4 ≤ sizeLine; decide), fun kt hkt => ?_⟩
  exact k kt _ (same_new hkt) upd_same
/-- table[key] = (table[key][0], now) -/
theorem blk_again (hr : Room 4 (AL A s f cdv)) : ∃ t, PS (XL P w K mg base f cdv A outer s H0 E) (stAt bodyA 2) t ∧
    ∀ (D : Ends) (v0 v1 v2 v3 v6 v8 v9 v10 v11 v12 v13 v14 v15 v16 v17 v18 : Option V) (H : Hp) (a b p d dt ti kt : Addr) (ns : List Int) (es0 es : List Row) (now : Int) (kk : List Int) (q : Int × Int), Mid C H a b p d dt ti ns es0 es → Good es → H kt = some (.tup (kk.map V.int)) → look es kk = some q →
      (∀ H', Mid C H' a b p d dt ti ns es0 (put es kk (q.1, now)) → But [dt] H H' → D.nx [v0, v1, v2, v3, some (.ref dt), some (.int now), v6, some (.ref kt), v8, v9, v10, v11, v12, v13, v14, v15, v16, v17, v18] H') →
      t D [v0, v1, v2, v3, some (.ref dt), some (.int now), v6, some (.ref kt), v8, v9, v10, v11, v12, v13, v14, v15, v16, v17, v18] H := by
  have hu := hu_of hr
  refine ⟨_, ps_dput hu (pv 4) (pv 7) (pe_tup (pa_cons (pe_ix ix_tup (pe_dget hu (pv 4) (pv 7) (fun _ _ => rfl)) pe_int (fun _ _ => rfl)) (pa_cons (pv 5) pa_nil))) rfl, ?_⟩
  intro D v0 v1 v2 v3 v6 v8 v9 v10 v11 v12 v13 v14 v15 v16 v17 v18 H a b p d dt ti kt ns es0 es now kk q R g hk hq k
  obtain ⟨⟨kvs, hd, hrow⟩, nd⟩ := R.tab
  have hlk : kvs.length = es.length := Paired.length hrow
  have hk' : H kt = some (.tup ((keyOf kk).map kV)) := by rw [keyOf_kV]; exact hk
  rcases rows_look hrow kk with ⟨h, _⟩ | ⟨q', tq, h1, h2, h3⟩
  · rw [hq] at h; cases h
  · rw [hq] at h1
    cases h1
    have gl := g.len
    have eg : DGet H dt (.ref kt) (some (.ref tq)) := by rw [← h2]; exact DGet.t (k := keyOf kk) hd hk'
    refine ⟨_, rfl, _, rfl, dt, _, rfl, eg, tq, _, _, _, rfl, rfl, SqT.of h3, atI_nat (j := 0) rfl, _, rfl, (by show 2 ≤ sizeLine; decide), fun t2 ht2 => ?_⟩
    have u := same_new (o := .tup [V.int q.1, V.int now]) ht2
    refine ⟨_, rfl, _, rfl, dt, _, rfl, DPut.t (k := keyOf kk) (u _ _ hd) (u _ _ hk') (small1000 (by omega)), ?_⟩
    obtain ⟨b1, t1⟩ := tab_put hd hrow nd kk q.1 now ht2
    exact k _ (R.tabPut b1 t1) b1
/-- if own.outward(..) != (table[key][0], other) + rest: return False -/
theorem blk_out (hr : Room 4 (AL A s f cdv)) (L : Hlp P w K mg base C) : ∃ t, PS (XL P w K mg base f cdv A outer s H0 E) (stAt bodyA 3) t ∧
    ∀ (D : Ends) (v0 v1 v2 v6 v13 v14 v15 v16 v17 v18 : Option V) (H : Hp) (a b p d dt ti kt rt : Addr) (ns zs : List Int) (es0 es : List Row) (now x8 x9 x10 x11 : Int) (kk : List Int) (q : Int × Int), Mid C H a b p d dt ti ns es0 es → Good es0 → H kt = some (.tup (kk.map V.int)) → look es kk = some q →
      H rt = some (.tup (zs.map V.int)) → zs.length ≤ 5 → outOf es0 x9 x11 (x8 :: x10 :: zs) now = (some (q.1 :: x10 :: zs), es) →
      (∀ d' H', Mid C H' a b p d' dt ti ns es es → D.nx [v0, v1, v2, some (.ref p), some (.ref dt), some (.int now), v6, some (.ref kt), some (.int x8), some (.int x9), some (.int x10), some (.int x11), some (.ref rt), v13, v14, v15, v16, v17, v18] H') →
      t D [v0, v1, v2, some (.ref p), some (.ref dt), some (.int now), v6, some (.ref kt), some (.int x8), some (.int x9), some (.int x10), some (.int x11), some (.ref rt), v13, v14, v15, v16, v17, v18] H := by
  have hu := hu_of hr
  have hr2 : Room 2 (AL A s f cdv) := hr.mono (by decide)
  refine ⟨_, ps_if (pt_cmpR (op_neD hr.units) (pe_mt L.out hr2 (pv 3) (pa_cons (pv 9) (pa_cons (pv 11) (pa_cons (pe_op op_catT (pe_tup (pa_cons (pv 8) (pa_cons (pv 10) pa_nil))) (pv 12)) (pa_cons (pv 5) pa_nil)))))
      (pe_op op_catT (pe_tup (pa_cons (pe_ix ix_tup (pe_dget hu (pv 4) (pv 7) (fun _ _ => rfl)) pe_int (fun _ _ => rfl)) (pa_cons (pv 10) pa_nil))) (pv 12)) (nomark _)) (pss_one (ps_ret pe_bl)) pss_nil, ?_⟩
  intro D v0 v1 v2 v6 v13 v14 v15 v16 v17 v18 H a b p d dt ti kt rt ns zs es0 es now x8 x9 x10 x11 kk q R g hk hq hrt hzl eo k
  obtain ⟨⟨m, dx, ti1, h1, h2⟩, _⟩ := id R.tr
  refine ⟨_, rfl, p, dx, _, rfl, h1, (by kernel_rfl), _, rfl, _, rfl, ?_⟩
  refine ⟨_, rfl, _, rfl, (by show 2 ≤ sizeLine; decide), fun t1 hn1 => ?_⟩
  have u1 := same_new (o := .tup [V.int x8, V.int x10]) hn1
  refine ⟨_, rfl, rCat_of upd_same (u1 _ _ hrt) (fun z => by cases z) (by rw [List.length_map]; show 2 + zs.length ≤ 1000; omega) fun bt H2 u2 hbt => ?_⟩
  have u12 := u1.trans u2
  have R2 := R.same u12
  refine ⟨_, rfl, p, d, bt, x9, x11, now, x8 :: x10 :: zs, [1, 3], es0, rfl, R2.tr, by have := g.len; omega, g.four, hbt, by show zs.length + 1 + 1 ≤ 1000; omega, fun d' H3 v hd' b3 tr3 res => ?_⟩
  rw [eo] at tr3 res
  obtain ⟨tv, rfl, htv⟩ := res
  have R3 := R2.trNew b3 hd' tr3
  have hp2 : H2 p = some (.ins C dx (flds m ti1 d)) := u12 _ _ h1
  have nk : kt ≠ p := ne_of hk h1 fun z => nomatch z
  have nr : rt ≠ p := ne_of hrt h1 fun z => nomatch z
  have hk3 : H3 kt = some (.tup ((keyOf kk).map kV)) := by rw [keyOf_kV]; exact b3 _ _ (u12 _ _ hk) (by simp [nk])
  have hrt3 : H3 rt = some (.tup (zs.map V.int)) := b3 _ _ (u12 _ _ hrt) (by simp [nr])
  obtain ⟨⟨kvs, hd, hrow⟩, nd⟩ := R3.tab
  rcases rows_look hrow kk with ⟨h, _⟩ | ⟨q', tq, g1, g2, g3⟩
  · rw [hq] at h; cases h
  rw [hq] at g1
  cases g1
  have eg : DGet H3 dt (.ref kt) (some (.ref tq)) := by rw [← g2]; exact DGet.t (k := keyOf kk) hd hk3
  refine ⟨_, rfl, _, rfl, dt, _, rfl, eg, tq, _, _, _, rfl, rfl, SqT.of g3, atI_nat (j := 0) rfl, _, rfl, (by show 2 ≤ sizeLine; decide), fun t4 hn4 => ?_⟩
  have u4 := same_new (o := .tup [V.int q.1, V.int x10]) hn4
  refine ⟨_, rfl, rCat_of upd_same (u4 _ _ hrt3) (fun z => by cases z) (by rw [List.length_map]; show 2 + zs.length ≤ 1000; omega) fun ct H5 u5 hct => ?_⟩
  have u45 := u4.trans u5
  refine ⟨.tuple ((q.1 :: x10 :: zs).map PyData.int), .tuple ((q.1 :: x10 :: zs).map PyData.int), .tup (xs := (q.1 :: x10 :: zs).map V.int) (SqT.of (u45 _ _ htv)) (dp_ints _), .tup (xs := (q.1 :: x10 :: zs).map V.int) (SqT.of hct) (dp_ints _), shaped_tup_ints _, shaped_tup_ints _, _, rfl, ?_⟩
  rw [eqv_tups, decide_eq_true rfl]
  exact iteF (k d' _ (R3.same u45))
end
end T35
namespace T35
open PySem PySem.Spec PyProof.Rows L2 E8
theorem free16_eq (es : List Row) (tl : List Int) : free16 es tl = ((List.range 16).map fun i => (64 : Int) + (i : Nat)).filter fun z => decide (z ∉ takenOf es tl) := rfl
section
variable {P : Program} {w : World} {K : PySem.W.Frag} {mg : Str → Option Value} {base : Heap} {f : Addr} {cdv : Value} {A : Around} {outer : List Env} {s : Shared} {H0 : Hp} {E : XK} {C : Addr}
/-- if key not in table: taken = [..]; table[key] = (min([..]), now) -/
theorem blk_newkey (hr : Room 4 (AL A s f cdv)) (W : TxtW mg) : ∃ t, PS (XL P w K mg base f cdv A outer s H0 E) (stAt bodyA 1) t ∧
    ∀ (D : Ends) (v0 v1 v2 v3 v6 v8 v9 v10 v11 v12 v13 v14 v15 v16 v17 v18 : Option V) (H : Hp) (a b p d dt ti kt : Addr) (ns : List Int) (es0 es : List Row) (now : Int) (kk : List Int), Mid C H a b p d dt ti ns es0 es → Good es → H kt = some (.tup (kk.map V.int)) → kk ∈ allKeys →
      (∀ H' v13' es' q, Mid C H' a b p d dt ti ns es0 es' → Good es' → But [dt] H H' → look es' kk = some q → portOf es kk now = some (q.1, put es' kk (q.1, now)) → D.nx [v0, v1, v2, v3, some (.ref dt), some (.int now), v6, some (.ref kt), v8, v9, v10, v11, v12, v13', v14, v15, v16, v17, v18] H') →
      t D [v0, v1, v2, v3, some (.ref dt), some (.int now), v6, some (.ref kt), v8, v9, v10, v11, v12, v13, v14, v15, v16, v17, v18] H := by
  have hu := hu_of hr
  refine ⟨_, ps_if (pt_cmp (pc_dnotin hu (pv 7) (pv 4)))
      (pss_cons (ps_set (i := 13) scL.nd rfl (Or.inr rfl) (pe_lock (pe_lc rfl scL.nd (pi_keys (pv 4)) (blkOk_by (own := [("one", 18)]) (N := nL) (sc := defScope sLaw) (by decide +kernel))
        (fun _ _ _ _ _ => pg_name (i := 18) scL.nd rfl (Or.inl rfl))
        (fun _ _ _ _ _ => pts_one (pt_cmpR (op_eqDK (K := K) rfl hr.units) (pe_slice (sl_tupK (K := K) rfl) (pv 18) (po_some pe_int) po_none) (pe_slice (sl_tupK (K := K) rfl) (pv 7) (po_some pe_int) po_none) (nomark _)))
        (fun _ _ _ _ _ => pe_ix (ix_tupK (K := K) rfl) (pe_dget hu (pv 4) (pv 18) (fun _ _ => rfl)) pe_int (fun _ _ => rfl)))))
      (pss_one (ps_dput hu (pv 4) (pv 7) (pe_tup (pa_cons (pe_callB (cr_min rfl) (by rfl) W.min (by decide +kernel) (pa_cons (pe_lc rfl scL.nd (pi_range2 rfl W.range (pa_cons pe_int (pa_cons pe_int pa_nil)))
        (blkOk_by (own := [("one", 18)]) (N := nL) (sc := defScope sLaw) (by decide +kernel)) (fun _ _ _ _ _ => pg_name (i := 18) scL.nd rfl (Or.inl rfl))
        (fun _ _ _ _ _ => pts_one (pt_cmpR (op_notInK (K := K) rfl) (pv 18) (pv 13) (by rfl))) (fun _ _ _ _ _ => pv 18)) pa_nil)) (pa_cons (pv 5) pa_nil))) rfl))) pss_nil, ?_⟩
  intro D v0 v1 v2 v3 v6 v8 v9 v10 v11 v12 v13 v14 v15 v16 v17 v18 H a b p d dt ti kt ns es0 es now kk R g hkt hkk k
  obtain ⟨⟨kvs, hd, hrow⟩, nd⟩ := R.tab
  have hlk : kvs.length = es.length := Paired.length hrow
  have hkt' : H kt = some (.tup ((keyOf kk).map kV)) := by rw [keyOf_kV]; exact hkt
  have hkl : kk.length = 4 := allKeys_4 _ hkk
  have nkd : kt ≠ dt := ne_of hkt hd fun z => nomatch z
  have gl := g.len
  refine ⟨_, rfl, _, rfl, dt, _, rfl, DGet.t (k := keyOf kk) hd hkt', _, rfl, ?_⟩
  rcases rows_look hrow kk with ⟨hno, hv⟩ | ⟨q, tq, hq, hv, htq⟩
  · rw [hv]
    refine iteT ?_
    refine ⟨dt, .dT kvs, hd, True.intro, fun od => ?_⟩
    refine ⟨_, rfl, dt, od, rfl, .inr ⟨kvs, upd_same, ?_⟩⟩
    intro D1 hD
    have nDd : D1 ≠ dt := fun z => by rw [z, upd_same] at hD; cases hD
    have hD0 : H D1 = none := by rw [upd_ne nDd] at hD; exact hD
    refine lc_it walk_keysT (fun i H' => H' dt = some (.frz od (.dT kvs)) ∧ But [dt] H H' ∧ H' D1 = some (.lst ((takenOf (es.take i) (kk.drop 2)).map V.int))) ?_ ?_ ?_ ?_
    · refine ⟨by rw [upd_ne nDd.symm]; exact upd_same, fun b o e hb => ?_, upd_same⟩
      have hbd : b ≠ dt := fun z => hb (by simp [z])
      rw [upd_ne (ne_of_none e hD0), upd_ne hbd]
      exact e
    · exact fun i H' _ h => h.1
    · rintro i x H1 H' hi ⟨hl, hb, ha⟩ ⟨rfl, k0, v, q, hkv, rfl, hq⟩
      obtain ⟨e, t, he, rfl, rfl, ht⟩ := rows_at hrow hkv
      obtain ⟨t', hv', ht2⟩ := val_row hrow nd (List.mem_of_getElem? he)
      have ntd : t' ≠ dt := ne_of ht2 hd fun z => nomatch z
      have ht' : H' t' = some (.tup [.int e.2.1, .int e.2.2]) := hb t' _ ht2 (by simp [ntd])
      have he4 : e.1.length = 4 := g.four e (List.mem_of_getElem? he)
      have hqi : H' q = some (.tup (e.1.map V.int)) := by rw [← keyOf_kV]; exact hq
      have hk1 : H' kt = some (.tup (kk.map V.int)) := hb kt _ hkt (by simp [nkd])
      refine ⟨rfl, ?_⟩
      refine ⟨_, rfl, _, rfl, q, _, rfl, SqT.of hqi, not_whole he4, fun t1 hn1 => ?_⟩
      have u1 : Same H' (upd H' t1 (.tup (cutV (e.1.map V.int) (some 2) none))) := same_new hn1
      refine ⟨_, rfl, _, rfl, kt, _, rfl, SqT.of (u1 _ _ hk1), not_whole hkl, fun t3 hn3 => ?_⟩
      have u3 := u1.trans (same_new (o := .tup (cutV (kk.map V.int) (some 2) none)) hn3)
      have n13 : t1 ≠ t3 := ne_of_none upd_same hn3
      refine ⟨.tuple ((e.1.drop 2).map PyData.int), .tuple ((kk.drop 2).map PyData.int), .tup (xs := (e.1.drop 2).map V.int) (SqT.of (by rw [upd_ne n13, upd_same, cut2 he4])) (dp_ints _), .tup (xs := (kk.drop 2).map V.int) (SqT.of (by rw [upd_same, cut2 hkl])) (dp_ints (kk.drop 2)), shaped_tup_ints _, shaped_tup_ints _, _, rfl, ?_⟩
      rw [eqv_tups]
      generalize hHx : upd (upd H' t1 (.tup (cutV (e.1.map V.int) (some 2) none))) t3 (.tup (cutV (kk.map V.int) (some 2) none)) = Hx at u3 ⊢
      have et := take_filter (p := fun e : Row => decide (e.1.drop 2 = kk.drop 2)) he
      have hb3 : But [dt] H Hx := fun b o z hbd => u3 _ _ (hb b o z hbd)
      by_cases hc : e.1.drop 2 = kk.drop 2
      · rw [decide_eq_true hc]
        refine iteT ⟨_, rfl, _, rfl, dt, _, rfl, dget_lock (u3 _ _ hl) (u3 _ _ hq) hv', t', _, _, _, rfl, rfl, SqT.of (u3 _ _ ht'), atI_nat (j := 0) rfl, _, u3 _ _ ha, ?_, ?_⟩
        · rw [List.length_map]
          have l1 : (takenOf (es.take i) (kk.drop 2)).length ≤ es.length := by
            unfold takenOf
            rw [List.length_map]
            exact Nat.le_trans (List.length_filter_le _ _) (by rw [List.length_take]; omega)
          exact small1000 (by omega)
        · refine ⟨by rw [upd_ne nDd.symm]; exact u3 _ _ hl, fun b o z hbd => ?_, ?_⟩
          · rw [upd_ne (fun y => by rw [y, hD0] at z; cases z)]
            exact hb3 b o z hbd
          · rw [upd_same]
            unfold takenOf
            rw [et]
            simp only [hc, decide_true, if_true, List.map_append]
            rfl
      · rw [decide_eq_false hc]
        refine iteF ⟨u3 _ _ hl, hb3, ?_⟩
        rw [u3 _ _ ha]
        unfold takenOf
        rw [et]
        simp only [hc, decide_false, Bool.false_eq_true, if_false, List.append_nil]
    · rintro H1 ⟨hl, hb, ha⟩
      refine ⟨hl, ?_⟩
      rw [hlk, List.take_length] at ha
      have sm1 : Same H (upd H1 dt (.dT kvs)) := fun b o e => by
        by_cases z : b = dt
        · rw [z, upd_same, ← hd, ← z]; exact e
        · rw [upd_ne z]; exact hb b o e (by simp [z])
      have ha1 : (upd H1 dt (.dT kvs)) D1 = some (.lst ((takenOf es (kk.drop 2)).map V.int)) := by rw [upd_ne nDd]; exact ha
      generalize upd H1 dt (.dT kvs) = H2 at sm1 ha1 ⊢
      refine ⟨64, 80, rfl, by decide, ?_⟩
      intro D2 hD2
      have hD2s : ∀ b o, H2 b = some o → b ≠ D2 := fun b o e z => by rw [z, hD2] at e; cases e
      refine lc_it (walk_range (lo := 64) (n := 16)) (fun i H' => H' = upd H2 D2 (.lst (((((List.range 16).take i).map fun i => (64 : Int) + (i : Nat)).filter fun z => decide (z ∉ takenOf es (kk.drop 2))).map V.int))) rfl (fun _ _ _ _ => trivial) ?_ ?_
      · rintro i x H3 H' hi rfl ⟨rfl, rfl⟩
        refine ⟨rfl, _, rfl, _, rfl, D1, _, rfl, .inl (SqL.of (by rw [upd_ne (hD2s D1 _ ha1)]; exact ha1)), rfl, flat_ints _, _, rfl, ?_⟩
        have eb : (if true = true then !inV (V.int (64 + (i : Nat))) ((takenOf es (kk.drop 2)).map V.int) else inV (V.int (64 + (i : Nat))) ((takenOf es (kk.drop 2)).map V.int)) = decide ((64 : Int) + (i : Nat) ∉ takenOf es (kk.drop 2)) := by
          rw [if_pos rfl, inV_ints]
          by_cases z : (64 : Int) + (i : Nat) ∈ takenOf es (kk.drop 2) <;> simp [z]
        rw [eb]
        have er := range_take (f := fun i => (64 : Int) + (i : Nat)) (p := fun z => decide (z ∉ takenOf es (kk.drop 2))) hi
        by_cases hz : (64 : Int) + (i : Nat) ∈ takenOf es (kk.drop 2)
        · rw [decide_eq_false (fun z => z hz)]
          refine iteF ?_
          rw [er]
          simp only [hz, not_true_eq_false, decide_false, Bool.false_eq_true, if_false, List.append_nil]
        · rw [decide_eq_true hz]
          refine iteT ⟨_, rfl, _, upd_same, ?_, ?_⟩
          · rw [List.length_map]
            refine small1000 (Nat.le_trans (List.length_filter_le _ _) ?_)
            rw [List.length_map, List.length_take, List.length_range]
            omega
          · rw [er, upd_upd]
            simp only [hz, not_false_eq_true, decide_true, if_true, List.map_append]
            rfl
      · rintro H3 rfl
        rw [show (List.range 16).take 16 = List.range 16 from List.take_of_length_le (by rw [List.length_range]; exact Nat.le_refl _), ← free16_eq]
        have sm : Same H (upd H2 D2 (.lst ((free16 es (kk.drop 2)).map V.int))) := sm1.trans (same_new hD2)
        have hL : (upd H2 D2 (.lst ((free16 es (kk.drop 2)).map V.int))) D2 = some (.lst ((free16 es (kk.drop 2)).map V.int)) := upd_same
        generalize upd H2 D2 (.lst ((free16 es (kk.drop 2)).map V.int)) = H4 at sm hL ⊢
        refine ⟨D2, _, rfl, SqL.of hL, free16_pos g _, fun m hm hle => ?_⟩
        obtain ⟨r, hf⟩ := free_least g hm hle
        refine ⟨_, rfl, (by show 2 ≤ sizeLine; decide), fun t2 ht2 => ?_⟩
        have u := sm.trans (same_new (o := .tup [V.int m, V.int now]) ht2)
        refine ⟨_, rfl, _, rfl, dt, _, rfl, DPut.t (k := keyOf kk) (u _ _ hd) (u _ _ hkt') (small1000 (by omega)), ?_⟩
        obtain ⟨b1, t1⟩ := tab_put (sm _ _ hd) (rows_keep (fun t xs z => sm t _ z) hrow) nd kk m now ht2
        have hf' := portOf_cons (now := now) hno hf
        refine k _ _ (put es kk (m, now)) (m, now) ((R.same sm).tabPut b1 t1) (g.new hkk (not_taken hm)) (fun x o e hx => b1 x o (sm x o e) hx) (look_put nd _ _) ?_
        rw [hf']
  · rw [hv]
    refine iteF ?_
    refine k H v13 es q R g (But.refl _ _) hq ?_
    unfold portOf
    simp only [hq]
end
end T35
namespace T35
open PySem PySem.Spec PyProof.Rows L2 E8
def Due (H : Hp) (es : List Row) (goal other at' : Int) (v : V) : Prop :=
  (v = .non ∧ ∀ e ∈ es, hitOf goal other at' e = false) ∨ ∃ e q, e ∈ es ∧ hitOf goal other at' e = true ∧ v = .ref q ∧ H q = some (.tup (e.1.map V.int))
theorem Due.keep {H H' : Hp} {es : List Row} {goal other at' : Int} {v : V} (k : ∀ t xs, H t = some (.tup xs) → H' t = some (.tup xs)) (h : Due H es goal other at' v) : Due H' es goal other at' v := by
  rcases h with h | ⟨e, q, h1, h2, h3, h4⟩
  · exact .inl h
  · exact .inr ⟨e, q, h1, h2, h3, k _ _ h4⟩
theorem hit_iff {goal other at' : Int} {e : Row} : hitOf goal other at' e = true ↔ e.2.1 = at' ∧ e.1.drop 2 = [goal, other] := by
  unfold hitOf
  simp
theorem find_hit {es : List Row} (g : Good es) {goal other at' : Int} {e : Row} (he : e ∈ es) (h : hitOf goal other at' e = true) : es.find? (hitOf goal other at') = some e := by
  cases hf : es.find? (hitOf goal other at') with
  | none =>
    rw [List.find?_eq_none] at hf
    exact absurd h (hf e he)
  | some e' =>
    have h1 := List.find?_some hf
    have h2 := List.mem_of_find?_eq_some hf
    obtain ⟨a1, a2⟩ := hit_iff.mp h
    obtain ⟨b1, b2⟩ := hit_iff.mp h1
    have ek : e'.1 = e.1 := g.apart e' h2 e he (b2.trans a2.symm) (b1.trans a1.symm)
    have l1 := look_of_mem g.nd (show (e.1, e.2) ∈ es from he)
    have l2 := look_of_mem g.nd (show (e'.1, e'.2) ∈ es from h2)
    rw [ek, l1] at l2
    have e2 : e.2 = e'.2 := Option.some.inj l2
    congr 1
    exact Prod.ext ek e2.symm
theorem inOf_none {es : List Row} {now goal other at' : Int} {zs : List Int} {es0 : List Row} (hf : fresh es0 now = es) (h : ∀ e ∈ es, hitOf goal other at' e = false) : inOf es0 goal (other :: at' :: zs) now = (none, es) := by
  have : es.find? (hitOf goal other at') = none := by
    rw [List.find?_eq_none]
    intro e he
    rw [h e he]
    exact Bool.false_ne_true
  show (match (fresh es0 now).find? (hitOf goal other at') with | none => _ | some e => _) = _
  rw [hf, this]
theorem inOf_hit {es : List Row} {now goal other at' : Int} {zs : List Int} {es0 : List Row} (g : Good es) (hf : fresh es0 now = es) {e : Row} (he : e ∈ es) (h : hitOf goal other at' e = true) :
    inOf es0 goal (other :: at' :: zs) now = (some (e.1.getD 0 0, other :: e.1.getD 1 0 :: zs), put es e.1 (at', now)) := by
  show (match (fresh es0 now).find? (hitOf goal other at') with | none => _ | some e => _) = _
  rw [hf, find_hit g he h]
  rw [← (hit_iff.mp h).1]
theorem eqv_pair (n : Int) (r : List Int) : PyData.eqv (.tuple [.int n, .tuple (r.map PyData.int)]) (.tuple [.int n, .tuple (r.map PyData.int)]) = true := by
  have h := eqv_tups r r
  rw [decide_eq_true rfl] at h
  rw [PyData.eqv, PyData.eqvAll, PyData.eqvAll, h]
  simp [PyData.eqv, PyData.eqvAll]
theorem shaped_pair (n : Int) (r : List Int) : SeqAt.shaped (.tuple [.int n, .tuple (r.map PyData.int)]) = true := by
  simp [SeqAt.shaped, PyData.canLay0, PyData.canLayAll0, PyData.depth, PyData.depthAll, PySem.W.ke_canLayAll0, PySem.W.ke_depthAll]
section
variable {P : Program} {w : World} {K : PySem.W.Frag} {mg : Str → Option Value} {base : Heap} {f : Addr} {cdv : Value} {A : Around} {outer : List Env} {s : Shared} {H0 : Hp} {E : XK} {C : Addr}
/-- at = 64 + _law_take(d, 4) -/
theorem blk_at (hr : Room 4 (AL A s f cdv)) (L : Hlp P w K mg base C) : ∃ t, PS (XL P w K mg base f cdv A outer s H0 E) (stAt bodyB 0) t ∧
    ∀ (D : Ends) (v0 v2 v3 v4 v5 v6 v7 v8 v9 v10 v11 v12 v13 v14 v15 v16 v17 v18 : Option V) (H : Hp) (a b p d dt ti : Addr) (ns : List Int) (es0 es : List Row), Mid C H a b p d dt ti ns es0 es →
      (∀ (x : Int) H', But [a] H H' → Mid C H' a b p d dt ti ns es0 es → D.nx [v0, some (.ref a), v2, v3, v4, v5, v6, v7, v8, v9, v10, v11, v12, v13, some (.int x), v15, v16, v17, v18] H') →
      t D [v0, some (.ref a), v2, v3, v4, v5, v6, v7, v8, v9, v10, v11, v12, v13, v14, v15, v16, v17, v18] H := by
  have hr1 : Room 1 (AL A s f cdv) := hr.mono (by decide)
  refine ⟨_, ps_set (i := 14) scL.nd rfl (Or.inl rfl) (pe_op op_add pe_int (pe_fn L.take hr1 rfl (pa_cons (pv 1) (pa_cons pe_int pa_nil)))), ?_⟩
  intro D v0 v2 v3 v4 v5 v6 v7 v8 v9 v10 v11 v12 v13 v14 v15 v16 v17 v18 H a b p d dt ti ns es0 es R k
  exact ⟨_, rfl, a, b, ns, 4, rfl, R.dr, by decide, by decide, fun r1 H1 h11 h12 hb1 dr1 => ⟨_, _, rfl, rfl, k _ _ hb1 (R.draw hb1 dr1)⟩⟩
/-- due = None -/
theorem blk_due0 : ∃ t, PS (XL P w K mg base f cdv A outer s H0 E) (stAt bodyB 1) t ∧
    ∀ (D : Ends) (v0 v1 v2 v3 v4 v5 v6 v7 v8 v9 v10 v11 v12 v13 v14 v15 v16 v17 v18 : Option V) (H : Hp),
      D.nx [v0, v1, v2, v3, v4, v5, v6, v7, v8, v9, v10, v11, v12, v13, v14, some .non, v16, v17, v18] H →
      t D [v0, v1, v2, v3, v4, v5, v6, v7, v8, v9, v10, v11, v12, v13, v14, v15, v16, v17, v18] H :=
  ⟨_, ps_set (i := 15) scL.nd rfl (Or.inl rfl) pe_non, fun D v0 v1 v2 v3 v4 v5 v6 v7 v8 v9 v10 v11 v12 v13 v14 v15 v16 v17 v18 H k => k⟩
/-- for key in table: .. -/
theorem blk_for (hr : Room 4 (AL A s f cdv)) : ∃ t, PS (XL P w K mg base f cdv A outer s H0 E) (stAt bodyB 2) t ∧
    ∀ (D : Ends) (v0 v1 v2 v3 v5 v6 v7 v8 v11 v12 v13 v16 v17 v18 : Option V) (H : Hp) (a b p d dt ti : Addr) (ns : List Int) (es0 es : List Row) (x9 x10 x14 : Int), Mid C H a b p d dt ti ns es0 es → Good es →
      (∀ H' v7' v, Same H H' → Due H' es x9 x10 x14 v → D.nx [v0, v1, v2, v3, some (.ref dt), v5, v6, v7', v8, some (.int x9), some (.int x10), v11, v12, v13, some (.int x14), some v, v16, v17, v18] H') →
      t D [v0, v1, v2, v3, some (.ref dt), v5, v6, v7, v8, some (.int x9), some (.int x10), v11, v12, v13, some (.int x14), some .non, v16, v17, v18] H := by
  have hu := hu_of hr
  refine ⟨_, ps_lock (ps_for PassesOwn.never rfl (pi_keys (pv 4)) (pg_name (i := 7) scL.nd rfl (Or.inr rfl))
    (pss_one (ps_if (PW.pt (pw_and (pt_cmpR (op_eqD hr.units) (pe_slice sl_tup (pv 7) (po_some pe_int) po_none) (pe_tup (pa_cons (pv 9) (pa_cons (pv 10) pa_nil))) (nomark _))
      (pw_and1 (pt_cmpR op_eq (pe_ix ix_tup (pe_dget hu (pv 4) (pv 7) (fun _ _ => rfl)) pe_int (fun _ _ => rfl)) (pv 14) (nomark _)))))
      (pss_one (ps_set (i := 15) scL.nd rfl (Or.inl rfl) (pv 7))) pss_nil))), ?_⟩
  intro D v0 v1 v2 v3 v5 v6 v7 v8 v11 v12 v13 v16 v17 v18 H a b p d dt ti ns es0 es x9 x10 x14 R g k
  obtain ⟨⟨kvs, hd, hrow⟩, nd⟩ := R.tab
  have hlk : kvs.length = es.length := Paired.length hrow
  refine ⟨dt, .dT kvs, hd, True.intro, fun od => ?_⟩
  refine ⟨_, rfl, dt, od, rfl, .inr ⟨kvs, upd_same, ?_⟩⟩
  refine for_it walk_keysT (fun i σ' H' => H' dt = some (.frz od (.dT kvs)) ∧ But [dt] H H' ∧ ∃ v7' v, σ' = [v0, v1, v2, v3, some (.ref dt), v5, v6, v7', v8, some (.int x9), some (.int x10), v11, v12, v13, some (.int x14), some v, v16, v17, v18] ∧
    ((v = .non ∧ ∀ j e, j < i → es[j]? = some e → hitOf x9 x10 x14 e = false) ∨ ∃ e q, e ∈ es ∧ hitOf x9 x10 x14 e = true ∧ v = .ref q ∧ H' q = some (.tup (e.1.map V.int)))) ?_ ?_ ?_ ?_
  · refine ⟨upd_same, fun b o e hb => ?_, v7, .non, rfl, .inl ⟨rfl, fun j e hj => absurd hj (Nat.not_lt_zero _)⟩⟩
    have hbd : b ≠ dt := fun z => hb (by simp [z])
    rw [upd_ne hbd]
    exact e
  · exact fun i σ' H' _ h => h.1
  · rintro i x σ' H1 H' hi ⟨hl, hb, v7', v, rfl, hv⟩ ⟨rfl, k0, vv, q, hkv, rfl, hq⟩
    obtain ⟨e, t, he, rfl, rfl, ht⟩ := rows_at hrow hkv
    obtain ⟨t', hv', ht2⟩ := val_row hrow nd (List.mem_of_getElem? he)
    have ntd : t' ≠ dt := ne_of ht2 hd fun z => nomatch z
    have ht' : H' t' = some (.tup [.int e.2.1, .int e.2.2]) := hb t' _ ht2 (by simp [ntd])
    have he4 : e.1.length = 4 := g.four e (List.mem_of_getElem? he)
    have hqi : H' q = some (.tup (e.1.map V.int)) := by rw [← keyOf_kV]; exact hq
    refine ⟨_, rfl, _, rfl, q, _, rfl, SqT.of hqi, not_whole he4, fun t1 hn1 => ?_⟩
    have u1 : Same H' (upd H' t1 (.tup (cutV (e.1.map V.int) (some 2) none))) := same_new hn1
    refine ⟨_, rfl, _, rfl, (by show 2 ≤ sizeLine; decide), fun t3 hn3 => ?_⟩
    have u3 := u1.trans (same_new (o := .tup [V.int x9, V.int x10]) hn3)
    have n13 : t1 ≠ t3 := ne_of_none upd_same hn3
    refine ⟨.tuple ((e.1.drop 2).map PyData.int), .tuple ([x9, x10].map PyData.int), .tup (xs := (e.1.drop 2).map V.int) (SqT.of (by rw [upd_ne n13, upd_same, cut2 he4])) (dp_ints _), .tup (xs := [x9, x10].map V.int) (SqT.of (by rw [upd_same]; rfl)) (dp_ints [x9, x10]), shaped_tup_ints _, shaped_tup_ints [x9, x10], _, rfl, ?_⟩
    rw [eqv_tups]
    generalize hHx : upd (upd H' t1 (.tup (cutV (e.1.map V.int) (some 2) none))) t3 (.tup [V.int x9, V.int x10]) = Hx at u3 ⊢
    have hb3 : But [dt] H Hx := fun b o z hbd => u3 _ _ (hb b o z hbd)
    have next : hitOf x9 x10 x14 e = false → ((v = .non ∧ ∀ j e, j < i + 1 → es[j]? = some e → hitOf x9 x10 x14 e = false) ∨ ∃ e q, e ∈ es ∧ hitOf x9 x10 x14 e = true ∧ v = .ref q ∧ Hx q = some (.tup (e.1.map V.int))) := fun hf => by
      rcases hv with ⟨h1, h2⟩ | ⟨e2, q2, h1, h2, h3, h4⟩
      · refine .inl ⟨h1, fun j e' hj he' => ?_⟩
        rcases Nat.lt_succ_iff_lt_or_eq.mp hj with z | z
        · exact h2 j e' z he'
        · rw [z, he] at he'
          cases he'
          exact hf
      · exact .inr ⟨e2, q2, h1, h2, h3, u3 _ _ h4⟩
    show (if decide (e.1.drop 2 = [x9, x10]) = true then _ else _)
    by_cases hc : e.1.drop 2 = [x9, x10]
    · rw [decide_eq_true hc]
      refine iteT ⟨_, rfl, _, rfl, dt, _, rfl, dget_lock (u3 _ _ hl) (u3 _ _ hq) hv', t', _, _, _, rfl, rfl, SqT.of (u3 _ _ ht'), atI_nat (j := 0) rfl, _, rfl, rfl, _, rfl, ?_⟩
      by_cases hc2 : e.2.1 = x14
      · have ev : decide (V.int e.2.1 = V.int x14) = true := by rw [hc2]; simp
        rw [ev]
        refine iteT ⟨_, rfl, u3 _ _ hl, hb3, _, _, rfl, .inr ⟨e, q, List.mem_of_getElem? he, hit_iff.mpr ⟨hc2, hc⟩, rfl, u3 _ _ hqi⟩⟩
      · have ev : decide (V.int e.2.1 = V.int x14) = false := decide_eq_false fun y => hc2 (V.int.inj y)
        rw [ev]
        exact iteF ⟨u3 _ _ hl, hb3, _, _, rfl, next (by unfold hitOf; simp [hc2])⟩
    · rw [decide_eq_false hc]
      exact iteF (iteF ⟨u3 _ _ hl, hb3, _, _, rfl, next (by unfold hitOf; simp [hc])⟩)
  · rintro σ' H1 ⟨hl, hb, v7', v, rfl, hv⟩
    refine ⟨hl, ?_⟩
    have sm1 : Same H (upd H1 dt (.dT kvs)) := fun b o e => by
      by_cases z : b = dt
      · rw [z, upd_same, ← hd, ← z]; exact e
      · rw [upd_ne z]; exact hb b o e (by simp [z])
    refine k _ v7' v sm1 ?_
    rcases hv with ⟨h1, h2⟩ | ⟨e2, q2, h1, h2, h3, h4⟩
    · refine .inl ⟨h1, fun e he => ?_⟩
      obtain ⟨j, hj⟩ := List.mem_iff_getElem?.mp he
      exact h2 j e (by rw [hlk]; exact (List.getElem?_eq_some_iff.mp hj).1) hj
    · refine .inr ⟨e2, q2, h1, h2, h3, ?_⟩
      rw [upd_ne (fun z => by rw [z, hl] at h4; cases h4)]
      exact h4
/-- told = own.inward(..) -/
theorem blk_told (hr : Room 4 (AL A s f cdv)) (L : Hlp P w K mg base C) : ∃ t, PS (XL P w K mg base f cdv A outer s H0 E) (stAt bodyB 3) t ∧
    ∀ (D : Ends) (v0 v1 v2 v4 v6 v7 v8 v11 v13 v15 v16 v17 v18 : Option V) (H : Hp) (a b p d dt ti rt : Addr) (ns zs : List Int) (es0 es es' : List Row) (now x9 x10 x14 : Int) (res : Option (Int × List Int)), Mid C H a b p d dt ti ns es0 es → Good es0 →
      H rt = some (.tup (zs.map V.int)) → zs.length ≤ 5 → inOf es0 x9 (x10 :: x14 :: zs) now = (res, es') →
      (∀ d' H' v, Mid C H' a b p d' dt ti ns es' es → (∀ t xs, H t = some (.tup xs) → H' t = some (.tup xs)) → ResIn H' v res → D.nx [v0, v1, v2, some (.ref p), v4, some (.int now), v6, v7, v8, some (.int x9), some (.int x10), v11, some (.ref rt), v13, some (.int x14), v15, some v, v17, v18] H') →
      t D [v0, v1, v2, some (.ref p), v4, some (.int now), v6, v7, v8, some (.int x9), some (.int x10), v11, some (.ref rt), v13, some (.int x14), v15, v16, v17, v18] H := by
  have hr2 : Room 2 (AL A s f cdv) := hr.mono (by decide)
  refine ⟨_, ps_set (i := 16) scL.nd rfl (Or.inl rfl) (pe_mt L.inw hr2 (pv 3) (pa_cons (pv 9) (pa_cons (pe_op op_catT (pe_tup (pa_cons (pv 10) (pa_cons (pv 14) pa_nil))) (pv 12)) (pa_cons (pv 5) pa_nil)))), ?_⟩
  intro D v0 v1 v2 v4 v6 v7 v8 v11 v13 v15 v16 v17 v18 H a b p d dt ti rt ns zs es0 es es' now x9 x10 x14 res R g hrt hzl eo k
  obtain ⟨⟨m, dx, ti1, h1, h2⟩, _⟩ := id R.tr
  refine ⟨_, rfl, p, dx, _, rfl, h1, (by kernel_rfl), _, rfl, ?_⟩
  refine ⟨_, rfl, _, rfl, (by show 2 ≤ sizeLine; decide), fun t1 hn1 => ?_⟩
  have u1 := same_new (o := .tup [V.int x10, V.int x14]) hn1
  refine ⟨_, rfl, rCat_of upd_same (u1 _ _ hrt) (fun z => by cases z) (by rw [List.length_map]; show 2 + zs.length ≤ 1000; omega) fun bt H2 u2 hbt => ?_⟩
  have u12 := u1.trans u2
  have R2 := R.same u12
  refine ⟨_, rfl, p, d, bt, x9, now, x10 :: x14 :: zs, [1, 3], es0, rfl, R2.tr, by have := g.len; omega, g.four, hbt, by show zs.length + 1 + 1 ≤ 1000; omega, fun d' H3 v hd' b3 tr3 hres => ?_⟩
  rw [eo] at tr3 hres
  have R3 := R2.trNew b3 hd' tr3
  refine k d' H3 v R3 (fun t xs e => b3 _ _ (u12 _ _ e) ?_) hres
  have : t ≠ p := ne_of e h1 fun z => nomatch z
  simp [this]
/-- if told != (..): return False -/
theorem blk_cmp (hr : Room 4 (AL A s f cdv)) : ∃ t, PS (XL P w K mg base f cdv A outer s H0 E) (stAt bodyB 4) t ∧
    ∀ (D : Ends) (v0 v1 v2 v3 v4 v5 v6 v7 v8 v9 v11 v13 v14 v17 v18 : Option V) (H : Hp) (rt : Addr) (zs : List Int) (x10 : Int) (v15 v16 : V), H rt = some (.tup (zs.map V.int)) → zs.length ≤ 5 →
      ((v15 = .non ∧ v16 = .non) ∨ ∃ (q : Addr) (kk : List Int), v15 = .ref q ∧ kk.length = 4 ∧ H q = some (.tup (kk.map V.int)) ∧ ResIn H v16 (some (kk.getD 0 0, x10 :: kk.getD 1 0 :: zs))) →
      (∀ H', Same H H' → D.nx [v0, v1, v2, v3, v4, v5, v6, v7, v8, v9, some (.int x10), v11, some (.ref rt), v13, v14, some v15, some v16, v17, v18] H') →
      t D [v0, v1, v2, v3, v4, v5, v6, v7, v8, v9, some (.int x10), v11, some (.ref rt), v13, v14, some v15, some v16, v17, v18] H := by
  refine ⟨_, ps_if (pt_cmpR (op_neD hr.units) (pv 16) (pe_ifExp (pt_cmpR op_isN (pv 15) pe_non (nomark _)) pe_non
    (pe_tup (pa_cons (pe_ix ix_tup (pv 15) pe_int (fun _ _ => rfl)) (pa_cons (pe_op op_catT (pe_tup (pa_cons (pv 10) (pa_cons (pe_ix ix_tup (pv 15) pe_int (fun _ _ => rfl)) pa_nil))) (pv 12)) pa_nil)))) (nomark _)) (pss_one (ps_ret pe_bl)) pss_nil, ?_⟩
  intro D v0 v1 v2 v3 v4 v5 v6 v7 v8 v9 v11 v13 v14 v17 v18 H rt zs x10 v15 v16 hrt hzl hv k
  rcases hv with ⟨rfl, rfl⟩ | ⟨q, kk, rfl, h4, hq, ht⟩
  · refine ⟨_, rfl, _, rfl, rfl, _, rfl, ?_⟩
    refine iteT ?_
    refine ⟨.none, .none, .non, .non, by simp [SeqAt.shaped, PyData.canLay0, PyData.depth], by simp [SeqAt.shaped, PyData.canLay0, PyData.depth], _, rfl, ?_⟩
    have e : PyData.eqv .none .none = true := by simp [PyData.eqv]
    rw [e]
    exact iteF (k H (Same.refl _))
  · obtain ⟨t, t', rfl, ht1, ht2⟩ := ht
    obtain ⟨a1, a2, a3, a4, rfl⟩ : ∃ a1 a2 a3 a4, kk = [a1, a2, a3, a4] := by
      match kk, h4 with
      | [a, b, c, d], _ => exact ⟨a, b, c, d, rfl⟩
    refine ⟨_, rfl, _, rfl, rfl, _, rfl, ?_⟩
    refine iteF ?_
    refine ⟨_, rfl, q, _, _, _, rfl, rfl, SqT.of hq, atI_nat (j := 0) rfl, ?_⟩
    refine ⟨_, rfl, _, rfl, q, _, _, _, rfl, rfl, SqT.of hq, atI_nat (j := 1) rfl, (by show 2 ≤ sizeLine; decide), fun t3 hn3 => ?_⟩
    have u3 := same_new (o := .tup [V.int x10, V.int a2]) hn3
    refine ⟨_, rfl, rCat_of upd_same (u3 _ _ hrt) (fun z => by cases z) (by rw [List.length_map]; show 2 + zs.length ≤ 1000; omega) fun ct H5 u5 hct => ?_⟩
    have u35 := u3.trans u5
    refine ⟨(by show 2 ≤ sizeLine; decide), fun t6 hn6 => ?_⟩
    have u6 := same_new (o := .tup [V.int a1, V.ref ct]) hn6
    have u36 := u35.trans u6
    refine ⟨.tuple [.int a1, .tuple ((x10 :: a2 :: zs).map PyData.int)], .tuple [.int a1, .tuple ((x10 :: a2 :: zs).map PyData.int)],
      .tup (xs := [.int a1, .ref t']) (SqT.of (u36 _ _ ht1)) (.cons (.int _) (.cons (.tup (xs := (x10 :: a2 :: zs).map V.int) (SqT.of (u36 _ _ ht2)) (dp_ints _)) .nil)),
      .tup (xs := [.int a1, .ref ct]) (SqT.of upd_same) (.cons (.int _) (.cons (.tup (xs := (x10 :: a2 :: zs).map V.int) (SqT.of (u6 _ _ hct)) (dp_ints _)) .nil)), shaped_pair _ _, shaped_pair _ _, _, rfl, ?_⟩
    rw [eqv_pair]
    exact iteF (k _ u36)
/-- if due is not None: table[due] = (at, now) -/
theorem blk_put (hr : Room 4 (AL A s f cdv)) : ∃ t, PS (XL P w K mg base f cdv A outer s H0 E) (stAt bodyB 5) t ∧
    ∀ (D : Ends) (v0 v1 v2 v3 v6 v7 v8 v9 v10 v11 v12 v13 v16 v17 v18 : Option V) (H : Hp) (a b p d dt ti : Addr) (ns : List Int) (es0 es : List Row) (now x14 : Int) (v15 : V), Mid C H a b p d dt ti ns es0 es → Good es →
      ((v15 = .non ∧ es0 = es) ∨ ∃ (q : Addr) (kk : List Int), v15 = .ref q ∧ H q = some (.tup (kk.map V.int)) ∧ es0 = put es kk (x14, now)) →
      (∀ H', Mid C H' a b p d dt ti ns es0 es0 → D.nx [v0, v1, v2, v3, some (.ref dt), some (.int now), v6, v7, v8, v9, v10, v11, v12, v13, some (.int x14), some v15, v16, v17, v18] H') →
      t D [v0, v1, v2, v3, some (.ref dt), some (.int now), v6, v7, v8, v9, v10, v11, v12, v13, some (.int x14), some v15, v16, v17, v18] H := by
  have hu := hu_of hr
  refine ⟨_, ps_if (pt_cmpR op_notN (pv 15) pe_non (nomark _)) (pss_one (ps_dput hu (pv 4) (pv 15) (pe_tup (pa_cons (pv 14) (pa_cons (pv 5) pa_nil))) rfl)) pss_nil, ?_⟩
  intro D v0 v1 v2 v3 v6 v7 v8 v9 v10 v11 v12 v13 v16 v17 v18 H a b p d dt ti ns es0 es now x14 v15 R g hv k
  rcases hv with ⟨rfl, rfl⟩ | ⟨q, kk, rfl, hq, rfl⟩
  · exact ⟨_, rfl, rfl, _, rfl, iteF (k H R)⟩
  · obtain ⟨⟨kvs, hd, hrow⟩, nd⟩ := R.tab
    have hlk : kvs.length = es.length := Paired.length hrow
    have gl := g.len
    have hk' : H q = some (.tup ((keyOf kk).map kV)) := by rw [keyOf_kV]; exact hq
    refine ⟨_, rfl, rfl, _, rfl, ?_⟩
    refine iteT ?_
    refine ⟨_, rfl, _, rfl, (by show 2 ≤ sizeLine; decide), fun t2 ht2 => ?_⟩
    have u := same_new (o := .tup [V.int x14, V.int now]) ht2
    refine ⟨_, rfl, _, rfl, dt, _, rfl, DPut.t (k := keyOf kk) (u _ _ hd) (u _ _ hk') (small1000 (by omega)), ?_⟩
    obtain ⟨b1, t1⟩ := tab_put hd hrow nd kk x14 now ht2
    exact k _ (R.tabPut b1 t1)
end
end T35
namespace T35
open PySem PySem.Spec PyProof.Rows L2 E8
def intsOf (es : List Row) : List (List L2.Key × V) := (tabOf es).map fun q => (q.1, V.int q.2)
theorem intsOf_keys (es : List Row) : (intsOf es).map (·.1) = es.map fun e => keyOf e.1 := by
  unfold intsOf tabOf
  rw [List.map_map, List.map_map]
  rfl
theorem intsOf_len (es : List Row) : (intsOf es).length = es.length := by
  unfold intsOf tabOf
  rw [List.length_map, List.length_map]
theorem intsOf_snoc {es : List Row} {i : Nat} {e : Row} (he : es[i]? = some e) : intsOf (es.take (i + 1)) = intsOf (es.take i) ++ [(keyOf e.1, V.int e.2.1)] := by
  have et : es.take (i + 1) = es.take i ++ [e] := by rw [List.take_add_one, he]; rfl
  rw [et]
  unfold intsOf tabOf
  rw [List.map_append, List.map_append]
  rfl
def LoopSt (C a b p ti : Addr) (ns : List Int) (σ : L2.St) (H : Hp) : Prop := ∃ (d dt : Addr) (es : List Row) (now : Int) (v0 v6 v7 v8 v9 v10 v11 v12 v13 v14 v15 v16 v17 v18 : Option V),
  σ = [v0, some (.ref a), some (.ref ti), some (.ref p), some (.ref dt), some (.int now), v6, v7, v8, v9, v10, v11, v12, v13, v14, v15, v16, v17, v18] ∧ Mid C H a b p d dt ti ns es es ∧ Good es
section
variable {P : Program} {w : World} {K : PySem.W.Frag} {mg : Str → Option Value} {base : Heap} {f : Addr} {cdv : Value} {A : Around} {outer : List Env} {s : Shared} {H0 : Hp} {E : XK} {C : Addr}
/-- if own.table() != dict([..]): return False -/
theorem blk_same (hr : Room 4 (AL A s f cdv)) (W : TxtW mg) (L : Hlp P w K mg base C) : ∃ t, PS (XL P w K mg base f cdv A outer s H0 E) (stAt loopBody 6) t ∧
    ∀ (D : Ends) (v0 v1 v2 v5 v6 v7 v8 v9 v10 v11 v12 v13 v14 v15 v16 v17 v18 : Option V) (H : Hp) (a b p d dt ti : Addr) (ns : List Int) (es : List Row), Mid C H a b p d dt ti ns es es → Good es →
      (∀ H', Mid C H' a b p d dt ti ns es es → D.nx [v0, v1, v2, some (.ref p), some (.ref dt), v5, v6, v7, v8, v9, v10, v11, v12, v13, v14, v15, v16, v17, v18] H') →
      t D [v0, v1, v2, some (.ref p), some (.ref dt), v5, v6, v7, v8, v9, v10, v11, v12, v13, v14, v15, v16, v17, v18] H := by
  have hu := hu_of hr
  have hr1 : Room 1 (AL A s f cdv) := hr.mono (by decide)
  refine ⟨_, ps_if (pt_cmpR (op_neT hu) (pe_mt0 L.tab hr1 (pv 3)) (pe_callTy (call_dictPT rfl hr.units) (by rfl) W.dict (by decide +kernel) (pa_cons (pe_lock (pe_lc rfl scL.nd (pi_keys (pv 4)) (blkOk_by (own := [("key", 7)]) (N := nL) (sc := defScope sLaw) (by decide +kernel))
    (fun _ _ _ _ _ => pg_name (i := 7) scL.nd rfl (Or.inl rfl)) (fun _ _ _ _ _ => pts_nil)
    (fun _ _ _ _ _ => pe_tup (pa_cons (pv 7) (pa_cons (pe_ix (ix_tupK (K := K) rfl) (pe_dget hu (pv 4) (pv 7) (fun _ _ => rfl)) pe_int (fun _ _ => rfl)) pa_nil))))) pa_nil)) (nomark _)) (pss_one (ps_ret pe_bl)) pss_nil, ?_⟩
  intro D v0 v1 v2 v5 v6 v7 v8 v9 v10 v11 v12 v13 v14 v15 v16 v17 v18 H a b p d dt ti ns es R g k
  obtain ⟨⟨m, dx, ti1, h1, h2⟩, _⟩ := id R.tr
  have gl := g.len
  refine ⟨_, rfl, p, dx, _, rfl, h1, (by kernel_rfl), p, d, [1, 3], es, rfl, R.tr, by omega, fun tt H1 htt u1 ht1 => ?_⟩
  have R1 := R.same u1
  obtain ⟨⟨kvs, hd, hrow⟩, nd⟩ := R1.tab
  have hlk : kvs.length = es.length := Paired.length hrow
  refine ⟨dt, .dT kvs, hd, True.intro, fun od => ?_⟩
  refine ⟨_, rfl, dt, od, rfl, .inr ⟨kvs, upd_same, ?_⟩⟩
  intro D1 hD
  have nDd : D1 ≠ dt := fun z => by rw [z, upd_same] at hD; cases hD
  have hD0 : H1 D1 = none := by rw [upd_ne nDd] at hD; exact hD
  refine lc_it walk_keysT (fun i H' => H' dt = some (.frz od (.dT kvs)) ∧ But [dt] H1 H' ∧ ∃ ps, H' D1 = some (.lst (ps.map V.ref)) ∧ PairsAt H' ps (intsOf (es.take i))) ?_ ?_ ?_ ?_
  · refine ⟨by rw [upd_ne nDd.symm]; exact upd_same, fun b o e hb => ?_, [], upd_same, .nil⟩
    have hbd : b ≠ dt := fun z => hb (by simp [z])
    rw [upd_ne (ne_of_none e hD0), upd_ne hbd]
    exact e
  · exact fun i H' _ h => h.1
  · rintro i x H2 H' hi ⟨hl, hb, ps, ha, hr2⟩ ⟨rfl, kk, v, q, hkv, rfl, hq⟩
    obtain ⟨e, t, he, rfl, rfl, ht⟩ := rows_at hrow hkv
    obtain ⟨t', hv, ht2⟩ := val_row hrow nd (List.mem_of_getElem? he)
    have ntd : t' ≠ dt := ne_of ht2 hd fun z => nomatch z
    have ht' : H' t' = some (.tup [.int e.2.1, .int e.2.2]) := hb t' _ ht2 (by simp [ntd])
    have g' := dget_lock hl hq hv
    refine ⟨rfl, ?_⟩
    unfold tYes
    refine iteT ?_
    refine ⟨_, rfl, _, rfl, _, rfl, dt, _, rfl, g', t', _, _, _, rfl, rfl, SqT.of ht', atI_nat (j := 0) rfl, (by show 2 ≤ sizeLine; decide), fun p2 hp => ?_⟩
    have nDp : D1 ≠ p2 := ne_of_none ha hp
    have u : Same H' (upd H' p2 (.tup [.ref q, .int e.2.1])) := same_new hp
    have l2 : ps.length = (intsOf (es.take i)).length := Paired.length hr2
    have l3 : (intsOf (es.take i)).length ≤ es.length := by rw [intsOf_len, List.length_take]; omega
    refine ⟨_, u _ _ ha, by rw [List.length_map]; exact small1000 (by omega), ?_⟩
    have keepT : ∀ t xs, H' t = some (.tup xs) → (upd (upd H' p2 (.tup [.ref q, .int e.2.1])) D1 (.lst (ps.map V.ref ++ [V.ref p2]))) t = some (.tup xs) := fun t xs z => by
      rw [upd_ne (ne_of z ha fun y => nomatch y)]
      exact u _ _ z
    refine ⟨by rw [upd_ne nDd.symm]; exact u _ _ hl, fun b o z hbd => ?_, ps ++ [p2], by rw [upd_same, List.map_append]; rfl, ?_⟩
    · rw [upd_ne (fun y => by rw [y, hD0] at z; cases z)]
      exact u _ _ (hb b o z hbd)
    · rw [intsOf_snoc he]
      exact paired_snoc (hr2.keep keepT) ⟨q, by rw [upd_ne nDp.symm, upd_same], keepT _ _ hq⟩
  · rintro H2 ⟨hl, hb, ps, ha, hr2⟩
    refine ⟨hl, ?_⟩
    rw [hlk, List.take_length] at hr2
    have keepT : ∀ t xs, H2 t = some (.tup xs) → (upd H2 dt (.dT kvs)) t = some (.tup xs) := fun t xs z => by rw [upd_ne (fun y => by rw [y, hl] at z; cases z)]; exact z
    have sm : Same H1 (upd H2 dt (.dT kvs)) := fun b o e => by
      by_cases z : b = dt
      · rw [z, upd_same, ← hd, ← z]; exact e
      · rw [upd_ne z]; exact hb b o e (by simp [z])
    refine ⟨D1, ps, intsOf es, rfl, SqL.of (by rw [upd_ne nDd]; exact ha), Paired.length hr2, by rw [intsOf_keys]; exact keys_nd nd, (hr2.keep keepT).get, fun p2 hp => ?_⟩
    have u : Same (upd H2 dt (.dT kvs)) (upd (upd H2 dt (.dT kvs)) p2 (.dT (intsOf es))) := same_new hp
    refine ⟨tt, p2, tabOf es, rfl, rfl, u _ _ (sm _ _ ht1), upd_same, _, rfl, ?_⟩
    exact iteF (k _ (R1.same (sm.trans u)))
theorem blk_body (hr : Room 4 (AL A s f cdv)) (W : TxtW mg) (L : Hlp P w K mg base C) : ∃ t, PSs (XL P w K mg base f cdv A outer s H0 E) loopBody t ∧
    ∀ (D : Ends) (a b p ti : Addr) (ns : List Int) (σ : L2.St) (H : Hp), LoopSt C a b p ti ns σ H → (∀ σ' H', LoopSt C a b p ti ns σ' H' → D.nx σ' H') → t D σ H := by
  have hr1 : Room 1 (AL A s f cdv) := hr.mono (by decide)
  have hr3 : Room 3 (AL A s f cdv) := hr.mono (by decide)
  obtain ⟨t0, p0, b0⟩ := blk_now (P := P) (w := w) (K := K) (mg := mg) (base := base) (f := f) (cdv := cdv) (A := A) (outer := outer) (s := s) (H0 := H0) (E := E) hr L
  obtain ⟨t1, p1, b1⟩ := blk_refresh (P := P) (w := w) (K := K) (mg := mg) (base := base) (f := f) (cdv := cdv) (A := A) (outer := outer) (s := s) (H0 := H0) (E := E) hr3 W
  obtain ⟨t2, p2, b2⟩ := blk_three (P := P) (w := w) (K := K) (mg := mg) (base := base) (f := f) (cdv := cdv) (A := A) (outer := outer) (s := s) (H0 := H0) (E := E) hr L
  obtain ⟨t3, p3, b3⟩ := blk_source (P := P) (w := w) (K := K) (mg := mg) (base := base) (f := f) (cdv := cdv) (A := A) (outer := outer) (s := s) (H0 := H0) (E := E) hr L
  obtain ⟨t4, p4, b4⟩ := blk_rest (P := P) (w := w) (K := K) (mg := mg) (base := base) (f := f) (cdv := cdv) (A := A) (outer := outer) (s := s) (H0 := H0) (E := E) hr L
  obtain ⟨t6, p6, b6⟩ := blk_same (P := P) (w := w) (K := K) (mg := mg) (base := base) (f := f) (cdv := cdv) (A := A) (outer := outer) (s := s) (H0 := H0) (E := E) hr W L
  obtain ⟨ta0, pa0, ba0⟩ := blk_key (P := P) (w := w) (K := K) (mg := mg) (base := base) (f := f) (cdv := cdv) (A := A) (outer := outer) (s := s) (H0 := H0) (E := E)
  obtain ⟨ta1, pa1, ba1⟩ := blk_newkey (C := C) (P := P) (w := w) (K := K) (mg := mg) (base := base) (f := f) (cdv := cdv) (A := A) (outer := outer) (s := s) (H0 := H0) (E := E) hr W
  obtain ⟨ta2, pa2, ba2⟩ := blk_again (C := C) (P := P) (w := w) (K := K) (mg := mg) (base := base) (f := f) (cdv := cdv) (A := A) (outer := outer) (s := s) (H0 := H0) (E := E) hr
  obtain ⟨ta3, pa3, ba3⟩ := blk_out (P := P) (w := w) (K := K) (mg := mg) (base := base) (f := f) (cdv := cdv) (A := A) (outer := outer) (s := s) (H0 := H0) (E := E) hr L
  obtain ⟨tb0, pb0, bb0⟩ := blk_at (P := P) (w := w) (K := K) (mg := mg) (base := base) (f := f) (cdv := cdv) (A := A) (outer := outer) (s := s) (H0 := H0) (E := E) hr L
  obtain ⟨tb1, pb1, bb1⟩ := blk_due0 (P := P) (w := w) (K := K) (mg := mg) (base := base) (f := f) (cdv := cdv) (A := A) (outer := outer) (s := s) (H0 := H0) (E := E)
  obtain ⟨tb2, pb2, bb2⟩ := blk_for (C := C) (P := P) (w := w) (K := K) (mg := mg) (base := base) (f := f) (cdv := cdv) (A := A) (outer := outer) (s := s) (H0 := H0) (E := E) hr
  obtain ⟨tb3, pb3, bb3⟩ := blk_told (P := P) (w := w) (K := K) (mg := mg) (base := base) (f := f) (cdv := cdv) (A := A) (outer := outer) (s := s) (H0 := H0) (E := E) hr L
  obtain ⟨tb4, pb4, bb4⟩ := blk_cmp (P := P) (w := w) (K := K) (mg := mg) (base := base) (f := f) (cdv := cdv) (A := A) (outer := outer) (s := s) (H0 := H0) (E := E) hr
  obtain ⟨tb5, pb5, bb5⟩ := blk_put (C := C) (P := P) (w := w) (K := K) (mg := mg) (base := base) (f := f) (cdv := cdv) (A := A) (outer := outer) (s := s) (H0 := H0) (E := E) hr
  refine ⟨_, pss_cons p0 (pss_cons p1 (pss_cons p2 (pss_cons p3 (pss_cons p4 (pss_cons (ps_if (pt_cmpR op_eq (pe_fn L.take hr1 rfl (pa_cons (pv 1) (pa_cons pe_int pa_nil))) pe_int (nomark _))
    (pss_cons pa0 (pss_cons pa1 (pss_cons pa2 (pss_one pa3)))) (pss_cons pb0 (pss_cons pb1 (pss_cons pb2 (pss_cons pb3 (pss_cons pb4 (pss_one pb5))))))) (pss_one p6)))))), ?_⟩
  rintro D a b p ti ns σ H ⟨d, dt, es0, now0, v0, v6, v7, v8, v9, v10, v11, v12, v13, v14, v15, v16, v17, v18, rfl, R0, g0⟩ k
  refine b0 _ _ _ _ _ _ _ _ _ _ _ _ _ _ _ _ _ _ H a b p d dt ti ns es0 es0 now0 R0 fun now H1 R1 => ?_
  have gl := g0.len
  refine b1 _ _ _ _ _ _ _ _ _ _ _ _ _ _ _ _ _ _ H1 dt now es0 R1.tab (by omega) fun dt' H2 hdt u2 t2' => ?_
  have R2 := R1.tabNew u2 hdt t2'
  have ges := g0.fresh now
  have hfr : fresh es0 now = fresh (fresh es0 now) now := (fresh_idem es0 now).symm
  generalize hes : fresh es0 now = es at R2 ges hfr
  refine b2 _ _ _ _ _ _ _ _ _ _ _ _ _ _ _ _ _ _ _ H2 a b p d dt' ti ns es0 es R2 fun x y z H3 hx hy hz R3 => ?_
  refine b3 _ _ _ _ _ _ _ _ _ _ _ _ _ _ _ _ _ _ H3 a b p d dt' ti ns es0 es R3 fun sr H4 hsr R4 => ?_
  refine b4 _ _ _ _ _ _ _ _ _ _ _ _ _ _ _ _ _ _ _ H4 a b p d dt' ti ns es0 es R4 fun rt zs H5 hzl hrt R5 => ?_
  refine ⟨_, rfl, a, b, ns, 2, rfl, R5.dr, by decide, by decide, fun r H6 hr0 hr1 hb6 dr6 => ?_⟩
  have R6 := R5.draw hb6 dr6
  have nra : ∀ t xs, H5 t = some (.tup xs) → H6 t = some (.tup xs) := fun t xs e => hb6 _ _ e (by
    obtain ⟨⟨⟨j, rest, seed, h1, _⟩, _⟩, _⟩ := R5
    have : t ≠ a := ne_of e h1 fun z => nomatch z
    simp [this])
  have hrt6 := nra _ _ hrt
  -- what comes last
  have fin : ∀ (d' : Addr) (es' : List Row) (w7 w8 w9 w10 w11 w12 w13 w14 w15 w16 : Option V) (H7 : Hp), Mid C H7 a b p d' dt' ti ns es' es' → Good es' →
      t6 D [v0, some (.ref a), some (.ref ti), some (.ref p), some (.ref dt'), some (.int now), v6, w7, w8, w9, w10, w11, w12, w13, w14, w15, w16, v17, v18] H7 := fun d' es' w7 w8 w9 w10 w11 w12 w13 w14 w15 w16 H7 R7 g7 => by
    refine b6 _ _ _ _ _ _ _ _ _ _ _ _ _ _ _ _ _ _ H7 a b p d' dt' ti ns es' R7 g7 fun H8 R8 => k _ _ ?_
    exact ⟨d', dt', es', now, v0, v6, w7, w8, w9, w10, w11, w12, w13, w14, w15, w16, v17, v18, rfl, R8, g7⟩
  refine ⟨rfl, _, rfl, ?_⟩
  refine ite2 (fun _ => ?_) (fun _ => ?_)
  · refine ba0 _ _ _ _ _ _ _ _ _ _ _ _ _ _ _ _ H6 x y z sr fun kt H7 u7 hkt => ?_
    have R7 := R6.same u7
    have hkk : [sr, x, y, z] ∈ allKeys := mem_allKeys hsr hx hy hz
    refine ba1 _ _ _ _ _ _ _ _ _ _ _ _ _ _ _ _ _ H7 a b p d dt' ti kt ns es0 es now [sr, x, y, z] R7 ges hkt hkk fun H8 v13' es' q R8 g8 bt8 hq hpo => ?_
    obtain ⟨⟨kvs7, hd7, _⟩, _⟩ := R7.tab
    have kp8 : ∀ t xs, H7 t = some (.tup xs) → H8 t = some (.tup xs) := fun t xs e => bt8 _ _ e (by
      have : t ≠ dt' := ne_of e hd7 fun z => nomatch z
      simp [this])
    refine ba2 _ _ _ _ _ _ _ _ _ _ _ _ _ _ _ _ _ H8 a b p d dt' ti kt ns es0 es' now [sr, x, y, z] q R8 g8 (kp8 _ _ hkt) hq fun H9 R9 bt9 => ?_
    obtain ⟨⟨kvs8, hd8, _⟩, _⟩ := R8.tab
    have kp9 : ∀ t xs, H8 t = some (.tup xs) → H9 t = some (.tup xs) := fun t xs e => bt9 _ _ e (by
      have : t ≠ dt' := ne_of e hd8 fun z => nomatch z
      simp [this])
    have eo : outOf es0 y sr (x :: z :: zs) now = (some (q.1 :: z :: zs), put es' [sr, x, y, z] (q.1, now)) := by
      show (match portOf (fresh es0 now) [sr, x, y, z] now with | none => _ | some (z, es') => _) = _
      rw [hes, hpo]
    refine ba3 _ _ _ _ _ _ _ _ _ _ _ H9 a b p d dt' ti kt rt ns zs es0 _ now x y z sr [sr, x, y, z] (q.1, now) R9 g0 (kp9 _ _ (kp8 _ _ hkt)) (look_put g8.nd _ _) (kp9 _ _ (kp8 _ _ (u7 _ _ hrt6))) hzl eo fun d' H10 R10 => ?_
    exact fin _ _ _ _ _ _ _ _ _ _ _ _ _ R10 (g8.again hq now)
  · refine bb0 _ _ _ _ _ _ _ _ _ _ _ _ _ _ _ _ _ _ _ H6 a b p d dt' ti ns es0 es R6 fun at' H7 hb7 R7 => ?_
    refine bb1 _ _ _ _ _ _ _ _ _ _ _ _ _ _ _ _ _ _ _ _ _ ?_
    refine bb2 _ _ _ _ _ _ _ _ _ _ _ _ _ _ _ H7 a b p d dt' ti ns es0 es y z at' R7 ges fun H8 v7' dv u8 hdue => ?_
    have R8 := R7.same u8
    have nra7 : ∀ t xs, H6 t = some (.tup xs) → H7 t = some (.tup xs) := fun t xs e => hb7 _ _ e (by
      obtain ⟨⟨⟨j, rest, seed, h1, _⟩, _⟩, _⟩ := R6
      have : t ≠ a := ne_of e h1 fun z => nomatch z
      simp [this])
    have hrt8 := u8 _ _ (nra7 _ _ hrt6)
    rcases hdue with ⟨rfl, hno⟩ | ⟨e, q, he, hit, rfl, hq⟩
    · refine bb3 _ _ _ _ _ _ _ _ _ _ _ _ _ _ H8 a b p d dt' ti rt ns zs es0 es es now y z at' none R8 g0 hrt8 hzl (inOf_none hes hno) fun d' H9 v R9 kp9 hres => ?_
      refine bb4 _ _ _ _ _ _ _ _ _ _ _ _ _ _ _ _ H9 rt zs z .non v (kp9 _ _ hrt8) hzl (.inl ⟨rfl, hres⟩) fun H10 u10 => ?_
      refine bb5 _ _ _ _ _ _ _ _ _ _ _ _ _ _ _ _ H10 a b p d' dt' ti ns es es now at' .non (R9.same u10) ges (.inl ⟨rfl, rfl⟩) fun H11 R11 => ?_
      exact fin _ _ _ _ _ _ _ _ _ _ _ _ _ R11 ges
    · refine bb3 _ _ _ _ _ _ _ _ _ _ _ _ _ _ H8 a b p d dt' ti rt ns zs es0 es _ now y z at' _ R8 g0 hrt8 hzl (inOf_hit ges hes he hit) fun d' H9 v R9 kp9 hres => ?_
      refine bb4 _ _ _ _ _ _ _ _ _ _ _ _ _ _ _ _ H9 rt zs z (.ref q) v (kp9 _ _ hrt8) hzl (.inr ⟨q, e.1, rfl, ges.four e he, kp9 _ _ hq, hres⟩) fun H10 u10 => ?_
      refine bb5 _ _ _ _ _ _ _ _ _ _ _ _ _ _ _ _ H10 a b p d' dt' ti ns _ es now at' (.ref q) (R9.same u10) ges (.inr ⟨q, e.1, rfl, u10 _ _ (kp9 _ _ hq), rfl⟩) fun H11 R11 => ?_
      have hl := look_of_mem ges.nd (show (e.1, e.2) ∈ es from he)
      have ga := ges.again hl now
      rw [(hit_iff.mp hit).1] at ga
      exact fin _ _ _ _ _ _ _ _ _ _ _ _ _ R11 ga
end
end T35
namespace T35
open PySem PySem.Spec PyProof.Rows L2 E8
/-! ### the full table -/
def rowsN (now : Int) (n : Nat) : List Row := (List.range n).map fun (i : Nat) => ([1, 128 + (i : Int), 4, 7], 64 + (i : Int), now)
theorem rowsN_fresh (now : Int) (n : Nat) : fresh (rowsN now n) now = rowsN now n := by
  unfold fresh rowsN
  rw [List.filter_eq_self]
  intro e he
  obtain ⟨i, _, rfl⟩ := List.mem_map.mp he
  have : now - now < 1600 := by omega
  simp [this]
theorem rowsN_len (now : Int) (n : Nat) : (rowsN now n).length = n := by
  unfold rowsN
  rw [List.length_map, List.length_range]
theorem rowsN_four (now : Int) (n : Nat) : ∀ e ∈ rowsN now n, e.1.length = 4 := by
  intro e he
  obtain ⟨i, _, rfl⟩ := List.mem_map.mp he
  rfl
theorem rowsN_look (now : Int) (n : Nat) : look (rowsN now n) [1, 128 + (n : Int), 4, 7] = none := by
  rw [look_none]
  intro e he h
  obtain ⟨i, hi, rfl⟩ := List.mem_map.mp he
  have hi' := List.mem_range.mp hi
  injection h with _ h
  injection h with h _
  omega
theorem rowsN_taken (now : Int) (n : Nat) : takenOf (rowsN now n) [4, 7] = (List.range n).map fun i => (64 : Int) + (i : Nat) := by
  unfold takenOf
  have : (rowsN now n).filter (fun e => decide (e.1.drop 2 = [4, 7])) = rowsN now n := by
    rw [List.filter_eq_self]
    intro e he
    obtain ⟨i, _, rfl⟩ := List.mem_map.mp he
    rfl
  rw [this]
  unfold rowsN
  rw [List.map_map]
  rfl
def freeN (n : Nat) : List Int := ((List.range 64).map fun i => (64 : Int) + (i : Nat)).filter fun z => decide (z ∉ (List.range n).map fun i => (64 : Int) + (i : Nat))
theorem rowsN_free (now : Int) (n : Nat) : freeOf (rowsN now n) [4, 7] = freeN n := by
  unfold freeOf freeN
  rw [rowsN_taken]
theorem freeN_head : ∀ n ∈ List.range 64, (freeN n).head? = some (64 + (n : Int)) := by decide +kernel
theorem freeN_full : freeN 64 = [] := by decide +kernel
theorem rowsN_snoc (now : Int) (n : Nat) : rowsN now (n + 1) = rowsN now n ++ [([1, 128 + (n : Int), 4, 7], 64 + (n : Int), now)] := by
  unfold rowsN
  rw [List.range_succ, List.map_append]
  rfl
theorem out_room {now : Int} {n : Nat} (h : n < 64) : outOf (rowsN now n) 4 1 [128 + (n : Int), 7] now = (some [64 + (n : Int), 7], rowsN now (n + 1)) := by
  have hh := freeN_head n (List.mem_range.mpr h)
  obtain ⟨r, hr⟩ : ∃ r, freeN n = (64 + (n : Int)) :: r := by
    cases hf : freeN n with
    | nil => rw [hf] at hh; cases hh
    | cons x r => rw [hf] at hh; exact ⟨r, by rw [Option.some.inj hh]⟩
  have hl := rowsN_look now n
  have po := portOf_cons (now := now) hl ((rowsN_free now n).trans hr)
  rw [put_put, put_new _ hl, ← rowsN_snoc] at po
  show (match portOf (fresh (rowsN now n) now) [1, 128 + (n : Int), 4, 7] now with | none => _ | some (z, es') => _) = _
  rw [rowsN_fresh, po]
theorem out_full {now : Int} : outOf (rowsN now 64) 4 1 [128 + ((64 : Nat) : Int), 7] now = (none, rowsN now 64) := by
  have po := portOf_nil (now := now) (rowsN_look now 64) ((rowsN_free now 64).trans freeN_full)
  show (match portOf (fresh (rowsN now 64) now) [1, 128 + ((64 : Nat) : Int), 4, 7] now with | none => _ | some (z, es') => _) = _
  rw [rowsN_fresh, po]
theorem out_one {es : List Row} {now : Int} : outOf es 4 1 [1] now = (none, fresh es now) := rfl
theorem in_none {es : List Row} {now : Int} : inOf es 4 [] now = (none, fresh es now) := rfl
abbrev bodyF : List Stmt := forOf ((defBody sLaw).getD 7 (.Pass ⟨0, 0, 0, 0⟩))
def FullSt (C p : Addr) (now : Int) (n : Nat) (σ : L2.St) (H : Hp) : Prop := ∃ (d : Addr) (v0 v1 v2 v3 v4 v6 v7 v8 v9 v10 v11 v12 v13 v14 v15 v16 v18 : Option V),
  σ = [v0, v1, v2, v3, v4, some (.int now), v6, v7, v8, v9, v10, v11, v12, v13, v14, v15, v16, some (.ref p), v18] ∧ TrAt C H p d [1, 3] (rowsN now n)
section
variable {P : Program} {w : World} {K : PySem.W.Frag} {mg : Str → Option Value} {base : Heap} {f : Addr} {cdv : Value} {A : Around} {outer : List Env} {s : Shared} {H0 : Hp} {E : XK} {C : Addr}
theorem blk_full (hr : Room 4 (AL A s f cdv)) (L : Hlp P w K mg base C) : ∃ t, PSs (XL P w K mg base f cdv A outer s H0 E) bodyF t ∧
    ∀ (D : Ends) (p : Addr) (now : Int) (n : Nat) (v0 v1 v2 v3 v4 v6 v7 v9 v10 v11 v12 v13 v14 v15 v16 v18 : Option V) (H : Hp) (d : Addr), n ≤ 64 → TrAt C H p d [1, 3] (rowsN now n) →
      (∀ σ' H', FullSt C p now (min (n + 1) 64) σ' H' → D.nx σ' H') →
      t D [v0, v1, v2, v3, v4, some (.int now), v6, v7, some (.int (n : Int)), v9, v10, v11, v12, v13, v14, v15, v16, some (.ref p), v18] H := by
  have hr2 : Room 2 (AL A s f cdv) := hr.mono (by decide)
  refine ⟨_, pss_cons (ps_set (i := 16) scL.nd rfl (Or.inl rfl) (pe_mt L.out hr2 (pv 17) (pa_cons pe_int (pa_cons pe_int (pa_cons (pe_tup (pa_cons (pe_op op_add pe_int (pv 8)) (pa_cons pe_int pa_nil))) (pa_cons (pv 5) pa_nil))))))
    (pss_one (ps_if (pt_cmpR (op_neD hr.units) (pv 16) (pe_ifExp (pt_cmpR op_lt (pv 8) pe_int (nomark _)) (pe_tup (pa_cons (pe_op op_add pe_int (pv 8)) (pa_cons pe_int pa_nil))) pe_non) (nomark _)) (pss_one (ps_ret pe_bl)) pss_nil)), ?_⟩
  intro D p now n v0 v1 v2 v3 v4 v6 v7 v9 v10 v11 v12 v13 v14 v15 v16 v18 H d hn R k
  obtain ⟨⟨m, dx, ti1, h1, h2⟩, _⟩ := id R
  refine ⟨_, rfl, p, dx, _, rfl, h1, (by kernel_rfl), ?_⟩
  refine ⟨_, rfl, _, _, rfl, rfl, (by show 2 ≤ sizeLine; decide), fun bt hbt => ?_⟩
  have u1 := same_new (o := .tup [V.int (128 + (n : Int)), V.int 7]) hbt
  have R1 := R.keep u1
  refine ⟨_, rfl, p, d, bt, 4, 1, now, [128 + (n : Int), 7], [1, 3], rowsN now n, rfl, R1, by rw [rowsN_len]; omega, rowsN_four now n, upd_same, (by show 2 ≤ 1000; decide), fun d' H2 v hd' b2 R2 res => ?_⟩
  refine ⟨_, rfl, _, rfl, _, _, rfl, rfl, _, rfl, ?_⟩
  by_cases hlt : n < 64
  · rw [out_room hlt] at R2 res
    obtain ⟨tv, rfl, htv⟩ := res
    have e1 : decide ((n : Int) < 64) = true := decide_eq_true (by omega)
    rw [e1]
    refine iteT ?_
    refine ⟨_, rfl, _, _, rfl, rfl, (by show 2 ≤ sizeLine; decide), fun ct hct => ?_⟩
    have u3 := same_new (o := .tup [V.int (64 + (n : Int)), V.int 7]) hct
    refine ⟨.tuple ([64 + (n : Int), 7].map PyData.int), .tuple ([64 + (n : Int), 7].map PyData.int), .tup (xs := [64 + (n : Int), 7].map V.int) (SqT.of (u3 _ _ htv)) (dp_ints _), .tup (xs := [64 + (n : Int), 7].map V.int) (SqT.of upd_same) (dp_ints _), shaped_tup_ints _, shaped_tup_ints _, _, rfl, ?_⟩
    rw [eqv_tups, decide_eq_true rfl]
    refine iteF (k _ _ ?_)
    rw [show min (n + 1) 64 = n + 1 by omega]
    exact ⟨d', _, _, _, _, _, _, _, _, _, _, _, _, _, _, _, _, _, rfl, R2.keep u3⟩
  · obtain rfl : n = 64 := by omega
    rw [out_full] at R2 res
    cases (show v = .non from res)
    have e1 : decide (((64 : Nat) : Int) < 64) = false := by decide
    rw [e1]
    refine iteF ?_
    refine ⟨.none, .none, .non, .non, by simp [SeqAt.shaped, PyData.canLay0, PyData.depth], by simp [SeqAt.shaped, PyData.canLay0, PyData.depth], _, rfl, ?_⟩
    have e : PyData.eqv .none .none = true := by simp [PyData.eqv]
    rw [e]
    refine iteF (k _ _ ?_)
    exact ⟨d', _, _, _, _, _, _, _, _, _, _, _, _, _, _, _, _, _, rfl, R2⟩
theorem blk_ret (hr : Room 4 (AL A s f cdv)) (L : Hlp P w K mg base C) : ∃ t, PSs (XL P w K mg base f cdv A outer s H0 E) ((defBody sLaw).drop 8) t ∧
    ∀ (D : Ends) (p : Addr) (now : Int) (σ : L2.St) (H : Hp), FullSt C p now 64 σ H → (∀ H', D.rt (.bl true) H') → t D σ H := by
  have hr2 : Room 2 (AL A s f cdv) := hr.mono (by decide)
  have hr1 : Room 1 (AL A s f cdv) := hr.mono (by decide)
  refine ⟨_, pss_one (ps_ret (pe_and (pe_cmpR op_isN (pe_mt L.out hr2 (pv 17) (pa_cons pe_int (pa_cons pe_int (pa_cons (pe_tup (pa_cons pe_int pa_nil)) (pa_cons (pv 5) pa_nil))))) pe_non (nomark _))
    (pe_and (pe_cmpR op_isN (pe_mt L.inw hr2 (pv 17) (pa_cons pe_int (pa_cons (pe_tup pa_nil) (pa_cons (pv 5) pa_nil)))) pe_non (nomark _))
    (pe_one (pe_cmpR (op_eqD hr.units) (pe_lc rfl scL.nd (pi_tup (pe_tup (pa_cons pe_int (pa_cons pe_int (pa_cons pe_int pa_nil))))) (blkOk_by (own := [("k", 6)]) (N := nL) (sc := defScope sLaw) (by decide +kernel))
      (fun _ _ _ _ _ => pg_name (i := 6) scL.nd rfl (Or.inl rfl)) (fun _ _ _ _ _ => pts_nil) (fun _ _ _ _ _ => pe_mt L.isI hr1 (pv 17) (pa_cons (pv 6) pa_nil)))
      (pe_lst (pa_cons pe_bl (pa_cons pe_bl (pa_cons pe_bl pa_nil)))) (nomark _)))))), ?_⟩
  rintro D p now σ H ⟨d, v0, v1, v2, v3, v4, v6, v7, v8, v9, v10, v11, v12, v13, v14, v15, v16, v18, rfl, R⟩ k
  obtain ⟨⟨m, dx, ti1, h1, h2⟩, _⟩ := id R
  refine ⟨_, rfl, p, dx, _, rfl, h1, (by kernel_rfl), (by show 1 ≤ sizeLine; decide), fun bt hbt => ?_⟩
  have u1 := same_new (o := .tup [V.int 1]) hbt
  have R1 := R.keep u1
  refine ⟨_, rfl, p, d, bt, 4, 1, now, [1], [1, 3], rowsN now 64, rfl, R1, by rw [rowsN_len]; decide, rowsN_four now 64, upd_same, (by show 1 ≤ 1000; decide), fun d2 H2 v hd2 b2 R2 res => ?_⟩
  rw [out_one, rowsN_fresh] at R2 res
  cases (show v = .non from res)
  refine ⟨rfl, _, rfl, ?_⟩
  refine iteT ?_
  obtain ⟨⟨m2, dx2, ti2, g1, g2⟩, _⟩ := id R2
  refine ⟨_, rfl, p, dx2, _, rfl, g1, (by kernel_rfl), (by show 0 ≤ sizeLine; decide), fun ct hct => ?_⟩
  have u3 := same_new (o := .tup []) hct
  have R3 := R2.keep u3
  refine ⟨_, rfl, p, d2, ct, 4, now, [], [1, 3], rowsN now 64, rfl, R3, by rw [rowsN_len]; decide, rowsN_four now 64, upd_same, (by show 0 ≤ 1000; decide), fun d4 H4 v hd4 b4 R4 res => ?_⟩
  rw [in_none, rowsN_fresh] at R4 res
  cases (show v = .non from res)
  refine ⟨rfl, _, rfl, ?_⟩
  refine iteT ?_
  refine ⟨(by show 3 ≤ sizeLine; decide), fun tt htt => ?_⟩
  have u5 := same_new (o := .tup [V.int 1, V.int 2, V.int 3]) htt
  have R5 := R4.keep u5
  have ht5 : (upd H4 tt (.tup [V.int 1, V.int 2, V.int 3])) tt = some (.tup [V.int 1, V.int 2, V.int 3]) := upd_same
  generalize upd H4 tt (.tup [V.int 1, V.int 2, V.int 3]) = H5 at R5 ht5
  refine ⟨tt, rfl, ⟨_, SqT.of ht5⟩, fun D1 hD => ?_⟩
  refine lc_it (walk_tup (K := K) (a := tt) (xs := [V.int 1, V.int 2, V.int 3])) (fun i H' => H' = upd H5 D1 (.lst (([V.bl true, V.bl false, V.bl true] : List V).take i))) rfl ?_ ?_ ?_
  · rintro i H' _ rfl
    exact SqT.of (by rw [upd_ne (ne_of_none ht5 hD)]; exact ht5)
  · rintro i x H6 H' hi rfl ⟨rfl, hx⟩
    refine ⟨rfl, ?_⟩
    unfold tYes
    refine iteT ?_
    have R6 := R5.keep (same_new (o := .lst (([V.bl true, V.bl false, V.bl true] : List V).take i)) hD)
    obtain ⟨⟨m6, dx6, ti6, k1, k2⟩, _⟩ := id R6
    obtain ⟨n, rfl, hb⟩ : ∃ n : Int, x = V.int n ∧ (([V.bl true, V.bl false, V.bl true] : List V).take i) ++ [V.bl (decide (n ∈ ([1, 3] : List Int)))] = ([V.bl true, V.bl false, V.bl true] : List V).take (i + 1) := by
      have hi3 : i < 3 := hi
      match i, hi3, hx with
      | 0, _, hx => exact ⟨1, (Option.some.inj hx).symm, by decide⟩
      | 1, _, hx => exact ⟨2, (Option.some.inj hx).symm, by decide⟩
      | 2, _, hx => exact ⟨3, (Option.some.inj hx).symm, by decide⟩
    refine ⟨_, rfl, p, dx6, _, rfl, k1, (by kernel_rfl), _, rfl, p, d4, n, [1, 3], _, rfl, R6, ?_⟩
    refine ⟨_, upd_same, small1000 (by rw [List.length_take]; show min i 3 ≤ 1000; omega), ?_⟩
    rw [upd_upd, hb]
  · rintro H6 rfl
    refine ⟨(by show 3 ≤ sizeLine; decide), fun lt hlt => ?_⟩
    refine ⟨.list [.bool true, .bool false, .bool true], .list [.bool true, .bool false, .bool true], .lst (xs := [V.bl true, V.bl false, V.bl true]) (SqL.of (by rw [upd_ne (ne_of_none upd_same hlt)]; exact upd_same)) (.cons (.bl _) (.cons (.bl _) (.cons (.bl _) .nil))),
      .lst (xs := [V.bl true, V.bl false, V.bl true]) (SqL.of upd_same) (.cons (.bl _) (.cons (.bl _) (.cons (.bl _) .nil))), by decide +kernel, by decide +kernel, ?_⟩
    have e : PyData.eqv (.list [.bool true, .bool false, .bool true]) (.list [.bool true, .bool false, .bool true]) = true := by decide +kernel
    rw [e]
    exact k _
end
end T35
namespace T35
open PySem PySem.Spec PyProof.Rows L2 E8
def spLaw (K : PySem.W.Frag) : Sp := fun vs H Q _ => ∃ (a : Addr) (ns : List Int), vs = [.ref a] ∧ SqL K H a (ns.map V.int) ∧ ns.length ≤ 63 ∧ ∀ H', Q (.bl true) H'
section
variable {P : Program} {w : World} {K : PySem.W.Frag} {mg : Str → Option Value} {base : Heap}
theorem ok_law {f C : Addr} {fd : FuncData} (F : Fun K "law" "law" sLaw f fd) (W : TxtW mg) (L : Hlp P w K mg base C) : FnOk P w K mg base CX0 5 f fd ["script"] (spLaw K) := by
  refine F.ok scL (fun vs H Q E h => ?_) (fun cdv A outer s H vs Q E hr h => ?_)
  · obtain ⟨a, ns, rfl, _⟩ := h
    rfl
  · obtain ⟨sa, ns, rfl, hS, hlen, k⟩ := h
    have hr1 : Room 1 (AL A s f cdv) := hr.mono (by decide)
    have hr2 : Room 2 (AL A s f cdv) := hr.mono (by decide)
    obtain ⟨tb, pB, kB⟩ := blk_body (P := P) (w := w) (K := K) (mg := mg) (base := base) (f := f) (cdv := cdv) (A := A) (outer := outer) (s := s) (H0 := H) (E := E) hr W L
    obtain ⟨tf, pF, kF⟩ := blk_full (P := P) (w := w) (K := K) (mg := mg) (base := base) (f := f) (cdv := cdv) (A := A) (outer := outer) (s := s) (H0 := H) (E := E) hr L
    obtain ⟨te, pE, kE⟩ := blk_ret (P := P) (w := w) (K := K) (mg := mg) (base := base) (f := f) (cdv := cdv) (A := A) (outer := outer) (s := s) (H0 := H) (E := E) hr L
    refine ⟨_, pss_cons (ps_set (i := 1) scL.nd rfl (Or.inl rfl) (pe_fn L.beg hr1 rfl (pa_cons (pv 0) pa_nil)))
      (pss_cons (ps_set (i := 2) scL.nd rfl (Or.inl rfl) (pe_tup (pa_cons pe_int (pa_cons pe_int pa_nil))))
      (pss_cons (ps_set (i := 3) scL.nd rfl (Or.inl rfl) (pe_new L.new hr2 rfl (pa_cons pe_int (pa_cons (pv 2) pa_nil))))
      (pss_cons (ps_set (i := 4) scL.nd rfl (Or.inr rfl) pe_dnewT)
      (pss_cons (ps_set (i := 5) scL.nd rfl (Or.inr rfl) pe_int)
      (pss_cons (ps_for PassesOwn.never rfl (pi_range1 rfl W.range (pa_cons (pe_fn L.take hr1 rfl (pa_cons (pv 1) (pa_cons pe_int pa_nil))) pa_nil)) (pg_name (i := 6) scL.nd rfl (Or.inl rfl)) pB)
      (pss_cons (ps_set (i := 17) scL.nd rfl (Or.inr rfl) (pe_new L.new hr2 rfl (pa_cons pe_int (pa_cons (pv 2) pa_nil))))
      (pss_cons (ps_for PassesOwn.never rfl (pi_range1 rfl W.range (pa_cons pe_int pa_nil)) (pg_name (i := 8) scL.nd rfl (Or.inl rfl)) pF) pE))))))), ?_⟩
    refine ⟨_, rfl, sa, ns, rfl, hS, hlen, fun a b H1 ha0 hb0 u1 dr1 => ?_⟩
    refine ⟨(by show 2 ≤ sizeLine; decide), fun ti hti => ?_⟩
    have u2 := same_new (o := .tup [V.int 1, V.int 3]) hti
    have dr2 : DrawAt (upd H1 ti (.tup [V.int 1, V.int 3])) a b ns := dr1.keep fun x _ e => u2 x _ e
    have hti2 : (upd H1 ti (.tup [V.int 1, V.int 3])) ti = some (.tup [.int 1, .int 3]) := upd_same
    generalize upd H1 ti (.tup [V.int 1, V.int 3]) = H2 at dr2 hti2 ⊢
    refine ⟨_, rfl, fun p dx hp0 hdx0 hne => ?_⟩
    have nn : ∀ {H : Hp} {p dx : Addr} {o1 o2 : HO}, H p = none → H dx = none → Same H (upd (upd H dx o1) p o2) := fun h1 h2 x o e => by rw [upd_ne (ne_of_none e h1), upd_ne (ne_of_none e h2)]; exact e
    refine ⟨p, dx, ti, 2, [1, 3], rfl, upd_same, (nn hp0 hdx0) _ _ hti2, fun d H3 hd0 R3 b3 => ⟨rfl, ?_⟩⟩
    have kp3 : ∀ x o, H2 x = some o → H3 x = some o := fun x o e => b3 _ _ ((nn hp0 hdx0) _ _ e) (by
      have : x ≠ p := ne_of_none e hp0
      simp [this])
    have dr3 : DrawAt H3 a b ns := dr2.keep fun x _ e => kp3 x _ e
    refine fun dt hdt0 => ?_
    have u4 := same_new (o := .dT []) hdt0
    have M4 : Mid C (upd H3 dt (.dT [])) a b p d dt ti ns [] [] := ⟨dr3.keep fun x _ e => u4 x _ e, R3.keep u4, tabAt_nil upd_same, u4 _ _ (kp3 _ _ hti2), fun z => by
      obtain ⟨_, ⟨kvs, g3, _⟩, _⟩ := R3
      rw [z, g3] at hdt0; cases hdt0⟩
    generalize upd H3 dt (.dT []) = H4 at M4 ⊢
    -- the rounds
    refine ⟨_, rfl, a, b, ns, 40, rfl, M4.dr, by decide, by decide, fun r H5 hr0 hr1' hb5 dr5 => ?_⟩
    have M5 := M4.draw hb5 dr5
    refine ⟨r, rfl, by omega, by omega, ?_⟩
    refine for_it walk_range (fun _ σ' H' => LoopSt C a b p ti ns σ' H') ?_ (fun _ _ _ _ _ => trivial) ?_ ?_
    · exact ⟨d, dt, [], 1, _, _, _, _, _, _, _, _, _, _, _, _, _, _, rfl, M5, ⟨by simp, List.nodup_nil, by simp⟩⟩
    · rintro i x σ' H6 H7 hi ⟨d', dt', es, now, v0, v6, v7, v8, v9, v10, v11, v12, v13, v14, v15, v16, v17, v18, rfl, M, g⟩ ⟨rfl, rfl⟩
      refine kB _ a b p ti ns _ _ ⟨d', dt', es, now, v0, _, v7, v8, v9, v10, v11, v12, v13, v14, v15, v16, v17, v18, rfl, M, g⟩ fun σ2 H8 h => h
    · rintro σ' H6 ⟨d', dt', es, now, v0, v6, v7, v8, v9, v10, v11, v12, v13, v14, v15, v16, v17, v18, rfl, M, g⟩
      -- full = Translator(2, inside)
      refine ⟨_, rfl, fun p2 dx2 hp20 hdx20 hne2 => ?_⟩
      refine ⟨p2, dx2, ti, 2, [1, 3], rfl, upd_same, (nn hp20 hdx20) _ _ M.ins, fun d2 H7 hd20 R7 b7 => ⟨rfl, ?_⟩⟩
      refine ⟨65, rfl, by decide, by decide, ?_⟩
      refine for_it walk_range (fun i σ' H' => FullSt C p2 now (min i 64) σ' H') ?_ (fun _ _ _ _ _ => trivial) ?_ ?_
      · exact ⟨d2, _, _, _, _, _, _, _, _, _, _, _, _, _, _, _, _, _, rfl, R7⟩
      · rintro i x σ2 H8 H9 hi ⟨d9, w0, w1, w2, w3, w4, w6, w7, w8, w9, w10, w11, w12, w13, w14, w15, w16, w18, rfl, R⟩ ⟨rfl, rfl⟩
        have hi' : i < 65 := hi
        have e0 : min i 64 = i := by omega
        rw [e0] at R
        have ez : (0 : Int) + (i : Nat) = (i : Int) := by omega
        show gName 8 (V.int ((0 : Int) + (i : Nat))) _ _ _
        rw [ez]
        exact kF _ p2 now i _ _ _ _ _ _ _ _ _ _ _ _ _ _ _ _ _ d9 (by omega) R fun σ3 H10 h => h
      · intro σ2 H8 h
        exact kE _ p2 now _ _ h fun H' => k H'
end
end T35
namespace T35
open PySem PySem.Spec PyProof.Rows L2 E8
theorem all_mk {l : PySem.W.OpenLaw} {w : World} {K : PySem.W.Frag} {h : Heap} {mg : Str → Option Value} {fa C f1 f2 f3 f4 f5 f6 f7 f8 f9 f10 f11 f12 : Addr} (X : K.In h) (G : h.Ns mainGlobals mg) (hfa : mg "law" = some (.ref fa))
    {tK tF tM : _}
    {od1 an1 od2 an2 od3 an3 od4 an4 od5 an5 od6 an6 od7 an7 od8 an8 od9 an9 od10 an10 od11 an11 od12 an12 : Option Addr} {sl1 sl2 sl3 sl4 sl5 sl6 sl7 sl8 sl9 sl10 sl11 sl12 : Array (Option Value)} {oc1 kV1 dc1 pm1 cd1 ct1 oc2 kV2 dc2 pm2 cd2 ct2 oc3 kV3 dc3 pm3 cd3 ct3 oc4 kV4 dc4 pm4 cd4 ct4 oc5 kV5 dc5 pm5 cd5 ct5 oc6 kV6 dc6 pm6 cd6 ct6 oc7 kV7 dc7 pm7 cd7 ct7 oc8 kV8 dc8 pm8 cd8 ct8 oc9 kV9 dc9 pm9 cd9 ct9 oc10 kV10 dc10 pm10 cd10 ct10 oc11 kV11 dc11 pm11 cd11 ct11 oc12 kV12 dc12 pm12 cd12 ct12 : Value}
    (aC : PySem.W.nsIn K mainGlobals "Translator" = some (some (.ref C)))
    (a1 : PySem.W.findIn K (.ref C) "__init__" = some (some (.ref f1)))
    (i1 : PySem.W.isFn K (.ref f1) = true)
    (l1 : K.lookup f1 = some ⟨oc1, od1, .func (PySem.W.fnOf "__init__" "Translator.__init__" (defArgs sInit) (defBody sInit) (defScope sInit) .none kV1 dc1 pm1 an1 cd1 ct1), sl1⟩)
    (c1 : PySem.W.codeIn K cd1 "Translator.__init__" = true)
    (k1 : PySem.W.keepIn K (.ref f1) = true)
    (a2 : PySem.W.findIn K (.ref C) "is_inside" = some (some (.ref f2)))
    (i2 : PySem.W.isFn K (.ref f2) = true)
    (l2 : K.lookup f2 = some ⟨oc2, od2, .func (PySem.W.fnOf "is_inside" "Translator.is_inside" (defArgs sIs) (defBody sIs) (defScope sIs) .none kV2 dc2 pm2 an2 cd2 ct2), sl2⟩)
    (c2 : PySem.W.codeIn K cd2 "Translator.is_inside" = true)
    (k2 : PySem.W.keepIn K (.ref f2) = true)
    (a3 : PySem.W.findIn K (.ref C) "_forget" = some (some (.ref f3)))
    (i3 : PySem.W.isFn K (.ref f3) = true)
    (l3 : K.lookup f3 = some ⟨oc3, od3, .func (PySem.W.fnOf "_forget" "Translator._forget" (defArgs sForget) (defBody sForget) (defScope sForget) .none kV3 dc3 pm3 an3 cd3 ct3), sl3⟩)
    (c3 : PySem.W.codeIn K cd3 "Translator._forget" = true)
    (k3 : PySem.W.keepIn K (.ref f3) = true)
    (a4 : PySem.W.findIn K (.ref C) "_port" = some (some (.ref f4)))
    (i4 : PySem.W.isFn K (.ref f4) = true)
    (l4 : K.lookup f4 = some ⟨oc4, od4, .func (PySem.W.fnOf "_port" "Translator._port" (defArgs sPort) (defBody sPort) (defScope sPort) .none kV4 dc4 pm4 an4 cd4 ct4), sl4⟩)
    (c4 : PySem.W.codeIn K cd4 "Translator._port" = true)
    (k4 : PySem.W.keepIn K (.ref f4) = true)
    (a5 : PySem.W.findIn K (.ref C) "outward" = some (some (.ref f5)))
    (i5 : PySem.W.isFn K (.ref f5) = true)
    (l5 : K.lookup f5 = some ⟨oc5, od5, .func (PySem.W.fnOf "outward" "Translator.outward" (defArgs sOut) (defBody sOut) (defScope sOut) .none kV5 dc5 pm5 an5 cd5 ct5), sl5⟩)
    (c5 : PySem.W.codeIn K cd5 "Translator.outward" = true)
    (k5 : PySem.W.keepIn K (.ref f5) = true)
    (a6 : PySem.W.findIn K (.ref C) "inward" = some (some (.ref f6)))
    (i6 : PySem.W.isFn K (.ref f6) = true)
    (l6 : K.lookup f6 = some ⟨oc6, od6, .func (PySem.W.fnOf "inward" "Translator.inward" (defArgs sIn) (defBody sIn) (defScope sIn) .none kV6 dc6 pm6 an6 cd6 ct6), sl6⟩)
    (c6 : PySem.W.codeIn K cd6 "Translator.inward" = true)
    (k6 : PySem.W.keepIn K (.ref f6) = true)
    (a7 : PySem.W.findIn K (.ref C) "table" = some (some (.ref f7)))
    (i7 : PySem.W.isFn K (.ref f7) = true)
    (l7 : K.lookup f7 = some ⟨oc7, od7, .func (PySem.W.fnOf "table" "Translator.table" (defArgs sTable) (defBody sTable) (defScope sTable) .none kV7 dc7 pm7 an7 cd7 ct7), sl7⟩)
    (c7 : PySem.W.codeIn K cd7 "Translator.table" = true)
    (k7 : PySem.W.keepIn K (.ref f7) = true)
    (a8 : PySem.W.nsIn K mainGlobals "_law_begin" = some (some (.ref f8)))
    (l8 : K.lookup f8 = some ⟨oc8, od8, .func (PySem.W.fnOf "_law_begin" "_law_begin" (defArgs sBegin) (defBody sBegin) (defScope sBegin) .none kV8 dc8 pm8 an8 cd8 ct8), sl8⟩)
    (c8 : PySem.W.codeIn K cd8 "_law_begin" = true)
    (k8 : PySem.W.keepIn K (.ref f8) = true)
    (a9 : PySem.W.nsIn K mainGlobals "_law_take" = some (some (.ref f9)))
    (l9 : K.lookup f9 = some ⟨oc9, od9, .func (PySem.W.fnOf "_law_take" "_law_take" (defArgs sTake) (defBody sTake) (defScope sTake) .none kV9 dc9 pm9 an9 cd9 ct9), sl9⟩)
    (c9 : PySem.W.codeIn K cd9 "_law_take" = true)
    (k9 : PySem.W.keepIn K (.ref f9) = true)
    (a10 : PySem.W.nsIn K mainGlobals "_law_pick" = some (some (.ref f10)))
    (l10 : K.lookup f10 = some ⟨oc10, od10, .func (PySem.W.fnOf "_law_pick" "_law_pick" (defArgs sPick) (defBody sPick) (defScope sPick) .none kV10 dc10 pm10 an10 cd10 ct10), sl10⟩)
    (c10 : PySem.W.codeIn K cd10 "_law_pick" = true)
    (k10 : PySem.W.keepIn K (.ref f10) = true)
    (a11 : PySem.W.nsIn K mainGlobals "_law_octets" = some (some (.ref f11)))
    (l11 : K.lookup f11 = some ⟨oc11, od11, .func (PySem.W.fnOf "_law_octets" "_law_octets" (defArgs sOctets) (defBody sOctets) (defScope sOctets) .none kV11 dc11 pm11 an11 cd11 ct11), sl11⟩)
    (c11 : PySem.W.codeIn K cd11 "_law_octets" = true)
    (k11 : PySem.W.keepIn K (.ref f11) = true)
    (a12 : PySem.W.nsIn K mainGlobals "law" = some (some (.ref f12)))
    (l12 : K.lookup f12 = some ⟨oc12, od12, .func (PySem.W.fnOf "law" "law" (defArgs sLaw) (defBody sLaw) (defScope sLaw) .none kV12 dc12 pm12 an12 cd12 ct12), sl12⟩)
    (c12 : PySem.W.codeIn K cd12 "law" = true)
    (k12 : PySem.W.keepIn K (.ref f12) = true)
    (pg : PySem.W.plainGet K C Str.empty = true)
    (hd : PySem.W.hasDictIn K C = true)
    (po : PySem.W.plainOver K C = true)
    (sa : PySem.W.findIn K (.ref C) "__setattr__" = some (some (.builtin "object.__setattr__")))
    (mk : PySem.W.makesIn K C = true)
    (kc : PySem.W.keepIn K (.ref C) = true)
    (nN : PySem.W.findIn K (.ref C) "_node" = some none)
    (nI : PySem.W.findIn K (.ref C) "_inside" = some none)
    (nP : PySem.W.findIn K (.ref C) "_ports" = some none)
    (gK : PySem.W.nsIn K mainGlobals "KEPT" = some (some (.int 1600 tK)))
    (gF : PySem.W.nsIn K mainGlobals "FIRST_PORT" = some (some (.int 64 tF)))
    (gM : PySem.W.nsIn K mainGlobals "MOST_PORT" = some (some (.int 127 tM)))
    (z_range : PySem.W.nsIn K mainGlobals "range" = some none)
    (z_len : PySem.W.nsIn K mainGlobals "len" = some none)
    (z_tuple : PySem.W.nsIn K mainGlobals "tuple" = some none)
    (z_list : PySem.W.nsIn K mainGlobals "list" = some none)
    (z_int : PySem.W.nsIn K mainGlobals "int" = some none)
    (z_abs : PySem.W.nsIn K mainGlobals "abs" = some none)
    (z_dict : PySem.W.nsIn K mainGlobals "dict" = some none)
    (z_min : PySem.W.nsIn K mainGlobals "min" = some none)
    : ∃ fd : FuncData, (∀ (s : Shared) (v : Value), BindsTo s fd ⟨[v], []⟩ [("script", v)]) ∧ ∀ base : Heap, K.In base → base.Ns mainGlobals mg → FnOk l.prog w K mg base CX0 5 fa fd ["script"] (spLaw K) := by
  have e := hfa.symm.trans (PySem.W.mg_of X G a12)
  cases e
  have T : Txt K mg C := ⟨⟨pg, hd, po, sa⟩, nN, nI, nP, ⟨tK, PySem.W.mg_of X G gK⟩, ⟨tF, PySem.W.mg_of X G gF⟩, ⟨tM, PySem.W.mg_of X G gM⟩, PySem.W.mg_none_of X G z_range, PySem.W.mg_none_of X G z_len, PySem.W.mg_none_of X G z_tuple, PySem.W.mg_none_of X G z_list⟩
  have TL : TxtL mg := ⟨PySem.W.mg_none_of X G z_int, PySem.W.mg_none_of X G z_list, PySem.W.mg_none_of X G z_len, PySem.W.mg_none_of X G z_abs, PySem.W.mg_none_of X G z_tuple, PySem.W.mg_none_of X G z_range⟩
  have TW : TxtW mg := ⟨PySem.W.mg_none_of X G z_dict, PySem.W.mg_none_of X G z_min, PySem.W.mg_none_of X G z_range⟩
  have F1 := fun_mk (st := sInit) l1 c1 k1
  have b1 := F1.binds (ps := ["self", "node", "inside"]) fun _ _ _ _ _ _ us hl => match us, hl with | [_, _, _], _ => rfl
  have F2 := fun_mk (st := sIs) l2 c2 k2
  have b2 := F2.binds (ps := ["self", "node"]) fun _ _ _ _ _ _ us hl => match us, hl with | [_, _], _ => rfl
  have F3 := fun_mk (st := sForget) l3 c3 k3
  have b3 := F3.binds (ps := ["self", "now"]) fun _ _ _ _ _ _ us hl => match us, hl with | [_, _], _ => rfl
  have F4 := fun_mk (st := sPort) l4 c4 k4
  have b4 := F4.binds (ps := ["self", "key", "now"]) fun _ _ _ _ _ _ us hl => match us, hl with | [_, _, _], _ => rfl
  have F5 := fun_mk (st := sOut) l5 c5 k5
  have b5 := F5.binds (ps := ["self", "goal", "source", "body", "now"]) fun _ _ _ _ _ _ us hl => match us, hl with | [_, _, _, _, _], _ => rfl
  have F6 := fun_mk (st := sIn) l6 c6 k6
  have b6 := F6.binds (ps := ["self", "source", "body", "now"]) fun _ _ _ _ _ _ us hl => match us, hl with | [_, _, _, _], _ => rfl
  have F7 := fun_mk (st := sTable) l7 c7 k7
  have b7 := F7.binds (ps := ["self"]) fun _ _ _ _ _ _ us hl => match us, hl with | [_], _ => rfl
  have F8 := fun_mk (st := sBegin) l8 c8 k8
  have b8 := F8.binds (ps := ["script"]) fun _ _ _ _ _ _ us hl => match us, hl with | [_], _ => rfl
  have F9 := fun_mk (st := sTake) l9 c9 k9
  have b9 := F9.binds (ps := ["d", "many"]) fun _ _ _ _ _ _ us hl => match us, hl with | [_, _], _ => rfl
  have F10 := fun_mk (st := sPick) l10 c10 k10
  have b10 := F10.binds (ps := ["d", "menu"]) fun _ _ _ _ _ _ us hl => match us, hl with | [_, _], _ => rfl
  have F11 := fun_mk (st := sOctets) l11 c11 k11
  have b11 := F11.binds (ps := ["d", "most"]) fun _ _ _ _ _ _ us hl => match us, hl with | [_, _], _ => rfl
  have F12 := fun_mk (st := sLaw) l12 c12 k12
  have b12 := F12.binds (ps := ["script"]) fun _ _ _ _ _ _ us hl => match us, hl with | [_], _ => rfl
  have m1 : Meth K C "__init__" f1 := ⟨a1, i1, k1⟩
  have m2 : Meth K C "is_inside" f2 := ⟨a2, i2, k2⟩
  have m3 : Meth K C "_forget" f3 := ⟨a3, i3, k3⟩
  have m4 : Meth K C "_port" f4 := ⟨a4, i4, k4⟩
  have m5 : Meth K C "outward" f5 := ⟨a5, i5, k5⟩
  have m6 : Meth K C "inward" f6 := ⟨a6, i6, k6⟩
  have m7 : Meth K C "table" f7 := ⟨a7, i7, k7⟩
  have g8 := PySem.W.mg_of X G a8
  have g9 := PySem.W.mg_of X G a9
  have g10 := PySem.W.mg_of X G a10
  have g11 := PySem.W.mg_of X G a11
  refine ⟨PySem.W.fnOf "law" "law" (defArgs sLaw) (defBody sLaw) (defScope sLaw) .none kV12 dc12 pm12 an12 cd12 ct12, fun s v => .of_eq rfl, fun base _ _ => ?_⟩
  have CL : Cls K C := T.cl
  have L : Hlp l.prog w K mg base C := ⟨⟨_, _, ok_begin F8 TL, g8, k8, b8⟩, ⟨_, _, ok_take F9 TL, g9, k9, b9⟩, ⟨_, _, ok_pick F10 TL F9 b9 g9, g10, k10, b10⟩, ⟨_, _, ok_octets F11 TL F9 b9 g9 F10 b10 g10, g11, k11, b11⟩,
    ⟨_, _, ok_is F2 T, CL, m2, b2⟩, ⟨_, _, ok_out F5 T F3 b3 m3 F4 b4 m4, CL, m5, b5⟩, ⟨_, _, ok_in F6 T F3 b3 m3, CL, m6, b6⟩, ⟨_, _, ok_table F7 T, CL, m7, b7⟩, ⟨_, _, ok_init F1 T, ⟨mk, a1, i1, kc⟩, PySem.W.mg_of X G aC, b1⟩⟩
  exact ok_law F12 TW L
theorem walk {l : PySem.W.OpenLaw} {q : Program} {loose : List Str} {XP : (Str → Option Value) → Heap → Prop} {YP : World → Heap → Prop} {d : DefRec} {K : Params → PySem.W.Frag} (hn : l.most = some 63) (hdf : d.params.defaults = [])
    (hY : ∀ (w : World) (h : Heap), YP w h → (K w.params).In h)
    (F : ∀ (w : World) (mg : Str → Option Value) (fa : Addr) (h : Heap), (K w.params).In h → h.Ns mainGlobals mg → mg d.name = some (.ref fa) →
      ∃ fd : FuncData, (∀ (s : Shared) (u : Value), BindsTo s fd ⟨[u], []⟩ [("script", u)]) ∧ ∀ base : Heap, (K w.params).In base → base.Ns mainGlobals mg → FnOk l.prog w (K w.params) mg base CX0 5 fa fd ["script"] (spLaw (K w.params))) :
    PySem.W.WalkO q loose XP YP l.row.toRowW d [] (fun f vs => PySem.call f vs) :=
  L2.walk_of (n := 63) (k := 5) (x := "script") (CX := fun _ => CX0) (sp := fun w => spLaw (K w.params)) hn (by decide) hdf ⟨rfl, by decide, by decide⟩ hY F (fun _ _ a ns hl _ hS => ⟨a, ns, rfl, hS, hl, fun _ => rfl⟩) fun _ _ _ _ _ z => z
end T35

open PySem PySem.W PyProof.Rows in
set_option maxRecDepth 100000 in
set_option maxHeartbeats 0 in
theorem PySem.Challenge.cw_everyoctetonce_k35_ports_of_translators_holds : PySem.Challenge.rw_everyoctetonce_k35_ports_of_translators.Holds := by
  w_on; o_law; k_head; (case hw => w_witness2)
  k_fill
  refine T35.walk (l := PySem.Challenge.rw_everyoctetonce_k35_ports_of_translators) rfl rfl (fun w h Y => PySem.W.kIn_of Y) ?F
  case F =>
    intro w mg fa h KX G hmg
    refine' T35.all_mk KX G hmg ?aC ?a1 ?i1 ?l1 ?c1 ?k1 ?a2 ?i2 ?l2 ?c2 ?k2 ?a3 ?i3 ?l3 ?c3 ?k3 ?a4 ?i4 ?l4 ?c4 ?k4 ?a5 ?i5 ?l5 ?c5 ?k5 ?a6 ?i6 ?l6 ?c6 ?k6 ?a7 ?i7 ?l7 ?c7 ?k7 ?a8 ?l8 ?c8 ?k8 ?a9 ?l9 ?c9 ?k9 ?a10 ?l10 ?c10 ?k10 ?a11 ?l11 ?c11 ?k11 ?a12 ?l12 ?c12 ?k12 ?pg ?hd ?po ?sa ?mk ?kc ?nN ?nI ?nP ?gK ?gF ?gM ?z_range ?z_len ?z_tuple ?z_list ?z_int ?z_abs ?z_dict ?z_min
    (case aC => k_is)
    (case a1 => k_is)
    (case i1 => k_is)
    (case l1 => k_is)
    (case c1 => k_is)
    (case k1 => k_is)
    (case a2 => k_is)
    (case i2 => k_is)
    (case l2 => k_is)
    (case c2 => k_is)
    (case k2 => k_is)
    (case a3 => k_is)
    (case i3 => k_is)
    (case l3 => k_is)
    (case c3 => k_is)
    (case k3 => k_is)
    (case a4 => k_is)
    (case i4 => k_is)
    (case l4 => k_is)
    (case c4 => k_is)
    (case k4 => k_is)
    (case a5 => k_is)
    (case i5 => k_is)
    (case l5 => k_is)
    (case c5 => k_is)
    (case k5 => k_is)
    (case a6 => k_is)
    (case i6 => k_is)
    (case l6 => k_is)
    (case c6 => k_is)
    (case k6 => k_is)
    (case a7 => k_is)
    (case i7 => k_is)
    (case l7 => k_is)
    (case c7 => k_is)
    (case k7 => k_is)
    (case a8 => k_is)
    (case l8 => k_is)
    (case c8 => k_is)
    (case k8 => k_is)
    (case a9 => k_is)
    (case l9 => k_is)
    (case c9 => k_is)
    (case k9 => k_is)
    (case a10 => k_is)
    (case l10 => k_is)
    (case c10 => k_is)
    (case k10 => k_is)
    (case a11 => k_is)
    (case l11 => k_is)
    (case c11 => k_is)
    (case k11 => k_is)
    (case a12 => k_is)
    (case l12 => k_is)
    (case c12 => k_is)
    (case k12 => k_is)
    (case pg => k_is)
    (case hd => k_is)
    (case po => k_is)
    (case sa => k_is)
    (case mk => k_is)
    (case kc => k_is)
    (case nN => k_is)
    (case nI => k_is)
    (case nP => k_is)
    (case gK => k_is)
    (case gF => k_is)
    (case gM => k_is)
    (case z_range => k_is)
    (case z_len => k_is)
    (case z_tuple => k_is)
    (case z_list => k_is)
    (case z_int => k_is)
    (case z_abs => k_is)
    (case z_dict => k_is)
    (case z_min => k_is)
#print axioms PySem.Challenge.cw_everyoctetonce_k35_ports_of_translators_holds
