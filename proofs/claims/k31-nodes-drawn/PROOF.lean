import PyProof.Rows.All
import Wide.All
import OpenK.AllK
import Wide.FinOn
import HandS.ForMost
import HandS.Exc
import HandS.IsInst
import HandS.Wide
import HandS.Strs
import HandS.Conv
import HandS.Deep
import HandS.Walk
import PySem.Challenge.RW_rungworks_k31_nodes_drawn
set_option Elab.async false
set_option maxRecDepth 100000
set_option maxHeartbeats 40000000
/-! Rules of my own over the hand layer. -/
namespace RW
open PySem L2 PySem.Spec PyProof.Rows

/-! ### one expression, several classes -/
theorem pe_either {X : Cx} {e : Expr} {t1 t2 : TE} (h1 : PE X e t1) (h2 : PE X e t2) : PE X e (fun σ H Q => t1 σ H Q ∨ t2 σ H Q) :=
  ⟨fun pins s σ H Q I h => h.elim (h1.run pins s σ H Q I) (h2.run pins s σ H Q I)⟩
theorem pe_some {X : Cx} {e : Expr} {ι : Type} {p : ι → Prop} {t : ι → TE} (h : ∀ c, p c → PE X e (t c)) : PE X e (fun σ H Q => ∃ c, p c ∧ t c σ H Q) :=
  ⟨fun pins s σ H Q I ⟨c, pc, q⟩ => (h c pc).run pins s σ H Q I q⟩

/-! ### xs != [], whatever stands in xs -/
def rNeNil (K : PySem.W.Frag) : R2 := fun x y H Q => ∃ p q xs, x = .ref p ∧ y = .ref q ∧ SqL K H p xs ∧ SqL K H q [] ∧ Q (.bl (!xs.isEmpty)) H
theorem op_neNil {X : Cx} (room : X.A.units < cLine) : OpR X (compareOp .NotEq) (rNeNil X.K) := by
  intro pins s σ H x y v u Q I rx ry h
  obtain ⟨p, q, xs, rfl, rfl, hp, hq, k⟩ := h
  cases rx
  cases ry
  obtain ⟨its, r, plp, _⟩ := I.list hp
  obtain ⟨jts, r2, plq, _⟩ := I.list hq
  cases r2
  cases r with
  | nil => exact SeqAt.RcNeAt.lists (e := fun _ => true) plp.isList plq.isList rfl room (fun j h1 => absurd h1 (by simp)) X.prog X.w _ _ ⟨.bl false, H, I, rfl, k⟩
  | cons a b => exact SeqAt.RcNeAt.lists_lengths plp.isList plq.isList (by simp) room X.prog X.w _ _ ⟨.bl true, H, I, rfl, k⟩

/-! ### tuple(xs), kept with its object: what a method of it asks -/
theorem call_tupleF {X : Cx} : CallR X (.type "tuple") (fun xs H Q => ∃ p ys, xs = [.ref p] ∧ SqL X.K H p ys ∧ ∀ l o, H l = none → o.dict = none → Q (.ref l) (upd H l (.frz o (.tup ys)))) := by
  intro pins s σ H xs us Q I r h
  obtain ⟨p, ys, rfl, hq, q⟩ := h
  obtain ⟨u, rfl, rx⟩ := vals1 r
  cases rx
  obtain ⟨its, rv, pl, hz⟩ := I.list hq
  have len := rv.length
  refine call_tuple_list pl.isList (fun g kp => ?_) (by simp only [List.size_toArray] <;> omega)
  have J : Inv X pins σ H { s with heap := g } := I.kept (t' := s.toks) kp
  have J2 : Inv X pins σ (upd H g.objs.size (.frz { cls := .type "tuple", data := .seq its.toArray } (.tup ys))) { s with heap := g.push { cls := .type "tuple", data := .seq its.toArray } } :=
    J.laid (t' := s.toks) (fun b o e => Heap.get?_push_of_some _ e) (Nat.le_refl _) ⟨Heap.get?_push_size _ rfl, hz, its, rv, IsTup.new _ _⟩
  exact ⟨.ref g.objs.size, _, J2, rfl, q _ _ (J.hok.fresh (Nat.le_refl _)) rfl⟩

/-! ### t.index(y), t such a tuple -/
def tTupM (r : V → List V → Hp → VK → Prop) (to : TE) (t : TA) : TE := fun σ H Q => to σ H fun x H1 => (∃ p o xs, x = .ref p ∧ H1 p = some (.frz o (.tup xs)) ∧ o.dict = none) ∧ t σ H1 fun vs H2 => r x vs H2 Q
theorem pe_tupM {X : Cx} {name : Str} {id : String} {r : V → List V → Hp → VK → Prop} {o e : Expr} {es : List Expr} {apos cpos : Pos} {to : TE} {t : TA} (pa : PlainAttrs "tuple") (slot : Slot "tuple" name id) (hty : typeOf (.builtin id) = pure (.type "method_descriptor")) (hm : MtR X id r) (ho : PE X o to) (ha : PA X (e :: es) t)
    (hbase : attributeBase o name X.env (eval o X.env) = eval o X.env := by rfl)
    (hfew : ((backTo cpos (starEach (e :: es) X.env)).all (fun z => !z.1) && (backToKw cpos (keywordEach [] X.env)).all (fun z => z.1.isSome) && decide ((e :: es).length + ([] : List Keyword).length + (if ([] : List Keyword).isEmpty then 0 else 1) < 30)) = true := by rfl)
    (hline : (apos.endLine == cpos.line) = true := by rfl) (hs : starEach (e :: es) X.env = (false, eval e X.env) :: starEach es X.env := by rfl) (hplain : (backTo cpos (starEach es X.env)).any (·.1) = false := by rfl) :
    PE X (.Call (.Attribute o name apos) (e :: es) [] cpos) (tTupM r to t) := by
  constructor
  intro pins s σ H Q I h
  refine wpAny_Call_method_late hbase hfew hline rfl (thn (ho.run pins s σ H _ I h) ?_)
  rintro v s1 ⟨x, H1, I1, r1, ⟨p, ob, xs, rfl, hp, hd⟩, q1⟩
  cases r1
  obtain ⟨hob, _, its, rv, ob2, hob2, hcl, _⟩ := I1.hok p _ hp
  rw [hob] at hob2
  cases hob2
  refine ⟨"tuple", id, pa, slot, hty, ⟨ob, hob, hcl⟩, fun a ea => ?_, ?_⟩
  · cases ea
    exact ⟨ob, hob, hd⟩
  · have hA := ha.run cpos pins s1 σ H1 _ I1 q1
    rw [hs] at hA ⊢
    refine Calls.callWith_builtin (by show (false || (backTo cpos (starEach es X.env)).any (·.1)) = false; rw [hplain] <;> rfl) (Calls.evalArgs_plain ?_)
    exact thn hA fun us s2 ⟨vs, H2, I2, r2, q2⟩ => hm pins s2 σ H2 (.ref p) vs _ us Q I2 rfl r2 q2

/-! ### d.keys() as a value, and its tuple -/
def keysV (p d : Addr) : HO := .ext fun h => PySem.W.KdlKeysView h p d
theorem mt_keys {X : Cx} : MtR X "dict.keys" (fun x xs H Q => ∃ d kvs, x = .ref d ∧ xs = [] ∧ H d = some (.dK kvs) ∧ ∀ p, H p = none → Q (.ref p) (upd H p (keysV p d))) := by
  intro pins s σ H x xs v us Q I rx rs h
  obtain ⟨d, kvs, rfl, rfl, hd, q⟩ := h
  cases rx
  cases rs
  obtain ⟨z, lo, vs, rk, dd⟩ := dk_of I.hok hd
  refine call_meetsIn PySem.F.slot_dict_keys dd.typeIs PySem.F.entry_dict_keys (PySem.F.args_dict_keys_1 _) (PySem.W.kdl_meets_keys (mixKind X.prog X.w) d lo) ⟨⟨vs, dd⟩, ?_⟩
  refine ⟨.ref s.heap.objs.size, _, I.laid (t' := s.toks) (o := keysV s.heap.objs.size d) (fun b u e => Heap.get?_push_of_some _ e) (Nat.le_refl _) ?_, rfl, q _ (I.hok.fresh (Nat.le_refl _))⟩
  have e1 : (s.heap.push { cls := .type "dict_keys", data := .fields #[.ref d] }).get? s.heap.objs.size = some { cls := .type "dict_keys", data := .fields #[.ref d] } := Heap.get?_push_size _ rfl
  exact ⟨⟨_, e1, rfl, rfl⟩, ⟨_, e1⟩, fun h1 h2 ⟨o, a, b⟩ k => ⟨o, k o a, b⟩⟩
section
variable {prog : Program} {w : World} {A : Around} {E : Value → Shared → Prop} {s : Shared} {T : String} {r d : Addr} {n : Nat} {Pi : Nat → Value → Prop} {OK : Heap → Prop}
theorem collect_src {Q : List Value → Shared → Prop} (src : PySem.W.KdlSrc prog w T r d n Pi OK) (calm : A.handled = none) (ok : OK s.heap) (few : n ≤ sizeLine)
    (fin : ∀ (g : Heap) (tk : Nat) (acc : Array Value), (∀ b o, s.heap.get? b = some o → g.get? b = some o) → ItemsOf Pi acc n → Q acc.toList { s with heap := g, toks := tk }) :
    wpAny (model prog w) A (collect (.ref r)) Q E s := by
  unfold collect
  refine wpAny_bind (wpAny_runValue (codeAny_builtin F.entry_proto_collect ?_))
  rw [Around.under_plainId F.plain_proto_collect _]
  show wpAny _ A.in1 (newList [] >>= fun z => again (.builtin "list.__iadd__" ⟨[z, .ref r], []⟩)) _ _ s
  refine wpAny_bind (wpAny_newObj_type (wpAny_pure ⟨plainId_quiet F.plain_list_iadd _, codeAny_builtin F.entry_list_iadd ?_⟩))
  rw [Around.under_plainId F.plain_list_iadd _]
  show wpAny _ A.in1 (Builtin.List.listExtendWith (.ref s.heap.objs.size) (.ref r) (.ref s.heap.objs.size)) _ _ _
  have fresh : (s.heap.push { cls := .type "list", data := .seq ([] : List Value).toArray }).get? s.heap.objs.size = some { cls := .type "list", data := .seq #[] 0 } := Heap.get?_push_size _ rfl
  have ok2 : OK (s.heap.push { cls := .type "list", data := .seq ([] : List Value).toArray }) := src.keep _ _ ok fun b _ o e => Heap.get?_push_of_some _ e
  have apart := src.there _ ok
  refine wpAny_mono (PySem.W.kdl_extend (A := A) (s := { s with heap := s.heap.push { cls := .type "list", data := .seq ([] : List Value).toArray } })
      (R := fun res s' => res = .ok (.ret (.ref s.heap.objs.size)) ∧ ∃ (g : Heap) (tk : Nat) (acc : Array Value) (c : Nat), s' = { s with heap := g, toks := tk } ∧ (∀ b o, s.heap.get? b = some o → g.get? b = some o) ∧
        g.get? s.heap.objs.size = some { cls := .type "list", dict := none, data := .seq acc c, slots := #[] } ∧ ItemsOf Pi acc n)
      src calm ok2 s.heap.objs.size (Nat.ne_of_gt apart.1) (Nat.ne_of_gt apart.2) _ 0 fresh
      (fun g tk acc c keep here items => ⟨rfl, g, tk, acc, c, rfl, fun b o e => keep b o (Nat.ne_of_lt (Heap.lt_size e)) (Heap.get?_push_of_some _ e), here, items⟩) few) (fun out s' h => ?_) (fun e s' h => ?_)
  · cases out with
    | done f =>
      obtain ⟨e, g, tk, acc, c, rfl, keep, here, items⟩ := h
      cases e
      show wpAny _ A (load s.heap.objs.size >>= _) _ _ _
      exact wpAny_bind (wpAny_load here (wpAny_pure (fin g tk acc keep items)))
    | again code =>
      refine ⟨h.1, codeAny_mono h.2 fun res s'' z => ?_⟩
      obtain ⟨rfl, g, tk, acc, c, rfl, keep, here, items⟩ := z
      show wpAny _ A (load s.heap.objs.size >>= _) _ _ _
      exact wpAny_bind (wpAny_load here (wpAny_pure (fin g tk acc keep items)))
  · exact absurd h.1 (by simp)
theorem code_tuple_src {Q : Value → Shared → Prop} (src : PySem.W.KdlSrc prog w T r d n Pi OK) (calm : A.handled = none) (ok : OK s.heap) (few : n ≤ sizeLine)
    (fin : ∀ (g : Heap) (tk : Nat) (acc : Array Value), (∀ b o, s.heap.get? b = some o → g.get? b = some o) → ItemsOf Pi acc n → Q (.ref g.objs.size) { s with heap := g.push { cls := .type "tuple", data := .seq acc }, toks := tk }) :
    codeAny (model prog w) A (.call (.builtin "tuple.__new__") ⟨[.type "tuple", .ref r], []⟩) (wants Q E) s := by
  refine codeAny_of_tree ?_
  show wpAny _ A.in1 (checkBuiltinCall "tuple.__new__" ⟨[.type "tuple", .ref r], []⟩ >>= fun _ => again (.builtin "tuple.__new__" ⟨[.type "tuple", .ref r], []⟩)) _ _ s
  refine wpAny_bind (wpAny_of_eq (F.newCall_tuple_1 _) (wpAny_pure ⟨plainId_quiet F.plain_tuple_new _, codeAny_builtin F.entry_tuple_new ?_⟩))
  rw [Around.under_plainId F.plain_tuple_new _]
  have a1 := sub_tuple_self
  have a2 := init_tuple_lookup
  have a3 := madeHere_tuple
  have a4 : s.TypeIs (.ref r) T := src.type s ok
  have a5 : A.in1.handled = none := calm
  have a6 := src.notTuple
  wp_walk using wpAny_typeOf a4, collect_src (A := A.in1) src a5 ok few
  intro g tk acc keep items
  show wpAny _ _ (Builtin.Tuple.tupleExact acc.toList.toArray >>= fun z => ret z) _ _ _
  unfold Builtin.Tuple.tupleExact
  have e : acc.toList.toArray = acc := by simp
  rw [e]
  refine wpAny_bind (wpAny_newObj_type (wpAny_pure (fin g tk acc keep items)) (by show acc.size ≤ sizeLine; rw [items.1]; exact few))
end
theorem call_tupleKeys {X : Cx} (hc : X.calm = true) : CallR X (.type "tuple") (fun xs H Q => ∃ p d kvs, xs = [.ref p] ∧ H p = some (keysV p d) ∧ H d = some (.dK kvs) ∧ ∀ q, H q = none → Q (.ref q) (upd H q (.tup (kvs.map fun kv => kV kv.1)))) := by
  intro pins s σ H xs us Q I rs h
  obtain ⟨p, d, kvs, rfl, hp, hd, q⟩ := h
  obtain ⟨u, rfl, rx⟩ := vals1 rs
  cases rx
  obtain ⟨z, lo, vs, rk, dd⟩ := dk_of I.hok hd
  obtain ⟨ep, hat⟩ := dd.dictAt
  have view : PySem.W.KdlKeysView s.heap p d := (I.hok p _ hp).1
  have hl : kvs.length = vs.length := Paired.length rk
  have src := PySem.W.kdl_keys (prog := X.prog) (w := X.w) (knd := mixKind X.prog X.w) (r := p) (d := d) (kvs := vs) (ep := ep)
  refine callType_codes (Q₁ := fun obj s1 => s1.TypeIs obj "tuple" ∧ EP X pins σ Q obj s1) F.called_tuple (F.typeCall_tuple_1 _) F.entry_object_init
    (code_tuple_src src (by exact I.ok.hd hc) ⟨view, hat⟩ (by rw [← hl]; exact z) fun g tk acc keep items => ⟨⟨_, Heap.get?_push_size _ rfl, rfl⟩, ?_⟩) fun obj s1 h1 => ?_
  · have J : Inv X pins σ H { s with heap := g, toks := tk } := I.kept (t' := tk) keep
    have rv : Vals (kvs.map fun kv => kV kv.1) acc.toList := by
      have el : acc.toList.length = acc.size := by simp
      refine vals_of_at (by rw [List.length_map, el, items.1, hl]) fun j x u h1 h2 => ?_
      obtain ⟨k, y, at1, is1⟩ := items.2 j u (by rw [← Array.getElem?_toList]; exact h2)
      have e1 : (kvs.map (·.1))[j]? = some k := by rw [KV.keys rk, List.getElem?_map, at1] <;> rfl
      have e2 : (kvs.map fun kv => kV kv.1) = (kvs.map (·.1)).map kV := by rw [List.map_map] <;> rfl
      rw [e2, List.getElem?_map, e1] at h1
      cases h1
      exact keyIs_rel is1
    exact ⟨.ref g.objs.size, _, J.laid (t' := tk) (o := .tup (kvs.map fun kv => kV kv.1)) (fun b o e => Heap.get?_push_of_some _ e) (Nat.le_refl _) ⟨by rw [List.length_map]; exact z, acc.toList, rv, by rw [Array.toArray_toList]; exact IsTup.new _ _⟩, rfl, q _ (J.hok.fresh (Nat.le_refl _))⟩
  · exact ⟨h1.1, F.args_object_init_2 obj _, object_init_meets F.called_tuple.init.lookup F.called_tuple.made (by decide) X.prog X.w _ _ s1 ⟨h1.1, rfl, h1.2⟩⟩
end RW
/-! len(set(xs)) of texts that differ. -/
namespace RW
open PySem L2 PySem.Spec PyProof.Rows
theorem take_any {xs : List Str} (nd : xs.Nodup) {i : Nat} (h : i < xs.length) : (xs.take i).any (· == xs.getD i Str.empty) = false := by
  rw [List.getD_eq_getElem?_getD, List.getElem?_eq_getElem h]
  show (xs.take i).any (· == xs[i]) = false
  rw [List.any_eq_false]
  intro y hy e
  have e : y = xs[i] := eq_of_beq e
  obtain ⟨j, hj, ej⟩ := List.mem_iff_getElem.mp hy
  rw [List.length_take] at hj
  rw [List.getElem_take] at ej
  have : j = i := (List.getElem_inj nd).mp (ej.trans e)
  omega
theorem take_step {xs : List Str} {i : Nat} (h : i < xs.length) (y : Str) : ((xs.take i).any (· == y) || decide (y = xs.getD i Str.empty)) = (xs.take (i + 1)).any (· == y) := by
  rw [List.take_add_one, List.any_append, List.getD_eq_getElem?_getD, List.getElem?_eq_getElem h]
  congr 1
  show decide (y = xs[i]) = ([xs[i]].any (· == y))
  rw [List.any_cons, List.any_nil, Bool.or_false]
  by_cases e : y = xs[i]
  · rw [← e]; simp
  · have e2 : ¬ xs[i] = y := fun q => e q.symm
    rw [decide_eq_false e, beq_eq_false_iff_ne.mpr e2]
theorem str_at : ∀ {us : List Value} {xs : List Str}, Vals (xs.map V.str) us → ∀ (i : Nat) (v : Value), us[i]? = some v → ∃ t, v = .str (xs.getD i Str.empty) t
  | _, [], .nil, i, v, h => by simp at h
  | _, x :: xs, .cons r t, 0, v, h => by
    obtain ⟨k, rfl⟩ := r
    simp at h
    exact ⟨k, by rw [← h] <;> rfl⟩
  | _, x :: xs, .cons r t, i + 1, v, h => by
    simp only [List.getElem?_cons_succ] at h
    obtain ⟨k, e⟩ := str_at t i v h
    exact ⟨k, by rw [e] <;> rfl⟩
section
variable {prog : Program} {w : World} {A : Around} {R : Result → Shared → Prop} {I : Addr} {fp wr : List Addr} {G : Array GenState → Array GenState → Prop} {n : Nat} {P : Nat → Value → Prop} {St : Nat → Shared → Prop}
theorem strs_loop (W : WalksS prog w A.in1 I fp wr G n P St) (S : Addr) (out : S ∉ fp) (xs : List Str) (nd : xs.Nodup) (len : xs.length = n) (few : n < 4000) (vals : ∀ i v, P i v → ∃ t, v = .str (xs.getD i Str.empty) t) :
    ∀ (left i : Nat) (s : Shared), n - i = left → i ≤ n → St i s → s.heap.SetOf (PySem.strKind prog w) S (fun y => (xs.take i).any (· == y)) i →
      (∀ s', Moved (S :: wr) G s s' → s'.heap.SetOf (PySem.strKind prog w) S (fun y => (xs.take n).any (· == y)) n → R (.ok (.ret .none)) s') →
      codeAny (model prog w) A (.builtin "set.update.loop" ⟨[.ref S, .ref I], []⟩) R s := by
  have outW : S ∉ wr := fun z => out (W.sub _ z)
  have wider : ∀ b ∈ wr, b ∈ S :: wr := fun b z => List.mem_cons_of_mem _ z
  intro left
  induction left with
  | zero =>
    intro i s el le st so fin
    obtain rfl : i = n := by omega
    refine codeAny_builtin PyProof.Rows.F.entry_set_update_loop ?_
    rw [Around.under_plainId PyProof.Rows.F.plain_set_update_loop _]
    show wpAny _ A.in1 (pyNext (.ref I) >>= _) _ _ s
    refine wpAny_bind (W.done s _ _ st fun s1 mv => ?_)
    show wpAny _ A.in1 (ret Value.none) _ _ s1
    obtain ⟨o, es, ep, t, ho, more⟩ := so
    exact wpAny_pure (fin s1 (mv.mono wider) ⟨o, es, ep, t, mv.heap S _ outW ho, more⟩)
  | succ left ih =>
    intro i s el le st so fin
    have lt : i < n := by omega
    have ltx : i < xs.length := by omega
    refine codeAny_builtin PyProof.Rows.F.entry_set_update_loop ?_
    rw [Around.under_plainId PyProof.Rows.F.plain_set_update_loop _]
    show wpAny _ A.in1 (pyNext (.ref I) >>= _) _ _ s
    refine wpAny_bind (W.item i s _ _ lt st fun v s1 pv st1 mv => ?_)
    obtain ⟨t, rfl⟩ := vals i v pv
    have so1 : s1.heap.SetOf (PySem.strKind prog w) S (fun y => (xs.take i).any (· == y)) i := by
      obtain ⟨o, es, ep, tb, ho, more⟩ := so
      exact ⟨o, es, ep, tb, mv.heap S _ outW ho, more⟩
    show wpAny _ A.in1 (holding [Value.str (xs.getD i Str.empty) t] (setAdd S (.str (xs.getD i Str.empty) t)) >>= _) _ _ s1
    refine wpAny_bind (wpAny_holding ?_)
    unfold setAdd
    refine wpAny_holding (wpAny_bind ((PySem.strKind prog w).pyHash (k := xs.getD i Str.empty) (strKind_is _ _ _ _) ?_))
    refine wpAny_setAddHashed_of (knd := PySem.strKind prog w) (s := { s1 with toks := s1.toks + 1 }) (strKind_is _ _ _ _) rfl so1 (by unfold scanBound; omega) fun g same so2 => ?_
    have so3 : g.SetOf (PySem.strKind prog w) S (fun y => (xs.take (i + 1)).any (· == y)) (i + 1) := by
      have no := take_any nd ltx
      simp only [no] at so2
      exact SetOf_congr so2 (fun y => take_step ltx y) (by simp)
    have off : ∀ b ∈ fp, b ≠ S := fun b z e => out (e ▸ z)
    refine wpAny_pure ⟨plainId_quiet PyProof.Rows.F.plain_set_update_loop _, ih (i + 1) _ (by omega) lt (W.frame _ s1 _ _ st1 (Nat.le_succ _) fun b hb o e => ?_) so3 fun s2 mv2 so4 => ?_⟩
    · rw [same.2 b (off b hb)]; exact e
    · refine fin s2 (Moved.trans W.gtrans ((mv.mono wider).then_heap (Nat.le_succ _) fun b o hb e => ?_) mv2) so4
      rw [same.2 b (fun z => hb (z ▸ List.mem_cons_self))]; exact e
end
section
variable {prog : Program} {w : World} {A : Around} {E : Value → Shared → Prop} {s : Shared}
theorem call_set_texts {l : Addr} {its : Array Value} {xs : List Str} {Q : Value → Shared → Prop} (calm : A.handled = none) (hl : s.heap.IsList l its) (rv : Vals (xs.map V.str) its.toList) (nd : xs.Nodup) (few : xs.length < 4000)
    (fin : ∀ (g : Heap) (tk : Nat), g.SetOf (PySem.strKind prog w) s.heap.objs.size (fun y => (xs.take its.size).any (· == y)) its.size → (∀ b o, b < s.heap.objs.size → s.heap.get? b = some o → g.get? b = some o) → Q (.ref s.heap.objs.size) { s with heap := g, toks := tk }) :
    wpAny (model prog w) A (call (.type "set") [.ref l]) Q E s := by
  have made := PySem.F.called_set.made
  have sub := PySem.F.called_set.sub
  obtain ⟨c, tl, mro⟩ := PySem.F.called_set.mro
  refine wpAny_call (codeAny_of_tree ?_)
  show wpAny _ _ (callAny (.type "set") _) _ _ _
  refine wpAny_pure ⟨Code.quiet_builtin _ (by decide +kernel), codeAny_builtin PySem.F.entry_type_call ?_⟩
  rw [Around.under_plain (weight_type_call_type "set" [.ref l] []) rfl]
  have nt := PySem.F.called_set.notType
  have cc := PySem.F.called_set.canCreate
  have tc := PySem.F.typeCall_set_1 (.ref l)
  repeat (any_goals (first | assumption | wp_step))
  refine codeAny_mono (code_set_new_1 (.ref l) (E := E) (Q₁ := fun ob t => ∃ led : Bool, ob = .ref s.heap.objs.size ∧ t = { s with heap := s.heap.push { cls := .type "set", dict := none, data := .set #[] 0 (.fresh 0 0 led) } }) fun led => ⟨led, rfl, rfl⟩) fun res t hr => ?_
  cases res with
  | error e => exact hr
  | ok fl =>
    cases fl with
    | ret ob =>
      obtain ⟨led, rfl, rfl⟩ := hr
      have atS : (s.heap.push { cls := .type "set", dict := none, data := .set #[] 0 (.fresh 0 0 led) }).get? s.heap.objs.size = some { cls := .type "set", dict := none, data := .set #[] 0 (.fresh 0 0 led) } := Heap.get?_push_size _ rfl
      have tyS : Shared.TypeIs { s with heap := s.heap.push { cls := .type "set", dict := none, data := .set #[] 0 (.fresh 0 0 led) } } (.ref s.heap.objs.size) "set" := ⟨_, atS, rfl⟩
      have il := PySem.F.called_set.init.lookup
      have ib := PySem.F.called_set.init.bind (.ref s.heap.objs.size)
      repeat (any_goals (first | assumption | wp_step))
      refine codeAny_mono (codeAny_call_builtin (R := wants (fun r t => r = .none ∧ ∃ g tk, t = { s with heap := g, toks := tk } ∧ g.SetOf (PySem.strKind prog w) s.heap.objs.size (fun y => (xs.take its.size).any (· == y)) its.size ∧
          (∀ b o, b < s.heap.objs.size → s.heap.get? b = some o → g.get? b = some o)) E) PySem.F.called_set.init.plain PySem.F.entry_set_init (check_set_init_1 tyS ?_)) fun r2 t2 hr2 => ?_
      · obtain ⟨⟨ocls, odict, odata, oslots⟩, hol, hcl, nl, hdl⟩ := hl
        simp only at hcl hdl
        subst hcl; subst hdl
        have hol2 : (s.heap.push { cls := .type "set", dict := none, data := .set #[] 0 (.fresh 0 0 led) }).get? l = some { cls := .type "list", dict := odict, data := .seq its nl, slots := oslots } := Heap.get?_push_of_some _ hol
        have q1 := PySem.F.sub_list_set
        have q2 := PySem.F.sub_list_frozenset
        have q3 : (Value.type "list" == Value.type "dict") = false := by decide
        have isl : (s.heap.push { cls := .type "set", dict := none, data := .set #[] 0 (.fresh 0 0 led) }).IsList l its := ⟨_, hol2, rfl, nl, rfl⟩
        unfold Builtin.«set.__init__» noKeywords Builtin.Frozenset.updateFrom
        generalize hPI : pyIter = PI
        wp_walk
        subst hPI
        refine wpAny_pyIter_list isl (wpAny_bind (wpAny_runValue ?_))
        have ltl : l < s.heap.objs.size := Heap.lt_size hol
        have calm3 : A.in1.in1.in1.handled = none := by simp [calm]
        have neI : l ≠ (s.heap.push { cls := .type "set", dict := none, data := .set #[] 0 (.fresh 0 0 led) }).objs.size := by
          rw [Heap.size_push]; exact Nat.ne_of_lt (Nat.lt_succ_of_lt ltl)
        have outS : s.heap.objs.size ∉ [(s.heap.push { cls := .type "set", dict := none, data := .set #[] 0 (.fresh 0 0 led) }).objs.size, l] := by
          rw [Heap.size_push]; simp only [List.mem_cons, List.not_mem_nil, or_false, not_or]
          exact ⟨Nat.ne_of_lt (Nat.lt_succ_self _), Nat.ne_of_gt ltl⟩
        have lens : xs.length = its.size := by rw [← Array.length_toList, ← rv.length, List.length_map]
        refine strs_loop ((Walks.list calm3 _ l neI its).toS) s.heap.objs.size outS xs nd lens (by omega) (fun i v hv => str_at rv i v (by rw [Array.getElem?_toList]; exact hv)) (its.size - 0) 0 _ (by omega) (Nat.zero_le _)
          ⟨⟨_, Heap.get?_push_size _ rfl, rfl, rfl⟩, (isl.push _)⟩ ?start ?stop
        case start =>
          have here : ((s.heap.push { cls := .type "set", dict := none, data := .set #[] 0 (.fresh 0 0 led) }).push { cls := .type "list_iterator", data := .fields #[.ref l, .int 0 0] }).get? s.heap.objs.size = some { cls := .type "set", dict := none, data := .set #[] 0 (.fresh 0 0 led) } := Heap.get?_push_of_some _ atS
          exact PyProof.Rows.SetOf_congr ((PyProof.Rows.setObjOf_fresh (knd := PySem.strKind prog w) led).setOf here (by unfold scanBound; omega)) (fun _ => rfl) rfl
        case stop =>
          intro t mv so
          obtain ⟨g, gs, dr, tk, os⟩ := t
          obtain rfl : gs = s.gens := mv.gens
          obtain rfl : dr = s.drawn := mv.drawn
          obtain rfl : os = s.os := mv.os
          refine wpAny_pure ?_
          show wpAny _ _ (ret Value.none) _ _ _
          refine wpAny_pure ⟨rfl, g, tk, rfl, so, fun b o hb e => ?_⟩
          refine mv.heap b o ?_ (Heap.get?_push_of_some _ (Heap.get?_push_of_some _ e))
          rw [Heap.size_push]; simp only [List.mem_cons, List.not_mem_nil, or_false, not_or]
          exact ⟨Nat.ne_of_lt hb, Nat.ne_of_lt (Nat.lt_succ_of_lt hb)⟩
      · cases r2 with
        | error e => exact hr2
        | ok f2 =>
          cases f2 with
          | ret r =>
            obtain ⟨rfl, g, tk, rfl, so, keep⟩ := hr2
            repeat (any_goals (first | assumption | wp_step))
            exact fin _ _ so keep
          | _ => exact hr2.elim
    | _ => exact hr.elim
end
def tLenSetN (K : PySem.W.Frag) (ta : TE) : TE := fun σ H Q => ta σ H fun x H1 => ∃ l, ∃ xs : List Str, x = .ref l ∧ SqL K H1 l (xs.map V.str) ∧ xs.Nodup ∧ xs.length < 4000 ∧ Q (.int xs.length) H1
theorem pe_lenSetN {X : Cx} {a : Expr} {ta : TE} {p p2 q pos : Pos} (hc : X.calm = true) (hg : Gl X "len") (hm : X.mg "len" = none) (hg2 : Gl X "set") (hm2 : X.mg "set" = none) (ha : PE X a ta)
    (na : starEach [a] X.env = (false, eval a X.env) :: starEach [] X.env := by rfl) : PE X (.Call (.Name "len" p) [.Call (.Name "set" p2) [a] [] q] [] pos) (tLenSetN X.K ta) := by
  constructor
  intro pins s σ H Q I h
  refine Call_ (ld_blt I hg hm boot_len (PyProof.Rows.callWith_builtin1 (PyProof.Rows.args_cons ?_ rfl) rfl rfl))
  refine Call_ (ld_blt I hg2 hm2 boot_set (PyProof.Rows.callWith_type1 (PyProof.Rows.args_cons (thn (ha.run pins s σ H _ I h) ?_) na) na rfl))
  rintro v s1 ⟨x, H1, I1, r1, l, xs, rfl, hq, nd, few, q1⟩
  refine PyProof.Rows.args_nil ?_
  cases r1
  obtain ⟨its, r, pl, hz⟩ := I1.list hq
  have hl : its.toArray.size = xs.length := by rw [List.size_toArray, ← r.length, List.length_map]
  refine call_set_texts (I1.ok.hd hc) pl.isList (by simpa using r) nd few fun g tk so keep => PyProof.Rows.args_nil ?_
  rw [hl] at so
  obtain ⟨o, es, ep, t, ho, hex, hd, _, _, _, hf, hn⟩ := so
  have J : Inv X pins σ H1 { s1 with heap := g, toks := tk } := I1.kept fun b u e => keep b u (Heap.lt_size e) e
  exact call_len_set ho hex hd hf (by rw [hn] <;> omega) ⟨.int xs.length, H1, J.tok _, ⟨_, by rw [hn]⟩, q1⟩
end RW
/-! The plain law: conditions, the decision diagram's table, what the program's functions compute on it. No program in sight. -/
namespace RW

/-! ### conditions -/
inductive T where
  | fx (b : Bool)
  | ct (i : Nat)
  | nt (t : T)
  | gr (k : Bool) (ts : List T)

mutual
def T.ev (e : Nat → Bool) : T → Bool
  | .fx b => b
  | .ct i => e i
  | .nt t => !(t.ev e)
  | .gr k ts => if k = true then allE e ts else anyE e ts
def allE (e : Nat → Bool) : List T → Bool
  | [] => true
  | t :: ts => t.ev e && allE e ts
def anyE (e : Nat → Bool) : List T → Bool
  | [] => false
  | t :: ts => t.ev e || anyE e ts
end
mutual
def T.size : T → Nat
  | .fx _ => 1
  | .ct _ => 1
  | .nt t => 1 + t.size
  | .gr _ ts => 1 + sizeL ts
def sizeL : List T → Nat
  | [] => 0
  | t :: ts => t.size + sizeL ts
end
mutual
def T.depth : T → Nat
  | .fx _ => 1
  | .ct _ => 1
  | .nt t => 1 + t.depth
  | .gr _ ts => 1 + depthL ts
def depthL : List T → Nat
  | [] => 0
  | t :: ts => max t.depth (depthL ts)
end
mutual
def T.ok (nn : Nat) : T → Prop
  | .fx _ => True
  | .ct i => i < nn
  | .nt t => t.ok nn
  | .gr _ ts => 2 ≤ ts.length ∧ okL nn ts
def okL (nn : Nat) : List T → Prop
  | [] => True
  | t :: ts => t.ok nn ∧ okL nn ts
end
def T.kids : T → List T
  | .fx _ => []
  | .ct _ => []
  | .nt t => [t]
  | .gr _ ts => ts

theorem T.size_kids (t : T) : t.size = 1 + sizeL t.kids := by
  cases t <;> simp [T.size, T.kids, sizeL]
theorem T.depth_kids (t : T) : t.depth = 1 + depthL t.kids := by
  cases t <;> simp [T.depth, T.kids, depthL]
theorem T.depth_pos (t : T) : 1 ≤ t.depth := by
  rw [T.depth_kids]; omega
theorem T.size_pos (t : T) : 1 ≤ t.size := by
  rw [T.size_kids]; omega
theorem sizeL_app (a b : List T) : sizeL (a ++ b) = sizeL a + sizeL b := by
  induction a with
  | nil => simp [sizeL]
  | cons x r ih => simp [sizeL, ih]; omega
theorem okL_iff {nn : Nat} {ts : List T} : okL nn ts ↔ ∀ t ∈ ts, t.ok nn := by
  induction ts with
  | nil => simp [okL]
  | cons x r ih => simp [okL, ih]
theorem depthL_le {n : Nat} {ts : List T} : depthL ts ≤ n ↔ ∀ t ∈ ts, t.depth ≤ n := by
  induction ts with
  | nil => simp [depthL]
  | cons x r ih => simp only [depthL, List.forall_mem_cons]; rw [← ih]; omega
mutual
theorem T.depth_le_size : ∀ t : T, t.depth ≤ t.size
  | .fx _ => Nat.le_refl _
  | .ct _ => Nat.le_refl _
  | .nt t => by have := T.depth_le_size t; simp only [T.depth, T.size]; omega
  | .gr _ ts => by have := depthL_le_size ts; simp only [T.depth, T.size]; omega
theorem depthL_le_size : ∀ ts : List T, depthL ts ≤ sizeL ts
  | [] => Nat.le_refl _
  | t :: ts => by
    have h1 := T.depth_le_size t
    have h2 := depthL_le_size ts
    simp only [depthL, sizeL]; omega
end

/-! ### the table of nodes -/
structure Nd where
  p : Nat
  lo : Nat
  hi : Nat
  deriving DecidableEq

def pl (nn : Nat) (ns : List Nd) (x : Nat) : Nat :=
  if x < 2 then nn else match ns[x - 2]? with
    | some d => d.p
    | none => nn
def stepV (e : Nat → Bool) (acc : List Bool) (d : Nd) : List Bool := acc ++ [if e d.p then acc.getD d.hi false else acc.getD d.lo false]
def vals (e : Nat → Bool) (ns : List Nd) : List Bool := ns.foldl (stepV e) [false, true]
def sem (e : Nat → Bool) (ns : List Nd) (x : Nat) : Bool := (vals e ns).getD x false

theorem foldl_len (e : Nat → Bool) (ns : List Nd) : ∀ acc : List Bool, (ns.foldl (stepV e) acc).length = acc.length + ns.length := by
  induction ns with
  | nil => intro acc; simp
  | cons d r ih => intro acc; rw [List.foldl_cons, ih]; simp [stepV]; omega
theorem vals_len (e : Nat → Bool) (ns : List Nd) : (vals e ns).length = ns.length + 2 := by
  unfold vals; rw [foldl_len]; simp; omega
theorem foldl_pre (e : Nat → Bool) (more : List Nd) : ∀ (acc : List Bool) (x : Nat), x < acc.length → (more.foldl (stepV e) acc).getD x false = acc.getD x false := by
  induction more with
  | nil => intro acc x _; rfl
  | cons d r ih =>
    intro acc x hx
    rw [List.foldl_cons, ih _ _ (by simp [stepV]; omega)]
    simp only [stepV, List.getD_eq_getElem?_getD]
    rw [List.getElem?_append_left hx]
theorem sem_ext {e : Nat → Bool} {ns more : List Nd} {x : Nat} (h : x < ns.length + 2) : sem e (ns ++ more) x = sem e ns x := by
  unfold sem vals
  rw [List.foldl_append]
  exact foldl_pre e more _ x (by rw [foldl_len]; simp; omega)
theorem sem_zero (e : Nat → Bool) (ns : List Nd) : sem e ns 0 = false := by
  have := sem_ext (e := e) (ns := []) (more := ns) (x := 0) (by simp)
  simpa [sem, vals] using this
theorem sem_one (e : Nat → Bool) (ns : List Nd) : sem e ns 1 = true := by
  have := sem_ext (e := e) (ns := []) (more := ns) (x := 1) (by simp)
  simpa [sem, vals] using this
theorem sem_snoc {e : Nat → Bool} {ns : List Nd} {d : Nd} : sem e (ns ++ [d]) (ns.length + 2) = if e d.p then sem e ns d.hi else sem e ns d.lo := by
  unfold sem vals
  rw [List.foldl_append]
  show ((stepV e (ns.foldl (stepV e) [false, true]) d)).getD (ns.length + 2) false = _
  have hl := vals_len e ns
  unfold vals at hl
  simp only [stepV, List.getD_eq_getElem?_getD]
  rw [List.getElem?_append_right (by omega), hl]
  simp
theorem split_at {α : Type} {l : List α} {i : Nat} {d : α} (h : l[i]? = some d) : ∃ a b, l = a ++ d :: b ∧ a.length = i := by
  obtain ⟨hi, e⟩ := List.getElem?_eq_some_iff.mp h
  refine ⟨l.take i, l.drop (i + 1), ?_, by simp; omega⟩
  rw [← e, ← List.drop_eq_getElem_cons hi, List.take_append_drop]
theorem sem_node {e : Nat → Bool} {ns : List Nd} {i : Nat} {d : Nd} (h : ns[i]? = some d) (h1 : d.lo < i + 2) (h2 : d.hi < i + 2) :
    sem e ns (i + 2) = if e d.p then sem e ns d.hi else sem e ns d.lo := by
  obtain ⟨a, b, rfl, rfl⟩ := split_at h
  have q : a ++ d :: b = (a ++ [d]) ++ b := by simp
  rw [q, sem_ext (by simp), sem_snoc, List.append_assoc, sem_ext h1, sem_ext h2]

theorem pl_ext {nn : Nat} {ns more : List Nd} {x : Nat} (h : x < ns.length + 2) : pl nn (ns ++ more) x = pl nn ns x := by
  unfold pl
  split
  · rfl
  · rw [List.getElem?_append_left (by omega)]
theorem pl_small {nn : Nat} {ns : List Nd} {x : Nat} (h : x < 2) : pl nn ns x = nn := by unfold pl; rw [if_pos h]
theorem pl_at {nn : Nat} {ns : List Nd} {i : Nat} {d : Nd} (h : ns[i]? = some d) : pl nn ns (i + 2) = d.p := by
  unfold pl
  rw [if_neg (by omega)]
  simp [h]

structure WF (nn : Nat) (ns : List Nd) : Prop where
  nd : ns.Nodup
  ok : ∀ i d, ns[i]? = some d → d.lo ≠ d.hi ∧ d.lo < i + 2 ∧ d.hi < i + 2 ∧ d.p < nn ∧ d.p < pl nn ns d.lo ∧ d.p < pl nn ns d.hi

theorem WF.nil (nn : Nat) : WF nn [] := ⟨List.nodup_nil, fun i d h => by simp at h⟩
theorem WF.pl_le {nn : Nat} {ns : List Nd} (w : WF nn ns) (x : Nat) : pl nn ns x ≤ nn := by
  unfold pl
  split
  · exact Nat.le_refl _
  · split
    · rename_i d h
      exact Nat.le_of_lt (w.ok _ d h).2.2.2.1
    · exact Nat.le_refl _
theorem WF.node {nn : Nat} {ns : List Nd} (w : WF nn ns) {x : Nat} (h2 : 2 ≤ x) (hx : x < ns.length + 2) : ∃ d, ns[x - 2]? = some d ∧ pl nn ns x = d.p ∧ d.lo ≠ d.hi ∧ d.lo < x ∧ d.hi < x ∧ d.p < nn ∧ d.p < pl nn ns d.lo ∧ d.p < pl nn ns d.hi ∧
    ∀ e, sem e ns x = if e d.p then sem e ns d.hi else sem e ns d.lo := by
  have hl : x - 2 < ns.length := by omega
  have hd : ns[x - 2]? = some ns[x - 2] := List.getElem?_eq_getElem hl
  obtain ⟨a, b, c, d, f, g⟩ := w.ok _ _ hd
  have ex : x - 2 + 2 = x := by omega
  refine ⟨ns[x - 2], hd, ?_, a, by omega, by omega, d, f, g, fun e => ?_⟩
  · have := pl_at (nn := nn) hd
    rwa [ex] at this
  · have := sem_node (e := e) hd b c
    rwa [ex] at this

/-! ### the node of a place and two nodes -/
def idx : List Nd → Nd → Option Nat
  | [], _ => none
  | a :: r, d => if a = d then some 0 else (idx r d).map (· + 1)
theorem idx_some : ∀ {ns : List Nd} {d : Nd} {i : Nat}, idx ns d = some i → ns[i]? = some d
  | [], _, _, h => by simp [idx] at h
  | a :: r, d, i, h => by
    unfold idx at h
    split at h
    · rename_i e
      cases h
      simp [e]
    · cases q : idx r d with
      | none => rw [q] at h; simp at h
      | some j =>
        rw [q] at h
        simp only [Option.map_some, Option.some.injEq] at h
        subst h
        simpa using idx_some q
theorem idx_none : ∀ {ns : List Nd} {d : Nd}, idx ns d = none → d ∉ ns
  | [], _, _ => by simp
  | a :: r, d, h => by
    unfold idx at h
    split at h
    · cases h
    · rename_i ne
      have q : idx r d = none := by
        cases q : idx r d with
        | none => rfl
        | some j => rw [q] at h; simp at h
      intro m
      rcases List.mem_cons.mp m with e | m
      · exact ne e.symm
      · exact idx_none q m
theorem idx_pre : ∀ {ns more : List Nd} {d : Nd} {i : Nat}, idx ns d = some i → idx (ns ++ more) d = some i
  | [], _, _, _, h => by simp [idx] at h
  | a :: r, more, d, i, h => by
    show (if a = d then some 0 else (idx (r ++ more) d).map (· + 1)) = some i
    unfold idx at h
    split at h
    · rename_i e
      rw [if_pos e]; exact h
    · rename_i ne
      rw [if_neg ne]
      cases q : idx r d with
      | none => rw [q] at h; simp at h
      | some j => rw [idx_pre q, ← q]; exact h
theorem idx_new : ∀ {ns more : List Nd} {d : Nd}, idx ns d = none → idx (ns ++ d :: more) d = some ns.length
  | [], _, d, _ => by simp [idx]
  | a :: r, more, d, h => by
    show (if a = d then some 0 else (idx (r ++ d :: more) d).map (· + 1)) = some (r.length + 1)
    unfold idx at h
    split at h
    · cases h
    · rename_i ne
      rw [if_neg ne]
      have q : idx r d = none := by
        cases q : idx r d with
        | none => rfl
        | some j => rw [q] at h; simp at h
      rw [idx_new q]
      rfl

def mk (ns : List Nd) (d : Nd) : Nat × List Nd :=
  if d.lo = d.hi then (d.lo, ns) else match idx ns d with
    | some i => (i + 2, ns)
    | none => (ns.length + 2, ns ++ [d])

structure MOK (nn : Nat) (ns : List Nd) (d : Nd) (o : Nat × List Nd) : Prop where
  wf : WF nn o.2
  ext : ∃ more, o.2 = ns ++ more
  lt : o.1 < o.2.length + 2
  sm : ∀ e, sem e o.2 o.1 = if e d.p then sem e ns d.hi else sem e ns d.lo
  pp : d.p ≤ pl nn o.2 o.1
  cnt : o.2.length ≤ ns.length + 1

theorem mk_ok {nn : Nat} {ns : List Nd} {d : Nd} (w : WF nn ns) (h1 : d.lo < ns.length + 2) (h2 : d.hi < ns.length + 2) (h3 : d.p < nn) (h4 : d.p < pl nn ns d.lo) (h5 : d.p < pl nn ns d.hi) : MOK nn ns d (mk ns d) := by
  unfold mk
  split
  · rename_i e
    refine ⟨w, ⟨[], by simp⟩, h1, fun env => ?_, Nat.le_of_lt h4, Nat.le_succ _⟩
    show sem env ns d.lo = _
    rw [← e]; split <;> rfl
  · rename_i ne
    split
    · rename_i i hi
      have hd := idx_some hi
      have hl : i < ns.length := (List.getElem?_eq_some_iff.mp hd).1
      obtain ⟨a, b, c, _⟩ := w.ok i d hd
      exact ⟨w, ⟨[], by simp⟩, by show i + 2 < ns.length + 2; omega, fun env => sem_node hd b c, by show d.p ≤ pl nn ns (i + 2); rw [pl_at hd]; exact Nat.le_refl _, Nat.le_succ _⟩
    · rename_i hi
      have hn := idx_none hi
      have hlast : (ns ++ [d])[ns.length]? = some d := by simp
      refine ⟨⟨?_, fun i u hu => ?_⟩, ⟨[d], rfl⟩, by show ns.length + 2 < (ns ++ [d]).length + 2; simp, fun env => sem_snoc, by show d.p ≤ pl nn (ns ++ [d]) (ns.length + 2); rw [pl_at hlast]; exact Nat.le_refl _, by show (ns ++ [d]).length ≤ _; simp⟩
      · show (ns ++ [d]).Nodup
        rw [List.nodup_append]
        refine ⟨w.nd, by simp, fun a ha b hb => ?_⟩
        rw [List.mem_singleton] at hb
        intro e
        exact hn (by rw [← hb, ← e]; exact ha)
      · show u.lo ≠ u.hi ∧ u.lo < i + 2 ∧ u.hi < i + 2 ∧ u.p < nn ∧ u.p < pl nn (ns ++ [d]) u.lo ∧ u.p < pl nn (ns ++ [d]) u.hi
        have hu' : (ns ++ [d])[i]? = some u := hu
        by_cases hl : i < ns.length
        · rw [List.getElem?_append_left hl] at hu'
          obtain ⟨a, b, c, f, g, k⟩ := w.ok i u hu'
          exact ⟨a, b, c, f, by rw [pl_ext (by omega)]; exact g, by rw [pl_ext (by omega)]; exact k⟩
        · have hi2 : i < (ns ++ [d]).length := (List.getElem?_eq_some_iff.mp hu').1
          have hi3 : i = ns.length := by simp at hi2; omega
          subst hi3
          rw [hlast] at hu'
          cases hu'
          exact ⟨ne, h1, h2, h3, by rw [pl_ext h1]; exact h4, by rw [pl_ext h2]; exact h5⟩
theorem mk_re {ns : List Nd} {d : Nd} {more : List Nd} : mk ((mk ns d).2 ++ more) d = ((mk ns d).1, (mk ns d).2 ++ more) := by
  by_cases e : d.lo = d.hi
  · simp only [mk, if_pos e]
  · cases hi : idx ns d with
    | some i =>
      simp only [mk, if_neg e, hi]
      rw [idx_pre hi]
    | none =>
      have q : idx (ns ++ [d] ++ more) d = some ns.length := by
        rw [List.append_assoc]
        exact idx_new hi
      simp only [mk, if_neg e, hi]
      rw [q]

/-! ### a dict of what is known -/
section
variable {κ : Type} [DecidableEq κ]
def look (kn : List (κ × Nat)) (k : κ) : Option Nat := (kn.find? fun kv => decide (kv.1 = k)).map (·.2)
def put (kn : List (κ × Nat)) (k : κ) (r : Nat) : List (κ × Nat) :=
  if (kn.any fun kv => decide (kv.1 = k)) = true then kn.map fun kv => if kv.1 = k then (kv.1, r) else kv else kn ++ [(k, r)]
theorem look_cons (a : κ × Nat) (l : List (κ × Nat)) (j : κ) : look (a :: l) j = if a.1 = j then some a.2 else look l j := by
  unfold look
  rw [List.find?_cons]
  by_cases h : a.1 = j
  · simp [h]
  · simp [h]
theorem look_map (k j : κ) (r : Nat) : ∀ kn : List (κ × Nat), look (kn.map fun kv => if kv.1 = k then (kv.1, r) else kv) j = if j = k then (look kn j).map (fun _ => r) else look kn j
  | [] => by simp [look]
  | a :: l => by
    rw [List.map_cons, look_cons, look_cons, look_map k j r l]
    by_cases ha : a.1 = k
    · by_cases hj : a.1 = j
      · have e : j = k := hj.symm.trans ha
        simp [ha, e]
      · have e : ¬ j = k := fun q => hj (ha.trans q.symm)
        have e' : ¬ k = j := fun q => e q.symm
        simp [ha, e, e']
    · by_cases hj : a.1 = j
      · have e : ¬ j = k := fun q => ha (hj.trans q)
        simp [hj, e]
      · simp [ha, hj]
theorem look_snoc (k j : κ) (r : Nat) : ∀ kn : List (κ × Nat), (kn.any fun kv => decide (kv.1 = k)) = false → look (kn ++ [(k, r)]) j = if j = k then some r else look kn j
  | [], _ => by
    by_cases h : j = k
    · subst h; simp [look]
    · have h' : ¬ k = j := fun q => h q.symm
      simp [look, h, h']
  | a :: l, h => by
    have ha : ¬ a.1 = k := fun e => by simp [e] at h
    have hl : (l.any fun kv => decide (kv.1 = k)) = false := by
      simpa [List.any_cons, ha] using h
    rw [List.cons_append, look_cons, look_cons, look_snoc k j r l hl]
    by_cases hj : a.1 = j
    · have e : ¬ j = k := fun q => ha (hj.trans q)
      simp [hj, e]
    · simp [hj]
theorem look_any (k : κ) : ∀ kn : List (κ × Nat), (kn.any fun kv => decide (kv.1 = k)) = (look kn k).isSome
  | [] => by simp [look]
  | a :: l => by
    rw [List.any_cons, look_cons, look_any k l]
    by_cases h : a.1 = k <;> simp [h]
theorem look_put (kn : List (κ × Nat)) (k j : κ) (r : Nat) : look (put kn k r) j = if j = k then some r else look kn j := by
  unfold put
  by_cases h : (kn.any fun kv => decide (kv.1 = k)) = true
  · rw [if_pos h, look_map]
    by_cases e : j = k
    · subst e
      rw [look_any] at h
      obtain ⟨v, hv⟩ := Option.isSome_iff_exists.mp h
      simp [hv]
    · simp [e]
  · rw [if_neg h, look_snoc _ _ _ _ (Bool.eq_false_iff.mpr h)]
end

/-! ### the node of two -/
def opb (s : Nat) (x y : Bool) : Bool := if s = 0 then x && y else x || y
def bel (nn : Nat) (ns : List Nd) (x p : Nat) : Nat × Nat :=
  if p < pl nn ns x then (x, x) else match ns[x - 2]? with
    | some d => (d.lo, d.hi)
    | none => (x, x)
abbrev Kn2 := List ((Nat × Nat) × Nat)
def jn (nn s : Nat) : Nat → List Nd → Kn2 → Nat → Nat → Nat × List Nd × Kn2
  | 0, ns, kn, _, _ => (0, ns, kn)
  | f + 1, ns, kn, a, b =>
    if a = s ∨ b = s then (s, ns, kn)
    else if a = 1 - s ∨ a = b then (b, ns, kn)
    else if b = 1 - s then (a, ns, kn)
    else match look kn (a, b) with
      | some r => (r, ns, kn)
      | none =>
        let p := min (pl nn ns a) (pl nn ns b)
        let x := jn nn s f ns kn (bel nn ns a p).1 (bel nn ns b p).1
        let y := jn nn s f x.2.1 x.2.2 (bel nn ns a p).2 (bel nn ns b p).2
        let m := mk y.2.1 ⟨p, x.1, y.1⟩
        (m.1, m.2, put y.2.2 (a, b) m.1)

structure KOK (nn s : Nat) (ns : List Nd) (kn : Kn2) : Prop where
  ok : ∀ a b r, look kn (a, b) = some r → a < ns.length + 2 ∧ b < ns.length + 2 ∧ r < ns.length + 2 ∧ min (pl nn ns a) (pl nn ns b) ≤ pl nn ns r ∧ ∀ e, sem e ns r = opb s (sem e ns a) (sem e ns b)
theorem KOK.nil (nn s : Nat) (ns : List Nd) : KOK nn s ns [] := ⟨fun _ _ _ h => by simp [look] at h⟩
theorem KOK.ext {nn s : Nat} {ns more : List Nd} {kn : Kn2} (k : KOK nn s ns kn) : KOK nn s (ns ++ more) kn := ⟨fun a b r h => by
  obtain ⟨ha, hb, hr, hp, hs⟩ := k.ok a b r h
  refine ⟨by simp; omega, by simp; omega, by simp; omega, ?_, fun e => ?_⟩
  · rw [pl_ext ha, pl_ext hb, pl_ext hr]; exact hp
  · rw [sem_ext ha, sem_ext hb, sem_ext hr]; exact hs e⟩

structure JOK (nn s : Nat) (ns : List Nd) (a b : Nat) (o : Nat × List Nd × Kn2) : Prop where
  wf : WF nn o.2.1
  ext : ∃ more, o.2.1 = ns ++ more
  lt : o.1 < o.2.1.length + 2
  sm : ∀ e, sem e o.2.1 o.1 = opb s (sem e ns a) (sem e ns b)
  pp : min (pl nn ns a) (pl nn ns b) ≤ pl nn o.2.1 o.1
  kn : KOK nn s o.2.1 o.2.2
  cnt : o.2.1.length + 1 ≤ ns.length + 2 ^ (nn - min (pl nn ns a) (pl nn ns b))

theorem JOK.same {nn s : Nat} {ns : List Nd} {kn : Kn2} {a b r : Nat} (w : WF nn ns) (k : KOK nn s ns kn) (hr : r < ns.length + 2) (hs : ∀ e, sem e ns r = opb s (sem e ns a) (sem e ns b)) (hp : min (pl nn ns a) (pl nn ns b) ≤ pl nn ns r) : JOK nn s ns a b (r, ns, kn) :=
  ⟨w, ⟨[], by simp⟩, hr, hs, hp, k, by have := Nat.pow_pos (n := nn - min (pl nn ns a) (pl nn ns b)) (show 0 < 2 by decide); show ns.length + 1 ≤ _; omega⟩

theorem bel_ok {nn : Nat} {ns : List Nd} {x p : Nat} (w : WF nn ns) (h2 : 2 ≤ x) (hx : x < ns.length + 2) (hp : p ≤ pl nn ns x) :
    (bel nn ns x p).1 < ns.length + 2 ∧ (bel nn ns x p).2 < ns.length + 2 ∧ p < pl nn ns (bel nn ns x p).1 ∧ p < pl nn ns (bel nn ns x p).2 ∧
    ∀ e, sem e ns x = if e p then sem e ns (bel nn ns x p).2 else sem e ns (bel nn ns x p).1 := by
  unfold bel
  by_cases h : p < pl nn ns x
  · rw [if_pos h]
    exact ⟨hx, hx, h, h, fun e => by split <;> rfl⟩
  · rw [if_neg h]
    obtain ⟨d, hd, e1, _, hl, hh, _, g1, g2, hs⟩ := w.node h2 hx
    have ep : p = d.p := by omega
    rw [hd]
    exact ⟨by show d.lo < _; omega, by show d.hi < _; omega, by rw [ep]; exact g1, by rw [ep]; exact g2, fun e => by rw [ep]; exact hs e⟩
theorem bel_ext {nn : Nat} {ns more : List Nd} {x p : Nat} (h2 : 2 ≤ x) (hx : x < ns.length + 2) : bel nn (ns ++ more) x p = bel nn ns x p := by
  unfold bel
  rw [pl_ext hx, List.getElem?_append_left (by omega)]

theorem opb_if {s : Nat} {c x y u v : Bool} : (if c = true then opb s x y else opb s u v) = opb s (if c = true then x else u) (if c = true then y else v) := by
  cases c <;> rfl

theorem jn_ok {nn s : Nat} (hs : s < 2) : ∀ (f : Nat) (ns : List Nd) (kn : Kn2) (a b : Nat), WF nn ns → KOK nn s ns kn → a < ns.length + 2 → b < ns.length + 2 → nn < f + min (pl nn ns a) (pl nn ns b) → JOK nn s ns a b (jn nn s f ns kn a b)
  | 0, ns, kn, a, b, w, _, _, _, hf => by
    have := w.pl_le a
    omega
  | f + 1, ns, kn, a, b, w, k, ha, hb, hf => by
    unfold jn
    have sv : ∀ e : Nat → Bool, sem e ns s = decide (s ≠ 0) := fun e => by
      match s, hs with
      | 0, _ => rw [sem_zero]; rfl
      | 1, _ => rw [sem_one]; rfl
    have sw : ∀ e : Nat → Bool, sem e ns (1 - s) = decide (s = 0) := fun e => by
      match s, hs with
      | 0, _ => rw [sem_one]; rfl
      | 1, _ => rw [sem_zero]; rfl
    by_cases c1 : a = s ∨ b = s
    · rw [if_pos c1]
      refine JOK.same w k (by omega) (fun e => ?_) (by rw [pl_small (x := s) hs]; have := w.pl_le a; omega)
      rcases c1 with c | c
      · rw [c]; rw [sv e]; unfold opb
        by_cases z : s = 0 <;> simp [z]
      · rw [c]; rw [sv e]; unfold opb
        by_cases z : s = 0 <;> simp [z]
    · rw [if_neg c1]
      by_cases c2 : a = 1 - s ∨ a = b
      · rw [if_pos c2]
        refine JOK.same w k hb (fun e => ?_) (Nat.min_le_right _ _)
        rcases c2 with c | c
        · rw [c, sw e]; unfold opb
          by_cases z : s = 0 <;> simp [z]
        · rw [c]; unfold opb
          by_cases z : s = 0 <;> simp [z]
      · rw [if_neg c2]
        by_cases c3 : b = 1 - s
        · rw [if_pos c3]
          refine JOK.same w k ha (fun e => ?_) (Nat.min_le_left _ _)
          rw [c3, sw e]; unfold opb
          by_cases z : s = 0 <;> simp [z]
        · rw [if_neg c3]
          split
          · rename_i r hl
            obtain ⟨_, _, hr, hp, hq⟩ := k.ok a b r hl
            exact JOK.same w k hr hq hp
          · have a2 : 2 ≤ a := by omega
            have b2 : 2 ≤ b := by omega
            let p := min (pl nn ns a) (pl nn ns b)
            have hpp : p = min (pl nn ns a) (pl nn ns b) := rfl
            obtain ⟨_, _, pa, _, _, _, pn, _⟩ := w.node a2 ha
            have hpn : p < nn := by omega
            obtain ⟨A1, A2, A3, A4, A5⟩ := bel_ok (p := p) w a2 ha (by omega)
            obtain ⟨B1, B2, B3, B4, B5⟩ := bel_ok (p := p) w b2 hb (by omega)
            have X := jn_ok hs f ns kn _ _ w k A1 B1 (by omega)
            show JOK nn s ns a b (let x := jn nn s f ns kn (bel nn ns a p).1 (bel nn ns b p).1
              let y := jn nn s f x.2.1 x.2.2 (bel nn ns a p).2 (bel nn ns b p).2
              let m := mk y.2.1 ⟨p, x.1, y.1⟩
              (m.1, m.2, put y.2.2 (a, b) m.1))
            revert X
            generalize jn nn s f ns kn (bel nn ns a p).1 (bel nn ns b p).1 = x
            intro X
            obtain ⟨x1, xn, xk⟩ := x
            obtain ⟨m1, e1⟩ := X.ext
            have e1 : xn = ns ++ m1 := e1
            subst e1
            have A2' : (bel nn ns a p).2 < (ns ++ m1).length + 2 := by rw [List.length_append]; omega
            have B2' : (bel nn ns b p).2 < (ns ++ m1).length + 2 := by rw [List.length_append]; omega
            have Y := jn_ok hs f (ns ++ m1) xk (bel nn ns a p).2 (bel nn ns b p).2 X.wf X.kn A2' B2' (by rw [pl_ext A2, pl_ext B2]; omega)
            show JOK nn s ns a b (let y := jn nn s f (ns ++ m1) xk (bel nn ns a p).2 (bel nn ns b p).2
              let m := mk y.2.1 ⟨p, x1, y.1⟩
              (m.1, m.2, put y.2.2 (a, b) m.1))
            revert Y
            generalize jn nn s f (ns ++ m1) xk (bel nn ns a p).2 (bel nn ns b p).2 = y
            intro Y
            obtain ⟨y1, yn, yk⟩ := y
            obtain ⟨m2, e2⟩ := Y.ext
            have e2 : yn = (ns ++ m1) ++ m2 := e2
            subst e2
            have xlt : x1 < (ns ++ m1).length + 2 := X.lt
            have xlt' : x1 < (ns ++ m1 ++ m2).length + 2 := by rw [List.length_append]; omega
            have ylt : y1 < (ns ++ m1 ++ m2).length + 2 := Y.lt
            have xpl : min (pl nn ns (bel nn ns a p).1) (pl nn ns (bel nn ns b p).1) ≤ pl nn (ns ++ m1) x1 := X.pp
            have ypl : min (pl nn (ns ++ m1) (bel nn ns a p).2) (pl nn (ns ++ m1) (bel nn ns b p).2) ≤ pl nn (ns ++ m1 ++ m2) y1 := Y.pp
            rw [pl_ext A2, pl_ext B2] at ypl
            have M := mk_ok (d := ⟨p, x1, y1⟩) Y.wf xlt' ylt hpn (by show p < pl nn (ns ++ m1 ++ m2) x1; rw [pl_ext xlt]; omega) (by show p < pl nn (ns ++ m1 ++ m2) y1; omega)
            show JOK nn s ns a b (let m := mk (ns ++ m1 ++ m2) ⟨p, x1, y1⟩
              (m.1, m.2, put yk (a, b) m.1))
            revert M
            generalize mk (ns ++ m1 ++ m2) ⟨p, x1, y1⟩ = m
            intro M
            obtain ⟨r, mn⟩ := m
            obtain ⟨m3, e3⟩ := M.ext
            have e3 : mn = ns ++ m1 ++ m2 ++ m3 := e3
            subst e3
            have xs : ∀ e, sem e (ns ++ m1) x1 = opb s (sem e ns (bel nn ns a p).1) (sem e ns (bel nn ns b p).1) := X.sm
            have ys : ∀ e, sem e (ns ++ m1 ++ m2) y1 = opb s (sem e (ns ++ m1) (bel nn ns a p).2) (sem e (ns ++ m1) (bel nn ns b p).2) := Y.sm
            have ms : ∀ e, sem e (ns ++ m1 ++ m2 ++ m3) r = if e p then sem e (ns ++ m1 ++ m2) y1 else sem e (ns ++ m1 ++ m2) x1 := M.sm
            have S : ∀ e, sem e (ns ++ m1 ++ m2 ++ m3) r = opb s (sem e ns a) (sem e ns b) := fun e => by
              rw [ms e, ys e, sem_ext xlt, xs e, sem_ext A2, sem_ext B2, A5 e, B5 e, opb_if]
            have mpl : p ≤ pl nn (ns ++ m1 ++ m2 ++ m3) r := M.pp
            have lassoc : ns ++ m1 ++ m2 ++ m3 = ns ++ (m1 ++ m2 ++ m3) := by simp
            refine ⟨M.wf, ⟨m1 ++ m2 ++ m3, lassoc⟩, M.lt, S, mpl, ⟨fun a' b' r' h => ?_⟩, ?_⟩
            · have h : look (put yk (a, b) r) (a', b') = some r' := h
              rw [look_put] at h
              by_cases q : (a', b') = (a, b)
              · rw [if_pos q] at h
                cases h
                cases q
                refine ⟨by show a < (ns ++ m1 ++ m2 ++ m3).length + 2; rw [lassoc, List.length_append]; omega, by show b < (ns ++ m1 ++ m2 ++ m3).length + 2; rw [lassoc, List.length_append]; omega, M.lt, ?_, fun e => ?_⟩
                · show min (pl nn (ns ++ m1 ++ m2 ++ m3) a) (pl nn (ns ++ m1 ++ m2 ++ m3) b) ≤ pl nn (ns ++ m1 ++ m2 ++ m3) r
                  rw [show pl nn (ns ++ m1 ++ m2 ++ m3) a = pl nn ns a by rw [lassoc, pl_ext ha], show pl nn (ns ++ m1 ++ m2 ++ m3) b = pl nn ns b by rw [lassoc, pl_ext hb]]
                  exact mpl
                · show sem e (ns ++ m1 ++ m2 ++ m3) r = opb s (sem e (ns ++ m1 ++ m2 ++ m3) a) (sem e (ns ++ m1 ++ m2 ++ m3) b)
                  rw [S e, show sem e (ns ++ m1 ++ m2 ++ m3) a = sem e ns a by rw [lassoc, sem_ext ha], show sem e (ns ++ m1 ++ m2 ++ m3) b = sem e ns b by rw [lassoc, sem_ext hb]]
              · rw [if_neg q] at h
                exact (KOK.ext (more := m3) Y.kn).ok a' b' r' h
            · have xc : (ns ++ m1).length + 1 ≤ ns.length + 2 ^ (nn - min (pl nn ns (bel nn ns a p).1) (pl nn ns (bel nn ns b p).1)) := X.cnt
              have yc : (ns ++ m1 ++ m2).length + 1 ≤ (ns ++ m1).length + 2 ^ (nn - min (pl nn (ns ++ m1) (bel nn ns a p).2) (pl nn (ns ++ m1) (bel nn ns b p).2)) := Y.cnt
              rw [pl_ext A2, pl_ext B2] at yc
              have mc : (ns ++ m1 ++ m2 ++ m3).length ≤ (ns ++ m1 ++ m2).length + 1 := M.cnt
              have g1 : 2 ^ (nn - min (pl nn ns (bel nn ns a p).1) (pl nn ns (bel nn ns b p).1)) ≤ 2 ^ (nn - p - 1) := Nat.pow_le_pow_right (by decide) (by omega)
              have g2 : 2 ^ (nn - min (pl nn ns (bel nn ns a p).2) (pl nn ns (bel nn ns b p).2)) ≤ 2 ^ (nn - p - 1) := Nat.pow_le_pow_right (by decide) (by omega)
              have g3 : 2 ^ (nn - p) = 2 ^ (nn - p - 1) * 2 := by
                rw [← Nat.pow_succ]
                congr 1
                omega
              show (ns ++ m1 ++ m2 ++ m3).length + 1 ≤ ns.length + 2 ^ (nn - p)
              omega

theorem jn_re {nn s : Nat} (hs : s < 2) : ∀ (f : Nat) (ns : List Nd) (kn : Kn2) (a b : Nat), WF nn ns → KOK nn s ns kn → a < ns.length + 2 → b < ns.length + 2 → nn < f + min (pl nn ns a) (pl nn ns b) →
    ∀ more, jn nn s f ((jn nn s f ns kn a b).2.1 ++ more) kn a b = ((jn nn s f ns kn a b).1, (jn nn s f ns kn a b).2.1 ++ more, (jn nn s f ns kn a b).2.2)
  | 0, ns, kn, a, b, w, _, _, _, hf, more => rfl
  | f + 1, ns, kn, a, b, w, k, ha, hb, hf, more => by
    by_cases c1 : a = s ∨ b = s
    · simp only [jn, if_pos c1]
    · by_cases c2 : a = 1 - s ∨ a = b
      · simp only [jn, if_neg c1, if_pos c2]
      · by_cases c3 : b = 1 - s
        · simp only [jn, if_neg c1, if_neg c2, if_pos c3]
        · cases hl : look kn (a, b) with
          | some r => simp only [jn, if_neg c1, if_neg c2, if_neg c3, hl]
          | none =>
            have a2 : 2 ≤ a := by omega
            have b2 : 2 ≤ b := by omega
            obtain ⟨_, _, pa, _, _, _, pn, _⟩ := w.node a2 ha
            have hpn : min (pl nn ns a) (pl nn ns b) < nn := by omega
            obtain ⟨A1, A2, A3, A4, A5⟩ := bel_ok (p := min (pl nn ns a) (pl nn ns b)) w a2 ha (by omega)
            obtain ⟨B1, B2, B3, B4, B5⟩ := bel_ok (p := min (pl nn ns a) (pl nn ns b)) w b2 hb (by omega)
            have X := jn_ok hs f ns kn _ _ w k A1 B1 (by omega)
            have XR := jn_re hs f ns kn _ _ w k A1 B1 (by omega)
            simp only [jn, if_neg c1, if_neg c2, if_neg c3, hl]
            revert X XR
            generalize hp : min (pl nn ns a) (pl nn ns b) = p at A1 A2 A3 A4 B1 B2 B3 B4 hpn ⊢
            generalize jn nn s f ns kn (bel nn ns a p).1 (bel nn ns b p).1 = x
            intro X XR
            obtain ⟨x1, xn, xk⟩ := x
            obtain ⟨m1, e1⟩ := X.ext
            have e1 : xn = ns ++ m1 := e1
            subst e1
            have A2' : (bel nn ns a p).2 < (ns ++ m1).length + 2 := by rw [List.length_append]; omega
            have B2' : (bel nn ns b p).2 < (ns ++ m1).length + 2 := by rw [List.length_append]; omega
            have Y := jn_ok hs f (ns ++ m1) xk (bel nn ns a p).2 (bel nn ns b p).2 X.wf X.kn A2' B2' (by rw [pl_ext A2, pl_ext B2]; omega)
            have YR := jn_re hs f (ns ++ m1) xk (bel nn ns a p).2 (bel nn ns b p).2 X.wf X.kn A2' B2' (by rw [pl_ext A2, pl_ext B2]; omega)
            simp only at XR ⊢
            revert Y YR
            generalize jn nn s f (ns ++ m1) xk (bel nn ns a p).2 (bel nn ns b p).2 = y
            intro Y YR
            obtain ⟨y1, yn, yk⟩ := y
            obtain ⟨m2, e2⟩ := Y.ext
            have e2 : yn = (ns ++ m1) ++ m2 := e2
            subst e2
            simp only at YR ⊢
            have R := mk_re (ns := ns ++ m1 ++ m2) (d := ⟨p, x1, y1⟩) (more := more)
            have M3 : ∃ m3, (mk (ns ++ m1 ++ m2) ⟨p, x1, y1⟩).2 = ns ++ m1 ++ m2 ++ m3 := by
              unfold mk
              split
              · exact ⟨[], by simp⟩
              · split
                · exact ⟨[], by simp⟩
                · exact ⟨_, rfl⟩
            revert R M3
            generalize mk (ns ++ m1 ++ m2) ⟨p, x1, y1⟩ = m
            intro R M3
            obtain ⟨r, mn⟩ := m
            obtain ⟨m3, e3⟩ := M3
            have e3 : mn = ns ++ m1 ++ m2 ++ m3 := e3
            subst e3
            simp only at R ⊢
            have q1 : ns ++ m1 ++ m2 ++ m3 ++ more = ns ++ (m1 ++ m2 ++ m3 ++ more) := by simp
            have q2 : ns ++ m1 ++ m2 ++ m3 ++ more = (ns ++ m1) ++ (m2 ++ m3 ++ more) := by simp
            have q3 : ns ++ m1 ++ m2 ++ m3 ++ more = (ns ++ m1 ++ m2) ++ (m3 ++ more) := by simp
            rw [show pl nn (ns ++ m1 ++ m2 ++ m3 ++ more) a = pl nn ns a by rw [q1, pl_ext ha], show pl nn (ns ++ m1 ++ m2 ++ m3 ++ more) b = pl nn ns b by rw [q1, pl_ext hb], hp,
              show bel nn (ns ++ m1 ++ m2 ++ m3 ++ more) a p = bel nn ns a p by rw [q1, bel_ext a2 ha], show bel nn (ns ++ m1 ++ m2 ++ m3 ++ more) b p = bel nn ns b p by rw [q1, bel_ext b2 hb]]
            have r1 := XR (m2 ++ m3 ++ more)
            rw [← q2] at r1
            have r2 := YR (m3 ++ more)
            rw [← q3] at r2
            rw [r1]
            simp only
            rw [r2]
            simp only
            rw [R]

/-! ### the node that holds where another one does not -/
abbrev Kn1 := List (Nat × Nat)
def opn : Nat → List Nd → Kn1 → Nat → Nat × List Nd × Kn1
  | 0, ns, kn, _ => (0, ns, kn)
  | f + 1, ns, kn, a =>
    if a < 2 then (1 - a, ns, kn)
    else match look kn a with
      | some r => (r, ns, kn)
      | none => match ns[a - 2]? with
        | none => (0, ns, kn)
        | some d =>
          let x := opn f ns kn d.lo
          let y := opn f x.2.1 x.2.2 d.hi
          let m := mk y.2.1 ⟨d.p, x.1, y.1⟩
          (m.1, m.2, put y.2.2 a m.1)
structure NOK1 (nn : Nat) (ns : List Nd) (kn : Kn1) : Prop where
  ok : ∀ a r, look kn a = some r → a < ns.length + 2 ∧ r < ns.length + 2 ∧ pl nn ns a ≤ pl nn ns r ∧ ∀ e, sem e ns r = !(sem e ns a)
theorem NOK1.nil (nn : Nat) (ns : List Nd) : NOK1 nn ns [] := ⟨fun _ _ h => by simp [look] at h⟩
theorem NOK1.ext {nn : Nat} {ns more : List Nd} {kn : Kn1} (k : NOK1 nn ns kn) : NOK1 nn (ns ++ more) kn := ⟨fun a r h => by
  obtain ⟨ha, hr, hp, hs⟩ := k.ok a r h
  refine ⟨by simp; omega, by simp; omega, ?_, fun e => ?_⟩
  · rw [pl_ext ha, pl_ext hr]; exact hp
  · rw [sem_ext ha, sem_ext hr]; exact hs e⟩
structure OOK (nn : Nat) (ns : List Nd) (a : Nat) (o : Nat × List Nd × Kn1) : Prop where
  wf : WF nn o.2.1
  ext : ∃ more, o.2.1 = ns ++ more
  lt : o.1 < o.2.1.length + 2
  sm : ∀ e, sem e o.2.1 o.1 = !(sem e ns a)
  pp : pl nn ns a ≤ pl nn o.2.1 o.1
  kn : NOK1 nn o.2.1 o.2.2
  cnt : o.2.1.length + 1 ≤ ns.length + 2 ^ (nn - pl nn ns a)
theorem OOK.same {nn : Nat} {ns : List Nd} {kn : Kn1} {a r : Nat} (w : WF nn ns) (k : NOK1 nn ns kn) (hr : r < ns.length + 2) (hs : ∀ e, sem e ns r = !(sem e ns a)) (hp : pl nn ns a ≤ pl nn ns r) : OOK nn ns a (r, ns, kn) :=
  ⟨w, ⟨[], by simp⟩, hr, hs, hp, k, by have := Nat.pow_pos (n := nn - pl nn ns a) (show 0 < 2 by decide); show ns.length + 1 ≤ _; omega⟩

theorem opn_ok {nn : Nat} : ∀ (f : Nat) (ns : List Nd) (kn : Kn1) (a : Nat), WF nn ns → NOK1 nn ns kn → a < ns.length + 2 → nn < f + pl nn ns a → OOK nn ns a (opn f ns kn a)
  | 0, ns, kn, a, w, _, _, hf => by
    have := w.pl_le a
    omega
  | f + 1, ns, kn, a, w, k, ha, hf => by
    unfold opn
    by_cases c1 : a < 2
    · rw [if_pos c1]
      refine OOK.same w k (by omega) (fun e => ?_) (by rw [pl_small (x := 1 - a) (by omega)]; exact w.pl_le a)
      match a, c1 with
      | 0, _ => rw [sem_zero]; exact sem_one _ _
      | 1, _ => rw [sem_one]; exact sem_zero _ _
    · rw [if_neg c1]
      have a2 : 2 ≤ a := by omega
      obtain ⟨d, hd, epl, hne, hlo, hhi, hpn, g1, g2, hsem⟩ := w.node a2 ha
      rw [hd]
      split
      · rename_i r hl
        obtain ⟨_, hr, hp, hq⟩ := k.ok a r hl
        exact OOK.same w k hr hq hp
      · have L1 : d.lo < ns.length + 2 := by omega
        have L2 : d.hi < ns.length + 2 := by omega
        have X := opn_ok f ns kn d.lo w k L1 (by omega)
        show OOK nn ns a (let x := opn f ns kn d.lo
          let y := opn f x.2.1 x.2.2 d.hi
          let m := mk y.2.1 ⟨d.p, x.1, y.1⟩
          (m.1, m.2, put y.2.2 a m.1))
        revert X
        generalize opn f ns kn d.lo = x
        intro X
        obtain ⟨x1, xn, xk⟩ := x
        obtain ⟨m1, e1⟩ := X.ext
        have e1 : xn = ns ++ m1 := e1
        subst e1
        have L2' : d.hi < (ns ++ m1).length + 2 := by rw [List.length_append]; omega
        have Y := opn_ok f (ns ++ m1) xk d.hi X.wf X.kn L2' (by rw [pl_ext L2]; omega)
        show OOK nn ns a (let y := opn f (ns ++ m1) xk d.hi
          let m := mk y.2.1 ⟨d.p, x1, y.1⟩
          (m.1, m.2, put y.2.2 a m.1))
        revert Y
        generalize opn f (ns ++ m1) xk d.hi = y
        intro Y
        obtain ⟨y1, yn, yk⟩ := y
        obtain ⟨m2, e2⟩ := Y.ext
        have e2 : yn = (ns ++ m1) ++ m2 := e2
        subst e2
        have xlt : x1 < (ns ++ m1).length + 2 := X.lt
        have xlt' : x1 < (ns ++ m1 ++ m2).length + 2 := by rw [List.length_append]; omega
        have ylt : y1 < (ns ++ m1 ++ m2).length + 2 := Y.lt
        have xpl : pl nn ns d.lo ≤ pl nn (ns ++ m1) x1 := X.pp
        have ypl : pl nn (ns ++ m1) d.hi ≤ pl nn (ns ++ m1 ++ m2) y1 := Y.pp
        rw [pl_ext L2] at ypl
        have M := mk_ok (d := ⟨d.p, x1, y1⟩) Y.wf xlt' ylt hpn (by show d.p < pl nn (ns ++ m1 ++ m2) x1; rw [pl_ext xlt]; omega) (by show d.p < pl nn (ns ++ m1 ++ m2) y1; omega)
        show OOK nn ns a (let m := mk (ns ++ m1 ++ m2) ⟨d.p, x1, y1⟩
          (m.1, m.2, put yk a m.1))
        revert M
        generalize mk (ns ++ m1 ++ m2) ⟨d.p, x1, y1⟩ = m
        intro M
        obtain ⟨r, mn⟩ := m
        obtain ⟨m3, e3⟩ := M.ext
        have e3 : mn = ns ++ m1 ++ m2 ++ m3 := e3
        subst e3
        have xs : ∀ e, sem e (ns ++ m1) x1 = !(sem e ns d.lo) := X.sm
        have ys : ∀ e, sem e (ns ++ m1 ++ m2) y1 = !(sem e (ns ++ m1) d.hi) := Y.sm
        have ms : ∀ e, sem e (ns ++ m1 ++ m2 ++ m3) r = if e d.p then sem e (ns ++ m1 ++ m2) y1 else sem e (ns ++ m1 ++ m2) x1 := M.sm
        have S : ∀ e, sem e (ns ++ m1 ++ m2 ++ m3) r = !(sem e ns a) := fun e => by
          rw [ms e, ys e, sem_ext xlt, xs e, sem_ext L2, hsem e]
          cases e d.p <;> rfl
        have mpl : d.p ≤ pl nn (ns ++ m1 ++ m2 ++ m3) r := M.pp
        have lassoc : ns ++ m1 ++ m2 ++ m3 = ns ++ (m1 ++ m2 ++ m3) := by simp
        refine ⟨M.wf, ⟨m1 ++ m2 ++ m3, lassoc⟩, M.lt, S, by show pl nn ns a ≤ pl nn (ns ++ m1 ++ m2 ++ m3) r; omega, ⟨fun a' r' h => ?_⟩, ?_⟩
        · have h : look (put yk a r) a' = some r' := h
          rw [look_put] at h
          by_cases q : a' = a
          · rw [if_pos q] at h
            cases h
            subst q
            refine ⟨by show a' < (ns ++ m1 ++ m2 ++ m3).length + 2; rw [lassoc, List.length_append]; omega, M.lt, ?_, fun e => ?_⟩
            · show pl nn (ns ++ m1 ++ m2 ++ m3) a' ≤ pl nn (ns ++ m1 ++ m2 ++ m3) r
              rw [show pl nn (ns ++ m1 ++ m2 ++ m3) a' = pl nn ns a' by rw [lassoc, pl_ext ha]]
              omega
            · show sem e (ns ++ m1 ++ m2 ++ m3) r = !(sem e (ns ++ m1 ++ m2 ++ m3) a')
              rw [S e, show sem e (ns ++ m1 ++ m2 ++ m3) a' = sem e ns a' by rw [lassoc, sem_ext ha]]
          · rw [if_neg q] at h
            exact (NOK1.ext (more := m3) Y.kn).ok a' r' h
        · have xc : (ns ++ m1).length + 1 ≤ ns.length + 2 ^ (nn - pl nn ns d.lo) := X.cnt
          have yc : (ns ++ m1 ++ m2).length + 1 ≤ (ns ++ m1).length + 2 ^ (nn - pl nn (ns ++ m1) d.hi) := Y.cnt
          rw [pl_ext L2] at yc
          have mc : (ns ++ m1 ++ m2 ++ m3).length ≤ (ns ++ m1 ++ m2).length + 1 := M.cnt
          have g1 : 2 ^ (nn - pl nn ns d.lo) ≤ 2 ^ (nn - d.p - 1) := Nat.pow_le_pow_right (by decide) (by omega)
          have g2 : 2 ^ (nn - pl nn ns d.hi) ≤ 2 ^ (nn - d.p - 1) := Nat.pow_le_pow_right (by decide) (by omega)
          have g3 : 2 ^ (nn - d.p) = 2 ^ (nn - d.p - 1) * 2 := by
            rw [← Nat.pow_succ]
            congr 1
            omega
          show (ns ++ m1 ++ m2 ++ m3).length + 1 ≤ ns.length + 2 ^ (nn - pl nn ns a)
          rw [epl]
          omega

theorem opn_re {nn : Nat} : ∀ (f : Nat) (ns : List Nd) (kn : Kn1) (a : Nat), WF nn ns → NOK1 nn ns kn → a < ns.length + 2 → nn < f + pl nn ns a →
    ∀ more, opn f ((opn f ns kn a).2.1 ++ more) kn a = ((opn f ns kn a).1, (opn f ns kn a).2.1 ++ more, (opn f ns kn a).2.2)
  | 0, ns, kn, a, w, _, _, hf, more => rfl
  | f + 1, ns, kn, a, w, k, ha, hf, more => by
    by_cases c1 : a < 2
    · simp only [opn, if_pos c1]
    · cases hl : look kn a with
      | some r => simp only [opn, if_neg c1, hl]
      | none =>
        have a2 : 2 ≤ a := by omega
        obtain ⟨d, hd, epl, hne, hlo, hhi, hpn, g1, g2, hsem⟩ := w.node a2 ha
        have L1 : d.lo < ns.length + 2 := by omega
        have L2 : d.hi < ns.length + 2 := by omega
        have X := opn_ok f ns kn d.lo w k L1 (by omega)
        have XR := opn_re f ns kn d.lo w k L1 (by omega)
        simp only [opn, if_neg c1, hl, hd]
        revert X XR
        generalize opn f ns kn d.lo = x
        intro X XR
        obtain ⟨x1, xn, xk⟩ := x
        obtain ⟨m1, e1⟩ := X.ext
        have e1 : xn = ns ++ m1 := e1
        subst e1
        have L2' : d.hi < (ns ++ m1).length + 2 := by rw [List.length_append]; omega
        have Y := opn_ok f (ns ++ m1) xk d.hi X.wf X.kn L2' (by rw [pl_ext L2]; omega)
        have YR := opn_re f (ns ++ m1) xk d.hi X.wf X.kn L2' (by rw [pl_ext L2]; omega)
        simp only at XR ⊢
        revert Y YR
        generalize opn f (ns ++ m1) xk d.hi = y
        intro Y YR
        obtain ⟨y1, yn, yk⟩ := y
        obtain ⟨m2, e2⟩ := Y.ext
        have e2 : yn = (ns ++ m1) ++ m2 := e2
        subst e2
        simp only at YR ⊢
        have R := mk_re (ns := ns ++ m1 ++ m2) (d := ⟨d.p, x1, y1⟩) (more := more)
        have M3 : ∃ m3, (mk (ns ++ m1 ++ m2) ⟨d.p, x1, y1⟩).2 = ns ++ m1 ++ m2 ++ m3 := by
          unfold mk
          split
          · exact ⟨[], by simp⟩
          · split
            · exact ⟨[], by simp⟩
            · exact ⟨_, rfl⟩
        revert R M3
        generalize mk (ns ++ m1 ++ m2) ⟨d.p, x1, y1⟩ = m
        intro R M3
        obtain ⟨r, mn⟩ := m
        obtain ⟨m3, e3⟩ := M3
        have e3 : mn = ns ++ m1 ++ m2 ++ m3 := e3
        subst e3
        simp only at R ⊢
        have q1 : ns ++ m1 ++ m2 ++ m3 ++ more = ns ++ (m1 ++ m2 ++ m3 ++ more) := by simp
        have q2 : ns ++ m1 ++ m2 ++ m3 ++ more = (ns ++ m1) ++ (m2 ++ m3 ++ more) := by simp
        have q3 : ns ++ m1 ++ m2 ++ m3 ++ more = (ns ++ m1 ++ m2) ++ (m3 ++ more) := by simp
        have hd' : (ns ++ m1 ++ m2 ++ m3 ++ more)[a - 2]? = some d := by
          rw [q1, List.getElem?_append_left (by omega)]
          exact hd
        rw [hd']
        have r1 := XR (m2 ++ m3 ++ more)
        rw [← q2] at r1
        have r2 := YR (m3 ++ more)
        rw [← q3] at r2
        simp only
        rw [r1]
        simp only
        rw [r2]
        simp only
        rw [R]

/-! ### the node of a condition -/
def stopOf (k : Bool) : Nat := if k = true then 0 else 1
mutual
def dr (nn : Nat) : List Nd → T → Nat × List Nd
  | ns, .fx b => (if b = true then 1 else 0, ns)
  | ns, .ct i => mk ns ⟨i, 0, 1⟩
  | ns, .nt t => ((opn (nn + 1) (dr nn ns t).2 [] (dr nn ns t).1).1, (opn (nn + 1) (dr nn ns t).2 [] (dr nn ns t).1).2.1)
  | ns, .gr k ts => drL nn (stopOf k) ns (1 - stopOf k) ts
def drL (nn s : Nat) : List Nd → Nat → List T → Nat × List Nd
  | ns, acc, [] => (acc, ns)
  | ns, acc, t :: ts => drL nn s (jn nn s (nn + 1) (dr nn ns t).2 [] acc (dr nn ns t).1).2.1 (jn nn s (nn + 1) (dr nn ns t).2 [] acc (dr nn ns t).1).1 ts
end
structure DOK (nn : Nat) (ns : List Nd) (v : (Nat → Bool) → Bool) (c : Nat) (o : Nat × List Nd) : Prop where
  wf : WF nn o.2
  ext : ∃ more, o.2 = ns ++ more
  lt : o.1 < o.2.length + 2
  sm : ∀ e, sem e o.2 o.1 = v e
  cnt : o.2.length ≤ ns.length + c
theorem pow6 {n : Nat} (h : n ≤ 6) (k : Nat) : 2 ^ (n - k) ≤ 64 := by
  have : 2 ^ (n - k) ≤ 2 ^ 6 := Nat.pow_le_pow_right (by decide) (by omega)
  exact this
mutual
theorem dr_ok {nn : Nat} (h6 : nn ≤ 6) : ∀ (t : T) (ns : List Nd), WF nn ns → t.ok nn → DOK nn ns (fun e => t.ev e) (64 * t.size - 63) (dr nn ns t)
  | .fx b, ns, w, _ => by
    cases b
    · exact ⟨w, ⟨[], by simp [dr]⟩, by simp [dr], fun e => by simpa [dr, T.ev] using sem_zero e ns, by simp [dr]⟩
    · exact ⟨w, ⟨[], by simp [dr]⟩, by simp [dr], fun e => by simpa [dr, T.ev] using sem_one e ns, by simp [dr]⟩
  | .ct i, ns, w, h => by
    have h : i < nn := h
    have M := mk_ok (d := ⟨i, 0, 1⟩) w (by show 0 < _; omega) (by show 1 < _; omega) h (by show i < pl nn ns 0; rw [pl_small (by decide)]; exact h) (by show i < pl nn ns 1; rw [pl_small (by decide)]; exact h)
    refine ⟨M.wf, M.ext, M.lt, fun e => ?_, M.cnt⟩
    show sem e (mk ns ⟨i, 0, 1⟩).2 (mk ns ⟨i, 0, 1⟩).1 = e i
    rw [M.sm e]
    show (if e i = true then sem e ns 1 else sem e ns 0) = e i
    rw [sem_one, sem_zero]
    cases e i <;> rfl
  | .nt t, ns, w, h => by
    have D := dr_ok h6 t ns w h
    have O := opn_ok (nn := nn) (nn + 1) (dr nn ns t).2 [] (dr nn ns t).1 D.wf (NOK1.nil _ _) D.lt (by omega)
    obtain ⟨m1, e1⟩ := D.ext
    obtain ⟨m2, e2⟩ := O.ext
    refine ⟨O.wf, ⟨m1 ++ m2, ?_⟩, O.lt, fun e => ?_, ?_⟩
    · show (opn (nn + 1) (dr nn ns t).2 [] (dr nn ns t).1).2.1 = _
      rw [e2, e1, List.append_assoc]
    · show sem e (opn (nn + 1) (dr nn ns t).2 [] (dr nn ns t).1).2.1 (opn (nn + 1) (dr nn ns t).2 [] (dr nn ns t).1).1 = !(t.ev e)
      rw [O.sm e, D.sm e]
    · have c1 := D.cnt
      have c2 := O.cnt
      have c3 := pow6 h6 (pl nn (dr nn ns t).2 (dr nn ns t).1)
      have c4 := t.size_pos
      show (opn (nn + 1) (dr nn ns t).2 [] (dr nn ns t).1).2.1.length ≤ _
      show _ ≤ ns.length + (64 * (1 + t.size) - 63)
      omega
  | .gr k ts, ns, w, h => by
    have hs : stopOf k < 2 := by unfold stopOf; split <;> decide
    have L := drL_ok h6 hs ts ns (1 - stopOf k) w (by omega) h.2
    refine ⟨L.wf, L.ext, L.lt, fun e => ?_, ?_⟩
    · show sem e (drL nn (stopOf k) ns (1 - stopOf k) ts).2 (drL nn (stopOf k) ns (1 - stopOf k) ts).1 = _
      rw [L.sm e]
      cases k
      · show opb 1 (sem e ns 0) (anyE e ts) = anyE e ts
        rw [sem_zero]; rfl
      · show opb 0 (sem e ns 1) (allE e ts) = allE e ts
        rw [sem_one]; rfl
    · have c := L.cnt
      show (drL nn (stopOf k) ns (1 - stopOf k) ts).2.length ≤ ns.length + (64 * (1 + sizeL ts) - 63)
      omega
theorem drL_ok {nn s : Nat} (h6 : nn ≤ 6) (hs : s < 2) : ∀ (ts : List T) (ns : List Nd) (acc : Nat), WF nn ns → acc < ns.length + 2 → okL nn ts →
    DOK nn ns (fun e => opb s (sem e ns acc) (if s = 0 then allE e ts else anyE e ts)) (64 * sizeL ts) (drL nn s ns acc ts)
  | [], ns, acc, w, ha, _ => by
    refine ⟨w, ⟨[], by simp [drL]⟩, ha, fun e => ?_, by simp [drL]⟩
    show sem e ns acc = _
    match s, hs with
    | 0, _ => simp [opb, allE]
    | 1, _ => simp [opb, anyE]
  | t :: ts, ns, acc, w, ha, h => by
    have D := dr_ok h6 t ns w h.1
    obtain ⟨m1, e1⟩ := D.ext
    have ha' : acc < (dr nn ns t).2.length + 2 := by rw [e1, List.length_append]; omega
    have J := jn_ok (nn := nn) hs (nn + 1) (dr nn ns t).2 [] acc (dr nn ns t).1 D.wf (KOK.nil _ _ _) ha' D.lt (by omega)
    have L := drL_ok h6 hs ts _ _ J.wf J.lt h.2
    obtain ⟨m2, e2⟩ := J.ext
    obtain ⟨m3, e3⟩ := L.ext
    refine ⟨L.wf, ⟨m1 ++ m2 ++ m3, ?_⟩, L.lt, fun e => ?_, ?_⟩
    · show (drL nn s _ _ ts).2 = _
      rw [e3, e2, e1]; simp
    · show sem e (drL nn s _ _ ts).2 (drL nn s _ _ ts).1 = _
      rw [L.sm e, J.sm e, D.sm e, show sem e (dr nn ns t).2 acc = sem e ns acc by rw [e1, sem_ext ha]]
      match s, hs with
      | 0, _ => simp [opb, allE, Bool.and_assoc]
      | 1, _ => simp [opb, anyE, Bool.or_assoc]
    · have c1 := D.cnt
      have c2 := J.cnt
      have c3 := pow6 h6 (min (pl nn (dr nn ns t).2 acc) (pl nn (dr nn ns t).2 (dr nn ns t).1))
      have c4 := t.size_pos
      have c5 := L.cnt
      show (drL nn s _ _ ts).2.length ≤ ns.length + 64 * (t.size + sizeL ts)
      omega
end
mutual
theorem dr_re {nn : Nat} (h6 : nn ≤ 6) : ∀ (t : T) (ns : List Nd), WF nn ns → t.ok nn → ∀ more, dr nn ((dr nn ns t).2 ++ more) t = ((dr nn ns t).1, (dr nn ns t).2 ++ more)
  | .fx b, ns, w, _, more => rfl
  | .ct i, ns, w, h, more => mk_re
  | .nt t, ns, w, h, more => by
    have D := dr_ok h6 t ns w h
    have R := dr_re h6 t ns w h
    have O := opn_ok (nn := nn) (nn + 1) (dr nn ns t).2 [] (dr nn ns t).1 D.wf (NOK1.nil _ _) D.lt (by omega)
    have OR := opn_re (nn := nn) (nn + 1) (dr nn ns t).2 [] (dr nn ns t).1 D.wf (NOK1.nil _ _) D.lt (by omega)
    obtain ⟨m2, e2⟩ := O.ext
    have r1 := R (m2 ++ more)
    rw [← List.append_assoc, ← e2] at r1
    show ((opn (nn + 1) (dr nn ((opn (nn + 1) (dr nn ns t).2 [] (dr nn ns t).1).2.1 ++ more) t).2 [] (dr nn ((opn (nn + 1) (dr nn ns t).2 [] (dr nn ns t).1).2.1 ++ more) t).1).1,
      (opn (nn + 1) (dr nn ((opn (nn + 1) (dr nn ns t).2 [] (dr nn ns t).1).2.1 ++ more) t).2 [] (dr nn ((opn (nn + 1) (dr nn ns t).2 [] (dr nn ns t).1).2.1 ++ more) t).1).2.1) = _
    rw [r1]
    simp only
    rw [OR more]
    rfl
  | .gr k ts, ns, w, h, more => by
    have hs : stopOf k < 2 := by unfold stopOf; split <;> decide
    exact drL_re h6 hs ts ns (1 - stopOf k) w (by omega) h.2 more
theorem drL_re {nn s : Nat} (h6 : nn ≤ 6) (hs : s < 2) : ∀ (ts : List T) (ns : List Nd) (acc : Nat), WF nn ns → acc < ns.length + 2 → okL nn ts → ∀ more, drL nn s ((drL nn s ns acc ts).2 ++ more) acc ts = ((drL nn s ns acc ts).1, (drL nn s ns acc ts).2 ++ more)
  | [], ns, acc, w, ha, _, more => rfl
  | t :: ts, ns, acc, w, ha, h, more => by
    have D := dr_ok h6 t ns w h.1
    have R := dr_re h6 t ns w h.1
    obtain ⟨m1, e1⟩ := D.ext
    have ha' : acc < (dr nn ns t).2.length + 2 := by rw [e1, List.length_append]; omega
    have J := jn_ok (nn := nn) hs (nn + 1) (dr nn ns t).2 [] acc (dr nn ns t).1 D.wf (KOK.nil _ _ _) ha' D.lt (by omega)
    have JR := jn_re (nn := nn) hs (nn + 1) (dr nn ns t).2 [] acc (dr nn ns t).1 D.wf (KOK.nil _ _ _) ha' D.lt (by omega)
    have L := drL_ok h6 hs ts _ _ J.wf J.lt h.2
    have LR := drL_re h6 hs ts _ _ J.wf J.lt h.2 more
    obtain ⟨m2, e2⟩ := J.ext
    obtain ⟨m3, e3⟩ := L.ext
    have r1 := R (m2 ++ (m3 ++ more))
    rw [← List.append_assoc, ← e2, ← List.append_assoc, ← e3] at r1
    have r2 := JR (m3 ++ more)
    rw [← List.append_assoc, ← e3] at r2
    show drL nn s (jn nn s (nn + 1) (dr nn ((drL nn s (jn nn s (nn + 1) (dr nn ns t).2 [] acc (dr nn ns t).1).2.1 (jn nn s (nn + 1) (dr nn ns t).2 [] acc (dr nn ns t).1).1 ts).2 ++ more) t).2 [] acc
        (dr nn ((drL nn s (jn nn s (nn + 1) (dr nn ns t).2 [] acc (dr nn ns t).1).2.1 (jn nn s (nn + 1) (dr nn ns t).2 [] acc (dr nn ns t).1).1 ts).2 ++ more) t).1).2.1
      (jn nn s (nn + 1) (dr nn ((drL nn s (jn nn s (nn + 1) (dr nn ns t).2 [] acc (dr nn ns t).1).2.1 (jn nn s (nn + 1) (dr nn ns t).2 [] acc (dr nn ns t).1).1 ts).2 ++ more) t).2 [] acc
        (dr nn ((drL nn s (jn nn s (nn + 1) (dr nn ns t).2 [] acc (dr nn ns t).1).2.1 (jn nn s (nn + 1) (dr nn ns t).2 [] acc (dr nn ns t).1).1 ts).2 ++ more) t).1).1 ts = _
    rw [r1]
    simp only
    rw [r2]
    exact LR
end
end RW
/-! The text by places, what stands in the heap, short words for calls. -/
namespace RW
open PySem L2 PySem.Spec PyProof.Rows

/-! ### the text by places -/
def top (i : Nat) : Stmt := PySem.Challenge.pw_rungworks_k31_nodes_drawn.main.body.getD i (.Pass ⟨0, 0, 0, 0⟩)
abbrev sIsWord : Stmt := top 11
abbrev sIsName : Stmt := top 12
abbrev sInner : Stmt := inClass (top 16) 0
abbrev sSize : Stmt := inClass (top 16) 4
abbrev sDepth : Stmt := inClass (top 16) 5
abbrev sGather : Stmt := inClass (top 16) 6
abbrev sContacts : Stmt := inClass (top 16) 7
abbrev sBounded : Stmt := inClass (top 16) 8
abbrev sInitF : Stmt := inClass (top 17) 0
abbrev sInitC : Stmt := inClass (top 18) 0
abbrev sGatherC : Stmt := inClass (top 18) 4
abbrev sInitT : Stmt := inClass (top 19) 0
abbrev sInnerT : Stmt := inClass (top 19) 1
abbrev sInitG : Stmt := inClass (top 20) 0
abbrev sInnerG : Stmt := inClass (top 20) 1
abbrev sSingle : Stmt := top 24
abbrev sJoined : Stmt := top 25
abbrev sPartOf : Stmt := top 26
abbrev sInitS : Stmt := inClass (top 30) 0
abbrev sPlace : Stmt := inClass (top 30) 1
abbrev sMade : Stmt := inClass (top 30) 2
abbrev sBelow : Stmt := inClass (top 30) 3
abbrev sJoin : Stmt := inClass (top 30) 5
abbrev sOpp : Stmt := inClass (top 30) 6
abbrev sDrawn : Stmt := inClass (top 30) 7
abbrev sNeed : Stmt := inClass (top 30) 8
abbrev sNode : Stmt := inClass (top 30) 9
abbrev sShown : Stmt := inClass (top 30) 14
abbrev sCell : Stmt := top 32
abbrev sMixed : Stmt := top 33
abbrev sWord : Stmt := top 34
abbrev sNames : Stmt := top 35
abbrev sGrown : Stmt := top 36
abbrev sToldBy : Stmt := top 37
abbrev sHolds : Stmt := top 38
abbrev sRow : Stmt := top 39
abbrev sDown : Stmt := top 40
abbrev sWhole : Stmt := top 41
abbrev sMet : Stmt := top 42
abbrev sPlaceL : Stmt := top 43
abbrev sFormed : Stmt := top 44
abbrev sLaw : Stmt := top 45

/-! ### a def as it stands, as it is good to call -/
def Def (K : PySem.W.Frag) (x qual : Str) (st : Stmt) (ps : List Str) (f : Addr) : Prop := ∃ fd, Fun K x qual st f fd ∧ Binds K fd ps []
def Good (P : Program) (w : World) (K : PySem.W.Frag) (mg : Str → Option Value) (base : Heap) (k : Nat) (f : Addr) (ps : List Str) (sp : Sp) : Prop :=
  ∃ fd, FnOk P w K mg base CX0 k f fd ps sp ∧ Binds K fd ps [] ∧ PySem.W.keepIn K (.ref f) = true
section
variable {P : Program} {w : World} {K : PySem.W.Frag} {mg : Str → Option Value} {base : Heap}
theorem Def.ok {x qual : Str} {st : Stmt} {f : Addr} {N ps : List Str} {k : Nat} {sp : Sp} (D : Def K x qual st ps f) (S : FnScope N ps (defScope st)) (len : ∀ vs H Q E, sp vs H Q E → vs.length = ps.length)
    (hbody : ∀ (cdv : Value) (A : Around) (outer : List Env) (s : Shared) (H : Hp) (vs : List V) (Q : VK) (E : XK), Room k (A.deeper (envOfC qual (defScope st) s.heap.objs.size f cdv)) → sp vs H Q E →
      ∃ t, PSs (cxOf CX0 P w K mg base N qual (defScope st) f cdv A outer s H E).nox (defBody st) t ∧ t { nx := fun _ H' => Q .non H', rt := Q } (start N vs) H) : Good P w K mg base (k + 1) f ps sp := by
  obtain ⟨fd, F, b⟩ := D
  exact ⟨fd, F.ok S len hbody, b, F.kp⟩
theorem Good.mono {j k : Nat} {f : Addr} {ps : List Str} {sp : Sp} (g : Good P w K mg base j f ps sp) (h : j ≤ k) : Good P w K mg base k f ps sp :=
  let ⟨fd, F, b, kp⟩ := g; ⟨fd, F.mono h, b, kp⟩
theorem Good.imp {k : Nat} {f : Addr} {ps : List Str} {sp sp' : Sp} (g : Good P w K mg base k f ps sp) (h : ∀ vs H Q E, sp' vs H Q E → sp vs H Q E) : Good P w K mg base k f ps sp' :=
  let ⟨fd, F, b, kp⟩ := g; ⟨fd, F.imp h, b, kp⟩
/-- a promise that can never be asked -/
theorem Def.never {x qual : Str} {st : Stmt} {f : Addr} {ps : List Str} {k : Nat} {sp : Sp} (D : Def K x qual st ps f) (no : ∀ vs H Q E, ¬ sp vs H Q E) : Good P w K mg base k f ps sp := by
  obtain ⟨fd, F, b⟩ := D
  exact ⟨fd, ⟨fun vs H Q E h => absurd h (no vs H Q E), fun A outer s H args us vs Q E _ _ _ _ h => absurd h (no vs H Q E)⟩, b, F.kp⟩
end
section
variable {X : Cx} {k j : Nat} {f C : Addr} {ps : List Str} {sp : Sp} {x m : Str} {p pos apos : Pos} {e o : Expr} {es : List Expr} {ta : TE} {t : TA}
theorem pe_fn (g : Good X.prog X.w X.K X.mg X.base k f ps sp) (hr : Room j X.A) (hk : k ≤ j) (hm : X.mg x = some (.ref f)) (ha : PA X (e :: es) t) (hg : Gl X x := by rfl)
    (hdb : (x == ("__debug__" : Str)) = false := by decide) (he : starEach (e :: es) X.env = (false, eval e X.env) :: starEach es X.env := by rfl) (hpl : (backTo pos (starEach es X.env)).any (·.1) = false := by rfl) :
    PE X (.Call (.Name x p) (e :: es) [] pos) (tCall sp [] E0 t) := by
  obtain ⟨fd, F, b, kp⟩ := g
  exact pe_call F (hr.mono hk) hg hm kp b .nil pass0 ha hdb he hpl
theorem pe_me {pl : Sem Bool} (g : Good X.prog X.w X.K X.mg X.base k f ps sp) (hr : Room j X.A) (hk : k ≤ j) (c : Cls X.K C) (hm : Meth X.K C m f) (he : PE X o ta) (ha : PA X (e :: es) t)
    (hst : starEach (e :: es) X.env = (false, eval e X.env) :: starEach es X.env := by rfl) (hpl : (backTo pos (starEach es X.env)).any (·.1) = false := by rfl)
    (ht : eval (.Call (.Attribute o m apos) (e :: es) [] pos) X.env = (do
      let ov ← eval o X.env
      standAt apos.atName
      let (f, first) ← holding [ov] (getMethod ov m pl)
      callWith pos f first (backTo pos (starEach (e :: es) X.env)) (backToKw pos (keywordEach [] X.env))) := by rfl) :
    PE X (.Call (.Attribute o m apos) (e :: es) [] pos) (tMeth C m sp [] E0 ta t) := by
  obtain ⟨fd, F, b, kp⟩ := g
  exact pe_meth he c hm F (hr.mono hk) b .nil pass0 ha hst hpl ht
theorem pe_me0 {pl : Sem Bool} (g : Good X.prog X.w X.K X.mg X.base k f ps sp) (hr : Room j X.A) (hk : k ≤ j) (c : Cls X.K C) (hm : Meth X.K C m f) (he : PE X o ta)
    (ht : eval (.Call (.Attribute o m apos) [] [] pos) X.env = (do
      let ov ← eval o X.env
      standAt apos.atName
      let (f, first) ← holding [ov] (getMethod ov m pl)
      callWith pos f first (backTo pos (starEach [] X.env)) (backToKw pos (keywordEach [] X.env))) := by rfl) :
    PE X (.Call (.Attribute o m apos) [] [] pos) (tMeth C m sp [] E0 ta tNil) := by
  obtain ⟨fd, F, b, kp⟩ := g
  exact pe_meth0 he c hm F (hr.mono hk) b .nil pass0 ht
theorem pe_mk (M : Mk X.K C f) (g : Good X.prog X.w X.K X.mg X.base k f ps sp) (hr : Room j X.A) (hk : k + 1 ≤ j) (hm : X.mg x = some (.ref C)) (ha : PA X (e :: es) t) (hg : Gl X x := by rfl) (hdb : (x == ("__debug__" : Str)) = false := by decide)
    (he : starEach (e :: es) X.env = (false, eval e X.env) :: starEach es X.env := by rfl) (hpl : (backTo pos (starEach es X.env)).any (·.1) = false := by rfl) :
    PE X (.Call (.Name x p) (e :: es) [] pos) (tMake C sp [] E0 t) := by
  obtain ⟨fd, F, b, kp⟩ := g
  exact pe_make M F (hr.mono hk) hg hm b .nil pass0 ha hdb he hpl
end

/-! ### where the classes and defs stand -/
structure At where
  cF : Addr
  cC : Addr
  cT : Addr
  cS : Addr
  cB : Addr
  cSh : Addr
/-- the class of a group -/
def At.grp (g : At) (k : Bool) : Addr := if k = true then g.cS else g.cB

/-! ### heaps: what is kept -/
/-- what never changes: tuples, instances with fields (not the sheet) -/
def Fix : HO → Prop
  | .tup _ => True
  | .ins _ _ (_ :: _) => True
  | _ => False
def Keeps (H H' : Hp) : Prop := ∀ b o, Fix o → H b = some o → H' b = some o
def But (ex : List Addr) (H H' : Hp) : Prop := ∀ b o, b ∉ ex → H b = some o → H' b = some o
theorem But.refl {ex : List Addr} {H : Hp} : But ex H H := fun _ _ _ h => h
theorem But.trans {ex : List Addr} {H H1 H2 : Hp} (a : But ex H H1) (b : But ex H1 H2) : But ex H H2 := fun c o n h => b c o n (a c o n h)
theorem But.of_same {ex : List Addr} {H H' : Hp} (s : Same H H') : But ex H H' := fun b o _ h => s b o h
theorem But.sub {ex ex' : List Addr} {H H' : Hp} (a : But ex H H') (h : ∀ b ∈ ex, b ∈ ex') : But ex' H H' := fun b o n e => a b o (fun z => n (h b z)) e
theorem But.at {ex : List Addr} {H H' : Hp} (a : But ex H H') {b : Addr} {o : HO} (n : b ∉ ex) (e : H b = some o) : H' b = some o := a b o n e
theorem But.put {ex : List Addr} {H : Hp} {a : Addr} {o : HO} (h : a ∈ ex) : But ex H (upd H a o) := fun b u n e => by
  rw [upd_ne (fun z : b = a => n (by rw [z]; exact h))]; exact e
theorem But.keeps {ex : List Addr} {H H' : Hp} (a : But ex H H') (h : ∀ b ∈ ex, ∀ o, H b = some o → ¬ Fix o) : Keeps H H' := fun b o f e => a b o (fun z => h b z o e f) e
theorem Keeps.of_same {H H' : Hp} (s : Same H H') : Keeps H H' := fun b o _ h => s b o h
theorem Keeps.trans {H H1 H2 : Hp} (a : Keeps H H1) (b : Keeps H1 H2) : Keeps H H2 := fun c o f h => b c o f (a c o f h)
theorem same_new {H : Hp} {p : Addr} {o : HO} (h : H p = none) : Same H (upd H p o) := fun b u e => by rw [upd_ne (ne_of_none e h)]; exact e

/-! ### told tuples, parts -/
mutual
def IsTold (nm : List Str) (H : Hp) : T → V → Prop
  | .fx b, v => ∃ a, v = .ref a ∧ H a = some (.tup [.str "fixed", .bl b])
  | .ct i, v => ∃ a s, v = .ref a ∧ nm[i]? = some s ∧ H a = some (.tup [.str "contact", .str s])
  | .nt t, v => ∃ a u, v = .ref a ∧ H a = some (.tup [.str "not", u]) ∧ IsTold nm H t u
  | .gr k ts, v => ∃ a us, v = .ref a ∧ H a = some (.tup (.str (if k = true then "and" else "or") :: us)) ∧ IsTolds nm H ts us
def IsTolds (nm : List Str) (H : Hp) : List T → List V → Prop
  | [], vs => vs = []
  | t :: ts, vs => ∃ u us, vs = u :: us ∧ IsTold nm H t u ∧ IsTolds nm H ts us
end
mutual
def IsPart (g : At) (nm : List Str) (H : Hp) : T → V → Prop
  | .fx b, v => ∃ a dx, v = .ref a ∧ H a = some (.ins g.cF dx [("value", .bl b)])
  | .ct i, v => ∃ a dx s, v = .ref a ∧ nm[i]? = some s ∧ H a = some (.ins g.cC dx [("name", .str s)])
  | .nt t, v => ∃ a dx u, v = .ref a ∧ H a = some (.ins g.cT dx [("part", u)]) ∧ IsPart g nm H t u
  | .gr k ts, v => ∃ a dx p us, v = .ref a ∧ H a = some (.ins (g.grp k) dx [("parts", .ref p)]) ∧ H p = some (.tup us) ∧ IsParts g nm H ts us
def IsParts (g : At) (nm : List Str) (H : Hp) : List T → List V → Prop
  | [], vs => vs = []
  | t :: ts, vs => ∃ u us, vs = u :: us ∧ IsPart g nm H t u ∧ IsParts g nm H ts us
end
mutual
theorem IsTold.mono {nm : List Str} {H H' : Hp} (k : Keeps H H') : ∀ (t : T) (v : V), IsTold nm H t v → IsTold nm H' t v
  | .fx _, _, ⟨a, e, h⟩ => ⟨a, e, k _ _ trivial h⟩
  | .ct _, _, ⟨a, s, e, n, h⟩ => ⟨a, s, e, n, k _ _ trivial h⟩
  | .nt t, _, ⟨a, u, e, h, i⟩ => ⟨a, u, e, k _ _ trivial h, IsTold.mono k t u i⟩
  | .gr _ ts, _, ⟨a, us, e, h, i⟩ => ⟨a, us, e, k _ _ trivial h, IsTolds.mono k ts us i⟩
theorem IsTolds.mono {nm : List Str} {H H' : Hp} (k : Keeps H H') : ∀ (ts : List T) (vs : List V), IsTolds nm H ts vs → IsTolds nm H' ts vs
  | [], _, h => h
  | t :: ts, _, ⟨u, us, e, i, r⟩ => ⟨u, us, e, IsTold.mono k t u i, IsTolds.mono k ts us r⟩
end
mutual
theorem IsPart.mono {g : At} {nm : List Str} {H H' : Hp} (k : Keeps H H') : ∀ (t : T) (v : V), IsPart g nm H t v → IsPart g nm H' t v
  | .fx _, _, ⟨a, dx, e, h⟩ => ⟨a, dx, e, k _ _ trivial h⟩
  | .ct _, _, ⟨a, dx, s, e, n, h⟩ => ⟨a, dx, s, e, n, k _ _ trivial h⟩
  | .nt t, _, ⟨a, dx, u, e, h, i⟩ => ⟨a, dx, u, e, k _ _ trivial h, IsPart.mono k t u i⟩
  | .gr _ ts, _, ⟨a, dx, p, us, e, h, h2, i⟩ => ⟨a, dx, p, us, e, k _ _ trivial h, k _ _ trivial h2, IsParts.mono k ts us i⟩
theorem IsParts.mono {g : At} {nm : List Str} {H H' : Hp} (k : Keeps H H') : ∀ (ts : List T) (vs : List V), IsParts g nm H ts vs → IsParts g nm H' ts vs
  | [], _, h => h
  | t :: ts, _, ⟨u, us, e, i, r⟩ => ⟨u, us, e, IsPart.mono k t u i, IsParts.mono k ts us r⟩
end
theorem IsTolds.len {nm : List Str} {H : Hp} : ∀ {ts : List T} {vs : List V}, IsTolds nm H ts vs → vs.length = ts.length
  | [], _, h => by rw [show _ = _ from h]; rfl
  | t :: ts, _, ⟨u, us, e, _, r⟩ => by rw [e, List.length_cons, List.length_cons, IsTolds.len r]
theorem IsParts.len {g : At} {nm : List Str} {H : Hp} : ∀ {ts : List T} {vs : List V}, IsParts g nm H ts vs → vs.length = ts.length
  | [], _, h => by rw [show _ = _ from h]; rfl
  | t :: ts, _, ⟨u, us, e, _, r⟩ => by rw [e, List.length_cons, List.length_cons, IsParts.len r]
theorem IsTolds.get {nm : List Str} {H : Hp} : ∀ {ts : List T} {vs : List V}, IsTolds nm H ts vs → ∀ {i : Nat} {v : V}, vs[i]? = some v → ∃ t, ts[i]? = some t ∧ IsTold nm H t v
  | [], vs, h, i, v, e => by rw [show vs = [] from h] at e; simp at e
  | t :: ts, _, ⟨u, us, e, i0, r⟩, 0, v, h => by
    subst e
    simp at h
    subst h
    exact ⟨t, rfl, i0⟩
  | t :: ts, _, ⟨u, us, e, i0, r⟩, i + 1, v, h => by
    subst e
    exact IsTolds.get (i := i) r (by simpa using h)
theorem IsParts.get {g : At} {nm : List Str} {H : Hp} : ∀ {ts : List T} {vs : List V}, IsParts g nm H ts vs → ∀ {i : Nat} {v : V}, vs[i]? = some v → ∃ t, ts[i]? = some t ∧ IsPart g nm H t v
  | [], vs, h, i, v, e => by rw [show vs = [] from h] at e; simp at e
  | t :: ts, _, ⟨u, us, e, i0, r⟩, 0, v, h => by
    subst e
    simp at h
    subst h
    exact ⟨t, rfl, i0⟩
  | t :: ts, _, ⟨u, us, e, i0, r⟩, i + 1, v, h => by
    subst e
    exact IsParts.get (i := i) r (by simpa using h)
theorem IsTolds.app {nm : List Str} {H : Hp} : ∀ {ts : List T} {vs : List V} {ts' : List T} {vs' : List V}, IsTolds nm H ts vs → IsTolds nm H ts' vs' → IsTolds nm H (ts ++ ts') (vs ++ vs')
  | [], _, _, _, h, h' => by rw [show _ = _ from h]; exact h'
  | t :: ts, _, _, _, ⟨u, us, e, i, r⟩, h' => ⟨u, us ++ _, by rw [e]; rfl, i, IsTolds.app r h'⟩
theorem IsParts.app {g : At} {nm : List Str} {H : Hp} : ∀ {ts : List T} {vs : List V} {ts' : List T} {vs' : List V}, IsParts g nm H ts vs → IsParts g nm H ts' vs' → IsParts g nm H (ts ++ ts') (vs ++ vs')
  | [], _, _, _, h, h' => by rw [show _ = _ from h]; exact h'
  | t :: ts, _, _, _, ⟨u, us, e, i, r⟩, h' => ⟨u, us ++ _, by rw [e]; rfl, i, IsParts.app r h'⟩
theorem IsTolds.take {nm : List Str} {H : Hp} : ∀ {ts : List T} {vs : List V} (n : Nat), IsTolds nm H ts vs → IsTolds nm H (ts.take n) (vs.take n)
  | _, _, 0, _ => rfl
  | [], _, _ + 1, h => by rw [show _ = _ from h]; rfl
  | t :: ts, _, n + 1, ⟨u, us, e, i, r⟩ => by subst e; exact ⟨u, us.take n, rfl, i, IsTolds.take n r⟩
theorem IsTolds.drop {nm : List Str} {H : Hp} : ∀ {ts : List T} {vs : List V} (n : Nat), IsTolds nm H ts vs → IsTolds nm H (ts.drop n) (vs.drop n)
  | _, _, 0, h => h
  | [], _, _ + 1, h => by rw [show _ = _ from h]; rfl
  | t :: ts, _, n + 1, ⟨u, us, e, i, r⟩ => by subst e; exact IsTolds.drop n r

/-! ### the sheet -/
structure Sh where
  S : Addr
  dx : Addr
  tn : Addr
  ln : Addr
  dn : Addr
  ob : Obj
  nm : List Str
def shF (h : Sh) : List (Str × V) := [("names", .ref h.tn), ("nodes", .ref h.ln), ("numbers", .ref h.dn)]
def ndV (d : Nd) : List V := [.int d.p, .int d.lo, .int d.hi]
def ndKey (d : Nd) : List Key := [.inl d.p, .inl d.lo, .inl d.hi]
def numFrom : Nat → List Nd → List (List Key × V)
  | _, [] => []
  | i, d :: r => (ndKey d, .int ((i + 2 : Nat) : Int)) :: numFrom (i + 1) r
theorem ndKey_inj {a b : Nd} (h : ndKey a = ndKey b) : a = b := by
  obtain ⟨p, l, u⟩ := a
  obtain ⟨p', l', u'⟩ := b
  simp only [ndKey, List.cons.injEq, Sum.inl.injEq, Int.ofNat_inj, and_true] at h
  obtain ⟨h1, h2, h3⟩ := h
  subst h1 h2 h3
  rfl
theorem ndKey_V (d : Nd) : (ndKey d).map kV = ndV d := rfl
theorem num_val (d : Nd) : ∀ (ns : List Nd) (i : Nat), valV (numFrom i ns) (ndKey d) = (idx ns d).map fun j => V.int ((i + j + 2 : Nat) : Int)
  | [], _ => rfl
  | a :: r, i => by
    unfold numFrom idx
    by_cases h : a = d
    · rw [if_pos h, valV_pos (show (ndKey a, V.int ((i + 2 : Nat) : Int)).1 = ndKey d by rw [h])]
      rfl
    · rw [if_neg h, valV_neg (fun e => h (ndKey_inj e)), num_val d r (i + 1)]
      cases idx r d with
      | none => rfl
      | some j =>
        show some (V.int ((i + 1 + j + 2 : Nat) : Int)) = some (V.int ((i + (j + 1) + 2 : Nat) : Int))
        rw [show i + 1 + j + 2 = i + (j + 1) + 2 by omega]
theorem num_app (d : Nd) : ∀ (ns : List Nd) (i : Nat), numFrom i (ns ++ [d]) = numFrom i ns ++ [(ndKey d, V.int ((i + ns.length + 2 : Nat) : Int))]
  | [], i => rfl
  | a :: r, i => by
    show (ndKey a, V.int ((i + 2 : Nat) : Int)) :: numFrom (i + 1) (r ++ [d]) = (ndKey a, V.int ((i + 2 : Nat) : Int)) :: (numFrom (i + 1) r ++ [(ndKey d, V.int ((i + (r.length + 1) + 2 : Nat) : Int))])
    rw [num_app d r (i + 1), show i + 1 + r.length + 2 = i + (r.length + 1) + 2 by omega]
theorem num_len : ∀ (ns : List Nd) (i : Nat), (numFrom i ns).length = ns.length
  | [], _ => rfl
  | _ :: r, i => by show (numFrom (i + 1) r).length + 1 = r.length + 1; rw [num_len r]
inductive NdsAt (H : Hp) : List Addr → List Nd → Prop where
  | nil : NdsAt H [] []
  | cons {b : Addr} {d : Nd} {bs : List Addr} {ns : List Nd} (h : H b = some (.tup (ndV d))) (t : NdsAt H bs ns) : NdsAt H (b :: bs) (d :: ns)
theorem NdsAt.len {H : Hp} {bs : List Addr} {ns : List Nd} (h : NdsAt H bs ns) : bs.length = ns.length := by
  induction h with
  | nil => rfl
  | cons _ _ ih => rw [List.length_cons, List.length_cons, ih]
theorem NdsAt.mono {H H' : Hp} (k : Keeps H H') {bs : List Addr} {ns : List Nd} (h : NdsAt H bs ns) : NdsAt H' bs ns := by
  induction h with
  | nil => exact .nil
  | cons h _ ih => exact .cons (k _ _ trivial h) ih
theorem NdsAt.get {H : Hp} {bs : List Addr} {ns : List Nd} (h : NdsAt H bs ns) : ∀ {i : Nat} {d : Nd}, ns[i]? = some d → ∃ b, bs[i]? = some b ∧ H b = some (.tup (ndV d)) := by
  induction h with
  | nil => intro i d e; simp at e
  | @cons b d bs ns hb _ ih =>
    intro i d' e
    cases i with
    | zero => simp at e; subst e; exact ⟨b, rfl, hb⟩
    | succ i => exact ih (i := i) (by simpa using e)
theorem NdsAt.snoc {H : Hp} {bs : List Addr} {ns : List Nd} {b : Addr} {d : Nd} (h : NdsAt H bs ns) (hb : H b = some (.tup (ndV d))) : NdsAt H (bs ++ [b]) (ns ++ [d]) := by
  induction h with
  | nil => exact .cons hb .nil
  | cons h _ ih => exact .cons h ih
structure ShAt (g : At) (H : Hp) (h : Sh) (ns : List Nd) : Prop where
  s : H h.S = some (.ins g.cSh h.dx (shF h))
  n : H h.tn = some (.frz h.ob (.tup (h.nm.map V.str)))
  od : h.ob.dict = none
  l : ∃ bs : List Addr, H h.ln = some (.lst (bs.map V.ref)) ∧ NdsAt H bs ns
  d : H h.dn = some (.dT (numFrom 0 ns))
/-- all but the sheet's two lists is kept: then so is what never changes -/
theorem ShAt.ex {g : At} {H : Hp} {h : Sh} {ns : List Nd} (a : ShAt g H h ns) : ∀ b ∈ [h.ln, h.dn], ∀ o, H b = some o → ¬ Fix o := by
  obtain ⟨bs, hl, _⟩ := a.l
  intro b hb o ho
  rcases List.mem_cons.mp hb with e | hb
  · subst e
    rw [hl] at ho
    cases ho
    exact id
  · rw [List.mem_singleton] at hb
    subst hb
    rw [a.d] at ho
    cases ho
    exact id
theorem ShAt.keeps {g : At} {H H' : Hp} {h : Sh} {ns : List Nd} (a : ShAt g H h ns) (b : But [h.ln, h.dn] H H') : Keeps H H' := b.keeps a.ex
theorem ShAt.same {g : At} {H H' : Hp} {h : Sh} {ns : List Nd} (a : ShAt g H h ns) (s : Same H H') : ShAt g H' h ns :=
  let ⟨bs, hl, hb⟩ := a.l
  ⟨s _ _ a.s, s _ _ a.n, a.od, ⟨bs, s _ _ hl, hb.mono (.of_same s)⟩, s _ _ a.d⟩
/-- .. where other things change too -/
theorem ShAt.but {g : At} {H H' : Hp} {h : Sh} {ns : List Nd} {ex : List Addr} (a : ShAt g H h ns) (b : But ex H H') (n : ∀ c ∈ ex, c ≠ h.S ∧ c ≠ h.tn ∧ c ≠ h.ln ∧ c ≠ h.dn ∧ ∀ o, H c = some o → ¬ Fix o) : ShAt g H' h ns :=
  let ⟨bs, hl, hb⟩ := a.l
  ⟨b _ _ (fun z => (n _ z).1 rfl) a.s, b _ _ (fun z => (n _ z).2.1 rfl) a.n, a.od, ⟨bs, b _ _ (fun z => (n _ z).2.2.1 rfl) hl, hb.mono (b.keeps fun c hc => (n c hc).2.2.2.2)⟩, b _ _ (fun z => (n _ z).2.2.2.1 rfl) a.d⟩
theorem shF_names (h : Sh) : (shF h).lookup ("names" : Str) = some (.ref h.tn) := rfl
end RW
/-! What the text's top has written, as facts (printed by facts.py). -/
namespace RW
open PySem L2 PySem.Spec PyProof.Rows
structure Fa where
  isWord : Addr
  isName : Addr
  inner : Addr
  size : Addr
  depth : Addr
  gather : Addr
  contacts : Addr
  bounded : Addr
  initF : Addr
  initC : Addr
  gatherC : Addr
  initT : Addr
  innerT : Addr
  initG : Addr
  innerG : Addr
  single : Addr
  joined : Addr
  partOf : Addr
  initS : Addr
  place : Addr
  made : Addr
  below : Addr
  join : Addr
  opp : Addr
  drawn : Addr
  need : Addr
  node : Addr
  shown : Addr
  cell : Addr
  mixed : Addr
  word : Addr
  names : Addr
  grown : Addr
  toldBy : Addr
  holds : Addr
  row : Addr
  down : Addr
  whole : Addr
  met : Addr
  placeL : Addr
  formed : Addr
structure Txt (K : PySem.W.Frag) (mg : Str → Option Value) (g : At) (f : Fa) : Prop where
  d_isWord : Def K "is_word" "is_word" sIsWord ["text"] f.isWord
  d_isName : Def K "is_name" "is_name" sIsName ["name"] f.isName
  d_inner : Def K "inner" "Part.inner" sInner ["self"] f.inner
  d_size : Def K "size" "Part.size" sSize ["self"] f.size
  d_depth : Def K "depth" "Part.depth" sDepth ["self"] f.depth
  d_gather : Def K "gather" "Part.gather" sGather ["self", "found"] f.gather
  d_contacts : Def K "contacts" "Part.contacts" sContacts ["self"] f.contacts
  d_bounded : Def K "bounded" "Part.bounded" sBounded ["self"] f.bounded
  d_initF : Def K "__init__" "Fixed.__init__" sInitF ["self", "value"] f.initF
  d_initC : Def K "__init__" "Contact.__init__" sInitC ["self", "name"] f.initC
  d_gatherC : Def K "gather" "Contact.gather" sGatherC ["self", "found"] f.gatherC
  d_initT : Def K "__init__" "Turned.__init__" sInitT ["self", "part"] f.initT
  d_innerT : Def K "inner" "Turned.inner" sInnerT ["self"] f.innerT
  d_initG : Def K "__init__" "Group.__init__" sInitG ["self", "parts"] f.initG
  d_innerG : Def K "inner" "Group.inner" sInnerG ["self"] f.innerG
  d_single : Def K "single" "single" sSingle ["told"] f.single
  d_joined : Def K "joined" "joined" sJoined ["kind", "parts"] f.joined
  d_partOf : Def K "part_of" "part_of" sPartOf ["told"] f.partOf
  d_initS : Def K "__init__" "Sheet.__init__" sInitS ["self", "names"] f.initS
  d_place : Def K "place" "Sheet.place" sPlace ["self", "node"] f.place
  d_made : Def K "made" "Sheet.made" sMade ["self", "place", "low", "high"] f.made
  d_below : Def K "below" "Sheet.below" sBelow ["self", "node", "place"] f.below
  d_join : Def K "joined" "Sheet.joined" sJoin ["self", "one", "other", "stop", "known"] f.join
  d_opp : Def K "opposite" "Sheet.opposite" sOpp ["self", "node", "known"] f.opp
  d_drawn : Def K "drawn" "Sheet.drawn" sDrawn ["self", "part"] f.drawn
  d_need : Def K "need" "Sheet.need" sNeed ["self", "node"] f.need
  d_node : Def K "node" "Sheet.node" sNode ["self", "part"] f.node
  d_shown : Def K "shown" "Sheet.shown" sShown ["self", "node"] f.shown
  d_cell : Def K "_law_cell_at" "_law_cell_at" sCell ["_law_script", "_law_k"] f.cell
  d_mixed : Def K "_law_mixed" "_law_mixed" sMixed ["_law_cell", "_law_k"] f.mixed
  d_word : Def K "_law_word" "_law_word" sWord ["_law_cell", "_law_size"] f.word
  d_names : Def K "_law_names" "_law_names" sNames ["_law_cell", "_law_many"] f.names
  d_grown : Def K "_law_grown" "_law_grown" sGrown ["_law_pile", "_law_cell", "_law_names_here"] f.grown
  d_toldBy : Def K "_law_told_by" "_law_told_by" sToldBy ["_law_script", "_law_first", "_law_many", "_law_names_here"] f.toldBy
  d_holds : Def K "_law_holds" "_law_holds" sHolds ["_law_told", "_law_row_here"] f.holds
  d_row : Def K "_law_row" "_law_row" sRow ["_law_names_here", "_law_number"] f.row
  d_down : Def K "_law_down" "_law_down" sDown ["_law_sheet", "_law_node", "_law_row_here"] f.down
  d_whole : Def K "_law_whole" "_law_whole" sWhole ["_law_found"] f.whole
  d_met : Def K "_law_met" "_law_met" sMet ["_law_sheet", "_law_node"] f.met
  d_placeL : Def K "_law_place" "_law_place" sPlaceL ["_law_sheet", "_law_node"] f.placeL
  d_formed : Def K "_law_formed" "_law_formed" sFormed ["_law_sheet", "_law_node"] f.formed
  g_isWord : mg "is_word" = some (.ref f.isWord)
  g_isName : mg "is_name" = some (.ref f.isName)
  g_single : mg "single" = some (.ref f.single)
  g_joined : mg "joined" = some (.ref f.joined)
  g_partOf : mg "part_of" = some (.ref f.partOf)
  g_cell : mg "_law_cell_at" = some (.ref f.cell)
  g_mixed : mg "_law_mixed" = some (.ref f.mixed)
  g_word : mg "_law_word" = some (.ref f.word)
  g_names : mg "_law_names" = some (.ref f.names)
  g_grown : mg "_law_grown" = some (.ref f.grown)
  g_toldBy : mg "_law_told_by" = some (.ref f.toldBy)
  g_holds : mg "_law_holds" = some (.ref f.holds)
  g_row : mg "_law_row" = some (.ref f.row)
  g_down : mg "_law_down" = some (.ref f.down)
  g_whole : mg "_law_whole" = some (.ref f.whole)
  g_met : mg "_law_met" = some (.ref f.met)
  g_placeL : mg "_law_place" = some (.ref f.placeL)
  g_formed : mg "_law_formed" = some (.ref f.formed)
  g_cF : mg "Fixed" = some (.ref g.cF)
  c_cF : Cls K g.cF
  m_cF : Mk K g.cF f.initF
  g_cC : mg "Contact" = some (.ref g.cC)
  c_cC : Cls K g.cC
  m_cC : Mk K g.cC f.initC
  g_cT : mg "Turned" = some (.ref g.cT)
  c_cT : Cls K g.cT
  m_cT : Mk K g.cT f.initT
  g_cS : mg "Series" = some (.ref g.cS)
  c_cS : Cls K g.cS
  m_cS : Mk K g.cS f.initG
  g_cB : mg "Branch" = some (.ref g.cB)
  c_cB : Cls K g.cB
  m_cB : Mk K g.cB f.initG
  g_cSh : mg "Sheet" = some (.ref g.cSh)
  c_cSh : Cls K g.cSh
  m_cSh : Mk K g.cSh f.initS
  t_cF_size : Meth K g.cF "size" f.size
  t_cF_depth : Meth K g.cF "depth" f.depth
  t_cF_contacts : Meth K g.cF "contacts" f.contacts
  t_cF_bounded : Meth K g.cF "bounded" f.bounded
  t_cC_size : Meth K g.cC "size" f.size
  t_cC_depth : Meth K g.cC "depth" f.depth
  t_cC_contacts : Meth K g.cC "contacts" f.contacts
  t_cC_bounded : Meth K g.cC "bounded" f.bounded
  t_cT_size : Meth K g.cT "size" f.size
  t_cT_depth : Meth K g.cT "depth" f.depth
  t_cT_contacts : Meth K g.cT "contacts" f.contacts
  t_cT_bounded : Meth K g.cT "bounded" f.bounded
  t_cS_size : Meth K g.cS "size" f.size
  t_cS_depth : Meth K g.cS "depth" f.depth
  t_cS_contacts : Meth K g.cS "contacts" f.contacts
  t_cS_bounded : Meth K g.cS "bounded" f.bounded
  t_cB_size : Meth K g.cB "size" f.size
  t_cB_depth : Meth K g.cB "depth" f.depth
  t_cB_contacts : Meth K g.cB "contacts" f.contacts
  t_cB_bounded : Meth K g.cB "bounded" f.bounded
  t_cF_inner : Meth K g.cF "inner" f.inner
  t_cC_inner : Meth K g.cC "inner" f.inner
  t_cT_inner : Meth K g.cT "inner" f.innerT
  t_cS_inner : Meth K g.cS "inner" f.innerG
  t_cB_inner : Meth K g.cB "inner" f.innerG
  t_cF_gather : Meth K g.cF "gather" f.gather
  t_cC_gather : Meth K g.cC "gather" f.gatherC
  t_cT_gather : Meth K g.cT "gather" f.gather
  t_cS_gather : Meth K g.cS "gather" f.gather
  t_cB_gather : Meth K g.cB "gather" f.gather
  t_cSh_place : Meth K g.cSh "place" f.place
  t_cSh_made : Meth K g.cSh "made" f.made
  t_cSh_below : Meth K g.cSh "below" f.below
  t_cSh_joined : Meth K g.cSh "joined" f.join
  t_cSh_opposite : Meth K g.cSh "opposite" f.opp
  t_cSh_drawn : Meth K g.cSh "drawn" f.drawn
  t_cSh_need : Meth K g.cSh "need" f.need
  t_cSh_node : Meth K g.cSh "node" f.node
  t_cSh_shown : Meth K g.cSh "shown" f.shown
  n_cF_value : NoAttr K g.cF "value"
  n_cC_name : NoAttr K g.cC "name"
  n_cT_part : NoAttr K g.cT "part"
  n_cS_parts : NoAttr K g.cS "parts"
  n_cB_parts : NoAttr K g.cB "parts"
  n_cSh_names : NoAttr K g.cSh "names"
  n_cSh_nodes : NoAttr K g.cSh "nodes"
  n_cSh_numbers : NoAttr K g.cSh "numbers"
  h_cF : PySem.W.findIn K (.ref g.cF) "__class__" = some (some (.builtin "object.__class__"))
  o_cF : PySem.W.mroIn K g.cF (.type "object") = some true
  h_cC : PySem.W.findIn K (.ref g.cC) "__class__" = some (some (.builtin "object.__class__"))
  o_cC : PySem.W.mroIn K g.cC (.type "object") = some true
  h_cT : PySem.W.findIn K (.ref g.cT) "__class__" = some (some (.builtin "object.__class__"))
  o_cT : PySem.W.mroIn K g.cT (.type "object") = some true
  h_cS : PySem.W.findIn K (.ref g.cS) "__class__" = some (some (.builtin "object.__class__"))
  o_cS : PySem.W.mroIn K g.cS (.type "object") = some true
  h_cB : PySem.W.findIn K (.ref g.cB) "__class__" = some (some (.builtin "object.__class__"))
  o_cB : PySem.W.mroIn K g.cB (.type "object") = some true
  hg : PySem.W.specialIn K (.builtin "object.__class__") "__get__" = some (some (.builtin "getset_descriptor.__get__"))
  ht : PySem.W.takesIn K (.builtin "object.__class__") = some true
  k_cF_cF : PySem.W.kitOne K (.ref g.cF) (.ref g.cF) = some true
  k_cC_cF : PySem.W.kitOne K (.ref g.cC) (.ref g.cF) = some false
  k_cT_cF : PySem.W.kitOne K (.ref g.cT) (.ref g.cF) = some false
  k_cS_cF : PySem.W.kitOne K (.ref g.cS) (.ref g.cF) = some false
  k_cB_cF : PySem.W.kitOne K (.ref g.cB) (.ref g.cF) = some false
  k_cC_cC : PySem.W.kitOne K (.ref g.cC) (.ref g.cC) = some true
  k_cT_cC : PySem.W.kitOne K (.ref g.cT) (.ref g.cC) = some false
  k_cS_cC : PySem.W.kitOne K (.ref g.cS) (.ref g.cC) = some false
  k_cB_cC : PySem.W.kitOne K (.ref g.cB) (.ref g.cC) = some false
  k_cT_cT : PySem.W.kitOne K (.ref g.cT) (.ref g.cT) = some true
  k_cS_cT : PySem.W.kitOne K (.ref g.cS) (.ref g.cT) = some false
  k_cB_cT : PySem.W.kitOne K (.ref g.cB) (.ref g.cT) = some false
  k_cS_cS : PySem.W.kitOne K (.ref g.cS) (.ref g.cS) = some true
  k_cB_cS : PySem.W.kitOne K (.ref g.cB) (.ref g.cS) = some false
  b_len : mg "len" = none
  b_sum : mg "sum" = none
  b_max : mg "max" = none
  b_min : mg "min" = none
  b_tuple : mg "tuple" = none
  b_list : mg "list" = none
  b_set : mg "set" = none
  b_range : mg "range" = none
  b_isinstance : mg "isinstance" = none
  b_int : mg "int" = none
  b_bool : mg "bool" = none
  v_MOST_SIGNS : ∃ t, mg "MOST_SIGNS" = some (.int 8 t)
  v_MOST_SIZE : ∃ t, mg "MOST_SIZE" = some (.int 60 t)
  v_MOST_DEEP : ∃ t, mg "MOST_DEEP" = some (.int 20 t)
  v_MOST_NAMES : ∃ t, mg "MOST_NAMES" = some (.int 60 t)
  v_MOST_NODES : ∃ t, mg "MOST_NODES" = some (.int 2000 t)
  v_SIGNS : ∃ t, mg "SIGNS" = some (.str "abcdefghijklmnopqrstuvwxyz" t)
  v_KEPT : ∃ a o its n, mg "KEPT" = some (.ref a) ∧ K.lookup a = some o ∧ o.cls = .type "tuple" ∧ o.data = .seq its n ∧ its.size ≤ sizeLine ∧ Vals [V.str "on", V.str "off", V.str "and", V.str "or", V.str "not", V.str "set", V.str "reset", V.str "timer", V.str "counter", V.str "inputs", V.str "outputs"] its.toList
end RW
/-! The facts, from what the head leaves (printed by facts.py end). -/
namespace RW
open PySem L2 PySem.Spec PyProof.Rows
def keptWords : List Str := ["on", "off", "and", "or", "not", "set", "reset", "timer", "counter", "inputs", "outputs"]
/-- the items are these words, whatever their tokens -/
def KeptIs (us : List Value) : Prop := ∃ ts : List Tok, ts.length = 11 ∧ us = (keptWords.zip ts).map fun p => Value.str p.1 p.2
theorem KeptIs.mk (t0 t1 t2 t3 t4 t5 t6 t7 t8 t9 t10 : Tok) : KeptIs [.str "on" t0, .str "off" t1, .str "and" t2, .str "or" t3, .str "not" t4, .str "set" t5, .str "reset" t6, .str "timer" t7, .str "counter" t8, .str "inputs" t9, .str "outputs" t10] := ⟨[t0, t1, t2, t3, t4, t5, t6, t7, t8, t9, t10], rfl, rfl⟩
theorem KeptIs.vals {us : List Value} (h : KeptIs us) : Vals [V.str "on", V.str "off", V.str "and", V.str "or", V.str "not", V.str "set", V.str "reset", V.str "timer", V.str "counter", V.str "inputs", V.str "outputs"] us := by
  obtain ⟨ts, hl, rfl⟩ := h
  match ts, hl with
  | [t0, t1, t2, t3, t4, t5, t6, t7, t8, t9, t10], _ => exact .cons ⟨t0, rfl⟩ (.cons ⟨t1, rfl⟩ (.cons ⟨t2, rfl⟩ (.cons ⟨t3, rfl⟩ (.cons ⟨t4, rfl⟩ (.cons ⟨t5, rfl⟩ (.cons ⟨t6, rfl⟩ (.cons ⟨t7, rfl⟩ (.cons ⟨t8, rfl⟩ (.cons ⟨t9, rfl⟩ (.cons ⟨t10, rfl⟩ (.nil)))))))))))
theorem KeptIs.size {its : Array Value} (h : KeptIs its.toList) : its.size ≤ sizeLine := by
  have e : 11 = its.toList.length := h.vals.length
  have e2 : its.toList.length = its.size := by simp
  rw [← e2, ← e]
  decide
theorem kit_yes {K : PySem.W.Frag} {c : Addr} : PySem.W.kitOne K (.ref c) (.ref c) = some true := by
  unfold PySem.W.kitOne
  rw [if_pos (beq_self_eq_true _)]
theorem kit_no {K : PySem.W.Frag} {c d : Addr} (h1 : PySem.W.isClsIn K d = true) (h2 : PySem.W.typeIn K (.ref d) = some (.type "type")) (h3 : PySem.W.mroIn K c (.ref d) = some false) (h4 : PySem.W.mroIn K d (.ref d) = some true) : PySem.W.kitOne K (.ref c) (.ref d) = some false := by
  have ne : ¬ (Value.ref c == Value.ref d) = true := fun e => by
    have e : Value.ref c = Value.ref d := eq_of_beq e
    injection e with e
    subst e
    rw [h3] at h4
    cases h4
  unfold PySem.W.kitOne
  rw [if_neg ne]
  show (if ((PySem.W.clsIn K d).isSome && PySem.W.typeIn K (.ref d) == some (.type "type")) = true then PySem.W.subIn K (.ref c) (.ref d) else none) = some false
  rw [if_pos (by rw [show (PySem.W.clsIn K d).isSome = true from h1, h2]; rfl)]
  exact h3
theorem all_mk {K : PySem.W.Frag} {h : Heap} {mg : Str → Option Value} (X : K.In h) (G : h.Ns mainGlobals mg) {cF cC cT cS cB cSh isWord isName inner size depth gather contacts bounded initF initC gatherC initT innerT initG innerG single joined partOf initS place made below join opp drawn need node shown cell mixed word names grown toldBy holds row down whole met placeL formed : Addr}
    {oc_isWord kV_isWord dc_isWord pm_isWord cd_isWord ct_isWord : Value} {od_isWord an_isWord : Option Addr} {sl_isWord : Array (Option Value)}
    {oc_isName kV_isName dc_isName pm_isName cd_isName ct_isName : Value} {od_isName an_isName : Option Addr} {sl_isName : Array (Option Value)}
    {oc_inner kV_inner dc_inner pm_inner cd_inner ct_inner : Value} {od_inner an_inner : Option Addr} {sl_inner : Array (Option Value)}
    {oc_size kV_size dc_size pm_size cd_size ct_size : Value} {od_size an_size : Option Addr} {sl_size : Array (Option Value)}
    {oc_depth kV_depth dc_depth pm_depth cd_depth ct_depth : Value} {od_depth an_depth : Option Addr} {sl_depth : Array (Option Value)}
    {oc_gather kV_gather dc_gather pm_gather cd_gather ct_gather : Value} {od_gather an_gather : Option Addr} {sl_gather : Array (Option Value)}
    {oc_contacts kV_contacts dc_contacts pm_contacts cd_contacts ct_contacts : Value} {od_contacts an_contacts : Option Addr} {sl_contacts : Array (Option Value)}
    {oc_bounded kV_bounded dc_bounded pm_bounded cd_bounded ct_bounded : Value} {od_bounded an_bounded : Option Addr} {sl_bounded : Array (Option Value)}
    {oc_initF kV_initF dc_initF pm_initF cd_initF ct_initF : Value} {od_initF an_initF : Option Addr} {sl_initF : Array (Option Value)}
    {oc_initC kV_initC dc_initC pm_initC cd_initC ct_initC : Value} {od_initC an_initC : Option Addr} {sl_initC : Array (Option Value)}
    {oc_gatherC kV_gatherC dc_gatherC pm_gatherC cd_gatherC ct_gatherC : Value} {od_gatherC an_gatherC : Option Addr} {sl_gatherC : Array (Option Value)}
    {oc_initT kV_initT dc_initT pm_initT cd_initT ct_initT : Value} {od_initT an_initT : Option Addr} {sl_initT : Array (Option Value)}
    {oc_innerT kV_innerT dc_innerT pm_innerT cd_innerT ct_innerT : Value} {od_innerT an_innerT : Option Addr} {sl_innerT : Array (Option Value)}
    {oc_initG kV_initG dc_initG pm_initG cd_initG ct_initG : Value} {od_initG an_initG : Option Addr} {sl_initG : Array (Option Value)}
    {oc_innerG kV_innerG dc_innerG pm_innerG cd_innerG ct_innerG : Value} {od_innerG an_innerG : Option Addr} {sl_innerG : Array (Option Value)}
    {oc_single kV_single dc_single pm_single cd_single ct_single : Value} {od_single an_single : Option Addr} {sl_single : Array (Option Value)}
    {oc_joined kV_joined dc_joined pm_joined cd_joined ct_joined : Value} {od_joined an_joined : Option Addr} {sl_joined : Array (Option Value)}
    {oc_partOf kV_partOf dc_partOf pm_partOf cd_partOf ct_partOf : Value} {od_partOf an_partOf : Option Addr} {sl_partOf : Array (Option Value)}
    {oc_initS kV_initS dc_initS pm_initS cd_initS ct_initS : Value} {od_initS an_initS : Option Addr} {sl_initS : Array (Option Value)}
    {oc_place kV_place dc_place pm_place cd_place ct_place : Value} {od_place an_place : Option Addr} {sl_place : Array (Option Value)}
    {oc_made kV_made dc_made pm_made cd_made ct_made : Value} {od_made an_made : Option Addr} {sl_made : Array (Option Value)}
    {oc_below kV_below dc_below pm_below cd_below ct_below : Value} {od_below an_below : Option Addr} {sl_below : Array (Option Value)}
    {oc_join kV_join dc_join pm_join cd_join ct_join : Value} {od_join an_join : Option Addr} {sl_join : Array (Option Value)}
    {oc_opp kV_opp dc_opp pm_opp cd_opp ct_opp : Value} {od_opp an_opp : Option Addr} {sl_opp : Array (Option Value)}
    {oc_drawn kV_drawn dc_drawn pm_drawn cd_drawn ct_drawn : Value} {od_drawn an_drawn : Option Addr} {sl_drawn : Array (Option Value)}
    {oc_need kV_need dc_need pm_need cd_need ct_need : Value} {od_need an_need : Option Addr} {sl_need : Array (Option Value)}
    {oc_node kV_node dc_node pm_node cd_node ct_node : Value} {od_node an_node : Option Addr} {sl_node : Array (Option Value)}
    {oc_shown kV_shown dc_shown pm_shown cd_shown ct_shown : Value} {od_shown an_shown : Option Addr} {sl_shown : Array (Option Value)}
    {oc_cell kV_cell dc_cell pm_cell cd_cell ct_cell : Value} {od_cell an_cell : Option Addr} {sl_cell : Array (Option Value)}
    {oc_mixed kV_mixed dc_mixed pm_mixed cd_mixed ct_mixed : Value} {od_mixed an_mixed : Option Addr} {sl_mixed : Array (Option Value)}
    {oc_word kV_word dc_word pm_word cd_word ct_word : Value} {od_word an_word : Option Addr} {sl_word : Array (Option Value)}
    {oc_names kV_names dc_names pm_names cd_names ct_names : Value} {od_names an_names : Option Addr} {sl_names : Array (Option Value)}
    {oc_grown kV_grown dc_grown pm_grown cd_grown ct_grown : Value} {od_grown an_grown : Option Addr} {sl_grown : Array (Option Value)}
    {oc_toldBy kV_toldBy dc_toldBy pm_toldBy cd_toldBy ct_toldBy : Value} {od_toldBy an_toldBy : Option Addr} {sl_toldBy : Array (Option Value)}
    {oc_holds kV_holds dc_holds pm_holds cd_holds ct_holds : Value} {od_holds an_holds : Option Addr} {sl_holds : Array (Option Value)}
    {oc_row kV_row dc_row pm_row cd_row ct_row : Value} {od_row an_row : Option Addr} {sl_row : Array (Option Value)}
    {oc_down kV_down dc_down pm_down cd_down ct_down : Value} {od_down an_down : Option Addr} {sl_down : Array (Option Value)}
    {oc_whole kV_whole dc_whole pm_whole cd_whole ct_whole : Value} {od_whole an_whole : Option Addr} {sl_whole : Array (Option Value)}
    {oc_met kV_met dc_met pm_met cd_met ct_met : Value} {od_met an_met : Option Addr} {sl_met : Array (Option Value)}
    {oc_placeL kV_placeL dc_placeL pm_placeL cd_placeL ct_placeL : Value} {od_placeL an_placeL : Option Addr} {sl_placeL : Array (Option Value)}
    {oc_formed kV_formed dc_formed pm_formed cd_formed ct_formed : Value} {od_formed an_formed : Option Addr} {sl_formed : Array (Option Value)}
    {tk_MOST_SIGNS : Tok}
    {tk_MOST_SIZE : Tok}
    {tk_MOST_DEEP : Tok}
    {tk_MOST_NAMES : Tok}
    {tk_MOST_NODES : Tok}
    {tk_signs : Tok}
    {kept : Addr} {kept_d : Option Addr} {kept_its : Array Value} {kept_n : Nat} {kept_s : Array (Option Value)}
    (a_cF : PySem.W.nsIn K mainGlobals "Fixed" = some (some (.ref cF)))
    (a_cC : PySem.W.nsIn K mainGlobals "Contact" = some (some (.ref cC)))
    (a_cT : PySem.W.nsIn K mainGlobals "Turned" = some (some (.ref cT)))
    (a_cS : PySem.W.nsIn K mainGlobals "Series" = some (some (.ref cS)))
    (a_cB : PySem.W.nsIn K mainGlobals "Branch" = some (some (.ref cB)))
    (a_cSh : PySem.W.nsIn K mainGlobals "Sheet" = some (some (.ref cSh)))
    (a_isWord : PySem.W.nsIn K mainGlobals "is_word" = some (some (.ref isWord)))
    (a_isName : PySem.W.nsIn K mainGlobals "is_name" = some (some (.ref isName)))
    (a_single : PySem.W.nsIn K mainGlobals "single" = some (some (.ref single)))
    (a_joined : PySem.W.nsIn K mainGlobals "joined" = some (some (.ref joined)))
    (a_partOf : PySem.W.nsIn K mainGlobals "part_of" = some (some (.ref partOf)))
    (a_cell : PySem.W.nsIn K mainGlobals "_law_cell_at" = some (some (.ref cell)))
    (a_mixed : PySem.W.nsIn K mainGlobals "_law_mixed" = some (some (.ref mixed)))
    (a_word : PySem.W.nsIn K mainGlobals "_law_word" = some (some (.ref word)))
    (a_names : PySem.W.nsIn K mainGlobals "_law_names" = some (some (.ref names)))
    (a_grown : PySem.W.nsIn K mainGlobals "_law_grown" = some (some (.ref grown)))
    (a_toldBy : PySem.W.nsIn K mainGlobals "_law_told_by" = some (some (.ref toldBy)))
    (a_holds : PySem.W.nsIn K mainGlobals "_law_holds" = some (some (.ref holds)))
    (a_row : PySem.W.nsIn K mainGlobals "_law_row" = some (some (.ref row)))
    (a_down : PySem.W.nsIn K mainGlobals "_law_down" = some (some (.ref down)))
    (a_whole : PySem.W.nsIn K mainGlobals "_law_whole" = some (some (.ref whole)))
    (a_met : PySem.W.nsIn K mainGlobals "_law_met" = some (some (.ref met)))
    (a_placeL : PySem.W.nsIn K mainGlobals "_law_place" = some (some (.ref placeL)))
    (a_formed : PySem.W.nsIn K mainGlobals "_law_formed" = some (some (.ref formed)))
    (i_cF : PySem.W.findIn K (.ref cF) "__init__" = some (some (.ref initF)))
    (i_cC : PySem.W.findIn K (.ref cC) "__init__" = some (some (.ref initC)))
    (i_cT : PySem.W.findIn K (.ref cT) "__init__" = some (some (.ref initT)))
    (i_cS : PySem.W.findIn K (.ref cS) "__init__" = some (some (.ref initG)))
    (i_cB : PySem.W.findIn K (.ref cB) "__init__" = some (some (.ref initG)))
    (i_cSh : PySem.W.findIn K (.ref cSh) "__init__" = some (some (.ref initS)))
    (e_cF_size : PySem.W.findIn K (.ref cF) "size" = some (some (.ref size)))
    (e_cF_depth : PySem.W.findIn K (.ref cF) "depth" = some (some (.ref depth)))
    (e_cF_contacts : PySem.W.findIn K (.ref cF) "contacts" = some (some (.ref contacts)))
    (e_cF_bounded : PySem.W.findIn K (.ref cF) "bounded" = some (some (.ref bounded)))
    (e_cC_size : PySem.W.findIn K (.ref cC) "size" = some (some (.ref size)))
    (e_cC_depth : PySem.W.findIn K (.ref cC) "depth" = some (some (.ref depth)))
    (e_cC_contacts : PySem.W.findIn K (.ref cC) "contacts" = some (some (.ref contacts)))
    (e_cC_bounded : PySem.W.findIn K (.ref cC) "bounded" = some (some (.ref bounded)))
    (e_cT_size : PySem.W.findIn K (.ref cT) "size" = some (some (.ref size)))
    (e_cT_depth : PySem.W.findIn K (.ref cT) "depth" = some (some (.ref depth)))
    (e_cT_contacts : PySem.W.findIn K (.ref cT) "contacts" = some (some (.ref contacts)))
    (e_cT_bounded : PySem.W.findIn K (.ref cT) "bounded" = some (some (.ref bounded)))
    (e_cS_size : PySem.W.findIn K (.ref cS) "size" = some (some (.ref size)))
    (e_cS_depth : PySem.W.findIn K (.ref cS) "depth" = some (some (.ref depth)))
    (e_cS_contacts : PySem.W.findIn K (.ref cS) "contacts" = some (some (.ref contacts)))
    (e_cS_bounded : PySem.W.findIn K (.ref cS) "bounded" = some (some (.ref bounded)))
    (e_cB_size : PySem.W.findIn K (.ref cB) "size" = some (some (.ref size)))
    (e_cB_depth : PySem.W.findIn K (.ref cB) "depth" = some (some (.ref depth)))
    (e_cB_contacts : PySem.W.findIn K (.ref cB) "contacts" = some (some (.ref contacts)))
    (e_cB_bounded : PySem.W.findIn K (.ref cB) "bounded" = some (some (.ref bounded)))
    (e_cF_inner : PySem.W.findIn K (.ref cF) "inner" = some (some (.ref inner)))
    (e_cC_inner : PySem.W.findIn K (.ref cC) "inner" = some (some (.ref inner)))
    (e_cT_inner : PySem.W.findIn K (.ref cT) "inner" = some (some (.ref innerT)))
    (e_cS_inner : PySem.W.findIn K (.ref cS) "inner" = some (some (.ref innerG)))
    (e_cB_inner : PySem.W.findIn K (.ref cB) "inner" = some (some (.ref innerG)))
    (e_cF_gather : PySem.W.findIn K (.ref cF) "gather" = some (some (.ref gather)))
    (e_cC_gather : PySem.W.findIn K (.ref cC) "gather" = some (some (.ref gatherC)))
    (e_cT_gather : PySem.W.findIn K (.ref cT) "gather" = some (some (.ref gather)))
    (e_cS_gather : PySem.W.findIn K (.ref cS) "gather" = some (some (.ref gather)))
    (e_cB_gather : PySem.W.findIn K (.ref cB) "gather" = some (some (.ref gather)))
    (e_cSh_place : PySem.W.findIn K (.ref cSh) "place" = some (some (.ref place)))
    (e_cSh_made : PySem.W.findIn K (.ref cSh) "made" = some (some (.ref made)))
    (e_cSh_below : PySem.W.findIn K (.ref cSh) "below" = some (some (.ref below)))
    (e_cSh_joined : PySem.W.findIn K (.ref cSh) "joined" = some (some (.ref join)))
    (e_cSh_opposite : PySem.W.findIn K (.ref cSh) "opposite" = some (some (.ref opp)))
    (e_cSh_drawn : PySem.W.findIn K (.ref cSh) "drawn" = some (some (.ref drawn)))
    (e_cSh_need : PySem.W.findIn K (.ref cSh) "need" = some (some (.ref need)))
    (e_cSh_node : PySem.W.findIn K (.ref cSh) "node" = some (some (.ref node)))
    (e_cSh_shown : PySem.W.findIn K (.ref cSh) "shown" = some (some (.ref shown)))
    (j_inner : PySem.W.isFn K (.ref inner) = true)
    (j_size : PySem.W.isFn K (.ref size) = true)
    (j_depth : PySem.W.isFn K (.ref depth) = true)
    (j_gather : PySem.W.isFn K (.ref gather) = true)
    (j_contacts : PySem.W.isFn K (.ref contacts) = true)
    (j_bounded : PySem.W.isFn K (.ref bounded) = true)
    (j_initF : PySem.W.isFn K (.ref initF) = true)
    (j_initC : PySem.W.isFn K (.ref initC) = true)
    (j_gatherC : PySem.W.isFn K (.ref gatherC) = true)
    (j_initT : PySem.W.isFn K (.ref initT) = true)
    (j_innerT : PySem.W.isFn K (.ref innerT) = true)
    (j_initG : PySem.W.isFn K (.ref initG) = true)
    (j_innerG : PySem.W.isFn K (.ref innerG) = true)
    (j_initS : PySem.W.isFn K (.ref initS) = true)
    (j_place : PySem.W.isFn K (.ref place) = true)
    (j_made : PySem.W.isFn K (.ref made) = true)
    (j_below : PySem.W.isFn K (.ref below) = true)
    (j_join : PySem.W.isFn K (.ref join) = true)
    (j_opp : PySem.W.isFn K (.ref opp) = true)
    (j_drawn : PySem.W.isFn K (.ref drawn) = true)
    (j_need : PySem.W.isFn K (.ref need) = true)
    (j_node : PySem.W.isFn K (.ref node) = true)
    (j_shown : PySem.W.isFn K (.ref shown) = true)
    (l_isWord : K.lookup isWord = some ⟨oc_isWord, od_isWord, .func (PySem.W.fnOf "is_word" "is_word" (defArgs sIsWord) (defBody sIsWord) (defScope sIsWord) .none kV_isWord dc_isWord pm_isWord an_isWord cd_isWord ct_isWord), sl_isWord⟩)
    (c_isWord : PySem.W.codeIn K cd_isWord "is_word" = true)
    (k_isWord : PySem.W.keepIn K (.ref isWord) = true)
    (l_isName : K.lookup isName = some ⟨oc_isName, od_isName, .func (PySem.W.fnOf "is_name" "is_name" (defArgs sIsName) (defBody sIsName) (defScope sIsName) .none kV_isName dc_isName pm_isName an_isName cd_isName ct_isName), sl_isName⟩)
    (c_isName : PySem.W.codeIn K cd_isName "is_name" = true)
    (k_isName : PySem.W.keepIn K (.ref isName) = true)
    (l_inner : K.lookup inner = some ⟨oc_inner, od_inner, .func (PySem.W.fnOf "inner" "Part.inner" (defArgs sInner) (defBody sInner) (defScope sInner) .none kV_inner dc_inner pm_inner an_inner cd_inner ct_inner), sl_inner⟩)
    (c_inner : PySem.W.codeIn K cd_inner "Part.inner" = true)
    (k_inner : PySem.W.keepIn K (.ref inner) = true)
    (l_size : K.lookup size = some ⟨oc_size, od_size, .func (PySem.W.fnOf "size" "Part.size" (defArgs sSize) (defBody sSize) (defScope sSize) .none kV_size dc_size pm_size an_size cd_size ct_size), sl_size⟩)
    (c_size : PySem.W.codeIn K cd_size "Part.size" = true)
    (k_size : PySem.W.keepIn K (.ref size) = true)
    (l_depth : K.lookup depth = some ⟨oc_depth, od_depth, .func (PySem.W.fnOf "depth" "Part.depth" (defArgs sDepth) (defBody sDepth) (defScope sDepth) .none kV_depth dc_depth pm_depth an_depth cd_depth ct_depth), sl_depth⟩)
    (c_depth : PySem.W.codeIn K cd_depth "Part.depth" = true)
    (k_depth : PySem.W.keepIn K (.ref depth) = true)
    (l_gather : K.lookup gather = some ⟨oc_gather, od_gather, .func (PySem.W.fnOf "gather" "Part.gather" (defArgs sGather) (defBody sGather) (defScope sGather) .none kV_gather dc_gather pm_gather an_gather cd_gather ct_gather), sl_gather⟩)
    (c_gather : PySem.W.codeIn K cd_gather "Part.gather" = true)
    (k_gather : PySem.W.keepIn K (.ref gather) = true)
    (l_contacts : K.lookup contacts = some ⟨oc_contacts, od_contacts, .func (PySem.W.fnOf "contacts" "Part.contacts" (defArgs sContacts) (defBody sContacts) (defScope sContacts) .none kV_contacts dc_contacts pm_contacts an_contacts cd_contacts ct_contacts), sl_contacts⟩)
    (c_contacts : PySem.W.codeIn K cd_contacts "Part.contacts" = true)
    (k_contacts : PySem.W.keepIn K (.ref contacts) = true)
    (l_bounded : K.lookup bounded = some ⟨oc_bounded, od_bounded, .func (PySem.W.fnOf "bounded" "Part.bounded" (defArgs sBounded) (defBody sBounded) (defScope sBounded) .none kV_bounded dc_bounded pm_bounded an_bounded cd_bounded ct_bounded), sl_bounded⟩)
    (c_bounded : PySem.W.codeIn K cd_bounded "Part.bounded" = true)
    (k_bounded : PySem.W.keepIn K (.ref bounded) = true)
    (l_initF : K.lookup initF = some ⟨oc_initF, od_initF, .func (PySem.W.fnOf "__init__" "Fixed.__init__" (defArgs sInitF) (defBody sInitF) (defScope sInitF) .none kV_initF dc_initF pm_initF an_initF cd_initF ct_initF), sl_initF⟩)
    (c_initF : PySem.W.codeIn K cd_initF "Fixed.__init__" = true)
    (k_initF : PySem.W.keepIn K (.ref initF) = true)
    (l_initC : K.lookup initC = some ⟨oc_initC, od_initC, .func (PySem.W.fnOf "__init__" "Contact.__init__" (defArgs sInitC) (defBody sInitC) (defScope sInitC) .none kV_initC dc_initC pm_initC an_initC cd_initC ct_initC), sl_initC⟩)
    (c_initC : PySem.W.codeIn K cd_initC "Contact.__init__" = true)
    (k_initC : PySem.W.keepIn K (.ref initC) = true)
    (l_gatherC : K.lookup gatherC = some ⟨oc_gatherC, od_gatherC, .func (PySem.W.fnOf "gather" "Contact.gather" (defArgs sGatherC) (defBody sGatherC) (defScope sGatherC) .none kV_gatherC dc_gatherC pm_gatherC an_gatherC cd_gatherC ct_gatherC), sl_gatherC⟩)
    (c_gatherC : PySem.W.codeIn K cd_gatherC "Contact.gather" = true)
    (k_gatherC : PySem.W.keepIn K (.ref gatherC) = true)
    (l_initT : K.lookup initT = some ⟨oc_initT, od_initT, .func (PySem.W.fnOf "__init__" "Turned.__init__" (defArgs sInitT) (defBody sInitT) (defScope sInitT) .none kV_initT dc_initT pm_initT an_initT cd_initT ct_initT), sl_initT⟩)
    (c_initT : PySem.W.codeIn K cd_initT "Turned.__init__" = true)
    (k_initT : PySem.W.keepIn K (.ref initT) = true)
    (l_innerT : K.lookup innerT = some ⟨oc_innerT, od_innerT, .func (PySem.W.fnOf "inner" "Turned.inner" (defArgs sInnerT) (defBody sInnerT) (defScope sInnerT) .none kV_innerT dc_innerT pm_innerT an_innerT cd_innerT ct_innerT), sl_innerT⟩)
    (c_innerT : PySem.W.codeIn K cd_innerT "Turned.inner" = true)
    (k_innerT : PySem.W.keepIn K (.ref innerT) = true)
    (l_initG : K.lookup initG = some ⟨oc_initG, od_initG, .func (PySem.W.fnOf "__init__" "Group.__init__" (defArgs sInitG) (defBody sInitG) (defScope sInitG) .none kV_initG dc_initG pm_initG an_initG cd_initG ct_initG), sl_initG⟩)
    (c_initG : PySem.W.codeIn K cd_initG "Group.__init__" = true)
    (k_initG : PySem.W.keepIn K (.ref initG) = true)
    (l_innerG : K.lookup innerG = some ⟨oc_innerG, od_innerG, .func (PySem.W.fnOf "inner" "Group.inner" (defArgs sInnerG) (defBody sInnerG) (defScope sInnerG) .none kV_innerG dc_innerG pm_innerG an_innerG cd_innerG ct_innerG), sl_innerG⟩)
    (c_innerG : PySem.W.codeIn K cd_innerG "Group.inner" = true)
    (k_innerG : PySem.W.keepIn K (.ref innerG) = true)
    (l_single : K.lookup single = some ⟨oc_single, od_single, .func (PySem.W.fnOf "single" "single" (defArgs sSingle) (defBody sSingle) (defScope sSingle) .none kV_single dc_single pm_single an_single cd_single ct_single), sl_single⟩)
    (c_single : PySem.W.codeIn K cd_single "single" = true)
    (k_single : PySem.W.keepIn K (.ref single) = true)
    (l_joined : K.lookup joined = some ⟨oc_joined, od_joined, .func (PySem.W.fnOf "joined" "joined" (defArgs sJoined) (defBody sJoined) (defScope sJoined) .none kV_joined dc_joined pm_joined an_joined cd_joined ct_joined), sl_joined⟩)
    (c_joined : PySem.W.codeIn K cd_joined "joined" = true)
    (k_joined : PySem.W.keepIn K (.ref joined) = true)
    (l_partOf : K.lookup partOf = some ⟨oc_partOf, od_partOf, .func (PySem.W.fnOf "part_of" "part_of" (defArgs sPartOf) (defBody sPartOf) (defScope sPartOf) .none kV_partOf dc_partOf pm_partOf an_partOf cd_partOf ct_partOf), sl_partOf⟩)
    (c_partOf : PySem.W.codeIn K cd_partOf "part_of" = true)
    (k_partOf : PySem.W.keepIn K (.ref partOf) = true)
    (l_initS : K.lookup initS = some ⟨oc_initS, od_initS, .func (PySem.W.fnOf "__init__" "Sheet.__init__" (defArgs sInitS) (defBody sInitS) (defScope sInitS) .none kV_initS dc_initS pm_initS an_initS cd_initS ct_initS), sl_initS⟩)
    (c_initS : PySem.W.codeIn K cd_initS "Sheet.__init__" = true)
    (k_initS : PySem.W.keepIn K (.ref initS) = true)
    (l_place : K.lookup place = some ⟨oc_place, od_place, .func (PySem.W.fnOf "place" "Sheet.place" (defArgs sPlace) (defBody sPlace) (defScope sPlace) .none kV_place dc_place pm_place an_place cd_place ct_place), sl_place⟩)
    (c_place : PySem.W.codeIn K cd_place "Sheet.place" = true)
    (k_place : PySem.W.keepIn K (.ref place) = true)
    (l_made : K.lookup made = some ⟨oc_made, od_made, .func (PySem.W.fnOf "made" "Sheet.made" (defArgs sMade) (defBody sMade) (defScope sMade) .none kV_made dc_made pm_made an_made cd_made ct_made), sl_made⟩)
    (c_made : PySem.W.codeIn K cd_made "Sheet.made" = true)
    (k_made : PySem.W.keepIn K (.ref made) = true)
    (l_below : K.lookup below = some ⟨oc_below, od_below, .func (PySem.W.fnOf "below" "Sheet.below" (defArgs sBelow) (defBody sBelow) (defScope sBelow) .none kV_below dc_below pm_below an_below cd_below ct_below), sl_below⟩)
    (c_below : PySem.W.codeIn K cd_below "Sheet.below" = true)
    (k_below : PySem.W.keepIn K (.ref below) = true)
    (l_join : K.lookup join = some ⟨oc_join, od_join, .func (PySem.W.fnOf "joined" "Sheet.joined" (defArgs sJoin) (defBody sJoin) (defScope sJoin) .none kV_join dc_join pm_join an_join cd_join ct_join), sl_join⟩)
    (c_join : PySem.W.codeIn K cd_join "Sheet.joined" = true)
    (k_join : PySem.W.keepIn K (.ref join) = true)
    (l_opp : K.lookup opp = some ⟨oc_opp, od_opp, .func (PySem.W.fnOf "opposite" "Sheet.opposite" (defArgs sOpp) (defBody sOpp) (defScope sOpp) .none kV_opp dc_opp pm_opp an_opp cd_opp ct_opp), sl_opp⟩)
    (c_opp : PySem.W.codeIn K cd_opp "Sheet.opposite" = true)
    (k_opp : PySem.W.keepIn K (.ref opp) = true)
    (l_drawn : K.lookup drawn = some ⟨oc_drawn, od_drawn, .func (PySem.W.fnOf "drawn" "Sheet.drawn" (defArgs sDrawn) (defBody sDrawn) (defScope sDrawn) .none kV_drawn dc_drawn pm_drawn an_drawn cd_drawn ct_drawn), sl_drawn⟩)
    (c_drawn : PySem.W.codeIn K cd_drawn "Sheet.drawn" = true)
    (k_drawn : PySem.W.keepIn K (.ref drawn) = true)
    (l_need : K.lookup need = some ⟨oc_need, od_need, .func (PySem.W.fnOf "need" "Sheet.need" (defArgs sNeed) (defBody sNeed) (defScope sNeed) .none kV_need dc_need pm_need an_need cd_need ct_need), sl_need⟩)
    (c_need : PySem.W.codeIn K cd_need "Sheet.need" = true)
    (k_need : PySem.W.keepIn K (.ref need) = true)
    (l_node : K.lookup node = some ⟨oc_node, od_node, .func (PySem.W.fnOf "node" "Sheet.node" (defArgs sNode) (defBody sNode) (defScope sNode) .none kV_node dc_node pm_node an_node cd_node ct_node), sl_node⟩)
    (c_node : PySem.W.codeIn K cd_node "Sheet.node" = true)
    (k_node : PySem.W.keepIn K (.ref node) = true)
    (l_shown : K.lookup shown = some ⟨oc_shown, od_shown, .func (PySem.W.fnOf "shown" "Sheet.shown" (defArgs sShown) (defBody sShown) (defScope sShown) .none kV_shown dc_shown pm_shown an_shown cd_shown ct_shown), sl_shown⟩)
    (c_shown : PySem.W.codeIn K cd_shown "Sheet.shown" = true)
    (k_shown : PySem.W.keepIn K (.ref shown) = true)
    (l_cell : K.lookup cell = some ⟨oc_cell, od_cell, .func (PySem.W.fnOf "_law_cell_at" "_law_cell_at" (defArgs sCell) (defBody sCell) (defScope sCell) .none kV_cell dc_cell pm_cell an_cell cd_cell ct_cell), sl_cell⟩)
    (c_cell : PySem.W.codeIn K cd_cell "_law_cell_at" = true)
    (k_cell : PySem.W.keepIn K (.ref cell) = true)
    (l_mixed : K.lookup mixed = some ⟨oc_mixed, od_mixed, .func (PySem.W.fnOf "_law_mixed" "_law_mixed" (defArgs sMixed) (defBody sMixed) (defScope sMixed) .none kV_mixed dc_mixed pm_mixed an_mixed cd_mixed ct_mixed), sl_mixed⟩)
    (c_mixed : PySem.W.codeIn K cd_mixed "_law_mixed" = true)
    (k_mixed : PySem.W.keepIn K (.ref mixed) = true)
    (l_word : K.lookup word = some ⟨oc_word, od_word, .func (PySem.W.fnOf "_law_word" "_law_word" (defArgs sWord) (defBody sWord) (defScope sWord) .none kV_word dc_word pm_word an_word cd_word ct_word), sl_word⟩)
    (c_word : PySem.W.codeIn K cd_word "_law_word" = true)
    (k_word : PySem.W.keepIn K (.ref word) = true)
    (l_names : K.lookup names = some ⟨oc_names, od_names, .func (PySem.W.fnOf "_law_names" "_law_names" (defArgs sNames) (defBody sNames) (defScope sNames) .none kV_names dc_names pm_names an_names cd_names ct_names), sl_names⟩)
    (c_names : PySem.W.codeIn K cd_names "_law_names" = true)
    (k_names : PySem.W.keepIn K (.ref names) = true)
    (l_grown : K.lookup grown = some ⟨oc_grown, od_grown, .func (PySem.W.fnOf "_law_grown" "_law_grown" (defArgs sGrown) (defBody sGrown) (defScope sGrown) .none kV_grown dc_grown pm_grown an_grown cd_grown ct_grown), sl_grown⟩)
    (c_grown : PySem.W.codeIn K cd_grown "_law_grown" = true)
    (k_grown : PySem.W.keepIn K (.ref grown) = true)
    (l_toldBy : K.lookup toldBy = some ⟨oc_toldBy, od_toldBy, .func (PySem.W.fnOf "_law_told_by" "_law_told_by" (defArgs sToldBy) (defBody sToldBy) (defScope sToldBy) .none kV_toldBy dc_toldBy pm_toldBy an_toldBy cd_toldBy ct_toldBy), sl_toldBy⟩)
    (c_toldBy : PySem.W.codeIn K cd_toldBy "_law_told_by" = true)
    (k_toldBy : PySem.W.keepIn K (.ref toldBy) = true)
    (l_holds : K.lookup holds = some ⟨oc_holds, od_holds, .func (PySem.W.fnOf "_law_holds" "_law_holds" (defArgs sHolds) (defBody sHolds) (defScope sHolds) .none kV_holds dc_holds pm_holds an_holds cd_holds ct_holds), sl_holds⟩)
    (c_holds : PySem.W.codeIn K cd_holds "_law_holds" = true)
    (k_holds : PySem.W.keepIn K (.ref holds) = true)
    (l_row : K.lookup row = some ⟨oc_row, od_row, .func (PySem.W.fnOf "_law_row" "_law_row" (defArgs sRow) (defBody sRow) (defScope sRow) .none kV_row dc_row pm_row an_row cd_row ct_row), sl_row⟩)
    (c_row : PySem.W.codeIn K cd_row "_law_row" = true)
    (k_row : PySem.W.keepIn K (.ref row) = true)
    (l_down : K.lookup down = some ⟨oc_down, od_down, .func (PySem.W.fnOf "_law_down" "_law_down" (defArgs sDown) (defBody sDown) (defScope sDown) .none kV_down dc_down pm_down an_down cd_down ct_down), sl_down⟩)
    (c_down : PySem.W.codeIn K cd_down "_law_down" = true)
    (k_down : PySem.W.keepIn K (.ref down) = true)
    (l_whole : K.lookup whole = some ⟨oc_whole, od_whole, .func (PySem.W.fnOf "_law_whole" "_law_whole" (defArgs sWhole) (defBody sWhole) (defScope sWhole) .none kV_whole dc_whole pm_whole an_whole cd_whole ct_whole), sl_whole⟩)
    (c_whole : PySem.W.codeIn K cd_whole "_law_whole" = true)
    (k_whole : PySem.W.keepIn K (.ref whole) = true)
    (l_met : K.lookup met = some ⟨oc_met, od_met, .func (PySem.W.fnOf "_law_met" "_law_met" (defArgs sMet) (defBody sMet) (defScope sMet) .none kV_met dc_met pm_met an_met cd_met ct_met), sl_met⟩)
    (c_met : PySem.W.codeIn K cd_met "_law_met" = true)
    (k_met : PySem.W.keepIn K (.ref met) = true)
    (l_placeL : K.lookup placeL = some ⟨oc_placeL, od_placeL, .func (PySem.W.fnOf "_law_place" "_law_place" (defArgs sPlaceL) (defBody sPlaceL) (defScope sPlaceL) .none kV_placeL dc_placeL pm_placeL an_placeL cd_placeL ct_placeL), sl_placeL⟩)
    (c_placeL : PySem.W.codeIn K cd_placeL "_law_place" = true)
    (k_placeL : PySem.W.keepIn K (.ref placeL) = true)
    (l_formed : K.lookup formed = some ⟨oc_formed, od_formed, .func (PySem.W.fnOf "_law_formed" "_law_formed" (defArgs sFormed) (defBody sFormed) (defScope sFormed) .none kV_formed dc_formed pm_formed an_formed cd_formed ct_formed), sl_formed⟩)
    (c_formed : PySem.W.codeIn K cd_formed "_law_formed" = true)
    (k_formed : PySem.W.keepIn K (.ref formed) = true)
    (p_cF : PySem.W.plainGet K cF Str.empty = true)
    (q_cF : PySem.W.hasDictIn K cF = true)
    (r_cF : PySem.W.plainOver K cF = true)
    (s_cF : PySem.W.findIn K (.ref cF) "__setattr__" = some (some (.builtin "object.__setattr__")))
    (u_cF : PySem.W.makesIn K cF = true)
    (w_cF : PySem.W.keepIn K (.ref cF) = true)
    (p_cC : PySem.W.plainGet K cC Str.empty = true)
    (q_cC : PySem.W.hasDictIn K cC = true)
    (r_cC : PySem.W.plainOver K cC = true)
    (s_cC : PySem.W.findIn K (.ref cC) "__setattr__" = some (some (.builtin "object.__setattr__")))
    (u_cC : PySem.W.makesIn K cC = true)
    (w_cC : PySem.W.keepIn K (.ref cC) = true)
    (p_cT : PySem.W.plainGet K cT Str.empty = true)
    (q_cT : PySem.W.hasDictIn K cT = true)
    (r_cT : PySem.W.plainOver K cT = true)
    (s_cT : PySem.W.findIn K (.ref cT) "__setattr__" = some (some (.builtin "object.__setattr__")))
    (u_cT : PySem.W.makesIn K cT = true)
    (w_cT : PySem.W.keepIn K (.ref cT) = true)
    (p_cS : PySem.W.plainGet K cS Str.empty = true)
    (q_cS : PySem.W.hasDictIn K cS = true)
    (r_cS : PySem.W.plainOver K cS = true)
    (s_cS : PySem.W.findIn K (.ref cS) "__setattr__" = some (some (.builtin "object.__setattr__")))
    (u_cS : PySem.W.makesIn K cS = true)
    (w_cS : PySem.W.keepIn K (.ref cS) = true)
    (p_cB : PySem.W.plainGet K cB Str.empty = true)
    (q_cB : PySem.W.hasDictIn K cB = true)
    (r_cB : PySem.W.plainOver K cB = true)
    (s_cB : PySem.W.findIn K (.ref cB) "__setattr__" = some (some (.builtin "object.__setattr__")))
    (u_cB : PySem.W.makesIn K cB = true)
    (w_cB : PySem.W.keepIn K (.ref cB) = true)
    (p_cSh : PySem.W.plainGet K cSh Str.empty = true)
    (q_cSh : PySem.W.hasDictIn K cSh = true)
    (r_cSh : PySem.W.plainOver K cSh = true)
    (s_cSh : PySem.W.findIn K (.ref cSh) "__setattr__" = some (some (.builtin "object.__setattr__")))
    (u_cSh : PySem.W.makesIn K cSh = true)
    (w_cSh : PySem.W.keepIn K (.ref cSh) = true)
    (ya_cF : PySem.W.isClsIn K cF = true)
    (yb_cF : PySem.W.typeIn K (.ref cF) = some (.type "type"))
    (yc_cF : PySem.W.mroIn K cF (.ref cF) = some true)
    (ya_cC : PySem.W.isClsIn K cC = true)
    (yb_cC : PySem.W.typeIn K (.ref cC) = some (.type "type"))
    (yc_cC : PySem.W.mroIn K cC (.ref cC) = some true)
    (ya_cT : PySem.W.isClsIn K cT = true)
    (yb_cT : PySem.W.typeIn K (.ref cT) = some (.type "type"))
    (yc_cT : PySem.W.mroIn K cT (.ref cT) = some true)
    (ya_cS : PySem.W.isClsIn K cS = true)
    (yb_cS : PySem.W.typeIn K (.ref cS) = some (.type "type"))
    (yc_cS : PySem.W.mroIn K cS (.ref cS) = some true)
    (x_n_cF_value : PySem.W.findIn K (.ref cF) "value" = some none)
    (x_n_cC_name : PySem.W.findIn K (.ref cC) "name" = some none)
    (x_n_cT_part : PySem.W.findIn K (.ref cT) "part" = some none)
    (x_n_cS_parts : PySem.W.findIn K (.ref cS) "parts" = some none)
    (x_n_cB_parts : PySem.W.findIn K (.ref cB) "parts" = some none)
    (x_n_cSh_names : PySem.W.findIn K (.ref cSh) "names" = some none)
    (x_n_cSh_nodes : PySem.W.findIn K (.ref cSh) "nodes" = some none)
    (x_n_cSh_numbers : PySem.W.findIn K (.ref cSh) "numbers" = some none)
    (y_h_cF : PySem.W.findIn K (.ref cF) "__class__" = some (some (.builtin "object.__class__")))
    (y_o_cF : PySem.W.mroIn K cF (.type "object") = some true)
    (y_h_cC : PySem.W.findIn K (.ref cC) "__class__" = some (some (.builtin "object.__class__")))
    (y_o_cC : PySem.W.mroIn K cC (.type "object") = some true)
    (y_h_cT : PySem.W.findIn K (.ref cT) "__class__" = some (some (.builtin "object.__class__")))
    (y_o_cT : PySem.W.mroIn K cT (.type "object") = some true)
    (y_h_cS : PySem.W.findIn K (.ref cS) "__class__" = some (some (.builtin "object.__class__")))
    (y_o_cS : PySem.W.mroIn K cS (.type "object") = some true)
    (y_h_cB : PySem.W.findIn K (.ref cB) "__class__" = some (some (.builtin "object.__class__")))
    (y_o_cB : PySem.W.mroIn K cB (.type "object") = some true)
    (y_hg : PySem.W.specialIn K (.builtin "object.__class__") "__get__" = some (some (.builtin "getset_descriptor.__get__")))
    (y_ht : PySem.W.takesIn K (.builtin "object.__class__") = some true)
    (y_k_cC_cF : PySem.W.mroIn K cC (.ref cF) = some false)
    (y_k_cT_cF : PySem.W.mroIn K cT (.ref cF) = some false)
    (y_k_cS_cF : PySem.W.mroIn K cS (.ref cF) = some false)
    (y_k_cB_cF : PySem.W.mroIn K cB (.ref cF) = some false)
    (y_k_cT_cC : PySem.W.mroIn K cT (.ref cC) = some false)
    (y_k_cS_cC : PySem.W.mroIn K cS (.ref cC) = some false)
    (y_k_cB_cC : PySem.W.mroIn K cB (.ref cC) = some false)
    (y_k_cS_cT : PySem.W.mroIn K cS (.ref cT) = some false)
    (y_k_cB_cT : PySem.W.mroIn K cB (.ref cT) = some false)
    (y_k_cB_cS : PySem.W.mroIn K cB (.ref cS) = some false)
    (z_b_len : PySem.W.nsIn K mainGlobals "len" = some none)
    (z_b_sum : PySem.W.nsIn K mainGlobals "sum" = some none)
    (z_b_max : PySem.W.nsIn K mainGlobals "max" = some none)
    (z_b_min : PySem.W.nsIn K mainGlobals "min" = some none)
    (z_b_tuple : PySem.W.nsIn K mainGlobals "tuple" = some none)
    (z_b_list : PySem.W.nsIn K mainGlobals "list" = some none)
    (z_b_set : PySem.W.nsIn K mainGlobals "set" = some none)
    (z_b_range : PySem.W.nsIn K mainGlobals "range" = some none)
    (z_b_isinstance : PySem.W.nsIn K mainGlobals "isinstance" = some none)
    (z_b_int : PySem.W.nsIn K mainGlobals "int" = some none)
    (z_b_bool : PySem.W.nsIn K mainGlobals "bool" = some none)
    (z_v_MOST_SIGNS : PySem.W.nsIn K mainGlobals "MOST_SIGNS" = some (some (.int 8 tk_MOST_SIGNS)))
    (z_v_MOST_SIZE : PySem.W.nsIn K mainGlobals "MOST_SIZE" = some (some (.int 60 tk_MOST_SIZE)))
    (z_v_MOST_DEEP : PySem.W.nsIn K mainGlobals "MOST_DEEP" = some (some (.int 20 tk_MOST_DEEP)))
    (z_v_MOST_NAMES : PySem.W.nsIn K mainGlobals "MOST_NAMES" = some (some (.int 60 tk_MOST_NAMES)))
    (z_v_MOST_NODES : PySem.W.nsIn K mainGlobals "MOST_NODES" = some (some (.int 2000 tk_MOST_NODES)))
    (z_v_SIGNS : PySem.W.nsIn K mainGlobals "SIGNS" = some (some (.str "abcdefghijklmnopqrstuvwxyz" tk_signs)))
    (z_v_KEPT : PySem.W.nsIn K mainGlobals "KEPT" = some (some (.ref kept)))
    (z2_v_KEPT : K.lookup kept = some ⟨.type "tuple", kept_d, .seq kept_its kept_n, kept_s⟩)
    (z3_v_KEPT : KeptIs kept_its.toList)
    : Txt K mg ⟨cF, cC, cT, cS, cB, cSh⟩ ⟨isWord, isName, inner, size, depth, gather, contacts, bounded, initF, initC, gatherC, initT, innerT, initG, innerG, single, joined, partOf, initS, place, made, below, join, opp, drawn, need, node, shown, cell, mixed, word, names, grown, toldBy, holds, row, down, whole, met, placeL, formed⟩ where
  d_isWord := ⟨_, fun_mk (st := sIsWord) l_isWord c_isWord k_isWord, (fun_mk (st := sIsWord) l_isWord c_isWord k_isWord).binds (ps := ["text"]) fun _ _ _ _ _ _ us hl => match us, hl with | [_], _ => rfl⟩
  d_isName := ⟨_, fun_mk (st := sIsName) l_isName c_isName k_isName, (fun_mk (st := sIsName) l_isName c_isName k_isName).binds (ps := ["name"]) fun _ _ _ _ _ _ us hl => match us, hl with | [_], _ => rfl⟩
  d_inner := ⟨_, fun_mk (st := sInner) l_inner c_inner k_inner, (fun_mk (st := sInner) l_inner c_inner k_inner).binds (ps := ["self"]) fun _ _ _ _ _ _ us hl => match us, hl with | [_], _ => rfl⟩
  d_size := ⟨_, fun_mk (st := sSize) l_size c_size k_size, (fun_mk (st := sSize) l_size c_size k_size).binds (ps := ["self"]) fun _ _ _ _ _ _ us hl => match us, hl with | [_], _ => rfl⟩
  d_depth := ⟨_, fun_mk (st := sDepth) l_depth c_depth k_depth, (fun_mk (st := sDepth) l_depth c_depth k_depth).binds (ps := ["self"]) fun _ _ _ _ _ _ us hl => match us, hl with | [_], _ => rfl⟩
  d_gather := ⟨_, fun_mk (st := sGather) l_gather c_gather k_gather, (fun_mk (st := sGather) l_gather c_gather k_gather).binds (ps := ["self", "found"]) fun _ _ _ _ _ _ us hl => match us, hl with | [_, _], _ => rfl⟩
  d_contacts := ⟨_, fun_mk (st := sContacts) l_contacts c_contacts k_contacts, (fun_mk (st := sContacts) l_contacts c_contacts k_contacts).binds (ps := ["self"]) fun _ _ _ _ _ _ us hl => match us, hl with | [_], _ => rfl⟩
  d_bounded := ⟨_, fun_mk (st := sBounded) l_bounded c_bounded k_bounded, (fun_mk (st := sBounded) l_bounded c_bounded k_bounded).binds (ps := ["self"]) fun _ _ _ _ _ _ us hl => match us, hl with | [_], _ => rfl⟩
  d_initF := ⟨_, fun_mk (st := sInitF) l_initF c_initF k_initF, (fun_mk (st := sInitF) l_initF c_initF k_initF).binds (ps := ["self", "value"]) fun _ _ _ _ _ _ us hl => match us, hl with | [_, _], _ => rfl⟩
  d_initC := ⟨_, fun_mk (st := sInitC) l_initC c_initC k_initC, (fun_mk (st := sInitC) l_initC c_initC k_initC).binds (ps := ["self", "name"]) fun _ _ _ _ _ _ us hl => match us, hl with | [_, _], _ => rfl⟩
  d_gatherC := ⟨_, fun_mk (st := sGatherC) l_gatherC c_gatherC k_gatherC, (fun_mk (st := sGatherC) l_gatherC c_gatherC k_gatherC).binds (ps := ["self", "found"]) fun _ _ _ _ _ _ us hl => match us, hl with | [_, _], _ => rfl⟩
  d_initT := ⟨_, fun_mk (st := sInitT) l_initT c_initT k_initT, (fun_mk (st := sInitT) l_initT c_initT k_initT).binds (ps := ["self", "part"]) fun _ _ _ _ _ _ us hl => match us, hl with | [_, _], _ => rfl⟩
  d_innerT := ⟨_, fun_mk (st := sInnerT) l_innerT c_innerT k_innerT, (fun_mk (st := sInnerT) l_innerT c_innerT k_innerT).binds (ps := ["self"]) fun _ _ _ _ _ _ us hl => match us, hl with | [_], _ => rfl⟩
  d_initG := ⟨_, fun_mk (st := sInitG) l_initG c_initG k_initG, (fun_mk (st := sInitG) l_initG c_initG k_initG).binds (ps := ["self", "parts"]) fun _ _ _ _ _ _ us hl => match us, hl with | [_, _], _ => rfl⟩
  d_innerG := ⟨_, fun_mk (st := sInnerG) l_innerG c_innerG k_innerG, (fun_mk (st := sInnerG) l_innerG c_innerG k_innerG).binds (ps := ["self"]) fun _ _ _ _ _ _ us hl => match us, hl with | [_], _ => rfl⟩
  d_single := ⟨_, fun_mk (st := sSingle) l_single c_single k_single, (fun_mk (st := sSingle) l_single c_single k_single).binds (ps := ["told"]) fun _ _ _ _ _ _ us hl => match us, hl with | [_], _ => rfl⟩
  d_joined := ⟨_, fun_mk (st := sJoined) l_joined c_joined k_joined, (fun_mk (st := sJoined) l_joined c_joined k_joined).binds (ps := ["kind", "parts"]) fun _ _ _ _ _ _ us hl => match us, hl with | [_, _], _ => rfl⟩
  d_partOf := ⟨_, fun_mk (st := sPartOf) l_partOf c_partOf k_partOf, (fun_mk (st := sPartOf) l_partOf c_partOf k_partOf).binds (ps := ["told"]) fun _ _ _ _ _ _ us hl => match us, hl with | [_], _ => rfl⟩
  d_initS := ⟨_, fun_mk (st := sInitS) l_initS c_initS k_initS, (fun_mk (st := sInitS) l_initS c_initS k_initS).binds (ps := ["self", "names"]) fun _ _ _ _ _ _ us hl => match us, hl with | [_, _], _ => rfl⟩
  d_place := ⟨_, fun_mk (st := sPlace) l_place c_place k_place, (fun_mk (st := sPlace) l_place c_place k_place).binds (ps := ["self", "node"]) fun _ _ _ _ _ _ us hl => match us, hl with | [_, _], _ => rfl⟩
  d_made := ⟨_, fun_mk (st := sMade) l_made c_made k_made, (fun_mk (st := sMade) l_made c_made k_made).binds (ps := ["self", "place", "low", "high"]) fun _ _ _ _ _ _ us hl => match us, hl with | [_, _, _, _], _ => rfl⟩
  d_below := ⟨_, fun_mk (st := sBelow) l_below c_below k_below, (fun_mk (st := sBelow) l_below c_below k_below).binds (ps := ["self", "node", "place"]) fun _ _ _ _ _ _ us hl => match us, hl with | [_, _, _], _ => rfl⟩
  d_join := ⟨_, fun_mk (st := sJoin) l_join c_join k_join, (fun_mk (st := sJoin) l_join c_join k_join).binds (ps := ["self", "one", "other", "stop", "known"]) fun _ _ _ _ _ _ us hl => match us, hl with | [_, _, _, _, _], _ => rfl⟩
  d_opp := ⟨_, fun_mk (st := sOpp) l_opp c_opp k_opp, (fun_mk (st := sOpp) l_opp c_opp k_opp).binds (ps := ["self", "node", "known"]) fun _ _ _ _ _ _ us hl => match us, hl with | [_, _, _], _ => rfl⟩
  d_drawn := ⟨_, fun_mk (st := sDrawn) l_drawn c_drawn k_drawn, (fun_mk (st := sDrawn) l_drawn c_drawn k_drawn).binds (ps := ["self", "part"]) fun _ _ _ _ _ _ us hl => match us, hl with | [_, _], _ => rfl⟩
  d_need := ⟨_, fun_mk (st := sNeed) l_need c_need k_need, (fun_mk (st := sNeed) l_need c_need k_need).binds (ps := ["self", "node"]) fun _ _ _ _ _ _ us hl => match us, hl with | [_, _], _ => rfl⟩
  d_node := ⟨_, fun_mk (st := sNode) l_node c_node k_node, (fun_mk (st := sNode) l_node c_node k_node).binds (ps := ["self", "part"]) fun _ _ _ _ _ _ us hl => match us, hl with | [_, _], _ => rfl⟩
  d_shown := ⟨_, fun_mk (st := sShown) l_shown c_shown k_shown, (fun_mk (st := sShown) l_shown c_shown k_shown).binds (ps := ["self", "node"]) fun _ _ _ _ _ _ us hl => match us, hl with | [_, _], _ => rfl⟩
  d_cell := ⟨_, fun_mk (st := sCell) l_cell c_cell k_cell, (fun_mk (st := sCell) l_cell c_cell k_cell).binds (ps := ["_law_script", "_law_k"]) fun _ _ _ _ _ _ us hl => match us, hl with | [_, _], _ => rfl⟩
  d_mixed := ⟨_, fun_mk (st := sMixed) l_mixed c_mixed k_mixed, (fun_mk (st := sMixed) l_mixed c_mixed k_mixed).binds (ps := ["_law_cell", "_law_k"]) fun _ _ _ _ _ _ us hl => match us, hl with | [_, _], _ => rfl⟩
  d_word := ⟨_, fun_mk (st := sWord) l_word c_word k_word, (fun_mk (st := sWord) l_word c_word k_word).binds (ps := ["_law_cell", "_law_size"]) fun _ _ _ _ _ _ us hl => match us, hl with | [_, _], _ => rfl⟩
  d_names := ⟨_, fun_mk (st := sNames) l_names c_names k_names, (fun_mk (st := sNames) l_names c_names k_names).binds (ps := ["_law_cell", "_law_many"]) fun _ _ _ _ _ _ us hl => match us, hl with | [_, _], _ => rfl⟩
  d_grown := ⟨_, fun_mk (st := sGrown) l_grown c_grown k_grown, (fun_mk (st := sGrown) l_grown c_grown k_grown).binds (ps := ["_law_pile", "_law_cell", "_law_names_here"]) fun _ _ _ _ _ _ us hl => match us, hl with | [_, _, _], _ => rfl⟩
  d_toldBy := ⟨_, fun_mk (st := sToldBy) l_toldBy c_toldBy k_toldBy, (fun_mk (st := sToldBy) l_toldBy c_toldBy k_toldBy).binds (ps := ["_law_script", "_law_first", "_law_many", "_law_names_here"]) fun _ _ _ _ _ _ us hl => match us, hl with | [_, _, _, _], _ => rfl⟩
  d_holds := ⟨_, fun_mk (st := sHolds) l_holds c_holds k_holds, (fun_mk (st := sHolds) l_holds c_holds k_holds).binds (ps := ["_law_told", "_law_row_here"]) fun _ _ _ _ _ _ us hl => match us, hl with | [_, _], _ => rfl⟩
  d_row := ⟨_, fun_mk (st := sRow) l_row c_row k_row, (fun_mk (st := sRow) l_row c_row k_row).binds (ps := ["_law_names_here", "_law_number"]) fun _ _ _ _ _ _ us hl => match us, hl with | [_, _], _ => rfl⟩
  d_down := ⟨_, fun_mk (st := sDown) l_down c_down k_down, (fun_mk (st := sDown) l_down c_down k_down).binds (ps := ["_law_sheet", "_law_node", "_law_row_here"]) fun _ _ _ _ _ _ us hl => match us, hl with | [_, _, _], _ => rfl⟩
  d_whole := ⟨_, fun_mk (st := sWhole) l_whole c_whole k_whole, (fun_mk (st := sWhole) l_whole c_whole k_whole).binds (ps := ["_law_found"]) fun _ _ _ _ _ _ us hl => match us, hl with | [_], _ => rfl⟩
  d_met := ⟨_, fun_mk (st := sMet) l_met c_met k_met, (fun_mk (st := sMet) l_met c_met k_met).binds (ps := ["_law_sheet", "_law_node"]) fun _ _ _ _ _ _ us hl => match us, hl with | [_, _], _ => rfl⟩
  d_placeL := ⟨_, fun_mk (st := sPlaceL) l_placeL c_placeL k_placeL, (fun_mk (st := sPlaceL) l_placeL c_placeL k_placeL).binds (ps := ["_law_sheet", "_law_node"]) fun _ _ _ _ _ _ us hl => match us, hl with | [_, _], _ => rfl⟩
  d_formed := ⟨_, fun_mk (st := sFormed) l_formed c_formed k_formed, (fun_mk (st := sFormed) l_formed c_formed k_formed).binds (ps := ["_law_sheet", "_law_node"]) fun _ _ _ _ _ _ us hl => match us, hl with | [_, _], _ => rfl⟩
  g_isWord := PySem.W.mg_of X G a_isWord
  g_isName := PySem.W.mg_of X G a_isName
  g_single := PySem.W.mg_of X G a_single
  g_joined := PySem.W.mg_of X G a_joined
  g_partOf := PySem.W.mg_of X G a_partOf
  g_cell := PySem.W.mg_of X G a_cell
  g_mixed := PySem.W.mg_of X G a_mixed
  g_word := PySem.W.mg_of X G a_word
  g_names := PySem.W.mg_of X G a_names
  g_grown := PySem.W.mg_of X G a_grown
  g_toldBy := PySem.W.mg_of X G a_toldBy
  g_holds := PySem.W.mg_of X G a_holds
  g_row := PySem.W.mg_of X G a_row
  g_down := PySem.W.mg_of X G a_down
  g_whole := PySem.W.mg_of X G a_whole
  g_met := PySem.W.mg_of X G a_met
  g_placeL := PySem.W.mg_of X G a_placeL
  g_formed := PySem.W.mg_of X G a_formed
  g_cF := PySem.W.mg_of X G a_cF
  c_cF := ⟨p_cF, q_cF, r_cF, s_cF⟩
  m_cF := ⟨u_cF, i_cF, j_initF, w_cF⟩
  g_cC := PySem.W.mg_of X G a_cC
  c_cC := ⟨p_cC, q_cC, r_cC, s_cC⟩
  m_cC := ⟨u_cC, i_cC, j_initC, w_cC⟩
  g_cT := PySem.W.mg_of X G a_cT
  c_cT := ⟨p_cT, q_cT, r_cT, s_cT⟩
  m_cT := ⟨u_cT, i_cT, j_initT, w_cT⟩
  g_cS := PySem.W.mg_of X G a_cS
  c_cS := ⟨p_cS, q_cS, r_cS, s_cS⟩
  m_cS := ⟨u_cS, i_cS, j_initG, w_cS⟩
  g_cB := PySem.W.mg_of X G a_cB
  c_cB := ⟨p_cB, q_cB, r_cB, s_cB⟩
  m_cB := ⟨u_cB, i_cB, j_initG, w_cB⟩
  g_cSh := PySem.W.mg_of X G a_cSh
  c_cSh := ⟨p_cSh, q_cSh, r_cSh, s_cSh⟩
  m_cSh := ⟨u_cSh, i_cSh, j_initS, w_cSh⟩
  t_cF_size := ⟨e_cF_size, j_size, k_size⟩
  t_cF_depth := ⟨e_cF_depth, j_depth, k_depth⟩
  t_cF_contacts := ⟨e_cF_contacts, j_contacts, k_contacts⟩
  t_cF_bounded := ⟨e_cF_bounded, j_bounded, k_bounded⟩
  t_cC_size := ⟨e_cC_size, j_size, k_size⟩
  t_cC_depth := ⟨e_cC_depth, j_depth, k_depth⟩
  t_cC_contacts := ⟨e_cC_contacts, j_contacts, k_contacts⟩
  t_cC_bounded := ⟨e_cC_bounded, j_bounded, k_bounded⟩
  t_cT_size := ⟨e_cT_size, j_size, k_size⟩
  t_cT_depth := ⟨e_cT_depth, j_depth, k_depth⟩
  t_cT_contacts := ⟨e_cT_contacts, j_contacts, k_contacts⟩
  t_cT_bounded := ⟨e_cT_bounded, j_bounded, k_bounded⟩
  t_cS_size := ⟨e_cS_size, j_size, k_size⟩
  t_cS_depth := ⟨e_cS_depth, j_depth, k_depth⟩
  t_cS_contacts := ⟨e_cS_contacts, j_contacts, k_contacts⟩
  t_cS_bounded := ⟨e_cS_bounded, j_bounded, k_bounded⟩
  t_cB_size := ⟨e_cB_size, j_size, k_size⟩
  t_cB_depth := ⟨e_cB_depth, j_depth, k_depth⟩
  t_cB_contacts := ⟨e_cB_contacts, j_contacts, k_contacts⟩
  t_cB_bounded := ⟨e_cB_bounded, j_bounded, k_bounded⟩
  t_cF_inner := ⟨e_cF_inner, j_inner, k_inner⟩
  t_cC_inner := ⟨e_cC_inner, j_inner, k_inner⟩
  t_cT_inner := ⟨e_cT_inner, j_innerT, k_innerT⟩
  t_cS_inner := ⟨e_cS_inner, j_innerG, k_innerG⟩
  t_cB_inner := ⟨e_cB_inner, j_innerG, k_innerG⟩
  t_cF_gather := ⟨e_cF_gather, j_gather, k_gather⟩
  t_cC_gather := ⟨e_cC_gather, j_gatherC, k_gatherC⟩
  t_cT_gather := ⟨e_cT_gather, j_gather, k_gather⟩
  t_cS_gather := ⟨e_cS_gather, j_gather, k_gather⟩
  t_cB_gather := ⟨e_cB_gather, j_gather, k_gather⟩
  t_cSh_place := ⟨e_cSh_place, j_place, k_place⟩
  t_cSh_made := ⟨e_cSh_made, j_made, k_made⟩
  t_cSh_below := ⟨e_cSh_below, j_below, k_below⟩
  t_cSh_joined := ⟨e_cSh_joined, j_join, k_join⟩
  t_cSh_opposite := ⟨e_cSh_opposite, j_opp, k_opp⟩
  t_cSh_drawn := ⟨e_cSh_drawn, j_drawn, k_drawn⟩
  t_cSh_need := ⟨e_cSh_need, j_need, k_need⟩
  t_cSh_node := ⟨e_cSh_node, j_node, k_node⟩
  t_cSh_shown := ⟨e_cSh_shown, j_shown, k_shown⟩
  n_cF_value := x_n_cF_value
  n_cC_name := x_n_cC_name
  n_cT_part := x_n_cT_part
  n_cS_parts := x_n_cS_parts
  n_cB_parts := x_n_cB_parts
  n_cSh_names := x_n_cSh_names
  n_cSh_nodes := x_n_cSh_nodes
  n_cSh_numbers := x_n_cSh_numbers
  h_cF := y_h_cF
  o_cF := y_o_cF
  h_cC := y_h_cC
  o_cC := y_o_cC
  h_cT := y_h_cT
  o_cT := y_o_cT
  h_cS := y_h_cS
  o_cS := y_o_cS
  h_cB := y_h_cB
  o_cB := y_o_cB
  hg := y_hg
  ht := y_ht
  k_cF_cF := kit_yes
  k_cC_cF := kit_no ya_cF yb_cF y_k_cC_cF yc_cF
  k_cT_cF := kit_no ya_cF yb_cF y_k_cT_cF yc_cF
  k_cS_cF := kit_no ya_cF yb_cF y_k_cS_cF yc_cF
  k_cB_cF := kit_no ya_cF yb_cF y_k_cB_cF yc_cF
  k_cC_cC := kit_yes
  k_cT_cC := kit_no ya_cC yb_cC y_k_cT_cC yc_cC
  k_cS_cC := kit_no ya_cC yb_cC y_k_cS_cC yc_cC
  k_cB_cC := kit_no ya_cC yb_cC y_k_cB_cC yc_cC
  k_cT_cT := kit_yes
  k_cS_cT := kit_no ya_cT yb_cT y_k_cS_cT yc_cT
  k_cB_cT := kit_no ya_cT yb_cT y_k_cB_cT yc_cT
  k_cS_cS := kit_yes
  k_cB_cS := kit_no ya_cS yb_cS y_k_cB_cS yc_cS
  b_len := PySem.W.mg_none_of X G z_b_len
  b_sum := PySem.W.mg_none_of X G z_b_sum
  b_max := PySem.W.mg_none_of X G z_b_max
  b_min := PySem.W.mg_none_of X G z_b_min
  b_tuple := PySem.W.mg_none_of X G z_b_tuple
  b_list := PySem.W.mg_none_of X G z_b_list
  b_set := PySem.W.mg_none_of X G z_b_set
  b_range := PySem.W.mg_none_of X G z_b_range
  b_isinstance := PySem.W.mg_none_of X G z_b_isinstance
  b_int := PySem.W.mg_none_of X G z_b_int
  b_bool := PySem.W.mg_none_of X G z_b_bool
  v_MOST_SIGNS := ⟨_, PySem.W.mg_of X G z_v_MOST_SIGNS⟩
  v_MOST_SIZE := ⟨_, PySem.W.mg_of X G z_v_MOST_SIZE⟩
  v_MOST_DEEP := ⟨_, PySem.W.mg_of X G z_v_MOST_DEEP⟩
  v_MOST_NAMES := ⟨_, PySem.W.mg_of X G z_v_MOST_NAMES⟩
  v_MOST_NODES := ⟨_, PySem.W.mg_of X G z_v_MOST_NODES⟩
  v_SIGNS := ⟨_, PySem.W.mg_of X G z_v_SIGNS⟩
  v_KEPT := ⟨kept, _, kept_its, kept_n, PySem.W.mg_of X G z_v_KEPT, z2_v_KEPT, rfl, rfl, z3_v_KEPT.size, z3_v_KEPT.vals⟩
end RW
/-! Short words for readings. -/
namespace RW
open PySem L2 PySem.Spec PyProof.Rows
theorem pe_gint {X : Cx} {x : Str} {i : Int} {t : Tok} {pos : Pos} (hm : X.mg x = some (.int i t)) (hg : Gl X x := by rfl) (hd : (x == ("__debug__" : Str)) = false := by decide) : PE X (.Name x pos) (tC (.int i)) := pe_glob hg hm ⟨t, rfl⟩ hd
theorem pe_gstr {X : Cx} {x z : Str} {t : Tok} {pos : Pos} (hm : X.mg x = some (.str z t)) (hg : Gl X x := by rfl) (hd : (x == ("__debug__" : Str)) = false := by decide) : PE X (.Name x pos) (tC (.str z)) := pe_glob hg hm ⟨t, rfl⟩ hd
theorem pe_gref {X : Cx} {x : Str} {a : Addr} {pos : Pos} (hm : X.mg x = some (.ref a)) (hg : Gl X x := by rfl) (hd : (x == ("__debug__" : Str)) = false := by decide) : PE X (.Name x pos) (tC (.ref a)) := pe_glob hg hm rfl hd
theorem pe_gty {X : Cx} {x : Str} {n : String} {pos : Pos} (hm : X.mg x = none) (hv : bootBuiltins x = some (.type n)) (hg : Gl X x := by rfl) (hn : x ≠ "__name__" := by decide) (hd : (x == ("__debug__" : Str)) = false := by decide) : PE X (.Name x pos) (tC (.ty n)) := pe_bltn hg hm hv rfl hn hd
theorem iteB {c : Bool} {A B : Prop} (e : c = false) (h : B) : if c = true then A else B := by subst e; exact iteF h
theorem iteA {c : Bool} {A B : Prop} (e : c = true) (h : A) : if c = true then A else B := by subst e; exact iteT h
theorem i2 {c : Bool} {A B : Prop} (h1 : c = true → A) (h2 : c = false → B) : if c = true then A else B := by
  cases c with
  | true => exact iteT (h1 rfl)
  | false => exact iteF (h2 rfl)
/-- a truth that is known, handed on -/
theorem qb {Q : VK} {c d : Bool} {H : Hp} (e : c = d) (h : Q (.bl d) H) : Q (.bl c) H := by subst e; exact h
theorem qi {Q : VK} {c d : Int} {H : Hp} (e : c = d) (h : Q (.int d) H) : Q (.int c) H := by subst e; exact h
theorem qv {Q : VK} {c d : V} {H : Hp} (e : c = d) (h : Q d H) : Q c H := by subst e; exact h
theorem dF {c : Prop} [Decidable c] (h : ¬ c) : decide c = false := decide_eq_false h
theorem dT {c : Prop} [Decidable c] (h : c) : decide c = true := decide_eq_true h
theorem nF {c : Prop} [Decidable c] (h : ¬ c) : (!decide c) = true := by rw [decide_eq_false h]; rfl
theorem nT {c : Prop} [Decidable c] (h : c) : (!decide c) = false := by rw [decide_eq_true h]; rfl
theorem sz {n : Nat} (h : n ≤ 100000) : n ≤ sizeLine := Nat.le_trans h (by decide)
theorem szl {n : Nat} (h : n < 100000) : n < sizeLine := Nat.lt_of_lt_of_le h (by decide)
theorem same_mut {H H' : Hp} {p : Addr} {o : HO} (s : Same H H') (h : H p = none) : Same H (upd H' p o) := fun b u e => by
  rw [upd_ne (ne_of_none e h)]; exact s b u e

theorem yes_go {σ : L2.St} {H : Hp} {Q : Bool → Hp → Prop} (h : Q true H) : tYes σ H Q := h

/-! ### a method whose class is told by the heap -/
def Disp (P : Program) (w : World) (K : PySem.W.Frag) (mg : Str → Option Value) (base : Heap) (j : Nat) (C : Addr) (m : Str) (sp : Sp) : Prop :=
  ∃ k f ps, Good P w K mg base k f ps sp ∧ k ≤ j ∧ Cls K C ∧ Meth K C m f
def tDyn0 (D : Addr → Sp → Prop) (m : Str) (ta : TE) : TE := fun σ H Q => ta σ H fun x H1 => ∃ a C dx fs sp, x = .ref a ∧ H1 a = some (.ins C dx fs) ∧ fs.lookup m = none ∧ D C sp ∧ sp [x] H1 Q E0
def tDyn (D : Addr → Sp → Prop) (m : Str) (ta : TE) (t : TA) : TE := fun σ H Q => ta σ H fun x H1 => ∃ a C dx fs sp, x = .ref a ∧ H1 a = some (.ins C dx fs) ∧ fs.lookup m = none ∧ D C sp ∧
  t σ H1 fun vs H2 => sp (x :: vs) H2 Q E0
section
variable {X : Cx} {j : Nat} {m : Str} {pos apos : Pos} {e o : Expr} {es : List Expr} {ta : TE} {t : TA}
theorem pe_dyn0 {pl : Sem Bool} {D : Addr → Sp → Prop} (hD : ∀ C sp, D C sp → Disp X.prog X.w X.K X.mg X.base j C m sp) (hr : Room j X.A) (he : PE X o ta)
    (ht : eval (.Call (.Attribute o m apos) [] [] pos) X.env = (do
      let ov ← eval o X.env
      standAt apos.atName
      let (f, first) ← holding [ov] (getMethod ov m pl)
      callWith pos f first (backTo pos (starEach [] X.env)) (backToKw pos (keywordEach [] X.env))) := by rfl) :
    PE X (.Call (.Attribute o m apos) [] [] pos) (tDyn0 D m ta) := by
  constructor
  intro pins s σ H Q I h
  refine PySem.W.methodCall_KW (pl := pl) (thn (he.run pins s σ H _ I h) ?_) ht
  rintro u s1 ⟨x, H1, I1, rx, a, C, dx, fs, sp, ex, ea, l, dsp, q⟩
  obtain ⟨k, f, ps, ⟨fd, F, b, kp⟩, hk, c, hm⟩ := hD C sp dsp
  subst ex
  obtain rfl : u = Value.ref a := rx
  refine getmeth_ok I1 ea c hm l ?_
  exact PySem.W.callWith_K0 (first := [.ref a]) I1.kIn hm.kp (run_fn (us := [.ref a]) (vs := [.ref a]) F (hr.mono hk) b .nil pass0 I1 (.cons rfl .nil) q)
theorem pe_dyn {pl : Sem Bool} {D : Addr → Sp → Prop} (hD : ∀ C sp, D C sp → Disp X.prog X.w X.K X.mg X.base j C m sp) (hr : Room j X.A) (he : PE X o ta) (ha : PA X (e :: es) t)
    (hst : starEach (e :: es) X.env = (false, eval e X.env) :: starEach es X.env := by rfl) (hpl : (backTo pos (starEach es X.env)).any (·.1) = false := by rfl)
    (ht : eval (.Call (.Attribute o m apos) (e :: es) [] pos) X.env = (do
      let ov ← eval o X.env
      standAt apos.atName
      let (f, first) ← holding [ov] (getMethod ov m pl)
      callWith pos f first (backTo pos (starEach (e :: es) X.env)) (backToKw pos (keywordEach [] X.env))) := by rfl) :
    PE X (.Call (.Attribute o m apos) (e :: es) [] pos) (tDyn D m ta t) := by
  constructor
  intro pins s σ H Q I h
  refine PySem.W.methodCall_KW (pl := pl) (thn (he.run pins s σ H _ I h) ?_) ht
  rintro u s1 ⟨x, H1, I1, rx, a, C, dx, fs, sp, ex, ea, l, dsp, q⟩
  obtain ⟨k, f, ps, ⟨fd, F, b, kp⟩, hk, c, hm⟩ := hD C sp dsp
  subst ex
  obtain rfl : u = Value.ref a := rx
  refine getmeth_ok I1 ea c hm l ?_
  refine PySem.W.callWith_K (first := [.ref a]) (h₀ := X.base) I1.ok.mod.kin hm.kp (thn (ha.run pos pins s1 σ H1 _ I1 q) ?_) hst hpl
  rintro us s2 ⟨vs, H2, I2, r, q2⟩
  exact ⟨I2.kIn, run_fn (us := .ref a :: us) (vs := .ref a :: vs) F (hr.mono hk) b .nil pass0 I2 (.cons rfl r) (by simpa using q2)⟩
end
end RW
/-! is_word, is_name. -/
namespace RW
open PySem L2 PySem.Spec PyProof.Rows

/-- a text that the law draws as a name -/
structure NameOk (z : Str) : Prop where
  abc : ∀ c ∈ z.cps.toList, 97 ≤ c ∧ c ≤ 122
  len : z.length ≤ 8
  last : z.cps.toList.getLast? = some 113
theorem signs_list : ("abcdefghijklmnopqrstuvwxyz" : Str).cps.toList = List.range' 97 26 := by decide +kernel
theorem signs_mem {c : Nat} (h : 97 ≤ c ∧ c ≤ 122) : c ∈ ("abcdefghijklmnopqrstuvwxyz" : Str).cps.toList := by
  rw [signs_list, List.mem_range']
  exact ⟨c - 97, by omega, by omega⟩
theorem NameOk.ne {z y : Str} (h : NameOk z) (hy : (y.cps.toList.getLast? == some 113) = false) : ¬ z = y := fun e => by
  subst e
  rw [h.last] at hy
  simp at hy
theorem NameOk.notIn {z : Str} (h : NameOk z) : ∀ ys : List Str, (ys.all fun y => !(y.cps.toList.getLast? == some 113)) = true → inV (.str z) (ys.map V.str) = false
  | [], _ => rfl
  | y :: ys, hy => by
    rw [List.all_cons, Bool.and_eq_true] at hy
    have e : (y == z) = false := beq_eq_false_iff_ne.mpr fun q => h.ne (y := y) (by simpa using hy.1) q.symm
    have r := h.notIn ys hy.2
    unfold inV at r ⊢
    rw [List.map_cons, List.any_cons, r, Bool.or_false]
    first | exact e | (show (y == z) = false; exact e) | (simp only [eqV]; exact e)
def spName : Sp := fun vs H Q _ => ∃ z, vs = [.str z] ∧ NameOk z ∧ Q (.bl true) H
section
variable {P : Program} {w : World} {K : PySem.W.Frag} {mg : Str → Option Value} {base : Heap} {g : At} {f : Fa}
theorem scIsWord : FnScope ["text", "sign"] ["text"] (defScope sIsWord) := ⟨rfl, rfl, rfl, by decide +kernel, rfl, by decide +kernel, by decide +kernel⟩
theorem ok_isWord (T : Txt K mg g f) : Good P w K mg base 1 f.isWord ["text"] spName := by
  refine T.d_isWord.ok scIsWord (fun vs H Q E h => ?_) (fun cdv A outer s H vs Q E hr h => ?_)
  · obtain ⟨z, rfl, _⟩ := h
    rfl
  · obtain ⟨z, rfl, nk, k⟩ := h
    obtain ⟨tk, mS⟩ := T.v_SIGNS
    refine ⟨_, pss_cons (ps_for PassesOwn.never rfl (pi_str (pv 0)) (pg_name (i := 1) scIsWord.nd rfl (Or.inl rfl))
        (pss_one (ps_if (pt_cmpR op_notIn_sign (pv 1) (pe_gstr mS) rfl) (pss_one (ps_ret pe_bl)) pss_nil)))
      (pss_one (ps_ret (pe_cmpR op_ne (pv 0) pe_str (nomark _)))), ?_⟩
    refine ⟨_, rfl, z, rfl, for_it walk_str (fun i σ H' => H' = H ∧ ∃ v, σ = [some (.str z), v]) ⟨rfl, _, rfl⟩ (fun _ _ _ _ _ => trivial) ?_ ?_⟩
    · rintro i x σ H0 H1 hi ⟨rfl, v, rfl⟩ ⟨rfl, c, hc, rfl⟩
      have hm : c ∈ z.cps.toList := by
        rw [← Array.getElem?_toList] at hc
        exact List.mem_of_getElem? hc
      refine ⟨_, rfl, c, _, rfl, rfl, _, rfl, iteB (nT (signs_mem (nk.abc c hm))) ⟨rfl, _, rfl⟩⟩
    · rintro σ H1 ⟨rfl, v, rfl⟩
      refine ⟨_, rfl, rfl, ?_⟩
      exact qb (nF fun e => nk.ne (y := "") rfl (V.str.inj e)) k
theorem scIsName : FnScope ["name"] ["name"] (defScope sIsName) := ⟨rfl, rfl, rfl, by decide +kernel, rfl, by decide +kernel, by decide +kernel⟩
theorem ok_isName (T : Txt K mg g f) : Good P w K mg base 2 f.isName ["name"] spName := by
  refine T.d_isName.ok scIsName (fun vs H Q E h => ?_) (fun cdv A outer s H vs Q E hr h => ?_)
  · obtain ⟨z, rfl, _⟩ := h
    rfl
  · obtain ⟨z, rfl, nk, k⟩ := h
    obtain ⟨tk, mN⟩ := T.v_MOST_SIGNS
    obtain ⟨ka, ko, ki, kn, mK, kl, kc, kd, ks, kv⟩ := T.v_KEPT
    have hW : Good P w K mg base 1 f.isWord ["text"] spName := ok_isWord T
    refine ⟨_, pss_one (ps_ret (pe_and (pe_fn hW hr (by decide) T.g_isWord (pa_cons (pv 0) pa_nil))
      (pe_and (pe_cmpR op_le (pe_callB call_len_str (by rfl) T.b_len PySem.boot_len (pa_cons (pv 0) pa_nil)) (pe_gint mN) (nomark _))
        (pe_one (pe_cmpR op_notIn_seq (pv 0) (pe_gref mK) rfl))))), ?_⟩
    refine ⟨_, rfl, z, rfl, nk, _, rfl, iteT ?_⟩
    refine ⟨_, rfl, z, rfl, Nat.le_trans nk.len (by decide), _, _, rfl, rfl, _, rfl, iteA (dT (by have := nk.len; omega)) ?_⟩
    refine ⟨_, rfl, ka, _, rfl, .inr (.inr ⟨ko, ki, kn, kl, kc, kd, ks, kv⟩), rfl, rfl, ?_⟩
    exact qb (congrArg (fun b => !b) (nk.notIn ["on", "off", "and", "or", "not", "set", "reset", "timer", "counter", "inputs", "outputs"] (by decide +kernel))) k
end
end RW
/-! Parts: inner, size, depth. -/
namespace RW
open PySem L2 PySem.Spec PyProof.Rows
def spInner (g : At) (nm : List Str) (p : RW.T → Prop) : Sp := fun vs H Q _ => ∃ t v, vs = [v] ∧ p t ∧ IsPart g nm H t v ∧ ∀ a us H', Same H H' → H' a = some (.tup us) → IsParts g nm H' t.kids us → Q (.ref a) H'
def spSize (g : At) (nm : List Str) (n : Nat) : Sp := fun vs H Q _ => ∃ t v, vs = [v] ∧ IsPart g nm H t v ∧ t.depth ≤ n ∧ t.size ≤ 1000 ∧ ∀ H', Same H H' → Q (.int t.size) H'
def spDepth (g : At) (nm : List Str) (n : Nat) : Sp := fun vs H Q _ => ∃ t v, vs = [v] ∧ IsPart g nm H t v ∧ t.depth ≤ n ∧ t.size ≤ 1000 ∧ ∀ H', Same H H' → Q (.int t.depth) H'
def leafT : T → Prop
  | .fx _ => True
  | .ct _ => True
  | _ => False
def ntT : T → Prop
  | .nt _ => True
  | _ => False
def grT : T → Prop
  | .gr _ _ => True
  | _ => False
section
variable {P : Program} {w : World} {K : PySem.W.Frag} {mg : Str → Option Value} {base : Heap} {g : At} {f : Fa} {nm : List Str}
theorem scInner : FnScope ["self"] ["self"] (defScope sInner) := ⟨rfl, rfl, rfl, by decide +kernel, rfl, by decide +kernel, by decide +kernel⟩
theorem ok_inner (T : Txt K mg g f) : Good P w K mg base 1 f.inner ["self"] (spInner g nm leafT) := by
  refine T.d_inner.ok scInner (fun vs H Q E h => ?_) (fun cdv A outer s H vs Q E hr h => ?_)
  · obtain ⟨t, v, rfl, _⟩ := h
    rfl
  · obtain ⟨t, v, rfl, hl, hp, k⟩ := h
    refine ⟨_, pss_one (ps_ret (pe_tup pa_nil)), ?_⟩
    refine ⟨Nat.zero_le _, fun p np => ?_⟩
    refine k p [] _ (same_new np) upd_same ?_
    cases t with
    | fx b => rfl
    | ct i => rfl
    | nt t => exact hl.elim
    | gr b ts => exact hl.elim
theorem scInnerT : FnScope ["self"] ["self"] (defScope sInnerT) := ⟨rfl, rfl, rfl, by decide +kernel, rfl, by decide +kernel, by decide +kernel⟩
theorem ok_innerT (T : Txt K mg g f) : Good P w K mg base 1 f.innerT ["self"] (spInner g nm ntT) := by
  refine T.d_innerT.ok scInnerT (fun vs H Q E h => ?_) (fun cdv A outer s H vs Q E hr h => ?_)
  · obtain ⟨t, v, rfl, _⟩ := h
    rfl
  · obtain ⟨t, v, rfl, hl, hp, k⟩ := h
    cases t with
    | nt t =>
      obtain ⟨a, dx, u, rfl, ha, hu⟩ := hp
      refine ⟨_, pss_one (ps_ret (pe_tup (pa_cons (pe_fld (pv 0) rfl) pa_nil))), ?_⟩
      refine ⟨_, rfl, a, g.cT, dx, _, u, rfl, ha, T.c_cT, T.n_cT_part, rfl, by show 1 ≤ sizeLine; decide, fun p np => ?_⟩
      exact k p [u] _ (same_new np) upd_same ⟨u, [], rfl, hu.mono (.of_same (same_new np)), rfl⟩
    | fx b => exact hl.elim
    | ct i => exact hl.elim
    | gr b ts => exact hl.elim
theorem scInnerG : FnScope ["self"] ["self"] (defScope sInnerG) := ⟨rfl, rfl, rfl, by decide +kernel, rfl, by decide +kernel, by decide +kernel⟩
theorem c_grp (T : Txt K mg g f) (b : Bool) : Cls K (g.grp b) := by
  cases b
  · exact T.c_cB
  · exact T.c_cS
theorem n_grp (T : Txt K mg g f) (b : Bool) : NoAttr K (g.grp b) "parts" := by
  cases b
  · exact T.n_cB_parts
  · exact T.n_cS_parts
theorem ok_innerG (T : Txt K mg g f) : Good P w K mg base 1 f.innerG ["self"] (spInner g nm grT) := by
  refine T.d_innerG.ok scInnerG (fun vs H Q E h => ?_) (fun cdv A outer s H vs Q E hr h => ?_)
  · obtain ⟨t, v, rfl, _⟩ := h
    rfl
  · obtain ⟨t, v, rfl, hl, hp, k⟩ := h
    cases t with
    | gr b ts =>
      obtain ⟨a, dx, p, us, rfl, ha, hu, hps⟩ := hp
      refine ⟨_, pss_one (ps_ret (pe_fld (pv 0) rfl)), ?_⟩
      refine ⟨_, rfl, a, g.grp b, dx, _, .ref p, rfl, ha, c_grp T b, n_grp T b, rfl, ?_⟩
      exact k p us _ (Same.refl _) hu hps
    | fx b => exact hl.elim
    | ct i => exact hl.elim
    | nt t => exact hl.elim
/-- part.inner(), by the class -/
theorem part_inner (T : Txt K mg g f) {j : Nat} (hj : 1 ≤ j) {t : RW.T} {v : V} {H : Hp} {Q : VK} (h : IsPart g nm H t v) (k : ∀ a us H', Same H H' → H' a = some (.tup us) → IsParts g nm H' t.kids us → Q (.ref a) H') :
    ∃ a C dx fs sp, v = .ref a ∧ H a = some (.ins C dx fs) ∧ fs.lookup ("inner" : Str) = none ∧ Disp P w K mg base j C "inner" sp ∧ sp [v] H Q E0 := by
  cases t with
  | fx b =>
    obtain ⟨a, dx, rfl, ha⟩ := id h
    exact ⟨a, _, dx, _, _, rfl, ha, rfl, ⟨1, _, _, ok_inner (nm := nm) T, hj, T.c_cF, T.t_cF_inner⟩, .fx b, _, rfl, trivial, h, k⟩
  | ct i =>
    obtain ⟨a, dx, s, rfl, _, ha⟩ := id h
    exact ⟨a, _, dx, _, _, rfl, ha, rfl, ⟨1, _, _, ok_inner (nm := nm) T, hj, T.c_cC, T.t_cC_inner⟩, .ct i, _, rfl, trivial, h, k⟩
  | nt t =>
    obtain ⟨a, dx, u, rfl, ha, _⟩ := id h
    exact ⟨a, _, dx, _, _, rfl, ha, rfl, ⟨1, _, _, ok_innerT (nm := nm) T, hj, T.c_cT, T.t_cT_inner⟩, .nt t, _, rfl, trivial, h, k⟩
  | gr b ts =>
    obtain ⟨a, dx, p, us, rfl, ha, _⟩ := id h
    cases b
    · exact ⟨a, _, dx, _, _, rfl, ha, rfl, ⟨1, _, _, ok_innerG (nm := nm) T, hj, T.c_cB, T.t_cB_inner⟩, .gr false ts, _, rfl, trivial, h, k⟩
    · exact ⟨a, _, dx, _, _, rfl, ha, rfl, ⟨1, _, _, ok_innerG (nm := nm) T, hj, T.c_cS, T.t_cS_inner⟩, .gr true ts, _, rfl, trivial, h, k⟩
/-- the class of a part, for a method that all have from Part -/
theorem part_cls {t : RW.T} {v : V} {H : Hp} (h : IsPart g nm H t v) (m : Str) (nl : ¬ m = "value" ∧ ¬ m = "name" ∧ ¬ m = "part" ∧ ¬ m = "parts") :
    ∃ a C dx fs, v = .ref a ∧ H a = some (.ins C dx fs) ∧ fs.lookup m = none ∧ (C = g.cF ∨ C = g.cC ∨ C = g.cT ∨ C = g.cS ∨ C = g.cB) := by
  have no : ∀ (x : Str) (y : V), ¬ m = x → ([(x, y)] : List (Str × V)).lookup m = none := fun x y q => by
    have b : (m == x) = false := beq_eq_false_iff_ne.mpr q
    simp [List.lookup, b]
  cases t with
  | fx b =>
    obtain ⟨a, dx, rfl, ha⟩ := h
    exact ⟨a, _, dx, _, rfl, ha, no _ _ nl.1, .inl rfl⟩
  | ct i =>
    obtain ⟨a, dx, s, rfl, _, ha⟩ := h
    exact ⟨a, _, dx, _, rfl, ha, no _ _ nl.2.1, .inr (.inl rfl)⟩
  | nt t =>
    obtain ⟨a, dx, u, rfl, ha, _⟩ := h
    exact ⟨a, _, dx, _, rfl, ha, no _ _ nl.2.2.1, .inr (.inr (.inl rfl))⟩
  | gr b ts =>
    obtain ⟨a, dx, p, us, rfl, ha, _⟩ := h
    cases b
    · exact ⟨a, _, dx, _, rfl, ha, no _ _ nl.2.2.2, .inr (.inr (.inr (.inr rfl)))⟩
    · exact ⟨a, _, dx, _, rfl, ha, no _ _ nl.2.2.2, .inr (.inr (.inr (.inl rfl)))⟩
theorem part_size (T : Txt K mg g f) {j k n : Nat} (G : Good P w K mg base k f.size ["self"] (spSize g nm n)) (hj : k ≤ j) {t : RW.T} {v : V} {H : Hp} {Q : VK} (h : IsPart g nm H t v) (hd : t.depth ≤ n) (hz : t.size ≤ 1000) (q : ∀ H', Same H H' → Q (.int t.size) H') :
    ∃ a C dx fs sp, v = .ref a ∧ H a = some (.ins C dx fs) ∧ fs.lookup ("size" : Str) = none ∧ Disp P w K mg base j C "size" sp ∧ sp [v] H Q E0 := by
  obtain ⟨a, C, dx, fs, rfl, ha, hl, hC⟩ := part_cls h "size" (by decide +kernel)
  refine ⟨a, C, dx, fs, _, rfl, ha, hl, ⟨k, _, _, G, hj, ?_⟩, t, _, rfl, h, hd, hz, q⟩
  rcases hC with rfl | rfl | rfl | rfl | rfl
  · exact ⟨T.c_cF, T.t_cF_size⟩
  · exact ⟨T.c_cC, T.t_cC_size⟩
  · exact ⟨T.c_cT, T.t_cT_size⟩
  · exact ⟨T.c_cS, T.t_cS_size⟩
  · exact ⟨T.c_cB, T.t_cB_size⟩
theorem part_depth (T : Txt K mg g f) {j k n : Nat} (G : Good P w K mg base k f.depth ["self"] (spDepth g nm n)) (hj : k ≤ j) {t : RW.T} {v : V} {H : Hp} {Q : VK} (h : IsPart g nm H t v) (hd : t.depth ≤ n) (hz : t.size ≤ 1000) (q : ∀ H', Same H H' → Q (.int t.depth) H') :
    ∃ a C dx fs sp, v = .ref a ∧ H a = some (.ins C dx fs) ∧ fs.lookup ("depth" : Str) = none ∧ Disp P w K mg base j C "depth" sp ∧ sp [v] H Q E0 := by
  obtain ⟨a, C, dx, fs, rfl, ha, hl, hC⟩ := part_cls h "depth" (by decide +kernel)
  refine ⟨a, C, dx, fs, _, rfl, ha, hl, ⟨k, _, _, G, hj, ?_⟩, t, _, rfl, h, hd, hz, q⟩
  rcases hC with rfl | rfl | rfl | rfl | rfl
  · exact ⟨T.c_cF, T.t_cF_depth⟩
  · exact ⟨T.c_cC, T.t_cC_depth⟩
  · exact ⟨T.c_cT, T.t_cT_depth⟩
  · exact ⟨T.c_cS, T.t_cS_depth⟩
  · exact ⟨T.c_cB, T.t_cB_depth⟩
theorem kid_le {t : RW.T} {i : Nat} {u : RW.T} (h : t.kids[i]? = some u) : u.depth + 1 ≤ t.depth ∧ u.size + 1 ≤ t.size ∧ i < t.size := by
  have hm := List.mem_of_getElem? h
  refine ⟨?_, ?_, ?_⟩
  · have := (depthL_le (n := depthL t.kids)).mp (Nat.le_refl _) u hm
    rw [T.depth_kids t]; omega
  · rw [T.size_kids t]
    have : ∀ (l : List RW.T), u ∈ l → u.size ≤ sizeL l := fun l => by
      induction l with
      | nil => intro h; simp at h
      | cons x r ih =>
        intro h
        rcases List.mem_cons.mp h with rfl | h
        · simp only [sizeL]; omega
        · have := ih h; simp only [sizeL]; omega
    have := this _ hm; omega
  · rw [T.size_kids t]
    have hl : i < t.kids.length := (List.getElem?_eq_some_iff.mp h).1
    have : ∀ (l : List RW.T), l.length ≤ sizeL l := fun l => by
      induction l with
      | nil => exact Nat.le_refl _
      | cons x r ih => have := x.size_pos; simp only [sizeL, List.length_cons]; omega
    have := this t.kids; omega
theorem scSize : FnScope ["self", "part"] ["self"] (defScope sSize) := ⟨rfl, rfl, rfl, by decide +kernel, rfl, by decide +kernel, by decide +kernel⟩
theorem ok_size (T : Txt K mg g f) : ∀ n, Good P w K mg base (n + 1) f.size ["self"] (spSize g nm n)
  | 0 => T.d_size.never fun vs H Q E ⟨t, v, _, _, h, _⟩ => by have := t.depth_pos; omega
  | n + 1 => by
    have G := ok_size T n
    refine T.d_size.ok scSize (fun vs H Q E h => ?_) (fun cdv A outer s H vs Q E hr h => ?_)
    · obtain ⟨t, v, rfl, _⟩ := h
      rfl
    · obtain ⟨t, v, rfl, hp, hd, hz, k⟩ := h
      refine ⟨_, pss_one (ps_ret (pe_op op_add pe_int (pe_callB (cr_sum rfl) (by rfl) T.b_sum (by decide +kernel)
        (pa_cons (pe_lc (own := [("part", 1)]) (g := gName 1) (tt := tYes) rfl scSize.nd (pi_tup (pe_dyn0 (D := fun C sp => Disp P w K mg base (n + 1) C "inner" sp) (fun _ _ h => h) hr (pv 0))) (blkOk_by (N := ["self", "part"]) (sc := defScope sSize) (by decide +kernel)) (fun _ _ _ _ _ => pg_name (i := 1) scSize.nd rfl (Or.inl rfl)) (fun _ _ _ _ _ => pts_nil)
          (fun _ _ _ _ _ => pe_dyn0 (D := fun C sp => Disp P w K mg base (n + 1) C "size" sp) (fun _ _ h => h) hr (pv 1))) pa_nil)))), ?_⟩
      refine ⟨_, rfl, part_inner T (by omega) hp fun p us H1 s1 h1 hk => ⟨p, rfl, ⟨us, SqT.of h1⟩, fun D hD => ?_⟩⟩
      refine lc_tup (K := K) (a := p) (xs := us) (fun i H' => Same H1 H' ∧ ∃ ns : List Int, H' D = some (.lst (ns.map V.int)) ∧ ns.length = i ∧ ns.sum = (sizeL (t.kids.take i) : Nat)) ⟨same_new hD, [], upd_same, rfl, rfl⟩ (fun i H' _ ⟨s2, _⟩ => SqT.of (s2 _ _ h1)) ?_ ?_
      · rintro i x H2 hx ⟨s2, ns, hL, hlen, hsum⟩
        obtain ⟨u, hu, hup⟩ := hk.get hx
        obtain ⟨d1, z1, z2⟩ := kid_le hu
        refine ⟨rfl, yes_go (iteT ⟨_, rfl, part_size T G (by omega) (hup.mono (.of_same s2)) (by omega) (by omega) fun H3 s3 => ?_⟩)⟩
        refine ⟨_, s3 _ _ hL, by rw [List.length_map, hlen]; exact szl (by omega), same_mut (s2.trans s3) hD, ns ++ [(u.size : Int)], ?_, by rw [List.length_append, hlen]; rfl, ?_⟩
        · rw [upd_same, List.map_append]; rfl
        · rw [List.sum_append, hsum, List.take_add_one, hu]
          show _ = ((sizeL (t.kids.take i ++ [u]) : Nat) : Int)
          rw [sizeL_app]
          simp [sizeL]
      · rintro H2 ⟨s2, ns, hL, hlen, hsum⟩
        refine ⟨D, ns, rfl, SqL.of hL, _, _, rfl, rfl, ?_⟩
        refine qi ?_ (k _ (s1.trans s2))
        rw [hsum, hk.len, List.take_length, RW.T.size_kids t]
        omega
end
end RW
/-! Parts: depth, gather, contacts, bounded. -/
namespace RW
open PySem L2 PySem.Spec PyProof.Rows
theorem len_le_size : ∀ l : List T, l.length ≤ sizeL l
  | [] => Nat.le_refl _
  | t :: r => by
    have := len_le_size r
    have := t.size_pos
    simp only [sizeL, List.length_cons]
    omega
theorem kids_len (t : T) : t.kids.length < t.size := by
  have := len_le_size t.kids
  rw [T.size_kids t]
  omega
theorem depthL_max {l : List T} {m : Int} (h : m ∈ (0 : Int) :: l.map fun t => (t.depth : Int)) (u : ∀ x ∈ (0 : Int) :: l.map fun t => (t.depth : Int), x ≤ m) : m = (depthL l : Nat) := by
  have h0 : 0 ≤ m := u 0 List.mem_cons_self
  have up : depthL l ≤ m.toNat := (depthL_le).mpr fun t ht => by
    have := u (t.depth : Int) (List.mem_cons_of_mem _ (List.mem_map.mpr ⟨t, ht, rfl⟩))
    omega
  rcases List.mem_cons.mp h with e | h
  · omega
  · obtain ⟨t, ht, e⟩ := List.mem_map.mp h
    have := (depthL_le (n := depthL l)).mp (Nat.le_refl _) t ht
    omega
/-- the keys are names of the list -/
def KeyIn (nm : List Str) (kvs : List (Key × V)) : Prop := ∀ p ∈ kvs, ∃ z, z ∈ nm ∧ p.1 = Sum.inr z
theorem KeyIn.put {nm : List Str} {kvs : List (Key × V)} {z : Str} {v : V} (h : KeyIn nm kvs) (hz : z ∈ nm) : KeyIn nm (putK kvs (Sum.inr z) v) := by
  intro p hp
  unfold putK at hp
  split at hp
  · obtain ⟨q, hq, e⟩ := List.mem_map.mp hp
    obtain ⟨y, hy, ey⟩ := h q hq
    refine ⟨y, hy, ?_⟩
    rw [← e]
    split
    · exact ey
    · exact ey
  · rcases List.mem_append.mp hp with hp | hp
    · exact h p hp
    · rw [List.mem_singleton] at hp
      exact ⟨z, hz, by rw [hp]⟩
theorem KeyIn.keys {nm : List Str} : ∀ {kvs : List (Key × V)}, KeyIn nm kvs → ∃ zs : List Str, (kvs.map fun kv => kV kv.1) = zs.map V.str ∧ ∀ z ∈ zs, z ∈ nm
  | [], _ => ⟨[], rfl, fun z h => by simp at h⟩
  | p :: r, h => by
    obtain ⟨zs, e, m⟩ := KeyIn.keys (kvs := r) fun q hq => h q (List.mem_cons_of_mem _ hq)
    obtain ⟨z, hz, ez⟩ := h p List.mem_cons_self
    refine ⟨z :: zs, by rw [List.map_cons, List.map_cons, e, ez]; rfl, fun y hy => ?_⟩
    rcases List.mem_cons.mp hy with rfl | hy
    · exact hz
    · exact m y hy
def spGather (g : At) (nm : List Str) (n : Nat) (p : RW.T → Prop) : Sp := fun vs H Q _ => ∃ t v d kvs, vs = [v, .ref d] ∧ p t ∧ IsPart g nm H t v ∧ t.depth ≤ n ∧ H d = some (.dK kvs) ∧ KeyIn nm kvs ∧ kvs.length + t.size ≤ 1000 ∧
  ∀ H' kvs', But [d] H H' → H' d = some (.dK kvs') → KeyIn nm kvs' → kvs'.length ≤ kvs.length + t.size → Q .non H'
def spContacts (g : At) (nm : List Str) (n : Nat) : Sp := fun vs H Q _ => ∃ t v, vs = [v] ∧ IsPart g nm H t v ∧ t.depth ≤ n ∧ t.size ≤ 900 ∧ ∀ (p : Addr) (zs : List Str) (H' : Hp), Same H H' → H' p = some (.tup (zs.map V.str)) → (∀ z ∈ zs, z ∈ nm) → Q (.ref p) H'
def spBounded (g : At) (nm : List Str) : Sp := fun vs H Q _ => ∃ t v, vs = [v] ∧ IsPart g nm H t v ∧ t.depth ≤ 20 ∧ t.size ≤ 60 ∧ ∀ H', Same H H' → Q .non H'
def ctT : RW.T → Prop
  | .ct _ => True
  | _ => False
section
variable {P : Program} {w : World} {K : PySem.W.Frag} {mg : Str → Option Value} {base : Heap} {g : At} {f : Fa} {nm : List Str}
theorem scDepth : FnScope ["self", "part"] ["self"] (defScope sDepth) := ⟨rfl, rfl, rfl, by decide +kernel, rfl, by decide +kernel, by decide +kernel⟩
theorem ok_depth (T : Txt K mg g f) : ∀ n, Good P w K mg base (n + 1) f.depth ["self"] (spDepth g nm n)
  | 0 => T.d_depth.never fun vs H Q E ⟨t, v, _, _, h, _⟩ => by have := t.depth_pos; omega
  | n + 1 => by
    have G := ok_depth T n
    refine T.d_depth.ok scDepth (fun vs H Q E h => ?_) (fun cdv A outer s H vs Q E hr h => ?_)
    · obtain ⟨t, v, rfl, _⟩ := h
      rfl
    · obtain ⟨t, v, rfl, hp, hd, hz, k⟩ := h
      refine ⟨_, pss_one (ps_ret (pe_op op_add pe_int (pe_callB (cr_max rfl) (by rfl) T.b_max (by decide +kernel)
        (pa_cons (pe_op op_cat (pe_lst (pa_cons pe_int pa_nil)) (pe_lc (own := [("part", 1)]) (g := gName 1) (tt := tYes) rfl scDepth.nd (pi_tup (pe_dyn0 (D := fun C sp => Disp P w K mg base (n + 1) C "inner" sp) (fun _ _ h => h) hr (pv 0)))
          (blkOk_by (N := ["self", "part"]) (sc := defScope sDepth) (by decide +kernel)) (fun _ _ _ _ _ => pg_name (i := 1) scDepth.nd rfl (Or.inl rfl)) (fun _ _ _ _ _ => pts_nil)
          (fun _ _ _ _ _ => pe_dyn0 (D := fun C sp => Disp P w K mg base (n + 1) C "depth" sp) (fun _ _ h => h) hr (pv 1)))) pa_nil)))), ?_⟩
      refine ⟨by show 1 ≤ sizeLine; decide, fun l hl => ?_⟩
      have s0 : Same H (upd H l (.lst [.int 0])) := same_new hl
      refine ⟨_, rfl, part_inner T (by omega) (hp.mono (.of_same s0)) fun p us H1 s1 h1 hk => ⟨p, rfl, ⟨us, SqT.of h1⟩, fun D hD => ?_⟩⟩
      refine lc_tup (K := K) (a := p) (xs := us) (fun i H' => Same H1 H' ∧ H' D = some (.lst (((t.kids.take i).map fun t => (t.depth : Int)).map V.int))) ⟨same_new hD, upd_same⟩ (fun i H' _ ⟨s2, _⟩ => SqT.of (s2 _ _ h1)) ?_ ?_
      · rintro i x H2 hx ⟨s2, hL⟩
        obtain ⟨u, hu, hup⟩ := hk.get hx
        obtain ⟨d1, z1, z2⟩ := kid_le hu
        refine ⟨rfl, yes_go (iteT ⟨_, rfl, part_depth T G (by omega) (hup.mono (.of_same s2)) (by omega) (by omega) fun H3 s3 => ?_⟩)⟩
        refine ⟨_, s3 _ _ hL, by rw [List.length_map, List.length_map, List.length_take]; exact szl (by omega), same_mut (s2.trans s3) hD, ?_⟩
        rw [upd_same, List.take_add_one, hu]
        show some (HO.lst (_ ++ [V.int _])) = some (HO.lst (((t.kids.take i ++ [u]).map _).map V.int))
        rw [List.map_append, List.map_append]
        rfl
      · rintro H2 ⟨s2, hL⟩
        rw [hk.len, List.take_length] at hL
        have hl2 : H2 l = some (.lst [.int 0]) := s2 _ _ (s1 _ _ upd_same)
        refine ⟨l, D, _, _, rfl, rfl, hl2, hL, ?_, fun q hq => ?_⟩
        · rw [List.length_map, List.length_map]
          have := kids_len t
          show 1 + t.kids.length ≤ sizeLine
          exact sz (by omega)
        · refine ⟨q, (0 : Int) :: t.kids.map fun t => (t.depth : Int), rfl, SqL.of upd_same, Nat.zero_lt_succ _, fun m hm hle => ⟨_, _, rfl, rfl, ?_⟩⟩
          refine qi ?_ (k _ (((s0.trans s1).trans s2).trans (same_new hq)))
          rw [depthL_max hm hle, RW.T.depth_kids t]
          omega
theorem scGatherC : FnScope ["self", "found"] ["self", "found"] (defScope sGatherC) := ⟨rfl, rfl, rfl, by decide +kernel, rfl, by decide +kernel, by decide +kernel⟩
theorem ok_gatherC (T : Txt K mg g f) (n : Nat) : Good P w K mg base 1 f.gatherC ["self", "found"] (spGather g nm n ctT) := by
  refine T.d_gatherC.ok scGatherC (fun vs H Q E h => ?_) (fun cdv A outer s H vs Q E hr h => ?_)
  · obtain ⟨t, v, d, kvs, rfl, _⟩ := h
    rfl
  · obtain ⟨t, v, d, kvs, rfl, hc, hp, hn, hd, hk, hz, k⟩ := h
    cases t with
    | ct i =>
      obtain ⟨a, dx, z, rfl, hi, ha⟩ := hp
      refine ⟨_, pss_one (ps_dput (hu_of hr) (pv 1) (pe_fld (pv 0) rfl) pe_bl rfl), ?_⟩
      refine ⟨_, rfl, _, rfl, a, g.cC, dx, _, .str z, rfl, ha, T.c_cC, T.n_cC_name, rfl, d, _, rfl, DPut.k (k := Sum.inr z) hd (szl (by omega)), ?_⟩
      refine k _ _ (But.put List.mem_cons_self) upd_same (hk.put (List.mem_of_getElem? hi)) ?_
      have := length_putK kvs (Sum.inr z : Key) (.bl true)
      show _ ≤ kvs.length + 1
      exact this
    | fx b => exact hc.elim
    | nt t => exact hc.elim
    | gr b ts => exact hc.elim
/-- part.gather(d), by the class -/
theorem part_gather (T : Txt K mg g f) {j k n : Nat} (G : Good P w K mg base k f.gather ["self", "found"] (spGather g nm n fun t => ¬ ctT t)) (hj : k ≤ j) (h1 : 1 ≤ j) {t : RW.T} {v : V} {d : Addr} {kvs : List (Key × V)} {H : Hp} (h : IsPart g nm H t v) (hn : t.depth ≤ n)
    (hd : H d = some (.dK kvs)) (hk : KeyIn nm kvs) (hz : kvs.length + t.size ≤ 1000) :
    ∃ a C dx fs sp, v = .ref a ∧ H a = some (.ins C dx fs) ∧ fs.lookup ("gather" : Str) = none ∧ Disp P w K mg base j C "gather" sp ∧
      ∀ Q : VK, (∀ H' kvs', But [d] H H' → H' d = some (.dK kvs') → KeyIn nm kvs' → kvs'.length ≤ kvs.length + t.size → Q .non H') → sp [v, .ref d] H Q E0 := by
  cases t with
  | fx b =>
    obtain ⟨a, dx, rfl, ha⟩ := id h
    exact ⟨a, _, dx, _, _, rfl, ha, rfl, ⟨k, _, _, G, hj, T.c_cF, T.t_cF_gather⟩, fun Q q => ⟨.fx b, _, d, kvs, rfl, id, h, hn, hd, hk, hz, q⟩⟩
  | ct i =>
    obtain ⟨a, dx, s, rfl, _, ha⟩ := id h
    exact ⟨a, _, dx, _, _, rfl, ha, rfl, ⟨1, _, _, ok_gatherC (nm := nm) T n, h1, T.c_cC, T.t_cC_gather⟩, fun Q q => ⟨.ct i, _, d, kvs, rfl, trivial, h, hn, hd, hk, hz, q⟩⟩
  | nt t =>
    obtain ⟨a, dx, u, rfl, ha, _⟩ := id h
    exact ⟨a, _, dx, _, _, rfl, ha, rfl, ⟨k, _, _, G, hj, T.c_cT, T.t_cT_gather⟩, fun Q q => ⟨.nt t, _, d, kvs, rfl, id, h, hn, hd, hk, hz, q⟩⟩
  | gr b ts =>
    obtain ⟨a, dx, p, us, rfl, ha, _⟩ := id h
    cases b
    · exact ⟨a, _, dx, _, _, rfl, ha, rfl, ⟨k, _, _, G, hj, T.c_cB, T.t_cB_gather⟩, fun Q q => ⟨.gr false ts, _, d, kvs, rfl, id, h, hn, hd, hk, hz, q⟩⟩
    · exact ⟨a, _, dx, _, _, rfl, ha, rfl, ⟨k, _, _, G, hj, T.c_cS, T.t_cS_gather⟩, fun Q q => ⟨.gr true ts, _, d, kvs, rfl, id, h, hn, hd, hk, hz, q⟩⟩
theorem scGather : FnScope ["self", "found", "part"] ["self", "found"] (defScope sGather) := ⟨rfl, rfl, rfl, by decide +kernel, rfl, by decide +kernel, by decide +kernel⟩
theorem sizeL_take {l : List RW.T} {i : Nat} {u : RW.T} (h : l[i]? = some u) : sizeL (l.take (i + 1)) = sizeL (l.take i) + u.size ∧ sizeL (l.take i) + u.size ≤ sizeL l := by
  have e : sizeL (l.take (i + 1)) = sizeL (l.take i) + u.size := by
    rw [List.take_add_one, h]
    show sizeL (l.take i ++ [u]) = _
    rw [sizeL_app]
    simp [sizeL]
  refine ⟨e, ?_⟩
  rw [← e]
  conv => rhs; rw [← List.take_append_drop (i + 1) l, sizeL_app]
  omega
theorem ok_gather (T : Txt K mg g f) : ∀ n, Good P w K mg base (n + 1) f.gather ["self", "found"] (spGather g nm n fun t => ¬ ctT t)
  | 0 => T.d_gather.never fun vs H Q E ⟨t, v, _, _, _, _, _, h, _⟩ => by have := t.depth_pos; omega
  | n + 1 => by
    have G := ok_gather T n
    refine T.d_gather.ok scGather (fun vs H Q E h => ?_) (fun cdv A outer s H vs Q E hr h => ?_)
    · obtain ⟨t, v, d, kvs, rfl, _⟩ := h
      rfl
    · obtain ⟨t, v, d, kvs, rfl, hc, hp, hn, hd, hk, hz, k⟩ := h
      refine ⟨_, pss_one (ps_for PassesOwn.never rfl (pi_tup (pe_dyn0 (D := fun C sp => Disp P w K mg base (n + 1) C "inner" sp) (fun _ _ h => h) hr (pv 0))) (pg_name (i := 2) scGather.nd rfl (Or.inl rfl))
        (pss_one (ps_expr (pe_dyn (D := fun C sp => Disp P w K mg base (n + 1) C "gather" sp) (fun _ _ h => h) hr (pv 2) (pa_cons (pv 1) pa_nil))))), ?_⟩
      refine ⟨_, rfl, part_inner T (by omega) hp fun p us H1 s1 h1 hks => ⟨p, rfl, ⟨us, SqT.of h1⟩, ?_⟩⟩
      have hd1 := s1 _ _ hd
      have kp : ∀ {H'}, But [d] H1 H' → Keeps H1 H' := fun b => b.keeps fun c hc o e => by
        rw [List.mem_singleton] at hc
        subst hc
        rw [hd1] at e
        cases e
        exact id
      refine for_tup (K := K) (a := p) (xs := us) (fun i σ H' => ∃ kvs' x, σ = [some v, some (.ref d), x] ∧ But [d] H1 H' ∧ H' d = some (.dK kvs') ∧ KeyIn nm kvs' ∧ kvs'.length ≤ kvs.length + sizeL (t.kids.take i))
        ⟨kvs, _, rfl, But.refl, hd1, hk, Nat.le_add_right _ _⟩ (fun i σ H' _ ⟨_, _, _, b, _⟩ => SqT.of (kp b _ _ trivial h1)) ?_ ?_
      · rintro i x σ H2 hx ⟨kvs', y, rfl, b2, hd2, hk2, hl2⟩
        obtain ⟨u, hu, hup⟩ := hks.get hx
        obtain ⟨z1, z2, z3⟩ := kid_le hu
        obtain ⟨z4, z5⟩ := sizeL_take hu
        have z6 := RW.T.size_kids t
        obtain ⟨a, C, dx, fs, sp, e1, e2, e3, e4, e5⟩ := part_gather (j := n + 1) T G (by omega) (by omega) (hup.mono (kp b2)) (by omega) hd2 hk2 (by omega)
        exact ⟨_, rfl, a, C, dx, fs, sp, e1, e2, e3, e4, _, rfl, e5 _ fun H3 kvs3 b3 hd3 hk3 hl3 => ⟨kvs3, _, rfl, b2.trans b3, hd3, hk3, by omega⟩⟩
      · rintro σ H2 ⟨kvs', y, rfl, b2, hd2, hk2, hl2⟩
        rw [hks.len, List.take_length] at hl2
        have z6 := RW.T.size_kids t
        exact k _ _ ((But.of_same s1).trans b2) hd2 hk2 (by omega)
theorem scContacts : FnScope ["self", "found"] ["self"] (defScope sContacts) := ⟨rfl, rfl, rfl, by decide +kernel, rfl, by decide +kernel, by decide +kernel⟩
theorem ok_contacts (T : Txt K mg g f) (n : Nat) : Good P w K mg base (n + 2) f.contacts ["self"] (spContacts g nm n) := by
  have G := ok_gather (P := P) (w := w) (base := base) (nm := nm) T n
  refine T.d_contacts.ok scContacts (fun vs H Q E h => ?_) (fun cdv A outer s H vs Q E hr h => ?_)
  · obtain ⟨t, v, rfl, _⟩ := h
    rfl
  · obtain ⟨t, v, rfl, hp, hn, hz, k⟩ := h
    refine ⟨_, pss_cons (ps_set (i := 1) scContacts.nd rfl (Or.inl rfl) pe_dnewK) (pss_cons (ps_expr (pe_dyn (D := fun C sp => Disp P w K mg base (n + 1) C "gather" sp) (fun _ _ h => h) hr (pv 0) (pa_cons (pv 1) pa_nil)))
      (pss_one (ps_ret (pe_callTy (call_tupleKeys rfl) (by rfl) T.b_tuple (by decide +kernel) (pa_cons (pe_bm0 PySem.F.plainAttrs_dict PySem.F.slot_dict_keys PySem.F.type_dict_keys mt_keys (pv 1)) pa_nil))))), ?_⟩
    intro d hd
    have s0 : Same H (upd H d (.dK [])) := same_new hd
    obtain ⟨a, C, dx, fs, sp, e1, e2, e3, e4, e5⟩ := part_gather (j := n + 1) T G (Nat.le_refl _) (by omega) (hp.mono (.of_same s0)) hn upd_same (fun p hp => by simp at hp) (by simp; omega)
    refine ⟨_, rfl, a, C, dx, fs, sp, e1, e2, e3, e4, _, rfl, e5 _ fun H1 kvs b1 hd1 hk1 _ => ?_⟩
    obtain ⟨zs, ez, hm⟩ := hk1.keys
    refine ⟨_, rfl, .inr (.inr (.inl ⟨rfl, .inl ⟨_, hd1⟩⟩)), d, kvs, rfl, rfl, hd1, fun p hp1 => ?_⟩
    have ndp : d ≠ p := ne_of_none hd1 hp1
    refine ⟨p, d, kvs, rfl, upd_same, by rw [upd_ne ndp]; exact hd1, fun q hq => ?_⟩
    rw [ez]
    refine k q zs _ (fun b o e => ?_) upd_same hm
    have e1 : H1 b = some o := b1 b o (fun z => ne_of_none e hd (List.mem_singleton.mp z)) (s0 b o e)
    have e2 : (upd H1 p (keysV p d)) b = some o := by rw [upd_ne (ne_of_none e1 hp1)]; exact e1
    rw [upd_ne (ne_of_none e2 hq)]
    exact e2
theorem scBounded : FnScope ["self"] ["self"] (defScope sBounded) := ⟨rfl, rfl, rfl, by decide +kernel, rfl, by decide +kernel, by decide +kernel⟩
theorem ok_bounded (T : Txt K mg g f) : Good P w K mg base 22 f.bounded ["self"] (spBounded g nm) := by
  have G1 := ok_size (P := P) (w := w) (base := base) (nm := nm) T 20
  have G2 := ok_depth (P := P) (w := w) (base := base) (nm := nm) T 20
  refine T.d_bounded.ok scBounded (fun vs H Q E h => ?_) (fun cdv A outer s H vs Q E hr h => ?_)
  · obtain ⟨t, v, rfl, _⟩ := h
    rfl
  · obtain ⟨t, v, rfl, hp, hd, hz, k⟩ := h
    obtain ⟨k1, m1⟩ := T.v_MOST_SIZE
    obtain ⟨k2, m2⟩ := T.v_MOST_DEEP
    refine ⟨_, pss_one (ps_if (PW.pt (pw_or (pt_cmpR op_gt (pe_dyn0 (D := fun C sp => Disp P w K mg base 21 C "size" sp) (fun _ _ h => h) hr (pv 0)) (pe_gint m1) (nomark _))
      (pw_or1 (pt_cmpR op_gt (pe_dyn0 (D := fun C sp => Disp P w K mg base 21 C "depth" sp) (fun _ _ h => h) hr (pv 0)) (pe_gint m2) (nomark _))))) (pss_one ps_never) pss_nil), ?_⟩
    refine ⟨_, rfl, part_size T G1 (by omega) hp hd (by omega) fun H1 s1 => ⟨_, _, rfl, rfl, _, rfl, ?_⟩⟩
    refine iteB (dF (by omega)) ⟨_, rfl, part_depth T G2 (by omega) (hp.mono (.of_same s1)) hd (by omega) fun H2 s2 => ⟨_, _, rfl, rfl, _, rfl, ?_⟩⟩
    exact iteB (dF (by omega)) (k _ (s1.trans s2))
end
end RW
/-! Parts made: the __init__s, single, joined. -/
namespace RW
open PySem L2 PySem.Spec PyProof.Rows
def spInitF (g : At) : Sp := fun vs H Q _ => ∃ a dx b, vs = [.ref a, .bl b] ∧ H a = some (.ins g.cF dx []) ∧ Q .non (upd H a (.ins g.cF dx [("value", .bl b)]))
def spInitC (g : At) : Sp := fun vs H Q _ => ∃ a dx z, vs = [.ref a, .str z] ∧ NameOk z ∧ H a = some (.ins g.cC dx []) ∧ Q .non (upd H a (.ins g.cC dx [("name", .str z)]))
def spInitT (g : At) (nm : List Str) : Sp := fun vs H Q _ => ∃ a dx t v, vs = [.ref a, v] ∧ IsPart g nm H t v ∧ t.size < 60 ∧ t.depth < 20 ∧ H a = some (.ins g.cT dx []) ∧ ∀ H', But [a] H H' → IsPart g nm H' (.nt t) (.ref a) → Q .non H'
def spInitG (g : At) (nm : List Str) (k : Bool) : Sp := fun vs H Q _ => ∃ a dx p ts us, vs = [.ref a, .ref p] ∧ IsParts g nm H ts us ∧ 2 ≤ ts.length ∧ sizeL ts < 60 ∧ depthL ts < 20 ∧ H p = some (.lst us) ∧ H a = some (.ins (g.grp k) dx []) ∧
  ∀ H', But [a] H H' → IsPart g nm H' (.gr k ts) (.ref a) → Q .non H'
theorem put_nil (f : Str) (v : V) : putF f v [] = [(f, v)] := rfl
theorem keeps_new {H H' : Hp} {a C dx : Addr} (b : But [a] H H') (h : H a = some (.ins C dx [])) : Keeps H H' := b.keeps fun c hc o e => by
  rw [List.mem_singleton] at hc
  subst hc
  rw [h] at e
  cases e
  exact id
section
variable {P : Program} {w : World} {K : PySem.W.Frag} {mg : Str → Option Value} {base : Heap} {g : At} {f : Fa} {nm : List Str}
theorem scInitF : FnScope ["self", "value"] ["self", "value"] (defScope sInitF) := ⟨rfl, rfl, rfl, by decide +kernel, rfl, by decide +kernel, by decide +kernel⟩
theorem ok_initF (T : Txt K mg g f) : Good P w K mg base 1 f.initF ["self", "value"] (spInitF g) := by
  refine T.d_initF.ok scInitF (fun vs H Q E h => ?_) (fun cdv A outer s H vs Q E hr h => ?_)
  · obtain ⟨a, dx, b, rfl, _⟩ := h
    rfl
  · obtain ⟨a, dx, b, rfl, ha, k⟩ := h
    refine ⟨_, pss_one (ps_fld (pv 0) (pv 1) rfl), ?_⟩
    exact ⟨_, rfl, _, rfl, a, g.cF, dx, [], rfl, ha, T.c_cF, T.n_cF_value, by show 0 < 1000; decide, k⟩
theorem scInitC : FnScope ["self", "name"] ["self", "name"] (defScope sInitC) := ⟨rfl, rfl, rfl, by decide +kernel, rfl, by decide +kernel, by decide +kernel⟩
theorem ok_initC (T : Txt K mg g f) : Good P w K mg base 3 f.initC ["self", "name"] (spInitC g) := by
  have G := ok_isName (P := P) (w := w) (base := base) T
  refine T.d_initC.ok scInitC (fun vs H Q E h => ?_) (fun cdv A outer s H vs Q E hr h => ?_)
  · obtain ⟨a, dx, b, rfl, _⟩ := h
    rfl
  · obtain ⟨a, dx, z, rfl, hz, ha, k⟩ := h
    refine ⟨_, pss_cons (ps_if (pt_not (pt_val (pe_fn G hr (by decide) T.g_isName (pa_cons (pv 1) pa_nil)))) (pss_one ps_never) pss_nil) (pss_one (ps_fld (pv 0) (pv 1) rfl)), ?_⟩
    refine ⟨_, rfl, z, rfl, hz, true, rfl, iteB rfl ?_⟩
    exact ⟨_, rfl, _, rfl, a, g.cC, dx, [], rfl, ha, T.c_cC, T.n_cC_name, by show 0 < 1000; decide, k⟩
/-- part.bounded(), by the class -/
theorem part_bounded (T : Txt K mg g f) {j : Nat} (hj : 22 ≤ j) {t : RW.T} {v : V} {H : Hp} (h : IsPart g nm H t v) (hd : t.depth ≤ 20) (hz : t.size ≤ 60) :
    ∃ a C dx fs sp, v = .ref a ∧ H a = some (.ins C dx fs) ∧ fs.lookup ("bounded" : Str) = none ∧ Disp P w K mg base j C "bounded" sp ∧ ∀ Q : VK, (∀ H', Same H H' → Q .non H') → sp [v] H Q E0 := by
  obtain ⟨a, C, dx, fs, rfl, ha, hl, hC⟩ := part_cls h "bounded" (by decide +kernel)
  refine ⟨a, C, dx, fs, _, rfl, ha, hl, ⟨22, _, _, ok_bounded (nm := nm) T, hj, ?_⟩, fun Q q => ⟨t, _, rfl, h, hd, hz, q⟩⟩
  rcases hC with rfl | rfl | rfl | rfl | rfl
  · exact ⟨T.c_cF, T.t_cF_bounded⟩
  · exact ⟨T.c_cC, T.t_cC_bounded⟩
  · exact ⟨T.c_cT, T.t_cT_bounded⟩
  · exact ⟨T.c_cS, T.t_cS_bounded⟩
  · exact ⟨T.c_cB, T.t_cB_bounded⟩
theorem scInitT : FnScope ["self", "part"] ["self", "part"] (defScope sInitT) := ⟨rfl, rfl, rfl, by decide +kernel, rfl, by decide +kernel, by decide +kernel⟩
theorem ok_initT (T : Txt K mg g f) : Good P w K mg base 23 f.initT ["self", "part"] (spInitT g nm) := by
  refine T.d_initT.ok scInitT (fun vs H Q E h => ?_) (fun cdv A outer s H vs Q E hr h => ?_)
  · obtain ⟨a, dx, t, v, rfl, _⟩ := h
    rfl
  · obtain ⟨a, dx, t, v, rfl, hp, hz, hd, ha, k⟩ := h
    refine ⟨_, pss_cons (ps_fld (pv 0) (pv 1) rfl) (pss_one (ps_expr (pe_dyn0 (D := fun C sp => Disp P w K mg base 22 C "bounded" sp) (fun _ _ h => h) hr (pv 0)))), ?_⟩
    refine ⟨_, rfl, _, rfl, a, g.cT, dx, [], rfl, ha, T.c_cT, T.n_cT_part, by show 0 < 1000; decide, ?_⟩
    have b1 : But [a] H (upd H a (.ins g.cT dx (putF "part" v []))) := But.put List.mem_cons_self
    have kp := keeps_new b1 ha
    have hq : IsPart g nm (upd H a (.ins g.cT dx (putF "part" v []))) (.nt t) (.ref a) := ⟨a, dx, v, rfl, upd_same, hp.mono kp⟩
    obtain ⟨a', C, dx', fs, sp, e1, e2, e3, e4, e5⟩ := part_bounded (j := 22) T (Nat.le_refl _) hq (by show 1 + t.depth ≤ 20; omega) (by show 1 + t.size ≤ 60; omega)
    exact ⟨_, rfl, a', C, dx', fs, sp, e1, e2, e3, e4, e5 _ fun H1 s1 => k _ (b1.trans (.of_same s1)) (hq.mono (.of_same s1))⟩
theorem scInitG : FnScope ["self", "parts"] ["self", "parts"] (defScope sInitG) := ⟨rfl, rfl, rfl, by decide +kernel, rfl, by decide +kernel, by decide +kernel⟩
theorem ok_initG (T : Txt K mg g f) (b : Bool) : Good P w K mg base 23 f.initG ["self", "parts"] (spInitG g nm b) := by
  refine T.d_initG.ok scInitG (fun vs H Q E h => ?_) (fun cdv A outer s H vs Q E hr h => ?_)
  · obtain ⟨a, dx, p, ts, us, rfl, _⟩ := h
    rfl
  · obtain ⟨a, dx, p, ts, us, rfl, hps, h2, hz, hd, hp, ha, k⟩ := h
    refine ⟨_, pss_cons (ps_if (pt_cmpR op_lt (pe_callB call_len_seq (by rfl) T.b_len PySem.boot_len (pa_cons (pv 1) pa_nil)) pe_int (nomark _)) (pss_one ps_never) pss_nil)
      (pss_cons (ps_fld (pv 0) (pe_callTy call_tuple_of (by rfl) T.b_tuple (by decide +kernel) (pa_cons (pv 1) pa_nil)) rfl) (pss_one (ps_expr (pe_dyn0 (D := fun C sp => Disp P w K mg base 22 C "bounded" sp) (fun _ _ h => h) hr (pv 0))))), ?_⟩
    have hl := hps.len
    refine ⟨_, rfl, p, _, rfl, .inl (SqL.of hp), _, _, rfl, rfl, _, rfl, iteB (dF (by omega)) ?_⟩
    refine ⟨_, rfl, p, us, rfl, .inl ⟨SqL.of hp, fun q hq => ?_⟩⟩
    have naq : a ≠ q := ne_of_none ha hq
    refine ⟨_, rfl, a, g.grp b, dx, [], rfl, by rw [upd_ne naq]; exact ha, c_grp T b, n_grp T b, by show 0 < 1000; decide, ?_⟩
    have b1 : But [a] H (upd (upd H q (.tup us)) a (.ins (g.grp b) dx (putF "parts" (.ref q) []))) := fun c o n e => by
      rw [upd_ne (fun z => n (by rw [z]; exact List.mem_cons_self)), upd_ne (ne_of_none e hq)]
      exact e
    have kp := keeps_new b1 ha
    have hg : IsPart g nm (upd (upd H q (.tup us)) a (.ins (g.grp b) dx (putF "parts" (.ref q) []))) (.gr b ts) (.ref a) := ⟨a, dx, q, us, rfl, upd_same, by rw [upd_ne naq.symm, upd_same], hps.mono kp⟩
    obtain ⟨a', C, dx', fs, sp, e1, e2, e3, e4, e5⟩ := part_bounded (j := 22) T (Nat.le_refl _) hg (by show 1 + depthL ts ≤ 20; omega) (by show 1 + sizeL ts ≤ 60; omega)
    exact ⟨_, rfl, a', C, dx', fs, sp, e1, e2, e3, e4, e5 _ fun H1 s1 => k _ (b1.trans (.of_same s1)) (hg.mono (.of_same s1))⟩
end
end RW
/-! single, joined, part_of. -/
namespace RW
open PySem L2 PySem.Spec PyProof.Rows
def wordT : RW.T → Str
  | .fx _ => "fixed"
  | .ct _ => "contact"
  | .nt _ => "not"
  | .gr k _ => if k = true then "and" else "or"
def isLeaf : RW.T → Bool
  | .fx _ => true
  | .ct _ => true
  | _ => false
def spSingle (g : At) (nm : List Str) : Sp := fun vs H Q _ => ∃ t v, vs = [v] ∧ isLeaf t = true ∧ (∀ z ∈ nm, NameOk z) ∧ IsTold nm H t v ∧ ∀ H' u, Same H H' → IsPart g nm H' t u → Q u H'
def spJoined (g : At) (nm : List Str) : Sp := fun vs H Q _ => ∃ t p us, vs = [.str (wordT t), .ref p] ∧ isLeaf t = false ∧ t.ok nm.length ∧ t.size ≤ 60 ∧ t.depth ≤ 20 ∧ IsParts g nm H t.kids us ∧ H p = some (.lst us) ∧ ∀ H' u, Same H H' → IsPart g nm H' t u → Q u H'
theorem made_same {H H' : Hp} {x dx C : Addr} (nx : H x = Option.none) (nd : H dx = Option.none) (b : But [x] (upd (upd H dx (.own x)) x (.ins C dx [])) H') : Same H H' := fun c o e => by
  have h1 : c ≠ x := ne_of_none e nx
  have h2 : c ≠ dx := ne_of_none e nd
  exact b c o (fun z => h1 (List.mem_singleton.mp z)) (by rw [upd_ne h1, upd_ne h2]; exact e)
theorem made_here {H : Hp} {x dx C : Addr} (nx : H x = Option.none) (nd : H dx = Option.none) : Same H (upd (upd H dx (.own x)) x (.ins C dx [])) := made_same nx nd But.refl
section
variable {P : Program} {w : World} {K : PySem.W.Frag} {mg : Str → Option Value} {base : Heap} {g : At} {f : Fa} {nm : List Str}
theorem scSingle : FnScope ["told"] ["told"] (defScope sSingle) := ⟨rfl, rfl, rfl, by decide +kernel, rfl, by decide +kernel, by decide +kernel⟩
theorem ok_single (T : Txt K mg g f) : Good P w K mg base 5 f.single ["told"] (spSingle g nm) := by
  have GF := ok_initF (P := P) (w := w) (base := base) T
  have GC := ok_initC (P := P) (w := w) (base := base) T
  refine T.d_single.ok scSingle (fun vs H Q E h => ?_) (fun cdv A outer s H vs Q E hr h => ?_)
  · obtain ⟨t, v, rfl, _⟩ := h
    rfl
  · obtain ⟨t, v, rfl, hl, hn, ht, k⟩ := h
    refine ⟨_, pss_one (ps_ret (pe_ifExp (pt_cmpR op_eq (pe_ix ix_tup (pv 0) pe_int (fun _ _ => rfl)) pe_str (nomark _))
      (pe_mk T.m_cF GF hr (by decide) T.g_cF (pa_cons (pe_ix ix_tup (pv 0) pe_int (fun _ _ => rfl)) pa_nil)) (pe_mk T.m_cC GC hr (by decide) T.g_cC (pa_cons (pe_ix ix_tup (pv 0) pe_int (fun _ _ => rfl)) pa_nil)))), ?_⟩
    cases t with
    | fx b =>
      obtain ⟨a, rfl, ha⟩ := ht
      refine ⟨_, rfl, a, _, _, _, rfl, rfl, SqT.of ha, atI_nat (j := 0) rfl, rfl, _, rfl, iteA (dT rfl) ?_⟩
      refine ⟨_, rfl, a, _, _, _, rfl, rfl, SqT.of ha, atI_nat (j := 1) rfl, fun x dx nx nd ne => ?_⟩
      refine ⟨x, dx, b, rfl, upd_same, rfl, k _ _ (made_same nx nd (But.put List.mem_cons_self)) ⟨x, dx, rfl, upd_same⟩⟩
    | ct i =>
      obtain ⟨a, z, rfl, hz, ha⟩ := ht
      refine ⟨_, rfl, a, _, _, _, rfl, rfl, SqT.of ha, atI_nat (j := 0) rfl, rfl, _, rfl, iteB (by decide +kernel) ?_⟩
      refine ⟨_, rfl, a, _, _, _, rfl, rfl, SqT.of ha, atI_nat (j := 1) rfl, fun x dx nx nd ne => ?_⟩
      refine ⟨x, dx, z, rfl, hn z (List.mem_of_getElem? hz), upd_same, rfl, k _ _ (made_same nx nd (But.put List.mem_cons_self)) ⟨x, dx, z, rfl, hz, upd_same⟩⟩
    | nt t => cases hl
    | gr b ts => cases hl
theorem scJoined : FnScope ["kind", "parts"] ["kind", "parts"] (defScope sJoined) := ⟨rfl, rfl, rfl, by decide +kernel, rfl, by decide +kernel, by decide +kernel⟩
theorem ok_joined (T : Txt K mg g f) : Good P w K mg base 25 f.joined ["kind", "parts"] (spJoined g nm) := by
  have GT := ok_initT (P := P) (w := w) (base := base) (nm := nm) T
  have GS := ok_initG (P := P) (w := w) (base := base) (nm := nm) T true
  have GB := ok_initG (P := P) (w := w) (base := base) (nm := nm) T false
  refine T.d_joined.ok scJoined (fun vs H Q E h => ?_) (fun cdv A outer s H vs Q E hr h => ?_)
  · obtain ⟨t, p, us, rfl, _⟩ := h
    rfl
  · obtain ⟨t, p, us, rfl, hl, hok, hz, hd, hps, hp, k⟩ := h
    refine ⟨_, pss_cons (ps_if (pt_cmpR op_eq (pv 0) pe_str (nomark _)) (pss_one (ps_ret (pe_mk T.m_cT GT hr (by decide) T.g_cT (pa_cons (pe_ix ix_list (pv 1) pe_int (fun _ _ => rfl)) pa_nil)))) pss_nil)
      (pss_cons (ps_if (pt_cmpR op_eq (pv 0) pe_str (nomark _)) (pss_one (ps_ret (pe_mk T.m_cS GS hr (by decide) T.g_cS (pa_cons (pv 1) pa_nil)))) pss_nil)
      (pss_one (ps_ret (pe_mk T.m_cB GB hr (by decide) T.g_cB (pa_cons (pv 1) pa_nil))))), ?_⟩
    cases t with
    | nt t =>
      obtain ⟨u, us', rfl, hu, hnil⟩ := hps
      obtain rfl : us' = [] := hnil
      have hz : 1 + t.size ≤ 60 := hz
      have hd : 1 + t.depth ≤ 20 := hd
      refine ⟨_, rfl, rfl, _, rfl, iteA (dT rfl) ?_⟩
      refine ⟨_, rfl, p, _, _, _, rfl, rfl, SqL.of hp, atI_nat (j := 0) rfl, fun x dx nx nd ne => ?_⟩
      exact ⟨x, dx, t, u, rfl, hu.mono (.of_same (made_here nx nd)), by omega, by omega, upd_same, fun H' b hq => ⟨rfl, k _ _ (made_same nx nd b) hq⟩⟩
    | gr b ts =>
      have hz : 1 + sizeL ts ≤ 60 := hz
      have hd : 1 + depthL ts ≤ 20 := hd
      have h2 : 2 ≤ ts.length := hok.1
      cases b with
      | true =>
        refine ⟨_, rfl, rfl, _, rfl, iteB (show decide (V.str ("and" : Str) = V.str "not") = false by decide +kernel) ?_⟩
        refine ⟨_, rfl, rfl, _, rfl, iteA (show decide (V.str ("and" : Str) = V.str "and") = true by decide +kernel) ?_⟩
        refine ⟨_, rfl, fun x dx nx nd ne => ?_⟩
        exact ⟨x, dx, p, ts, us, rfl, hps.mono (.of_same (made_here nx nd)), h2, by omega, by omega, made_here nx nd _ _ hp, upd_same, fun H' b hq => ⟨rfl, k _ _ (made_same nx nd b) hq⟩⟩
      | false =>
        refine ⟨_, rfl, rfl, _, rfl, iteB (show decide (V.str ("or" : Str) = V.str "not") = false by decide +kernel) ?_⟩
        refine ⟨_, rfl, rfl, _, rfl, iteB (show decide (V.str ("or" : Str) = V.str "and") = false by decide +kernel) ?_⟩
        refine ⟨_, rfl, fun x dx nx nd ne => ?_⟩
        exact ⟨x, dx, p, ts, us, rfl, hps.mono (.of_same (made_here nx nd)), h2, by omega, by omega, made_here nx nd _ _ hp, upd_same, fun H' b hq => ⟨rfl, k _ _ (made_same nx nd b) hq⟩⟩
    | fx b => cases hl
    | ct i => cases hl
end
end RW
/-! part_of: a stack of tuples and of the parts made for them. -/
namespace RW
open PySem L2 PySem.Spec PyProof.Rows
/-- an opened tuple: its place on the stack, what it tells, the list of parts made so far -/
structure Frm where
  a : Addr
  v : V
  la : Addr
  t : RW.T
  us : List V
structure FrOk (g : At) (nm : List Str) (H : Hp) (r : Frm) : Prop where
  at_ : H r.a = some (.tup [r.v, .ref r.la])
  told : IsTold nm H r.t r.v
  l : H r.la = some (.lst r.us)
  le : r.us.length ≤ r.t.kids.length
  ps : IsParts g nm H (r.t.kids.take r.us.length) r.us
  ok : r.t.ok nm.length
  sz : r.t.size ≤ 60
  dp : r.t.depth ≤ 20
theorem FrOk.mono {g : At} {nm : List Str} {H H' : Hp} {r : Frm} (o : FrOk g nm H r) (k : Keeps H H') (hl : H' r.la = H r.la) : FrOk g nm H' r :=
  ⟨k _ _ trivial o.at_, o.told.mono k, hl.trans o.l, o.le, o.ps.mono k, o.ok, o.sz, o.dp⟩
/-- each opened tuple is the next one of that below it; the lowest is the whole -/
def Chain (t0 : RW.T) : List Frm → Prop
  | [] => True
  | [r] => r.t = t0
  | r :: b :: rest => b.t.kids[b.us.length]? = some r.t ∧ Chain t0 (b :: rest)
def remB : List Frm → Nat
  | [] => 0
  | r :: rest => 1 + 2 * sizeL (r.t.kids.drop (r.us.length + 1)) + remB rest
def rem : List Frm → Nat
  | [] => 0
  | r :: rest => 1 + 2 * sizeL (r.t.kids.drop r.us.length) + remB rest
structure Run (g : At) (nm : List Str) (H0 H : Hp) (L : Addr) (t0 : RW.T) (fs : List Frm) : Prop where
  same : Same H0 H
  l : H L = some (.lst (fs.reverse.map fun r => V.ref r.a))
  ln : H0 L = none
  ok : ∀ r ∈ fs, FrOk g nm H r ∧ H0 r.la = none ∧ r.la ≠ L
  nd : (fs.map (·.la)).Nodup
  ch : Chain t0 fs
theorem Run.on {g : At} {nm : List Str} {H0 H H' : Hp} {L : Addr} {t0 : RW.T} {fs : List Frm} (R : Run g nm H0 H L t0 fs) (s : Same H H') : Run g nm H0 H' L t0 fs :=
  ⟨R.same.trans s, s _ _ R.l, R.ln, fun r hr => let ⟨o, a, b⟩ := R.ok r hr; ⟨o.mono (.of_same s) ((s _ _ o.l).trans o.l.symm), a, b⟩, R.nd, R.ch⟩
theorem kid_ok {nn : Nat} {t u : RW.T} {i : Nat} (h : t.ok nn) (hu : t.kids[i]? = some u) : u.ok nn := by
  have hm := List.mem_of_getElem? hu
  cases t with
  | fx b => simp [T.kids] at hm
  | ct i => simp [T.kids] at hm
  | nt t =>
    have e : u = t := by simpa [T.kids] using hm
    rw [e]
    exact h
  | gr b ts => exact okL_iff.mp h.2 u hm
theorem leaf_kids {t : RW.T} (h : isLeaf t = true) : t.kids = [] := by
  cases t <;> first | rfl | cases h
/-- what stands in a told tuple -/
theorem told_shape {nm : List Str} {H : Hp} {t : RW.T} {v : V} (h : IsTold nm H t v) : ∃ a us, v = .ref a ∧ H a = some (.tup (.str (wordT t) :: us)) ∧ (isLeaf t = false → IsTolds nm H t.kids us) := by
  cases t with
  | fx b => obtain ⟨a, rfl, ha⟩ := h; exact ⟨a, _, rfl, ha, fun z => nomatch z⟩
  | ct i => obtain ⟨a, z, rfl, _, ha⟩ := h; exact ⟨a, _, rfl, ha, fun z => nomatch z⟩
  | nt t => obtain ⟨a, u, rfl, ha, hu⟩ := h; exact ⟨a, _, rfl, ha, fun _ => ⟨u, [], rfl, hu, rfl⟩⟩
  | gr b ts => obtain ⟨a, us, rfl, ha, hu⟩ := h; exact ⟨a, us, rfl, ha, fun _ => hu⟩
theorem word_leaf (t : RW.T) : inV (.str (wordT t)) [.str "fixed", .str "contact"] = isLeaf t := by
  cases t with
  | fx b => exact (show inV (.str ("fixed" : Str)) [.str "fixed", .str "contact"] = true by decide +kernel)
  | ct i => exact (show inV (.str ("contact" : Str)) [.str "fixed", .str "contact"] = true by decide +kernel)
  | nt t => exact (show inV (.str ("not" : Str)) [.str "fixed", .str "contact"] = false by decide +kernel)
  | gr b ts =>
    cases b
    · exact (show inV (.str ("or" : Str)) [.str "fixed", .str "contact"] = false by decide +kernel)
    · exact (show inV (.str ("and" : Str)) [.str "fixed", .str "contact"] = false by decide +kernel)
theorem drop_size {l : List RW.T} {i : Nat} {u : RW.T} (h : l[i]? = some u) : sizeL (l.drop i) = u.size + sizeL (l.drop (i + 1)) := by
  obtain ⟨hi, e⟩ := List.getElem?_eq_some_iff.mp h
  rw [List.drop_eq_getElem_cons hi, e]
  rfl
theorem rem_push {r n : Frm} {rest : List Frm} (hu : r.t.kids[r.us.length]? = some n.t) (hn : n.us = []) : rem (n :: r :: rest) + 1 = rem (r :: rest) := by
  have e := drop_size hu
  have e2 := n.t.size_kids
  simp only [rem, remB, hn, List.length_nil, List.drop_zero, e]
  omega
theorem rem_pop {r b : Frm} {rest : List Frm} {u : V} (hr : r.us.length = r.t.kids.length) : rem ({ b with us := b.us ++ [u] } :: rest) + 1 = rem (r :: b :: rest) := by
  simp only [rem, remB, hr, List.drop_length, List.length_append, List.length_singleton, sizeL]
  omega
theorem rem_pos {r : Frm} {rest : List Frm} : 0 < rem (r :: rest) := by
  simp only [rem]
  omega
/-- a child is opened -/
theorem Run.push {g : At} {nm : List Str} {H0 H : Hp} {L : Addr} {t0 : RW.T} {r : Frm} {rest : List Frm} (R : Run g nm H0 H L t0 (r :: rest)) {c : RW.T} {cv : V} (hc : r.t.kids[r.us.length]? = some c) (hcv : IsTold nm H c cv)
    {l p : Addr} (hl : H l = none) (hp : (upd H l (.lst [])) p = none) :
    Run g nm H0 (upd (upd (upd H l (.lst [])) p (.tup [cv, .ref l])) L (.lst ((r :: rest).reverse.map (fun r => V.ref r.a) ++ [.ref p]))) L t0 (⟨p, cv, l, c, []⟩ :: r :: rest) := by
  have nLl : L ≠ l := ne_of_none R.l hl
  have s1 : Same H (upd H l (.lst [])) := same_new hl
  have s2 : Same H (upd (upd H l (.lst [])) p (.tup [cv, .ref l])) := s1.trans (same_new hp)
  have nLp : L ≠ p := ne_of_none (s1 _ _ R.l) hp
  have nlp : l ≠ p := ne_of_none (H := upd H l (.lst [])) upd_same hp
  have kp : Keeps H (upd (upd (upd H l (.lst [])) p (.tup [cv, .ref l])) L (.lst ((r :: rest).reverse.map (fun r => V.ref r.a) ++ [.ref p]))) := fun b o f e => by
    have n : b ≠ L := fun z => by rw [z, R.l] at e; cases e; exact f
    rw [upd_ne n]
    exact s2 _ _ e
  obtain ⟨ro, _, _⟩ := R.ok r List.mem_cons_self
  obtain ⟨z1, z2, _⟩ := kid_le hc
  have h0l : H0 l = none := R.same.free hl
  refine ⟨same_mut (R.same.trans s2) R.ln, ?_, R.ln, fun q hq => ?_, ?_, hc, R.ch⟩
  · rw [upd_same, List.reverse_cons (as := r :: rest), List.map_append]
    rfl
  · rcases List.mem_cons.mp hq with rfl | hq
    · refine ⟨⟨by rw [upd_ne nLp.symm, upd_same], hcv.mono kp, by rw [upd_ne nLl.symm, upd_ne nlp, upd_same], Nat.zero_le _, rfl, kid_ok ro.ok hc, ?_, ?_⟩, h0l, nLl.symm⟩
      · have := ro.sz; show c.size ≤ 60; omega
      · have := ro.dp; show c.depth ≤ 20; omega
    · obtain ⟨o, h0, nL⟩ := R.ok q hq
      exact ⟨o.mono kp (by rw [upd_ne nL, s2 _ _ o.l, o.l]), h0, nL⟩
  · rw [List.map_cons]
    refine List.nodup_cons.mpr ⟨fun m => ?_, R.nd⟩
    obtain ⟨q, hq, e⟩ := List.mem_map.mp m
    obtain ⟨o, _, _⟩ := R.ok q hq
    have := o.l
    rw [e, hl] at this
    cases this
/-- the whole is done -/
def Done (g : At) (nm : List Str) (H0 H : Hp) (L : Addr) (t0 : RW.T) (u : V) : Prop := Same H0 H ∧ H L = some (.lst []) ∧ H0 L = none ∧ IsPart g nm H t0 u
/-- a tuple is closed: its part goes to the one below -/
theorem Run.pop {g : At} {nm : List Str} {H0 H H1 : Hp} {L : Addr} {t0 : RW.T} {r b : Frm} {rest : List Frm} (R : Run g nm H0 H L t0 (r :: b :: rest)) {u : V} (s : Same (upd H L (.lst ((b :: rest).reverse.map fun r => V.ref r.a))) H1) (hu : IsPart g nm H1 r.t u) :
    Run g nm H0 (upd H1 b.la (.lst (b.us ++ [u]))) L t0 ({ b with us := b.us ++ [u] } :: rest) := by
  obtain ⟨hc, hch⟩ := R.ch
  have kp1 : Keeps H H1 := fun c o f e => s _ _ (by
    have n : c ≠ L := fun z => by rw [z, R.l] at e; cases e; exact f
    rw [upd_ne n]
    exact e)
  obtain ⟨bo, b0, bL⟩ := R.ok b (List.mem_cons_of_mem _ List.mem_cons_self)
  have atl : ∀ q ∈ r :: b :: rest, H1 q.la = some (.lst q.us) := fun q hq => by
    obtain ⟨o, _, nL⟩ := R.ok q hq
    exact s _ _ (by rw [upd_ne nL]; exact o.l)
  have hb1 := atl b (List.mem_cons_of_mem _ List.mem_cons_self)
  have kp2 : Keeps H1 (upd H1 b.la (.lst (b.us ++ [u]))) := fun c o f e => by
    have n : c ≠ b.la := fun z => by rw [z, hb1] at e; cases e; exact f
    rw [upd_ne n]
    exact e
  have kp := kp1.trans kp2
  have nd2 := (List.nodup_cons.mp R.nd).2
  refine ⟨same_mut (fun c o e => s _ _ (by rw [upd_ne (ne_of_none e R.ln)]; exact R.same _ _ e)) b0, ?_, R.ln, fun q hq => ?_, nd2, ?_⟩
  · rw [upd_ne bL.symm, s _ _ upd_same]
    show some (HO.lst ((b :: rest).reverse.map _)) = some (HO.lst (({ b with us := b.us ++ [u] } :: rest).reverse.map _))
    rw [List.reverse_cons, List.reverse_cons, List.map_append, List.map_append]
    rfl
  · rcases List.mem_cons.mp hq with rfl | hq
    · have hi : b.us.length < b.t.kids.length := (List.getElem?_eq_some_iff.mp hc).1
      refine ⟨⟨kp _ _ trivial bo.at_, bo.told.mono kp, upd_same, ?_, ?_, bo.ok, bo.sz, bo.dp⟩, b0, bL⟩
      · show (b.us ++ [u]).length ≤ b.t.kids.length
        rw [List.length_append]; exact hi
      · show IsParts g nm _ (b.t.kids.take (b.us ++ [u]).length) (b.us ++ [u])
        rw [List.length_append, List.length_singleton, List.take_add_one, hc]
        exact IsParts.app (bo.ps.mono kp) ⟨u, [], rfl, hu.mono kp2, rfl⟩
    · obtain ⟨o, q0, qL⟩ := R.ok q (List.mem_cons_of_mem _ (List.mem_cons_of_mem _ hq))
      have nq : q.la ≠ b.la := fun z => (List.nodup_cons.mp nd2).1 (List.mem_map.mpr ⟨q, hq, z⟩)
      exact ⟨o.mono kp (by rw [upd_ne nq, atl q (List.mem_cons_of_mem _ (List.mem_cons_of_mem _ hq)), o.l]), q0, qL⟩
  · cases rest with
    | nil => exact hch
    | cons c rest => exact ⟨hch.1, hch.2⟩
theorem len_remB : ∀ fs : List Frm, fs.length ≤ remB fs
  | [] => Nat.le_refl _
  | r :: rest => by
    have := len_remB rest
    simp only [remB, List.length_cons]
    omega
theorem len_rem : ∀ fs : List Frm, fs.length ≤ rem fs
  | [] => Nat.le_refl _
  | r :: rest => by
    have := len_remB rest
    simp only [rem, List.length_cons]
    omega
theorem rev_map {r : Frm} {rest : List Frm} : ((r :: rest).reverse.map fun r => V.ref r.a) = (rest.reverse.map fun r => V.ref r.a) ++ [V.ref r.a] := by
  rw [List.reverse_cons, List.map_append]
  rfl
theorem last_at (xs : List V) (v : V) : (xs ++ [v])[(xs ++ [v]).length - 1]? = some v := by
  simp
def spPartOf (g : At) (nm : List Str) : Sp := fun vs H Q _ => ∃ t v, vs = [v] ∧ (∀ z ∈ nm, NameOk z) ∧ IsTold nm H t v ∧ t.ok nm.length ∧ t.size ≤ 60 ∧ t.depth ≤ 20 ∧ ∀ H' u, Same H H' → IsPart g nm H' t u → Q u H'
section
variable {P : Program} {w : World} {K : PySem.W.Frag} {mg : Str → Option Value} {base : Heap} {g : At} {f : Fa} {nm : List Str}
theorem scPartOf : FnScope ["told", "opened", "found", "one", "parts", "is_single"] ["told"] (defScope sPartOf) := ⟨rfl, rfl, rfl, by decide +kernel, rfl, by decide +kernel, by decide +kernel⟩
theorem chain_last {t0 : RW.T} {r : Frm} (h : Chain t0 [r]) : r.t = t0 := h
theorem ok_partOf (T : Txt K mg g f) : Good P w K mg base 26 f.partOf ["told"] (spPartOf g nm) := by
  have GS := ok_single (P := P) (w := w) (base := base) (nm := nm) T
  have GJ := ok_joined (P := P) (w := w) (base := base) (nm := nm) T
  refine T.d_partOf.ok scPartOf (fun vs H Q E h => ?_) (fun cdv A outer s H vs Q E hr h => ?_)
  · obtain ⟨t, v, rfl, _⟩ := h
    rfl
  · obtain ⟨t0, v0, rfl, hnm, ht0, hok0, hz0, hd0, k⟩ := h
    have hu0 := hu_of hr
    refine ⟨_, pss_cons (ps_set (i := 1) scPartOf.nd rfl (Or.inl rfl) (pe_lst (pa_cons (pe_tup (pa_cons (pv 0) (pa_cons (pe_lst pa_nil) pa_nil))) pa_nil)))
      (pss_cons (ps_set (i := 2) scPartOf.nd rfl (Or.inl rfl) pe_non)
      (pss_cons (ps_while PassesOwn.never (pt_cmpR (op_neNil (Nat.lt_of_succ_lt hu0)) (pv 1) (pe_lst pa_nil) (nomark _))
        (pss_cons (ps_asg (pe_ix ix_list (pv 1) (pe_un un_neg pe_int) (fun _ _ => rfl)) (pg_tup rfl (pgs_cons (pg_name (i := 3) scPartOf.nd rfl (Or.inl rfl)) (pgs_cons (pg_name (i := 4) scPartOf.nd rfl (Or.inl rfl)) pgs_nil))))
        (pss_cons (ps_set (i := 5) scPartOf.nd rfl (Or.inl rfl) (pe_cmpR op_in_seq (pe_ix ix_tup (pv 3) pe_int (fun _ _ => rfl)) (pe_tup (pa_cons pe_str (pa_cons pe_str pa_nil))) rfl))
        (pss_cons (ps_if (PW.pt (pw_and (pt_not (pt_val (pv 5))) (pw_and1 (pt_cmpR op_lt (pe_callB call_len_seq (by rfl) T.b_len PySem.boot_len (pa_cons (pv 4) pa_nil)) (pe_op op_sub (pe_callB call_len_seq (by rfl) T.b_len PySem.boot_len (pa_cons (pv 3) pa_nil)) pe_int) (nomark _)))))
            (pss_cons (ps_expr (pe_bm PySem.F.plainAttrs_list PySem.F.slot_list_append PySem.F.type_list_append mt_append (pv 1)
              (pa_cons (pe_tup (pa_cons (pe_ix ix_tup (pv 3) (pe_op op_add pe_int (pe_callB call_len_seq (by rfl) T.b_len PySem.boot_len (pa_cons (pv 4) pa_nil))) (fun _ _ => rfl)) (pa_cons (pe_lst pa_nil) pa_nil))) pa_nil)))
            (pss_one ps_continue)) pss_nil)
        (pss_cons (ps_expr (pe_bm0 PySem.F.plainAttrs_list PySem.F.slot_list_pop PySem.F.type_list_pop mt_pop (pv 1)))
        (pss_cons (ps_set (i := 2) scPartOf.nd rfl (Or.inl rfl) (pe_ifExp (pt_val (pv 5)) (pe_fn GS hr (by decide) T.g_single (pa_cons (pv 3) pa_nil))
          (pe_fn GJ hr (by decide) T.g_joined (pa_cons (pe_ix ix_tup (pv 3) pe_int (fun _ _ => rfl)) (pa_cons (pv 4) pa_nil)))))
        (pss_one (ps_if (pt_cmpR (op_neNil (Nat.lt_of_succ_lt hu0)) (pv 1) (pe_lst pa_nil) (nomark _))
          (pss_one (ps_expr (pe_bm PySem.F.plainAttrs_list PySem.F.slot_list_append PySem.F.type_list_append mt_append (pe_ix ix_tup (pe_ix ix_list (pv 1) (pe_un un_neg pe_int) (fun _ _ => rfl)) pe_int (fun _ _ => rfl)) (pa_cons (pv 2) pa_nil)))) pss_nil))))))))
      (pss_one (ps_ret (pv 2))))), ?_⟩
    -- the start
    refine ⟨_, rfl, Nat.zero_le _, fun la hla => ⟨by show 2 ≤ sizeLine; decide, fun a ha => ⟨by show 1 ≤ sizeLine; decide, fun L hL => ?_⟩⟩⟩
    have s1 : Same H (upd H la (.lst [])) := same_new hla
    have s2 : Same H (upd (upd H la (.lst [])) a (.tup [v0, .ref la])) := s1.trans (same_new ha)
    have s3 : Same H (upd (upd (upd H la (.lst [])) a (.tup [v0, .ref la])) L (.lst [.ref a])) := s2.trans (same_new hL)
    have hL0 : H L = none := s2.free hL
    have nlL : la ≠ L := ne_of_none (s2.trans (Same.refl _) |> fun _ => (same_new ha) _ _ (upd_same (H := H) (a := la) (o := .lst []))) hL
    have naL : a ≠ L := ne_of_none (upd_same (H := upd H la (.lst [])) (a := a) (o := .tup [v0, .ref la])) hL
    have nla : la ≠ a := ne_of_none (upd_same (H := H) (a := la) (o := .lst [])) ha
    have R0 : Run g nm H (upd (upd (upd H la (.lst [])) a (.tup [v0, .ref la])) L (.lst [.ref a])) L t0 [⟨a, v0, la, t0, []⟩] := by
      refine ⟨s3, upd_same, hL0, fun r hr => ?_, by simp, rfl⟩
      rw [List.mem_singleton] at hr
      subst hr
      exact ⟨⟨by rw [upd_ne naL, upd_same], ht0.mono (.of_same s3), by rw [upd_ne nlL, upd_ne nla, upd_same], Nat.zero_le _, rfl, hok0, hz0, hd0⟩, hla, nlL⟩
    have m0 : rem [(⟨a, v0, la, t0, []⟩ : Frm)] ≤ 200 := by
      have := t0.size_kids
      simp only [rem, remB, List.length_nil, List.drop_zero]
      omega
    refine ⟨fun m σ H' => (∃ r rest x y z q, σ = [some v0, some (.ref L), x, y, z, q] ∧ Run g nm H H' L t0 (r :: rest) ∧ m = rem (r :: rest) ∧ m ≤ 200) ∨ (m = 0 ∧ ∃ u y z q, σ = [some v0, some (.ref L), some u, y, z, q] ∧ Done g nm H H' L t0 u),
      ⟨_, .inl ⟨_, _, _, _, _, _, rfl, R0, rfl, m0⟩⟩, ?_⟩
    rintro m σ H1 (⟨r, rest, x, y, z, q0, rfl, R, rfl, hm⟩ | ⟨rfl, u, y, z, q0, rfl, D1, D2, D3, D4⟩)
    · refine ⟨_, rfl, Nat.zero_le _, fun e1 he1 => ⟨L, e1, _, rfl, rfl, SqL.of ((same_new he1) _ _ R.l), SqL.of upd_same, _, rfl, iteA (by simp) ?_⟩⟩
      refine ⟨fun σ' H' => ∃ m', m' < rem (r :: rest) ∧ _, fun _ _ h => h, ?_⟩
      replace R := R.on (same_new (o := .lst []) he1)
      generalize upd H1 e1 (.lst []) = H2 at R ⊢
      clear he1
      obtain ⟨ra, rv, rla, rt, rus⟩ := r
      have hL2 := R.l
      rw [rev_map] at hL2
      obtain ⟨ro, r0, rL⟩ := R.ok _ List.mem_cons_self
      obtain ⟨ta, ws, ev, hta, hws⟩ := told_shape ro.told
      have ev : rv = V.ref ta := ev
      subst ev
      have hta : H2 ta = some (.tup (.str (wordT rt) :: ws)) := hta
      have hla2 : H2 rla = some (.lst rus) := ro.l
      have few := len_rem ((⟨ra, .ref ta, rla, rt, rus⟩ : Frm) :: rest)
      -- one, parts = opened[-1]
      refine ⟨_, rfl, 1, rfl, L, _, _, _, rfl, rfl, SqL.of hL2, atI_last _ _, ra, _, rfl, SqT.of ro.at_, rfl, _, _, rfl, _, _, rfl, rfl, ?_⟩
      -- is_single
      refine ⟨_, rfl, ta, _, _, _, rfl, rfl, SqT.of hta, atI_nat (j := 0) rfl, by show 2 ≤ sizeLine; decide, fun p2 hp2 => ⟨p2, _, rfl, .inr (SqT.of upd_same), rfl, rfl, ?_⟩⟩
      replace R := R.on (same_new (o := .tup [.str "fixed", .str "contact"]) hp2)
      have sm := same_new (o := .tup [.str "fixed", .str "contact"]) hp2
      replace hL2 := sm _ _ hL2
      replace hta := sm _ _ hta
      replace hla2 := sm _ _ hla2
      replace ro := (R.ok _ List.mem_cons_self).1
      have hws2 : isLeaf rt = false → IsTolds nm (upd H2 p2 (.tup [.str "fixed", .str "contact"])) rt.kids ws := fun e => (hws e).mono (.of_same sm)
      generalize upd H2 p2 (.tup [.str "fixed", .str "contact"]) = H3 at R hL2 hta hla2 ro hws2 ⊢
      rw [if_neg Bool.false_ne_true, word_leaf]
      have hkl : rus.length ≤ rt.kids.length := ro.le
      by_cases hlt : rus.length < rt.kids.length
      · -- a child is opened
        have hl : isLeaf rt = false := by
          cases e : isLeaf rt with
          | false => rfl
          | true => rw [leaf_kids e] at hlt; simp at hlt
        have hwl := (hws2 hl).len
        have hw : ws[rus.length]? = some (ws[rus.length]'(by omega)) := List.getElem?_eq_getElem (by omega)
        obtain ⟨c, hc, hcv⟩ := (hws2 hl).get hw
        generalize ws[rus.length]'(by omega) = cv at hw hcv
        refine ⟨_, rfl, _, rfl, iteA (by rw [hl]; rfl) ⟨_, rfl, rla, _, rfl, .inl (SqL.of hla2), _, rfl, ta, _, rfl, .inr (SqT.of hta), _, _, rfl, rfl, _, _, rfl, rfl, _, rfl, iteA (dT (by rw [List.length_cons]; omega)) ?_⟩⟩
        refine ⟨_, rfl, .inl ⟨rfl, _, SqL.of hL2⟩, _, rfl, _, rfl, rla, _, rfl, .inl (SqL.of hla2), _, _, rfl, rfl, ta, _, _, cv, rfl, rfl, SqT.of hta, at_of (j := rus.length + 1) (by omega) hw, Nat.zero_le _, fun l hl3 => ⟨by show 2 ≤ sizeLine; decide, fun p hp => ?_⟩⟩
        have nLl : L ≠ l := ne_of_none hL2 hl3
        have hL4 : (upd (upd H3 l (.lst [])) p (.tup [cv, .ref l])) L = some (.lst ((rest.reverse.map fun r => V.ref r.a) ++ [V.ref ra])) := ((same_new hl3).trans (same_new hp)) _ _ hL2
        refine ⟨L, _, _, rfl, rfl, hL4, szl ?_, ?_⟩
        · simp only [List.length_append, List.length_map, List.length_reverse, List.length_singleton]
          simp only [List.length_cons] at few
          omega
        · have R2 := R.push hc hcv hl3 hp
          rw [rev_map] at R2
          have hp := rem_push (r := ⟨ra, .ref ta, rla, rt, rus⟩) (n := ⟨p, cv, l, c, []⟩) (rest := rest) hc rfl
          exact ⟨_, by omega, .inl ⟨_, _, _, _, _, _, rfl, R2, rfl, by omega⟩⟩
      · -- a tuple is closed
        have hdone : rus.length = rt.kids.length := by omega
        have kp3 : Keeps H3 (upd H3 L (.lst (rest.reverse.map fun r => V.ref r.a))) := fun b o fx e => by
          have n : b ≠ L := fun z => by rw [z, hL2] at e; cases e; exact fx
          rw [upd_ne n]
          exact e
        have nta : ta ≠ L := ne_of hta hL2 (by intro z; cases z)
        have hps : IsParts g nm H3 rt.kids rus := by
          have := ro.ps
          rw [show (⟨ra, .ref ta, rla, rt, rus⟩ : Frm).us.length = rt.kids.length from hdone, List.take_length] at this
          exact this
        cases hl : isLeaf rt with
        | true =>
          refine ⟨_, rfl, _, rfl, iteB rfl ?_⟩
          refine iteF ?_
          refine ⟨_, rfl, .inl ⟨rfl, _, SqL.of hL2⟩, L, _, _, rfl, rfl, hL2, last_at _ _, ?_⟩
          rw [List.dropLast_concat]
          refine ⟨_, rfl, _, rfl, iteT ⟨_, rfl, rt, _, rfl, hl, hnm, ro.told.mono kp3, fun H4 u s4 hu4 => ?_⟩⟩
          have s5 : ∀ e2, H4 e2 = none → Same (upd H3 L (.lst (rest.reverse.map fun r => V.ref r.a))) (upd H4 e2 (.lst [])) := fun e2 h2 => s4.trans (same_new h2)
          have hL4 : H4 L = some (.lst (rest.reverse.map fun r => V.ref r.a)) := s4 _ _ upd_same
          refine ⟨_, rfl, Nat.zero_le _, fun e2 he2 => ⟨L, e2, _, rfl, rfl, SqL.of ((same_new he2) _ _ hL4), SqL.of upd_same, _, rfl, ?_⟩⟩
          cases rest with
          | nil =>
            refine iteB rfl ⟨0, rem_pos, .inr ⟨rfl, u, _, _, _, rfl, fun c o e => s5 e2 he2 _ _ (by rw [upd_ne (ne_of_none e hL0)]; exact R.same _ _ e), (same_new he2) _ _ hL4, hL0, ?_⟩⟩
            have e : rt = t0 := R.ch
            rw [← e]
            exact hu4.mono (.of_same (same_new he2))
          | cons b rest =>
            obtain ⟨bo, _, bL⟩ := R.ok b (List.mem_cons_of_mem _ List.mem_cons_self)
            have nbL : b.a ≠ L := ne_of bo.at_ hL2 (by intro z; cases z)
            have hba := s5 e2 he2 b.a _ (by rw [upd_ne nbL]; exact bo.at_)
            have hbl := s5 e2 he2 b.la _ (by rw [upd_ne bL]; exact bo.l)
            have hL5 := (same_new (o := .lst []) he2) _ _ hL4
            rw [rev_map] at hL5
            have zb : b.us.length < 100000 := by
              have h1 := bo.le
              have h2 := kids_len b.t
              have h3 := bo.sz
              omega
            refine iteA (by simp) ⟨_, rfl, 1, rfl, L, _, _, _, rfl, rfl, SqL.of hL5, atI_last _ _, b.a, _, _, _, rfl, rfl, SqT.of hba, atI_nat (j := 1) rfl, .inl ⟨rfl, _, SqL.of hbl⟩, _, rfl, b.la, b.us, u, rfl, rfl, hbl, szl zb, ?_⟩
            have hr2 := rem_pop (r := ⟨ra, .ref ta, rla, rt, rus⟩) (b := b) (rest := rest) (u := u) hdone
            exact ⟨_, by omega, .inl ⟨_, _, _, _, _, _, rfl, R.pop (s5 e2 he2) (hu4.mono (.of_same (same_new he2))), rfl, by omega⟩⟩
        | false =>
          refine ⟨_, rfl, _, rfl, iteA rfl ⟨_, rfl, rla, _, rfl, .inl (SqL.of hla2), _, rfl, ta, _, rfl, .inr (SqT.of hta), _, _, rfl, rfl, _, _, rfl, rfl, _, rfl, iteB (dF (by rw [List.length_cons]; have := (hws2 hl).len; omega)) ?_⟩⟩
          refine ⟨_, rfl, .inl ⟨rfl, _, SqL.of hL2⟩, L, _, _, rfl, rfl, hL2, last_at _ _, ?_⟩
          rw [List.dropLast_concat]
          refine ⟨_, rfl, _, rfl, iteF ⟨_, rfl, ta, _, _, _, rfl, rfl, SqT.of (by rw [upd_ne nta]; exact hta), atI_nat (j := 0) rfl, _, rfl, rt, rla, rus, rfl, hl, ro.ok, ro.sz, ro.dp, hps.mono kp3, by rw [upd_ne rL]; exact hla2, fun H4 u s4 hu4 => ?_⟩⟩
          have s5 : ∀ e2, H4 e2 = none → Same (upd H3 L (.lst (rest.reverse.map fun r => V.ref r.a))) (upd H4 e2 (.lst [])) := fun e2 h2 => s4.trans (same_new h2)
          have hL4 : H4 L = some (.lst (rest.reverse.map fun r => V.ref r.a)) := s4 _ _ upd_same
          refine ⟨_, rfl, Nat.zero_le _, fun e2 he2 => ⟨L, e2, _, rfl, rfl, SqL.of ((same_new he2) _ _ hL4), SqL.of upd_same, _, rfl, ?_⟩⟩
          cases rest with
          | nil =>
            refine iteB rfl ⟨0, rem_pos, .inr ⟨rfl, u, _, _, _, rfl, fun c o e => s5 e2 he2 _ _ (by rw [upd_ne (ne_of_none e hL0)]; exact R.same _ _ e), (same_new he2) _ _ hL4, hL0, ?_⟩⟩
            have e : rt = t0 := R.ch
            rw [← e]
            exact hu4.mono (.of_same (same_new he2))
          | cons b rest =>
            obtain ⟨bo, _, bL⟩ := R.ok b (List.mem_cons_of_mem _ List.mem_cons_self)
            have nbL : b.a ≠ L := ne_of bo.at_ hL2 (by intro z; cases z)
            have hba := s5 e2 he2 b.a _ (by rw [upd_ne nbL]; exact bo.at_)
            have hbl := s5 e2 he2 b.la _ (by rw [upd_ne bL]; exact bo.l)
            have hL5 := (same_new (o := .lst []) he2) _ _ hL4
            rw [rev_map] at hL5
            have zb : b.us.length < 100000 := by
              have h1 := bo.le
              have h2 := kids_len b.t
              have h3 := bo.sz
              omega
            refine iteA (by simp) ⟨_, rfl, 1, rfl, L, _, _, _, rfl, rfl, SqL.of hL5, atI_last _ _, b.a, _, _, _, rfl, rfl, SqT.of hba, atI_nat (j := 1) rfl, .inl ⟨rfl, _, SqL.of hbl⟩, _, rfl, b.la, b.us, u, rfl, rfl, hbl, szl zb, ?_⟩
            have hr2 := rem_pop (r := ⟨ra, .ref ta, rla, rt, rus⟩) (b := b) (rest := rest) (u := u) hdone
            exact ⟨_, by omega, .inl ⟨_, _, _, _, _, _, rfl, R.pop (s5 e2 he2) (hu4.mono (.of_same (same_new he2))), rfl, by omega⟩⟩
    · refine ⟨_, rfl, Nat.zero_le _, fun e1 he1 => ⟨L, e1, _, rfl, rfl, SqL.of ((same_new he1) _ _ D2), SqL.of upd_same, _, rfl, iteB rfl ?_⟩⟩
      exact ⟨_, rfl, k _ _ (D1.trans (same_new he1)) (D4.mono (.of_same (same_new he1)))⟩
end
end RW
/-! The sheet: made, place, made(..), below, need, shown. -/
namespace RW
open PySem L2 PySem.Spec PyProof.Rows
theorem shF_put (tn ln dn : Addr) : putF "numbers" (.ref dn) (putF "nodes" (.ref ln) (putF "names" (.ref tn) [])) = ([("names", V.ref tn), ("nodes", V.ref ln), ("numbers", V.ref dn)] : List (Str × V)) := by
  have a : ¬ ("names" : Str) = "nodes" := by decide +kernel
  have b : ¬ ("names" : Str) = "numbers" := by decide +kernel
  have c : ¬ ("nodes" : Str) = "numbers" := by decide +kernel
  simp only [putF, if_neg a, if_neg b, if_neg c]
theorem none_upd {H : Hp} {a b : Addr} {o : HO} (h : upd H a o b = none) : H b = none := by
  by_cases e : b = a
  · rw [e, upd_same] at h
    cases h
  · rwa [upd_ne e] at h
def spInitS (g : At) : Sp := fun vs H Q _ => ∃ (S dx p : Addr) (nm : List Str), vs = [.ref S, .ref p] ∧ H p = some (.lst (nm.map V.str)) ∧ (∀ z ∈ nm, NameOk z) ∧ nm.Nodup ∧ nm.length ≤ 6 ∧ H S = some (.ins g.cSh dx []) ∧
  ∀ (h : Sh) (H' : Hp), h.S = S → h.nm = nm → H h.ln = none → H h.dn = none → But [S] H H' → ShAt g H' h [] → Q .non H'
def spPlace (g : At) : Sp := fun vs H Q _ => ∃ (h : Sh) (ns : List Nd) (x : Nat), vs = [.ref h.S, .int x] ∧ ShAt g H h ns ∧ x < ns.length + 2 ∧ Q (.int (pl h.nm.length ns x)) H
def spMade (g : At) : Sp := fun vs H Q _ => ∃ (h : Sh) (ns : List Nd) (d : Nd), vs = [.ref h.S, .int d.p, .int d.lo, .int d.hi] ∧ ShAt g H h ns ∧ (mk ns d).2.length ≤ 2000 ∧ ∀ H', But [h.ln, h.dn] H H' → ShAt g H' h (mk ns d).2 → Q (.int (mk ns d).1) H'
def spBelow (g : At) : Sp := fun vs H Q _ => ∃ (h : Sh) (ns : List Nd) (x p : Nat), vs = [.ref h.S, .int x, .int p] ∧ ShAt g H h ns ∧ x < ns.length + 2 ∧ p < h.nm.length ∧
  ∀ a H', Same H H' → H' a = some (.tup [.int (bel h.nm.length ns x p).1, .int (bel h.nm.length ns x p).2]) → Q (.ref a) H'
def spNeed (g : At) : Sp := fun vs H Q _ => ∃ (h : Sh) (ns : List Nd) (x : Nat), vs = [.ref h.S, .int x] ∧ ShAt g H h ns ∧ x < ns.length + 2 ∧ Q (.int x) H
def shV (ns : List Nd) (x : Nat) : List V := if x < 2 then [] else match ns[x - 2]? with
  | some d => ndV d
  | none => []
def spShown (g : At) : Sp := fun vs H Q _ => ∃ (h : Sh) (ns : List Nd) (x : Nat), vs = [.ref h.S, .int x] ∧ ShAt g H h ns ∧ x < ns.length + 2 ∧ ∀ a H', Same H H' → H' a = some (.tup (shV ns x)) → Q (.ref a) H'
theorem ShAt.at_ {g : At} {H : Hp} {h : Sh} {ns : List Nd} (a : ShAt g H h ns) {x : Nat} (h2 : 2 ≤ x) (hx : x < ns.length + 2) : ∃ (bs : List Addr) (b : Addr) (d : Nd), H h.ln = some (.lst (bs.map V.ref)) ∧ atI (bs.map V.ref) ((x : Int) - 2) = some (.ref b) ∧ ns[x - 2]? = some d ∧ H b = some (.tup (ndV d)) := by
  obtain ⟨bs, hl, hb⟩ := a.l
  have hi : x - 2 < ns.length := by omega
  have hd : ns[x - 2]? = some ns[x - 2] := List.getElem?_eq_getElem hi
  obtain ⟨b, e1, e2⟩ := hb.get hd
  exact ⟨bs, b, _, hl, at_of (j := x - 2) (by omega) (by rw [List.getElem?_map, e1]; rfl), hd, e2⟩
theorem ShAt.len {g : At} {H : Hp} {h : Sh} {ns : List Nd} (a : ShAt g H h ns) : ∃ bs : List Addr, H h.ln = some (.lst (bs.map V.ref)) ∧ (bs.map V.ref).length = ns.length := by
  obtain ⟨bs, hl, hb⟩ := a.l
  exact ⟨bs, hl, by rw [List.length_map]; exact hb.len⟩
section
variable {P : Program} {w : World} {K : PySem.W.Frag} {mg : Str → Option Value} {base : Heap} {g : At} {f : Fa}
theorem scPlace : FnScope ["self", "node"] ["self", "node"] (defScope sPlace) := ⟨rfl, rfl, rfl, by decide +kernel, rfl, by decide +kernel, by decide +kernel⟩
theorem ok_place (T : Txt K mg g f) : Good P w K mg base 1 f.place ["self", "node"] (spPlace g) := by
  refine T.d_place.ok scPlace (fun vs H Q E h => ?_) (fun cdv A outer s H vs Q E hr h => ?_)
  · obtain ⟨h, ns, x, rfl, _⟩ := h
    rfl
  · obtain ⟨h, ns, x, rfl, hS, hx, k⟩ := h
    refine ⟨_, pss_cons (ps_if (pt_cmpR op_lt (pv 1) pe_int (nomark _)) (pss_one (ps_ret (pe_callB call_len_seq (by rfl) T.b_len PySem.boot_len (pa_cons (pe_fld (pv 0) rfl) pa_nil)))) pss_nil)
      (pss_one (ps_ret (pe_ix ix_tup (pe_ix ix_list (pe_fld (pv 0) rfl) (pe_op op_sub (pv 1) pe_int) (fun _ _ => rfl)) pe_int (fun _ _ => rfl)))), ?_⟩
    refine ⟨_, rfl, _, _, rfl, rfl, _, rfl, i2 (fun c => ?_) (fun c => ?_)⟩
    · have c := of_decide_eq_true c
      refine ⟨_, rfl, h.S, g.cSh, h.dx, _, _, rfl, hS.s, T.c_cSh, T.n_cSh_names, rfl, h.tn, _, rfl, .inr (.inl (.inr ⟨_, hS.n⟩)), ?_⟩
      refine qi ?_ k
      rw [List.length_map, pl_small (by omega)]
    · have c := of_decide_eq_false c
      obtain ⟨bs, b, d, hl, ha, hd, hb⟩ := hS.at_ (x := x) (by omega) hx
      refine ⟨_, rfl, h.S, g.cSh, h.dx, _, _, rfl, hS.s, T.c_cSh, T.n_cSh_nodes, rfl, _, rfl, _, _, rfl, rfl, h.ln, _, _, _, rfl, rfl, SqL.of hl, ha, b, _, _, _, rfl, rfl, SqT.of hb, atI_nat (j := 0) rfl, ?_⟩
      refine qi ?_ k
      have := pl_at (nn := h.nm.length) hd
      rw [show x - 2 + 2 = x by omega] at this
      rw [this]
theorem scMade : FnScope ["self", "place", "low", "high", "key"] ["self", "place", "low", "high"] (defScope sMade) := ⟨rfl, rfl, rfl, by decide +kernel, rfl, by decide +kernel, by decide +kernel⟩
theorem ok_made (T : Txt K mg g f) : Good P w K mg base 1 f.made ["self", "place", "low", "high"] (spMade g) := by
  refine T.d_made.ok scMade (fun vs H Q E h => ?_) (fun cdv A outer s H vs Q E hr h => ?_)
  · obtain ⟨h, ns, d, rfl, _⟩ := h
    rfl
  · obtain ⟨h, ns, d, rfl, hS, hm, k⟩ := h
    obtain ⟨k1, m1⟩ := T.v_MOST_NODES
    have hu := hu_of hr
    refine ⟨_, pss_cons (ps_if (pt_cmpR op_eq (pv 2) (pv 3) (nomark _)) (pss_one (ps_ret (pv 2))) pss_nil)
      (pss_cons (ps_set (i := 4) scMade.nd rfl (Or.inl rfl) (pe_tup (pa_cons (pv 1) (pa_cons (pv 2) (pa_cons (pv 3) pa_nil)))))
      (pss_cons (ps_if (pt_cmp (pc_dnotin hu (pv 4) (pe_fld (pv 0) rfl)))
        (pss_cons (ps_if (pt_cmpR op_eq (pe_callB call_len_seq (by rfl) T.b_len PySem.boot_len (pa_cons (pe_fld (pv 0) rfl) pa_nil)) (pe_gint m1) (nomark _)) (pss_one ps_never) pss_nil)
        (pss_cons (ps_expr (pe_bm PySem.F.plainAttrs_list PySem.F.slot_list_append PySem.F.type_list_append mt_append (pe_fld (pv 0) rfl) (pa_cons (pv 4) pa_nil)))
        (pss_one (ps_dput hu (pe_fld (pv 0) rfl) (pv 4) (pe_op op_add (pe_callB call_len_seq (by rfl) T.b_len PySem.boot_len (pa_cons (pe_fld (pv 0) rfl) pa_nil)) pe_int) rfl)))) pss_nil)
      (pss_one (ps_ret (pe_dget hu (pe_fld (pv 0) rfl) (pv 4) (fun _ _ => rfl)))))), ?_⟩
    refine ⟨_, rfl, _, rfl, rfl, _, rfl, i2 (fun c => ?_) (fun c => ?_)⟩
    · have c : V.int d.lo = V.int d.hi := of_decide_eq_true c
      have e : d.lo = d.hi := by injection c with c; omega
      refine ⟨_, rfl, ?_⟩
      simp only [mk, if_pos e] at k
      exact k H But.refl hS
    · have c : ¬ V.int d.lo = V.int d.hi := of_decide_eq_false c
      have e : ¬ d.lo = d.hi := fun e => c (by rw [e])
      refine ⟨_, rfl, _, rfl, _, rfl, by show 3 ≤ sizeLine; decide, fun q hq => ?_⟩
      have s1 : Same H (upd H q (.tup [V.int d.p, V.int d.lo, V.int d.hi])) := same_new hq
      have hS1 := hS.same s1
      have hq1 : (upd H q (.tup [V.int d.p, V.int d.lo, V.int d.hi])) q = some (.tup ((ndKey d).map kV)) := upd_same
      refine ⟨_, rfl, _, rfl, h.S, g.cSh, h.dx, _, _, rfl, hS1.s, T.c_cSh, T.n_cSh_numbers, rfl, h.dn, _, rfl, DGet.t (k := ndKey d) hS1.d hq1, _, rfl, ?_⟩
      have hv : valV (numFrom 0 ns) (ndKey d) = (idx ns d).map fun j => V.int ((0 + j + 2 : Nat) : Int) := num_val d ns 0
      have hg0 := DGet.t (k := ndKey d) hS1.d hq1
      rw [hv] at hg0 ⊢
      generalize hH1 : upd H q (.tup [V.int d.p, V.int d.lo, V.int d.hi]) = H1 at s1 hS1 hq1 hg0 ⊢
      cases hi : idx ns d with
      | some i =>
        rw [hi] at hg0
        refine iteB rfl ⟨_, rfl, h.S, g.cSh, h.dx, _, _, rfl, hS1.s, T.c_cSh, T.n_cSh_numbers, rfl, _, rfl, h.dn, _, rfl, hg0, ?_⟩
        simp only [mk, if_neg e, hi] at k
        refine qi ?_ (k H1 (.of_same s1) hS1)
        omega
      | none =>
        simp only [mk, if_neg e, hi, List.length_append, List.length_singleton] at hm k
        obtain ⟨bs, hl, hbs⟩ := hS1.l
        have hbl : (bs.map V.ref).length = ns.length := by rw [List.length_map]; exact hbs.len
        have nSl : h.S ≠ h.ln := ne_of hS1.s hl (by intro z; cases z)
        have nSd : h.S ≠ h.dn := ne_of hS1.s hS1.d (by intro z; cases z)
        have ntl : h.tn ≠ h.ln := ne_of hS1.n hl (by intro z; cases z)
        have ntd : h.tn ≠ h.dn := ne_of hS1.n hS1.d (by intro z; cases z)
        have nld : h.ln ≠ h.dn := ne_of hl hS1.d (by intro z; cases z)
        have nql : q ≠ h.ln := ne_of hq1 hl (by intro z; cases z)
        have nqd : q ≠ h.dn := ne_of hq1 hS1.d (by intro z; cases z)
        refine iteA rfl ⟨_, rfl, h.S, g.cSh, h.dx, _, _, rfl, hS1.s, T.c_cSh, T.n_cSh_nodes, rfl, h.ln, _, rfl, .inl (SqL.of hl), rfl, _, rfl, iteB (dF fun z => ?_) ?_⟩
        · injection z with z
          omega
        refine ⟨_, rfl, h.S, g.cSh, h.dx, _, _, rfl, hS1.s, T.c_cSh, T.n_cSh_nodes, rfl, .inl ⟨rfl, _, SqL.of hl⟩, _, rfl, h.ln, _, _, rfl, rfl, hl, szl (by omega), ?_⟩
        have a1 : ∀ {b : Addr} {o : HO} {u : HO}, b ≠ h.ln → H1 b = some o → (upd H1 h.ln u) b = some o := fun n e => by rw [upd_ne n]; exact e
        have a2 : ∀ {b : Addr} {o : HO} {u v : HO}, b ≠ h.ln → b ≠ h.dn → H1 b = some o → (upd (upd H1 h.ln u) h.dn v) b = some o := fun n m e => by rw [upd_ne m, upd_ne n]; exact e
        refine ⟨_, rfl, h.S, g.cSh, h.dx, _, _, rfl, a1 nSl hS1.s, T.c_cSh, T.n_cSh_nodes, rfl, h.ln, _, rfl, .inl (SqL.of upd_same), _, _, rfl, rfl,
          _, rfl, h.S, g.cSh, h.dx, _, _, rfl, a1 nSl hS1.s, T.c_cSh, T.n_cSh_numbers, rfl, _, rfl, h.dn, _, rfl, DPut.t (k := ndKey d) (a1 nld.symm hS1.d) (a1 nql hq1) (szl (by rw [num_len]; omega)), ?_⟩
        refine ⟨_, rfl, h.S, g.cSh, h.dx, _, _, rfl, a2 nSl nSd hS1.s, T.c_cSh, T.n_cSh_numbers, rfl, _, rfl, h.dn, V.int ((ns.length + 2 : Nat) : Int), rfl, ?_, ?_⟩
        · have hg := DGet.t (k := ndKey d) (upd_same (H := upd H1 h.ln (.lst (bs.map V.ref ++ [.ref q]))) (a := h.dn) (o := .dT (putK (numFrom 0 ns) (ndKey d) (.int (((bs.map V.ref ++ [V.ref q]).length : Nat) + 1))))) (a2 nql nqd hq1)
          rw [valV_put, if_pos rfl] at hg
          have z : ((bs.map V.ref ++ [V.ref q]).length : Nat) + (1 : Int) = ((ns.length + 2 : Nat) : Int) := by
            rw [List.length_append, hbl, List.length_singleton]; omega
          rw [z] at hg
          dsimp only
          rw [z]
          exact hg
        · have z : ((bs.map V.ref ++ [V.ref q]).length : Nat) + (1 : Int) = ((ns.length + 2 : Nat) : Int) := by
            rw [List.length_append, hbl, List.length_singleton]; omega
          have hn : putK (numFrom 0 ns) (ndKey d) (V.int ((ns.length + 2 : Nat) : Int)) = numFrom 0 (ns ++ [d]) := by
            rw [putK_new _ (by rw [hv, hi]; rfl), num_app]
            rw [Nat.zero_add]
          have kp : Keeps H1 (upd (upd H1 h.ln (.lst (bs.map V.ref ++ [V.ref q]))) h.dn (.dT (numFrom 0 (ns ++ [d])))) := fun b o fx e => by
            have n1 : b ≠ h.dn := fun y => by rw [y, hS1.d] at e; cases e; exact fx
            have n2 : b ≠ h.ln := fun y => by rw [y, hl] at e; cases e; exact fx
            rw [upd_ne n1, upd_ne n2]
            exact e
          dsimp only
          rw [z, hn]
          refine k _ (fun b o n e => ?_) ⟨a2 nSl nSd hS1.s, a2 ntl ntd hS1.n, hS1.od, ⟨bs ++ [q], ?_, (hbs.mono kp).snoc (kp _ _ trivial hq1)⟩, upd_same⟩
          · have n1 : b ≠ h.ln := fun y => n (by rw [y]; exact List.mem_cons_self)
            have n2 : b ≠ h.dn := fun y => n (by rw [y]; exact List.mem_cons_of_mem _ List.mem_cons_self)
            exact a2 n1 n2 (s1 b o e)
          · rw [upd_ne nld, upd_same, List.map_append]
            rfl
theorem scBelow : FnScope ["self", "node", "place"] ["self", "node", "place"] (defScope sBelow) := ⟨rfl, rfl, rfl, by decide +kernel, rfl, by decide +kernel, by decide +kernel⟩
theorem ok_below (T : Txt K mg g f) : Good P w K mg base 2 f.below ["self", "node", "place"] (spBelow g) := by
  have GP := ok_place (P := P) (w := w) (base := base) T
  refine T.d_below.ok scBelow (fun vs H Q E h => ?_) (fun cdv A outer s H vs Q E hr h => ?_)
  · obtain ⟨h, ns, x, p, rfl, _⟩ := h
    rfl
  · obtain ⟨h, ns, x, p, rfl, hS, hx, hp, k⟩ := h
    refine ⟨_, pss_cons (ps_if (pt_cmpR op_gt (pe_me GP hr (by decide) T.c_cSh T.t_cSh_place (pv 0) (pa_cons (pv 1) pa_nil)) (pv 2) (nomark _)) (pss_one (ps_ret (pe_tup (pa_cons (pv 1) (pa_cons (pv 1) pa_nil))))) pss_nil)
      (pss_one (ps_ret (pe_slice sl_tup (pe_ix ix_list (pe_fld (pv 0) rfl) (pe_op op_sub (pv 1) pe_int) (fun _ _ => rfl)) (po_some pe_int) po_none))), ?_⟩
    refine ⟨_, rfl, h.S, h.dx, _, rfl, hS.s, rfl, _, rfl, h, ns, x, rfl, hS, hx, _, rfl, _, _, rfl, rfl, _, rfl, i2 (fun c => ?_) (fun c => ?_)⟩
    · have c : (p : Int) < (pl h.nm.length ns x : Int) := of_decide_eq_true c
      refine ⟨_, rfl, _, rfl, by show 2 ≤ sizeLine; decide, fun q hq => k q _ (same_new hq) ?_⟩
      rw [upd_same]
      simp only [bel, if_pos (show p < pl h.nm.length ns x by omega)]
    · have c : ¬ (p : Int) < (pl h.nm.length ns x : Int) := of_decide_eq_false c
      have x2 : 2 ≤ x := by
        apply Classical.byContradiction
        intro z
        rw [pl_small (show x < 2 by omega)] at c
        omega
      obtain ⟨bs, b, d, hl, ha, hd, hb⟩ := hS.at_ (x := x) x2 hx
      refine ⟨_, rfl, h.S, g.cSh, h.dx, _, _, rfl, hS.s, T.c_cSh, T.n_cSh_nodes, rfl, _, rfl, _, _, rfl, rfl, h.ln, _, _, _, rfl, rfl, SqL.of hl, ha, 1, rfl, b, _, rfl, SqT.of hb, ?_, fun q hq => k q _ (same_new hq) ?_⟩
      · exact (show ¬ (HT.sIx 3 0 (some 1) = 0 ∧ HT.sIx 3 3 none = 3) by decide)
      · rw [upd_same]
        simp only [bel, if_neg (show ¬ p < pl h.nm.length ns x by omega), hd]
        rfl
theorem scNeed : FnScope ["self", "node"] ["self", "node"] (defScope sNeed) := ⟨rfl, rfl, rfl, by decide +kernel, rfl, by decide +kernel, by decide +kernel⟩
theorem ok_need (T : Txt K mg g f) : Good P w K mg base 1 f.need ["self", "node"] (spNeed g) := by
  refine T.d_need.ok scNeed (fun vs H Q E h => ?_) (fun cdv A outer s H vs Q E hr h => ?_)
  · obtain ⟨h, ns, x, rfl, _⟩ := h
    rfl
  · obtain ⟨h, ns, x, rfl, hS, hx, k⟩ := h
    refine ⟨_, pss_cons (ps_if (PW.pt (pw_or (pt_not (pt_val (pe_callB call_isi (by rfl) T.b_isinstance (by decide +kernel) (pa_cons (pv 1) (pa_cons (pe_gty (n := "int") T.b_int (by decide +kernel)) pa_nil)))))
        (pw_or (pt_val (pe_callB call_isi (by rfl) T.b_isinstance (by decide +kernel) (pa_cons (pv 1) (pa_cons (pe_gty (n := "bool") T.b_bool (by decide +kernel)) pa_nil))))
        (pw_or1 (pt_not (pt_chain op_le op_lt pe_int (pv 1) (pe_op op_add (pe_callB call_len_seq (by rfl) T.b_len PySem.boot_len (pa_cons (pe_fld (pv 0) rfl) pa_nil)) pe_int))))))) (pss_one ps_never) pss_nil)
      (pss_one (ps_ret (pv 1))), ?_⟩
    refine ⟨_, rfl, _, _, _, _, true, rfl, .ty "int", .base (.int x), kit_ty (by decide +kernel), _, rfl, ?_⟩
    refine iteB rfl ⟨_, rfl, _, _, _, _, false, rfl, .ty "bool", .base (.int x), kit_ty (by decide +kernel), _, rfl, ?_⟩
    refine iteB rfl ?_
    obtain ⟨bs, hl, hlen⟩ := hS.len
    refine ⟨_, rfl, _, _, rfl, rfl, _, rfl, iteA (dT (by omega)) ⟨_, rfl, h.S, g.cSh, h.dx, _, _, rfl, hS.s, T.c_cSh, T.n_cSh_nodes, rfl, h.ln, _, rfl, .inl (SqL.of hl), _, _, rfl, rfl, _, _, rfl, rfl, _, rfl, ?_⟩⟩
    rw [decide_eq_true (show (x : Int) < (((bs.map V.ref).length : Nat) : Int) + 2 by rw [hlen]; omega)]
    exact iteF ⟨_, rfl, k⟩
theorem scShown : FnScope ["self", "node"] ["self", "node"] (defScope sShown) := ⟨rfl, rfl, rfl, by decide +kernel, rfl, by decide +kernel, by decide +kernel⟩
theorem ok_shown (T : Txt K mg g f) : Good P w K mg base 2 f.shown ["self", "node"] (spShown g) := by
  have GN := ok_need (P := P) (w := w) (base := base) T
  refine T.d_shown.ok scShown (fun vs H Q E h => ?_) (fun cdv A outer s H vs Q E hr h => ?_)
  · obtain ⟨h, ns, x, rfl, _⟩ := h
    rfl
  · obtain ⟨h, ns, x, rfl, hS, hx, k⟩ := h
    refine ⟨_, pss_cons (ps_if (pt_cmpR op_lt (pe_me GN hr (by decide) T.c_cSh T.t_cSh_need (pv 0) (pa_cons (pv 1) pa_nil)) pe_int (nomark _)) (pss_one (ps_ret (pe_tup pa_nil))) pss_nil)
      (pss_one (ps_ret (pe_ix ix_list (pe_fld (pv 0) rfl) (pe_op op_sub (pv 1) pe_int) (fun _ _ => rfl)))), ?_⟩
    refine ⟨_, rfl, h.S, h.dx, _, rfl, hS.s, rfl, _, rfl, h, ns, x, rfl, hS, hx, _, _, rfl, rfl, _, rfl, i2 (fun c => ?_) (fun c => ?_)⟩
    · have c : (x : Int) < 2 := of_decide_eq_true c
      refine ⟨Nat.zero_le _, fun q hq => k q _ (same_new hq) ?_⟩
      rw [upd_same]
      simp only [shV, if_pos (show x < 2 by omega)]
    · have c : ¬ (x : Int) < 2 := of_decide_eq_false c
      obtain ⟨bs, b, d, hl, ha, hd, hb⟩ := hS.at_ (x := x) (by omega) hx
      refine ⟨_, rfl, h.S, g.cSh, h.dx, _, _, rfl, hS.s, T.c_cSh, T.n_cSh_nodes, rfl, _, rfl, _, _, rfl, rfl, h.ln, _, _, _, rfl, rfl, SqL.of hl, ha, k b _ (Same.refl _) ?_⟩
      rw [hb]
      simp only [shV, if_neg (show ¬ x < 2 by omega), hd]
end
end RW
/-! The sheet: joined, opposite. -/
namespace RW
open PySem L2 PySem.Spec PyProof.Rows
section
variable {κ κ' : Type} [DecidableEq κ] [DecidableEq κ']
def knK (c : κ → κ') (kn : List (κ × Nat)) : List (κ' × V) := kn.map fun e => (c e.1, V.int (e.2 : Int))
theorem knK_any {c : κ → κ'} (hc : ∀ a b, c a = c b → a = b) (k : κ) : ∀ kn : List (κ × Nat), ((knK c kn).any fun kv => decide (kv.1 = c k)) = kn.any fun kv => decide (kv.1 = k)
  | [] => rfl
  | a :: r => by
    show (decide (c a.1 = c k) || ((knK c r).any fun kv => decide (kv.1 = c k))) = (decide (a.1 = k) || r.any fun kv => decide (kv.1 = k))
    rw [knK_any hc k r]
    by_cases h : a.1 = k
    · rw [decide_eq_true h, decide_eq_true (show c a.1 = c k by rw [h])]
    · rw [decide_eq_false h, decide_eq_false (fun e => h (hc _ _ e))]
theorem knK_val {c : κ → κ'} (hc : ∀ a b, c a = c b → a = b) (k : κ) : ∀ kn : List (κ × Nat), valV (knK c kn) (c k) = (look kn k).map fun r => V.int (r : Int)
  | [] => rfl
  | a :: r => by
    rw [look_cons]
    by_cases h : a.1 = k
    · rw [if_pos h]
      exact valV_pos (p := (c a.1, V.int (a.2 : Int))) (show c a.1 = c k by rw [h])
    · rw [if_neg h, ← knK_val hc k r]
      exact valV_neg (p := (c a.1, V.int (a.2 : Int))) (fun e => h (hc _ _ e))
theorem knK_put {c : κ → κ'} (hc : ∀ a b, c a = c b → a = b) (kn : List (κ × Nat)) (k : κ) (r : Nat) : putK (knK c kn) (c k) (V.int (r : Int)) = knK c (put kn k r) := by
  unfold putK put
  rw [knK_any hc]
  by_cases h : (kn.any fun kv => decide (kv.1 = k)) = true
  · rw [if_pos h, if_pos h]
    unfold knK
    rw [List.map_map, List.map_map]
    refine List.map_congr_left fun e _ => ?_
    show (if c e.1 = c k then (c e.1, V.int (r : Int)) else (c e.1, V.int (e.2 : Int))) = (c (if e.1 = k then (e.1, r) else e).1, V.int (((if e.1 = k then (e.1, r) else e).2 : Nat) : Int))
    by_cases h : e.1 = k
    · rw [if_pos h, if_pos (show c e.1 = c k by rw [h])]
    · rw [if_neg h, if_neg (fun z => h (hc _ _ z))]
  · rw [if_neg h, if_neg h]
    unfold knK
    rw [List.map_append]
    rfl
theorem knK_len (c : κ → κ') (kn : List (κ × Nat)) : (knK c kn).length = kn.length := by unfold knK; rw [List.length_map]
theorem put_len (kn : List (κ × Nat)) (k : κ) (r : Nat) : (put kn k r).length ≤ kn.length + 1 := by
  unfold put
  split
  · rw [List.length_map]; omega
  · rw [List.length_append]; exact Nat.le_refl _
end
def c2 (p : Nat × Nat) : List Key := [.inl p.1, .inl p.2]
def c1 (p : Nat) : Key := .inl p
theorem c2_inj (a b : Nat × Nat) (h : c2 a = c2 b) : a = b := by
  obtain ⟨x, y⟩ := a
  obtain ⟨u, v⟩ := b
  simp only [c2, List.cons.injEq, Sum.inl.injEq, Int.ofNat_inj, and_true] at h
  obtain ⟨h1, h2⟩ := h
  subst h1 h2
  rfl
theorem c1_inj (a b : Nat) (h : c1 a = c1 b) : a = b := Int.ofNat_inj.mp (Sum.inl.inj h)
theorem jn_kn {nn s : Nat} : ∀ (f : Nat) (ns : List Nd) (kn : Kn2) (a b : Nat), (jn nn s f ns kn a b).2.2.length + 1 ≤ kn.length + 2 ^ f
  | 0, ns, kn, a, b => Nat.le_refl _
  | f + 1, ns, kn, a, b => by
    have hp := Nat.pow_pos (n := f) (show 0 < 2 by decide)
    have e : 2 ^ (f + 1) = 2 ^ f * 2 := Nat.pow_succ 2 f
    by_cases c1 : a = s ∨ b = s
    · simp only [jn, if_pos c1]; omega
    · by_cases c2 : a = 1 - s ∨ a = b
      · simp only [jn, if_neg c1, if_pos c2]; omega
      · by_cases c3 : b = 1 - s
        · simp only [jn, if_neg c1, if_neg c2, if_pos c3]; omega
        · cases hl : look kn (a, b) with
          | some r => simp only [jn, if_neg c1, if_neg c2, if_neg c3, hl]; omega
          | none =>
            simp only [jn, if_neg c1, if_neg c2, if_neg c3, hl]
            have h1 := jn_kn (nn := nn) (s := s) f ns kn (bel nn ns a (min (pl nn ns a) (pl nn ns b))).1 (bel nn ns b (min (pl nn ns a) (pl nn ns b))).1
            generalize jn nn s f ns kn (bel nn ns a (min (pl nn ns a) (pl nn ns b))).1 (bel nn ns b (min (pl nn ns a) (pl nn ns b))).1 = x at h1 ⊢
            have h2 := jn_kn (nn := nn) (s := s) f x.2.1 x.2.2 (bel nn ns a (min (pl nn ns a) (pl nn ns b))).2 (bel nn ns b (min (pl nn ns a) (pl nn ns b))).2
            generalize jn nn s f x.2.1 x.2.2 (bel nn ns a (min (pl nn ns a) (pl nn ns b))).2 (bel nn ns b (min (pl nn ns a) (pl nn ns b))).2 = y at h2 ⊢
            have h3 := put_len y.2.2 (a, b) (mk y.2.1 ⟨min (pl nn ns a) (pl nn ns b), x.1, y.1⟩).1
            omega
theorem opn_kn : ∀ (f : Nat) (ns : List Nd) (kn : Kn1) (a : Nat), (opn f ns kn a).2.2.length + 1 ≤ kn.length + 2 ^ f
  | 0, ns, kn, a => Nat.le_refl _
  | f + 1, ns, kn, a => by
    have hp := Nat.pow_pos (n := f) (show 0 < 2 by decide)
    have e : 2 ^ (f + 1) = 2 ^ f * 2 := Nat.pow_succ 2 f
    by_cases c1 : a < 2
    · simp only [opn, if_pos c1]; omega
    · cases hl : look kn a with
      | some r => simp only [opn, if_neg c1, hl]; omega
      | none =>
        cases hd : ns[a - 2]? with
        | none => simp only [opn, if_neg c1, hl, hd]; omega
        | some d =>
          simp only [opn, if_neg c1, hl, hd]
          have h1 := opn_kn f ns kn d.lo
          generalize opn f ns kn d.lo = x at h1 ⊢
          have h2 := opn_kn f x.2.1 x.2.2 d.hi
          generalize opn f x.2.1 x.2.2 d.hi = y at h2 ⊢
          have h3 := put_len y.2.2 a (mk y.2.1 ⟨d.p, x.1, y.1⟩).1
          omega
def spJoin (g : At) (n : Nat) : Sp := fun vs H Q _ => ∃ (h : Sh) (ns : List Nd) (kn : Kn2) (a b s : Nat) (kd : Addr), vs = [.ref h.S, .int a, .int b, .int s, .ref kd] ∧ ShAt g H h ns ∧ H kd = some (.dT (knK c2 kn)) ∧ kd ≠ h.dn ∧
  WF h.nm.length ns ∧ KOK h.nm.length s ns kn ∧ s < 2 ∧ a < ns.length + 2 ∧ b < ns.length + 2 ∧ h.nm.length < n + min (pl h.nm.length ns a) (pl h.nm.length ns b) ∧ kn.length + 2 ^ n ≤ 1000 ∧ (jn h.nm.length s n ns kn a b).2.1.length ≤ 2000 ∧
  ∀ H', But [h.ln, h.dn, kd] H H' → ShAt g H' h (jn h.nm.length s n ns kn a b).2.1 → H' kd = some (.dT (knK c2 (jn h.nm.length s n ns kn a b).2.2)) → Q (.int (jn h.nm.length s n ns kn a b).1) H'
/-- what the three lists hold never stands among what never changes -/
theorem ex3 {g : At} {H : Hp} {h : Sh} {ns : List Nd} {kd : Addr} {kvs : List (List Key × V)} (hS : ShAt g H h ns) (hk : H kd = some (.dT kvs)) : ∀ b ∈ [h.ln, h.dn, kd], ∀ o, H b = some o → ¬ Fix o := by
  intro b hb o ho
  rcases List.mem_cons.mp hb with e | hb
  · exact hS.ex b (by rw [e]; exact List.mem_cons_self) o ho
  · rcases List.mem_cons.mp hb with e | hb
    · exact hS.ex b (by rw [e]; exact List.mem_cons_of_mem _ List.mem_cons_self) o ho
    · rw [List.mem_singleton] at hb
      subst hb
      rw [hk] at ho
      cases ho
      exact id
theorem mk_ext (ns : List Nd) (d : Nd) : ∃ more, (mk ns d).2 = ns ++ more := by
  unfold mk
  split
  · exact ⟨[], by simp⟩
  · split
    · exact ⟨[], by simp⟩
    · exact ⟨_, rfl⟩
section
variable {P : Program} {w : World} {K : PySem.W.Frag} {mg : Str → Option Value} {base : Heap} {g : At} {f : Fa}
theorem scJoin : FnScope ["self", "one", "other", "stop", "known", "place", "here", "there", "low"] ["self", "one", "other", "stop", "known"] (defScope sJoin) := ⟨rfl, rfl, rfl, by decide +kernel, rfl, by decide +kernel, by decide +kernel⟩
theorem ok_join (T : Txt K mg g f) : ∀ n, Good P w K mg base (n + 3) f.join ["self", "one", "other", "stop", "known"] (spJoin g n)
  | 0 => T.d_join.never fun vs H Q E ⟨h, ns, kn, a, b, s, kd, _, _, _, _, wf, _, _, _, _, hn, _⟩ => by have := wf.pl_le a; omega
  | n + 1 => by
    have GJ := ok_join T n
    have GP := ok_place (P := P) (w := w) (base := base) T
    have GB := ok_below (P := P) (w := w) (base := base) T
    have GM := ok_made (P := P) (w := w) (base := base) T
    refine T.d_join.ok scJoin (fun vs H Q E h => ?_) (fun cdv A outer s H vs Q E hr h => ?_)
    · obtain ⟨h, ns, kn, a, b, s, kd, rfl, _⟩ := h
      rfl
    · obtain ⟨h, ns, kn, a, b, st, kd, rfl, hS, hkd, nkd, wf, kok, hs, ha, hb, hfuel, hkl, hsz, k⟩ := h
      have hu := hu_of hr
      refine ⟨_, pss_cons (ps_if (PW.pt (pw_or (pt_cmpR op_eq (pv 1) (pv 3) (nomark _)) (pw_or1 (pt_cmpR op_eq (pv 2) (pv 3) (nomark _))))) (pss_one (ps_ret (pv 3))) pss_nil)
        (pss_cons (ps_if (PW.pt (pw_or (pt_cmpR op_eq (pv 1) (pe_op op_sub pe_int (pv 3)) (nomark _)) (pw_or1 (pt_cmpR op_eq (pv 1) (pv 2) (nomark _))))) (pss_one (ps_ret (pv 2))) pss_nil)
        (pss_cons (ps_if (pt_cmpR op_eq (pv 2) (pe_op op_sub pe_int (pv 3)) (nomark _)) (pss_one (ps_ret (pv 1))) pss_nil)
        (pss_cons (ps_if (pt_cmp (pc_dnotin hu (pe_tup (pa_cons (pv 1) (pa_cons (pv 2) pa_nil))) (pv 4)))
          (pss_cons (ps_set (i := 5) scJoin.nd rfl (Or.inl rfl) (pe_callB (call_min2 rfl) (by rfl) T.b_min (by decide +kernel) (pa_cons (pe_me GP hr (by omega) T.c_cSh T.t_cSh_place (pv 0) (pa_cons (pv 1) pa_nil)) (pa_cons (pe_me GP hr (by omega) T.c_cSh T.t_cSh_place (pv 0) (pa_cons (pv 2) pa_nil)) pa_nil))))
          (pss_cons (ps_set (i := 6) scJoin.nd rfl (Or.inl rfl) (pe_me GB hr (by omega) T.c_cSh T.t_cSh_below (pv 0) (pa_cons (pv 1) (pa_cons (pv 5) pa_nil))))
          (pss_cons (ps_set (i := 7) scJoin.nd rfl (Or.inl rfl) (pe_me GB hr (by omega) T.c_cSh T.t_cSh_below (pv 0) (pa_cons (pv 2) (pa_cons (pv 5) pa_nil))))
          (pss_cons (ps_set (i := 8) scJoin.nd rfl (Or.inl rfl) (pe_me GJ hr (by omega) T.c_cSh T.t_cSh_joined (pv 0) (pa_cons (pe_ix ix_tup (pv 6) pe_int (fun _ _ => rfl)) (pa_cons (pe_ix ix_tup (pv 7) pe_int (fun _ _ => rfl)) (pa_cons (pv 3) (pa_cons (pv 4) pa_nil))))))
          (pss_one (ps_dput hu (pv 4) (pe_tup (pa_cons (pv 1) (pa_cons (pv 2) pa_nil))) (pe_me GM hr (by omega) T.c_cSh T.t_cSh_made (pv 0) (pa_cons (pv 5) (pa_cons (pv 8)
            (pa_cons (pe_me GJ hr (by omega) T.c_cSh T.t_cSh_joined (pv 0) (pa_cons (pe_ix ix_tup (pv 6) pe_int (fun _ _ => rfl)) (pa_cons (pe_ix ix_tup (pv 7) pe_int (fun _ _ => rfl)) (pa_cons (pv 3) (pa_cons (pv 4) pa_nil))))) pa_nil)))) rfl)))))) pss_nil)
        (pss_one (ps_ret (pe_dget hu (pv 4) (pe_tup (pa_cons (pv 1) (pa_cons (pv 2) pa_nil))) (fun _ _ => rfl))))))), ?_⟩
      have one : ∀ {x y : Nat}, decide (V.int (x : Int) = V.int (y : Int)) = decide (x = y) := fun {x y} => by
        by_cases e : x = y
        · rw [e, decide_eq_true rfl, decide_eq_true rfl]
        · rw [decide_eq_false e, decide_eq_false fun z => e (by injection z with z; omega)]
      have sub1 : ∀ {x : Nat}, decide (V.int (x : Int) = V.int ((1 : Int) - (st : Int))) = decide (x = 1 - st) := fun {x} => by
        rw [show (1 : Int) - (st : Int) = ((1 - st : Nat) : Int) by omega]
        exact one
      refine ⟨_, rfl, _, rfl, rfl, _, rfl, ?_⟩
      by_cases e1 : a = st
      · have J : jn h.nm.length st (n + 1) ns kn a b = (st, ns, kn) := by simp only [jn, if_pos (Or.inl e1 : a = st ∨ b = st)]
        rw [J] at k
        exact iteA (one.trans (dT e1)) (iteT ⟨_, rfl, k H But.refl hS hkd⟩)
      refine iteB (one.trans (dF e1)) ⟨_, rfl, _, rfl, rfl, _, rfl, ?_⟩
      by_cases e2 : b = st
      · have J : jn h.nm.length st (n + 1) ns kn a b = (st, ns, kn) := by simp only [jn, if_pos (Or.inr e2 : a = st ∨ b = st)]
        rw [J] at k
        exact iteA (one.trans (dT e2)) ⟨_, rfl, k H But.refl hS hkd⟩
      have c1 : ¬ (a = st ∨ b = st) := fun z => z.elim e1 e2
      refine iteB (one.trans (dF e2)) ⟨_, rfl, _, rfl, _, _, rfl, rfl, rfl, _, rfl, ?_⟩
      by_cases e3 : a = 1 - st
      · have J : jn h.nm.length st (n + 1) ns kn a b = (b, ns, kn) := by simp only [jn, if_neg c1, if_pos (Or.inl e3 : a = 1 - st ∨ a = b)]
        rw [J] at k
        exact iteA (sub1.trans (dT e3)) (iteT ⟨_, rfl, k H But.refl hS hkd⟩)
      refine iteB (sub1.trans (dF e3)) ⟨_, rfl, _, rfl, rfl, _, rfl, ?_⟩
      by_cases e4 : a = b
      · have J : jn h.nm.length st (n + 1) ns kn a b = (b, ns, kn) := by simp only [jn, if_neg c1, if_pos (Or.inr e4 : a = 1 - st ∨ a = b)]
        rw [J] at k
        exact iteA (one.trans (dT e4)) ⟨_, rfl, k H But.refl hS hkd⟩
      have c2' : ¬ (a = 1 - st ∨ a = b) := fun z => z.elim e3 e4
      refine iteB (one.trans (dF e4)) ⟨_, rfl, _, rfl, _, _, rfl, rfl, rfl, _, rfl, ?_⟩
      by_cases e5 : b = 1 - st
      · have J : jn h.nm.length st (n + 1) ns kn a b = (a, ns, kn) := by simp only [jn, if_neg c1, if_neg c2', if_pos e5]
        rw [J] at k
        exact iteA (sub1.trans (dT e5)) ⟨_, rfl, k H But.refl hS hkd⟩
      refine iteB (sub1.trans (dF e5)) ⟨_, rfl, _, rfl, by show 2 ≤ sizeLine; decide, fun q1 hq1 => ?_⟩
      have s1 : Same H (upd H q1 (.tup [V.int a, V.int b])) := same_new hq1
      have hq1' : (upd H q1 (.tup [V.int a, V.int b])) q1 = some (.tup ((c2 (a, b)).map kV)) := upd_same
      have hS1 := hS.same s1
      have hkd1 := s1 _ _ hkd
      generalize upd H q1 (.tup [V.int a, V.int b]) = H1 at s1 hq1' hS1 hkd1 ⊢
      refine ⟨_, rfl, kd, _, rfl, DGet.t (k := c2 (a, b)) hkd1 hq1', _, rfl, ?_⟩
      rw [knK_val c2_inj]
      have fin : ∀ (o5 o6 o7 o8 : Option V) (H2 : Hp) (kn2 : Kn2) (r : Nat), H2 kd = some (.dT (knK c2 kn2)) → look kn2 (a, b) = some r → ∀ Q2 : VK, (∀ H3, Same H2 H3 → Q2 (.int r) H3) →
          tDGet (tVar 4) (tTup (tCons (tVar 1) (tCons (tVar 2) tNil))) [some (.ref h.S), some (.int a), some (.int b), some (.int st), some (.ref kd), o5, o6, o7, o8] H2 Q2 := fun o5 o6 o7 o8 H2 kn2 r hk hl Q2 q => by
        refine ⟨_, rfl, _, rfl, _, rfl, by show 2 ≤ sizeLine; decide, fun q2 hq2 => ⟨kd, _, rfl, ?_, q _ (same_new hq2)⟩⟩
        have hg := DGet.t (k := c2 (a, b)) ((same_new (o := .tup [V.int a, V.int b]) hq2) _ _ hk) (upd_same (o := .tup [V.int a, V.int b]))
        rw [knK_val c2_inj, hl] at hg
        exact hg
      cases hl : look kn (a, b) with
      | some r =>
        have J : jn h.nm.length st (n + 1) ns kn a b = (r, ns, kn) := by simp only [jn, if_neg c1, if_neg c2', if_neg e5, hl]
        rw [J] at k
        exact iteB rfl (fin _ _ _ _ H1 kn r hkd1 hl _ fun H3 s3 => k H3 (.of_same (s1.trans s3)) (hS1.same s3) (s3 _ _ hkd1))
      | none =>
        refine iteA rfl ?_
        have a2 : 2 ≤ a := by omega
        have b2 : 2 ≤ b := by omega
        obtain ⟨_, _, epa, _, _, _, epn, _⟩ := wf.node a2 ha
        have hp : min (pl h.nm.length ns a) (pl h.nm.length ns b) < h.nm.length := by omega
        obtain ⟨A1, A2, A3, A4, _⟩ := bel_ok (p := min (pl h.nm.length ns a) (pl h.nm.length ns b)) wf a2 ha (by omega)
        obtain ⟨B1, B2, B3, B4, _⟩ := bel_ok (p := min (pl h.nm.length ns a) (pl h.nm.length ns b)) wf b2 hb (by omega)
        have X := jn_ok hs n ns kn _ _ wf kok A1 B1 (by omega)
        have XK := jn_kn (nn := h.nm.length) (s := st) n ns kn (bel h.nm.length ns a (min (pl h.nm.length ns a) (pl h.nm.length ns b))).1 (bel h.nm.length ns b (min (pl h.nm.length ns a) (pl h.nm.length ns b))).1
        have pw := Nat.pow_succ 2 n
        simp only [jn, if_neg c1, if_neg c2', if_neg e5, hl] at hsz k
        have hmin : (if ((pl h.nm.length ns b : Nat) : Int) < ((pl h.nm.length ns a : Nat) : Int) then ((pl h.nm.length ns b : Nat) : Int) else ((pl h.nm.length ns a : Nat) : Int)) = ((min (pl h.nm.length ns a) (pl h.nm.length ns b) : Nat) : Int) := by
          split <;> omega
        refine ⟨_, rfl, h.S, h.dx, _, rfl, hS1.s, rfl, _, rfl, h, ns, a, rfl, hS1, ha, _, rfl, h.S, h.dx, _, rfl, hS1.s, rfl, _, rfl, h, ns, b, rfl, hS1, hb, _, _, rfl, ?_⟩
        rw [hmin]
        generalize hpe : min (pl h.nm.length ns a) (pl h.nm.length ns b) = p at *
        refine ⟨_, rfl, h.S, h.dx, _, rfl, hS1.s, rfl, _, rfl, _, rfl, h, ns, a, p, rfl, hS1, ha, hp, fun ah H2 s2 hh2 => ?_⟩
        have hS2 := hS1.same s2
        refine ⟨_, rfl, h.S, h.dx, _, rfl, hS2.s, rfl, _, rfl, _, rfl, h, ns, b, p, rfl, hS2, hb, hp, fun bh H3 s3 ht3 => ?_⟩
        have hS3 := hS2.same s3
        have hh3 := s3 _ _ hh2
        have hk3 := s3 _ _ (s2 _ _ hkd1)
        -- what the whole makes is no more than at the end
        obtain ⟨m1, x1e⟩ := X.ext
        have YF : WF h.nm.length (jn h.nm.length st n ns kn (bel h.nm.length ns a p).1 (bel h.nm.length ns b p).1).2.1 := X.wf
        have A2' : (bel h.nm.length ns a p).2 < (jn h.nm.length st n ns kn (bel h.nm.length ns a p).1 (bel h.nm.length ns b p).1).2.1.length + 2 := by rw [x1e, List.length_append]; omega
        have B2' : (bel h.nm.length ns b p).2 < (jn h.nm.length st n ns kn (bel h.nm.length ns a p).1 (bel h.nm.length ns b p).1).2.1.length + 2 := by rw [x1e, List.length_append]; omega
        have F2 : h.nm.length < n + min (pl h.nm.length (jn h.nm.length st n ns kn (bel h.nm.length ns a p).1 (bel h.nm.length ns b p).1).2.1 (bel h.nm.length ns a p).2) (pl h.nm.length (jn h.nm.length st n ns kn (bel h.nm.length ns a p).1 (bel h.nm.length ns b p).1).2.1 (bel h.nm.length ns b p).2) := by
          rw [x1e, pl_ext A2, pl_ext B2]; omega
        have F1 : h.nm.length < n + min (pl h.nm.length ns (bel h.nm.length ns a p).1) (pl h.nm.length ns (bel h.nm.length ns b p).1) := by omega
        generalize hx : jn h.nm.length st n ns kn (bel h.nm.length ns a p).1 (bel h.nm.length ns b p).1 = x at X XK x1e YF A2' B2' F2 hsz k
        have Y := jn_ok hs n x.2.1 x.2.2 _ _ YF X.kn A2' B2' F2
        have YK := jn_kn (nn := h.nm.length) (s := st) n x.2.1 x.2.2 (bel h.nm.length ns a p).2 (bel h.nm.length ns b p).2
        obtain ⟨m2, y1e⟩ := Y.ext
        generalize hy : jn h.nm.length st n x.2.1 x.2.2 (bel h.nm.length ns a p).2 (bel h.nm.length ns b p).2 = y at Y YK y1e hsz k
        obtain ⟨m3, z1e⟩ := mk_ext y.2.1 ⟨p, x.1, y.1⟩
        have zx : x.2.1.length ≤ 2000 := by rw [z1e, y1e] at hsz; simp only [List.length_append] at hsz; omega
        have zy : y.2.1.length ≤ 2000 := by rw [z1e] at hsz; simp only [List.length_append] at hsz; omega
        refine ⟨_, rfl, h.S, h.dx, _, rfl, hS3.s, rfl, _, rfl, ah, _, _, _, rfl, rfl, SqT.of hh3, atI_nat (j := 0) rfl, _, rfl, bh, _, _, _, rfl, rfl, SqT.of ht3, atI_nat (j := 0) rfl, _, rfl, _, rfl,
          h, ns, kn, _, _, st, kd, rfl, hS3, hk3, nkd, wf, kok, hs, A1, B1, F1, by omega, by rw [hx]; exact zx, fun H4 b4 hS4 hk4 => ?_⟩
        rw [hx] at hS4 hk4
        rw [hx]
        have kp4 := b4.keeps (ex3 hS3 hk3)
        have hh4 := kp4 _ (.tup _) trivial hh3
        have ht4 := kp4 _ (.tup _) trivial ht3
        refine ⟨_, rfl, h.S, h.dx, _, rfl, hS4.s, rfl, _, rfl, _, rfl, _, rfl, h.S, h.dx, _, rfl, hS4.s, rfl, _, rfl, ah, _, _, _, rfl, rfl, SqT.of hh4, atI_nat (j := 1) rfl, _, rfl, bh, _, _, _, rfl, rfl, SqT.of ht4, atI_nat (j := 1) rfl, _, rfl, _, rfl,
          h, x.2.1, x.2.2, _, _, st, kd, rfl, hS4, hk4, nkd, YF, X.kn, hs, A2', B2', F2, by omega, by rw [hy]; exact zy, fun H5 b5 hS5 hk5 => ?_⟩
        rw [hy] at hS5 hk5
        rw [hy]
        refine ⟨h, y.2.1, ⟨p, x.1, y.1⟩, rfl, hS5, hsz, fun H6 b6 hS6 => ?_⟩
        have nkl : kd ≠ h.ln := by
          obtain ⟨bs, hl, _⟩ := hS5.l
          exact ne_of hk5 hl (by intro z; cases z)
        have hk6 : H6 kd = some (.dT (knK c2 y.2.2)) := b6 _ _ (by simp [nkl, nkd]) hk5
        refine ⟨_, rfl, _, rfl, _, rfl, by show 2 ≤ sizeLine; decide, fun q3 hq3 => ?_⟩
        have s7 : Same H6 (upd H6 q3 (.tup [V.int a, V.int b])) := same_new hq3
        have hq3' : (upd H6 q3 (.tup [V.int a, V.int b])) q3 = some (.tup ((c2 (a, b)).map kV)) := upd_same
        have hS7 := hS6.same s7
        have hk7 := s7 _ _ hk6
        generalize upd H6 q3 (.tup [V.int a, V.int b]) = H7 at s7 hq3' hS7 hk7 ⊢
        refine ⟨kd, _, rfl, DPut.t (k := c2 (a, b)) hk7 hq3' (by rw [knK_len]; exact szl (by omega)), ?_⟩
        generalize hm : mk y.2.1 ⟨p, x.1, y.1⟩ = m at hS6 hS7 k ⊢
        refine fin _ _ _ _ _ (put y.2.2 (a, b) m.1) m.1 (by rw [upd_same, knK_put c2_inj]) (by rw [look_put, if_pos rfl]) _ fun H9 s9 => ?_
        have b7 : But [kd] H7 (upd H7 kd (.dT (putK (knK c2 y.2.2) (c2 (a, b)) (.int m.1)))) := But.put List.mem_cons_self
        have hS8 := hS7.but b7 (fun c hc => by
          rw [List.mem_singleton] at hc
          subst hc
          refine ⟨ne_of hk7 hS7.s (by intro z; cases z), ne_of hk7 hS7.n (by intro z; cases z), nkl, nkd, fun o ho => ?_⟩
          rw [hk7] at ho
          cases ho
          exact id)
        have sub1 : ∀ c ∈ [h.ln, h.dn], c ∈ [h.ln, h.dn, kd] := fun c hc => by
          simp only [List.mem_cons, List.not_mem_nil, or_false] at hc ⊢
          rcases hc with z | z
          · exact .inl z
          · exact .inr (.inl z)
        have sub2 : ∀ c ∈ [kd], c ∈ [h.ln, h.dn, kd] := fun c hc => by
          rw [List.mem_singleton] at hc
          rw [hc]
          simp
        refine k H9 ?_ (hS8.same s9) (s9 _ _ (by rw [upd_same, knK_put c2_inj]))
        exact (((((((But.of_same s1).trans (.of_same s2)).trans (.of_same s3)).trans b4).trans b5).trans (b6.sub sub1)).trans (.of_same s7)).trans ((b7.sub sub2).trans (.of_same s9))
end
end RW
/-! The sheet: opposite, drawn, node, made. -/
namespace RW
open PySem L2 PySem.Spec PyProof.Rows
def spOpp (g : At) (n : Nat) : Sp := fun vs H Q _ => ∃ (h : Sh) (ns : List Nd) (kn : Kn1) (a : Nat) (kd : Addr), vs = [.ref h.S, .int a, .ref kd] ∧ ShAt g H h ns ∧ H kd = some (.dK (knK c1 kn)) ∧
  WF h.nm.length ns ∧ NOK1 h.nm.length ns kn ∧ a < ns.length + 2 ∧ h.nm.length < n + pl h.nm.length ns a ∧ kn.length + 2 ^ n ≤ 1000 ∧ (opn n ns kn a).2.1.length ≤ 2000 ∧
  ∀ H', But [h.ln, h.dn, kd] H H' → ShAt g H' h (opn n ns kn a).2.1 → H' kd = some (.dK (knK c1 (opn n ns kn a).2.2)) → Q (.int (opn n ns kn a).1) H'
theorem ex3k {g : At} {H : Hp} {h : Sh} {ns : List Nd} {kd : Addr} {kvs : List (Key × V)} (hS : ShAt g H h ns) (hk : H kd = some (.dK kvs)) : ∀ b ∈ [h.ln, h.dn, kd], ∀ o, H b = some o → ¬ Fix o := by
  intro b hb o ho
  rcases List.mem_cons.mp hb with e | hb
  · exact hS.ex b (by rw [e]; exact List.mem_cons_self) o ho
  · rcases List.mem_cons.mp hb with e | hb
    · exact hS.ex b (by rw [e]; exact List.mem_cons_of_mem _ List.mem_cons_self) o ho
    · rw [List.mem_singleton] at hb
      subst hb
      rw [hk] at ho
      cases ho
      exact id
section
variable {P : Program} {w : World} {K : PySem.W.Frag} {mg : Str → Option Value} {base : Heap} {g : At} {f : Fa}
theorem scOpp : FnScope ["self", "node", "known", "place", "low", "high"] ["self", "node", "known"] (defScope sOpp) := ⟨rfl, rfl, rfl, by decide +kernel, rfl, by decide +kernel, by decide +kernel⟩
theorem ok_opp (T : Txt K mg g f) : ∀ n, Good P w K mg base (n + 2) f.opp ["self", "node", "known"] (spOpp g n)
  | 0 => T.d_opp.never fun vs H Q E ⟨h, ns, kn, a, kd, _, _, _, wf, _, _, hn, _⟩ => by have := wf.pl_le a; omega
  | n + 1 => by
    have GO := ok_opp T n
    have GM := ok_made (P := P) (w := w) (base := base) T
    refine T.d_opp.ok scOpp (fun vs H Q E h => ?_) (fun cdv A outer s H vs Q E hr h => ?_)
    · obtain ⟨h, ns, kn, a, kd, rfl, _⟩ := h
      rfl
    · obtain ⟨h, ns, kn, a, kd, rfl, hS, hkd, wf, kok, ha, hfuel, hkl, hsz, k⟩ := h
      have hu := hu_of hr
      refine ⟨_, pss_cons (ps_if (pt_cmpR op_lt (pv 1) pe_int (nomark _)) (pss_one (ps_ret (pe_op op_sub pe_int (pv 1)))) pss_nil)
        (pss_cons (ps_if (pt_cmp (pc_dnotin hu (pv 1) (pv 2)))
          (pss_cons (ps_asg (pe_ix ix_list (pe_fld (pv 0) rfl) (pe_op op_sub (pv 1) pe_int) (fun _ _ => rfl)) (pg_tup rfl (pgs_cons (pg_name (i := 3) scOpp.nd rfl (Or.inl rfl)) (pgs_cons (pg_name (i := 4) scOpp.nd rfl (Or.inl rfl)) (pgs_cons (pg_name (i := 5) scOpp.nd rfl (Or.inl rfl)) pgs_nil)))))
          (pss_one (ps_dput hu (pv 2) (pv 1) (pe_me GM hr (by omega) T.c_cSh T.t_cSh_made (pv 0) (pa_cons (pv 3)
            (pa_cons (pe_me GO hr (by omega) T.c_cSh T.t_cSh_opposite (pv 0) (pa_cons (pv 4) (pa_cons (pv 2) pa_nil)))
            (pa_cons (pe_me GO hr (by omega) T.c_cSh T.t_cSh_opposite (pv 0) (pa_cons (pv 5) (pa_cons (pv 2) pa_nil))) pa_nil)))) rfl))) pss_nil)
        (pss_one (ps_ret (pe_dget hu (pv 2) (pv 1) (fun _ _ => rfl))))), ?_⟩
      refine ⟨_, rfl, _, _, rfl, rfl, _, rfl, ?_⟩
      by_cases e1 : a < 2
      · have J : opn (n + 1) ns kn a = (1 - a, ns, kn) := by simp only [opn, if_pos e1]
        rw [J] at k
        refine iteA (dT (by omega)) ⟨_, rfl, _, _, rfl, rfl, ?_⟩
        exact qi (by omega) (k H But.refl hS hkd)
      have a2 : 2 ≤ a := by omega
      refine iteB (dF (by omega)) ⟨_, rfl, _, rfl, kd, _, rfl, DGet.k (k := c1 a) hkd, _, rfl, ?_⟩
      rw [knK_val c1_inj]
      cases hl : look kn a with
      | some r =>
        have J : opn (n + 1) ns kn a = (r, ns, kn) := by simp only [opn, if_neg e1, hl]
        rw [J] at k
        refine iteB rfl ⟨_, rfl, _, rfl, kd, _, rfl, ?_, k H But.refl hS hkd⟩
        have hg := DGet.k (k := c1 a) hkd
        rw [knK_val c1_inj, hl] at hg
        exact hg
      | none =>
        refine iteA rfl ?_
        obtain ⟨d, hd, epl, _, hlo, hhi, hpn, g1, g2, _⟩ := wf.node a2 ha
        obtain ⟨bs, b, d', hl', hat, hd', hb⟩ := hS.at_ a2 ha
        rw [hd] at hd'
        cases hd'
        simp only [opn, if_neg e1, hl, hd] at hsz k
        have L1 : d.lo < ns.length + 2 := by omega
        have L2 : d.hi < ns.length + 2 := by omega
        have X := opn_ok n ns kn d.lo wf kok L1 (by omega)
        have XK := opn_kn n ns kn d.lo
        have pw := Nat.pow_succ 2 n
        obtain ⟨m1, x1e⟩ := X.ext
        generalize hx : opn n ns kn d.lo = x at X XK x1e hsz k
        have L2' : d.hi < x.2.1.length + 2 := by rw [x1e, List.length_append]; omega
        have F2 : h.nm.length < n + pl h.nm.length x.2.1 d.hi := by rw [x1e, pl_ext L2]; omega
        have Y := opn_ok n x.2.1 x.2.2 d.hi X.wf X.kn L2' F2
        have YK := opn_kn n x.2.1 x.2.2 d.hi
        obtain ⟨m2, y1e⟩ := Y.ext
        generalize hy : opn n x.2.1 x.2.2 d.hi = y at Y YK y1e hsz k
        obtain ⟨m3, z1e⟩ := mk_ext y.2.1 ⟨d.p, x.1, y.1⟩
        have zx : x.2.1.length ≤ 2000 := by rw [z1e, y1e] at hsz; simp only [List.length_append] at hsz; omega
        have zy : y.2.1.length ≤ 2000 := by rw [z1e] at hsz; simp only [List.length_append] at hsz; omega
        refine ⟨_, rfl, h.S, g.cSh, h.dx, _, _, rfl, hS.s, T.c_cSh, T.n_cSh_nodes, rfl, _, rfl, _, _, rfl, rfl, h.ln, _, _, _, rfl, rfl, SqL.of hl', hat, b, _, rfl, SqT.of hb, rfl, _, _, rfl, _, _, rfl, _, _, rfl, rfl, ?_⟩
        refine ⟨_, rfl, h.S, h.dx, _, rfl, hS.s, rfl, _, rfl, _, rfl, h.S, h.dx, _, rfl, hS.s, rfl, _, rfl, _, rfl, h, ns, kn, d.lo, kd, rfl, hS, hkd, wf, kok, L1, by omega, by omega, by rw [hx]; exact zx, fun H4 b4 hS4 hk4 => ?_⟩
        rw [hx] at hS4 hk4
        rw [hx]
        refine ⟨_, rfl, h.S, h.dx, _, rfl, hS4.s, rfl, _, rfl, _, rfl, h, x.2.1, x.2.2, d.hi, kd, rfl, hS4, hk4, X.wf, X.kn, L2', F2, by omega, by rw [hy]; exact zy, fun H5 b5 hS5 hk5 => ?_⟩
        rw [hy] at hS5 hk5
        rw [hy]
        refine ⟨h, y.2.1, ⟨d.p, x.1, y.1⟩, rfl, hS5, hsz, fun H6 b6 hS6 => ?_⟩
        have nkl : kd ≠ h.ln := by
          obtain ⟨bs, hl, _⟩ := hS5.l
          exact ne_of hk5 hl (by intro z; cases z)
        have nkd : kd ≠ h.dn := ne_of hk5 hS5.d (by intro z; cases z)
        have hk6 : H6 kd = some (.dK (knK c1 y.2.2)) := b6 _ _ (by simp [nkl, nkd]) hk5
        refine ⟨_, rfl, _, rfl, kd, _, rfl, DPut.k (k := c1 a) hk6 (by rw [knK_len]; exact szl (by omega)), ?_⟩
        generalize hm : mk y.2.1 ⟨d.p, x.1, y.1⟩ = m at hS6 k ⊢
        rw [knK_put c1_inj]
        have b7 : But [kd] H6 (upd H6 kd (.dK (knK c1 (put y.2.2 a m.1)))) := But.put List.mem_cons_self
        have hS8 := hS6.but b7 (fun c hc => by
          rw [List.mem_singleton] at hc
          subst hc
          refine ⟨ne_of hk6 hS6.s (by intro z; cases z), ne_of hk6 hS6.n (by intro z; cases z), nkl, nkd, fun o ho => ?_⟩
          rw [hk6] at ho
          cases ho
          exact id)
        refine ⟨_, rfl, _, rfl, kd, V.int m.1, rfl, ?_, ?_⟩
        · have hg := DGet.k (k := c1 a) (upd_same (H := H6) (a := kd) (o := .dK (knK c1 (put y.2.2 a m.1))))
          rw [knK_val c1_inj, look_put, if_pos rfl] at hg
          exact hg
        · have sub1 : ∀ c ∈ [h.ln, h.dn], c ∈ [h.ln, h.dn, kd] := fun c hc => by
            simp only [List.mem_cons, List.not_mem_nil, or_false] at hc ⊢
            rcases hc with z | z
            · exact .inl z
            · exact .inr (.inl z)
          have sub2 : ∀ c ∈ [kd], c ∈ [h.ln, h.dn, kd] := fun c hc => by
            rw [List.mem_singleton] at hc
            rw [hc]
            simp
          exact k _ (((b4.trans b5).trans (b6.sub sub1)).trans (b7.sub sub2)) hS8 upd_same
/-- isinstance(part, one of the classes) -/
theorem part_ty (T : Txt K mg g f) {nm : List Str} {H : Hp} {t : RW.T} {v : V} (h : IsPart g nm H t v) : ∃ a C dx fs, v = .ref a ∧ H a = some (.ins C dx fs) ∧ TyX K H v (.ref C) ∧
    PySem.W.kitOne K (.ref C) (.ref g.cF) = some (match t with | .fx _ => true | _ => false) ∧
    (match t with
      | .fx _ => True
      | _ => PySem.W.kitOne K (.ref C) (.ref g.cC) = some (match t with | .ct _ => true | _ => false)) ∧
    (match t with
      | .fx _ => True
      | .ct _ => True
      | _ => PySem.W.kitOne K (.ref C) (.ref g.cT) = some (match t with | .nt _ => true | _ => false)) ∧
    (match t with
      | .gr k _ => PySem.W.kitOne K (.ref C) (.ref g.cS) = some k
      | _ => True) := by
  cases t with
  | fx b =>
    obtain ⟨a, dx, rfl, ha⟩ := h
    exact ⟨a, _, dx, _, rfl, ha, .base (.ins ha T.c_cF T.h_cF T.hg T.ht T.o_cF), T.k_cF_cF, trivial, trivial, trivial⟩
  | ct i =>
    obtain ⟨a, dx, s, rfl, _, ha⟩ := h
    exact ⟨a, _, dx, _, rfl, ha, .base (.ins ha T.c_cC T.h_cC T.hg T.ht T.o_cC), T.k_cC_cF, T.k_cC_cC, trivial, trivial⟩
  | nt t =>
    obtain ⟨a, dx, u, rfl, ha, _⟩ := h
    exact ⟨a, _, dx, _, rfl, ha, .base (.ins ha T.c_cT T.h_cT T.hg T.ht T.o_cT), T.k_cT_cF, T.k_cT_cC, T.k_cT_cT, trivial⟩
  | gr b ts =>
    obtain ⟨a, dx, p, us, rfl, ha, _⟩ := h
    cases b
    · exact ⟨a, _, dx, _, rfl, ha, .base (.ins ha T.c_cB T.h_cB T.hg T.ht T.o_cB), T.k_cB_cF, T.k_cB_cC, T.k_cB_cT, T.k_cB_cS⟩
    · exact ⟨a, _, dx, _, rfl, ha, .base (.ins ha T.c_cS T.h_cS T.hg T.ht T.o_cS), T.k_cS_cF, T.k_cS_cC, T.k_cS_cT, T.k_cS_cS⟩
def spDrawn (g : At) (h : Sh) (n : Nat) : Sp := fun vs H Q _ => ∃ (ns : List Nd) (t : RW.T) (v : V), vs = [.ref h.S, v] ∧ ShAt g H h ns ∧ IsPart g h.nm H t v ∧ t.ok h.nm.length ∧ t.depth ≤ n ∧ t.size ≤ 100 ∧ WF h.nm.length ns ∧ h.nm.length ≤ 6 ∧ h.nm.Nodup ∧
  (dr h.nm.length ns t).2.length ≤ 2000 ∧ ∀ H', But [h.ln, h.dn] H H' → ShAt g H' h (dr h.nm.length ns t).2 → Q (.int (dr h.nm.length ns t).1) H'
theorem scDrawn : FnScope ["self", "part", "stop", "found", "inner"] ["self", "part"] (defScope sDrawn) := ⟨rfl, rfl, rfl, by decide +kernel, rfl, by decide +kernel, by decide +kernel⟩
theorem ok_drawn (T : Txt K mg g f) (h : Sh) : ∀ n, Good P w K mg base (n + 11) f.drawn ["self", "part"] (spDrawn g h n)
  | 0 => T.d_drawn.never fun vs H Q E ⟨ns, t, v, _, _, _, _, hn, _⟩ => by have := t.depth_pos; omega
  | n + 1 => by
    have GD := ok_drawn T h n
    have GM := ok_made (P := P) (w := w) (base := base) T
    refine T.d_drawn.ok scDrawn (fun vs H Q E z => ?_) (fun cdv A outer s H vs Q E hr z => ?_)
    · obtain ⟨ns, t, v, rfl, _⟩ := z
      rfl
    · obtain ⟨ns, t, v, rfl, hS, hp, hok, hd, hz, wf, h6, hnd, hsz, k⟩ := z
      have GJ : Good P w K mg base 10 f.join _ (spJoin g (h.nm.length + 1)) := (ok_join T (h.nm.length + 1)).mono (by omega)
      have GO : Good P w K mg base 10 f.opp _ (spOpp g (h.nm.length + 1)) := (ok_opp T (h.nm.length + 1)).mono (by omega)
      have pw : 2 ^ (h.nm.length + 1) ≤ 128 := by
        have : 2 ^ (h.nm.length + 1) ≤ 2 ^ 7 := Nat.pow_le_pow_right (by decide) (by omega)
        exact this
      obtain ⟨pa, C, pdx, fs, epv, hpa, hty, k1, k2, k3, k4⟩ := part_ty T hp
      refine ⟨_, pss_cons (ps_if (pt_val (pe_callB call_isi (by rfl) T.b_isinstance (by decide +kernel) (pa_cons (pv 1) (pa_cons (pe_gref T.g_cF) pa_nil)))) (pss_one (ps_ret (pe_callTy call_int1 (by rfl) T.b_int (by decide +kernel) (pa_cons (pe_fld (pv 1) rfl) pa_nil)))) pss_nil)
        (pss_cons (ps_if (pt_val (pe_callB call_isi (by rfl) T.b_isinstance (by decide +kernel) (pa_cons (pv 1) (pa_cons (pe_gref T.g_cC) pa_nil)))) (pss_one (ps_ret (pe_me GM hr (by omega) T.c_cSh T.t_cSh_made (pv 0)
            (pa_cons (pe_tupM PySem.F.plainAttrs_tuple PySem.F.slot_tuple_index PySem.F.type_tuple_index mt_tup_index (pe_fld (pv 0) rfl) (pa_cons (pe_fld (pv 1) rfl) pa_nil)) (pa_cons pe_int (pa_cons pe_int pa_nil)))))) pss_nil)
        (pss_cons (ps_if (pt_val (pe_callB call_isi (by rfl) T.b_isinstance (by decide +kernel) (pa_cons (pv 1) (pa_cons (pe_gref T.g_cT) pa_nil)))) (pss_one (ps_ret (pe_me GO hr (by omega) T.c_cSh T.t_cSh_opposite (pv 0)
            (pa_cons (pe_me GD hr (by omega) T.c_cSh T.t_cSh_drawn (pv 0) (pa_cons (pe_fld (pv 1) rfl) pa_nil)) (pa_cons pe_dnewK pa_nil))))) pss_nil)
        (pss_cons (ps_set (i := 2) scDrawn.nd rfl (Or.inl rfl) (pe_callTy call_int1 (by rfl) T.b_int (by decide +kernel) (pa_cons (pe_not (pe_callB call_isi (by rfl) T.b_isinstance (by decide +kernel) (pa_cons (pv 1) (pa_cons (pe_gref T.g_cS) pa_nil)))) pa_nil)))
        (pss_cons (ps_set (i := 3) scDrawn.nd rfl (Or.inl rfl) (pe_op op_sub pe_int (pv 2)))
        (pss_cons (ps_for PassesOwn.never rfl (pi_tup (pe_fld (pv 1) rfl)) (pg_name (i := 4) scDrawn.nd rfl (Or.inl rfl))
          (pss_one (ps_set (i := 3) scDrawn.nd rfl (Or.inl rfl) (pe_me GJ hr (by omega) T.c_cSh T.t_cSh_joined (pv 0) (pa_cons (pv 3) (pa_cons (pe_me GD hr (by omega) T.c_cSh T.t_cSh_drawn (pv 0) (pa_cons (pv 4) pa_nil)) (pa_cons (pv 2) (pa_cons pe_dnewT pa_nil))))))))
        (pss_one (ps_ret (pv 3)))))))), ?_⟩
      refine ⟨_, rfl, _, _, _, _, _, rfl, .own _, hty, k1, _, rfl, ?_⟩
      cases t with
      | fx b =>
        obtain ⟨a, dx, rfl, ha⟩ := hp
        refine iteA rfl ⟨_, rfl, a, g.cF, dx, _, _, rfl, ha, T.c_cF, T.n_cF_value, rfl, .inr ⟨b, rfl, ?_⟩⟩
        refine qi ?_ (k H But.refl hS)
        cases b <;> rfl
      | ct i =>
        obtain ⟨a, dx, z, rfl, hz', ha⟩ := hp
        refine iteB rfl ⟨_, rfl, _, _, _, _, _, rfl, .own _, hty, k2, _, rfl, iteA rfl ?_⟩
        refine ⟨_, rfl, h.S, h.dx, _, rfl, hS.s, rfl, _, rfl, h.S, g.cSh, h.dx, _, _, rfl, hS.s, T.c_cSh, T.n_cSh_names, rfl, ⟨h.tn, h.ob, _, rfl, hS.n, hS.od⟩, _, rfl, a, g.cC, dx, _, _, rfl, ha, T.c_cC, T.n_cC_name, rfl,
          h.tn, h.nm, z, i, rfl, rfl, .inl (.inr ⟨_, hS.n⟩), hz', fun m hm e => ?_, ?_⟩
        · have h1 := nd_ix hnd e hz'
          omega
        · exact ⟨h, ns, ⟨i, 0, 1⟩, rfl, hS, hsz, k⟩
      | nt t =>
        obtain ⟨a, dx, u, rfl, ha, hu⟩ := hp
        have hd : 1 + t.depth ≤ n + 1 := hd
        have hz : 1 + t.size ≤ 100 := hz
        refine iteB rfl ⟨_, rfl, _, _, _, _, _, rfl, .own _, hty, k2, _, rfl, iteB rfl ⟨_, rfl, _, _, _, _, _, rfl, .own _, hty, k3, _, rfl, iteA rfl ?_⟩⟩
        have D := dr_ok h6 t ns wf hok
        have O := opn_ok (nn := h.nm.length) (h.nm.length + 1) (dr h.nm.length ns t).2 [] (dr h.nm.length ns t).1 D.wf (NOK1.nil _ _) D.lt (by omega)
        obtain ⟨m2, e2⟩ := O.ext
        have hsz : (opn (h.nm.length + 1) (dr h.nm.length ns t).2 [] (dr h.nm.length ns t).1).2.1.length ≤ 2000 := hsz
        have sz1 : (dr h.nm.length ns t).2.length ≤ 2000 := by rw [e2, List.length_append] at hsz; omega
        refine ⟨_, rfl, h.S, h.dx, _, rfl, hS.s, rfl, _, rfl, h.S, h.dx, _, rfl, hS.s, rfl, _, rfl, a, g.cT, dx, _, u, rfl, ha, T.c_cT, T.n_cT_part, rfl,
          ns, t, u, rfl, hS, hu, hok, by omega, by omega, wf, h6, hnd, sz1, fun H1 b1 hS1 kd hkd => ?_⟩
        refine ⟨h, _, [], _, kd, rfl, hS1.same (same_new hkd), upd_same, D.wf, NOK1.nil _ _, D.lt, by omega, by show 0 + 2 ^ (h.nm.length + 1) ≤ 1000; omega, hsz, fun H2 b2 hS2 _ => k H2 (fun c o nc e => ?_) hS2⟩
        have e1 := b1 c o nc e
        have n1 : c ≠ kd := ne_of_none e1 hkd
        refine b2 c o (fun z => ?_) (by rw [upd_ne n1]; exact e1)
        simp only [List.mem_cons, List.not_mem_nil, or_false] at z nc
        rcases z with z | z | z
        · exact nc (.inl z)
        · exact nc (.inr z)
        · exact n1 z
      | gr b ts =>
        obtain ⟨a, dx, p, us, rfl, ha, hu, hps⟩ := hp
        refine iteB rfl ⟨_, rfl, _, _, _, _, _, rfl, .own _, hty, k2, _, rfl, iteB rfl ⟨_, rfl, _, _, _, _, _, rfl, .own _, hty, k3, _, rfl, iteB rfl ?_⟩⟩
        have hs : stopOf b < 2 := by unfold stopOf; split <;> decide
        have f1 : (if (!b) = true then (1 : Int) else 0) = ((stopOf b : Nat) : Int) := by cases b <;> rfl
        have f2 : (1 : Int) - ((stopOf b : Nat) : Int) = ((1 - stopOf b : Nat) : Int) := by omega
        have hd : 1 + depthL ts ≤ n + 1 := hd
        have hz : 1 + sizeL ts ≤ 100 := hz
        have hsz : (drL h.nm.length (stopOf b) ns (1 - stopOf b) ts).2.length ≤ 2000 := hsz
        refine ⟨_, rfl, _, _, _, _, _, rfl, .own _, hty, k4, _, rfl, .inr ⟨_, rfl, ?_⟩⟩
        rw [f1]
        refine ⟨_, rfl, _, _, rfl, rfl, ?_⟩
        dsimp only
        rw [f2]
        refine ⟨_, rfl, a, g.grp b, dx, _, _, rfl, ha, c_grp T b, n_grp T b, rfl, p, rfl, ⟨us, SqT.of hu⟩, ?_⟩
        refine for_tup (K := K) (a := p) (xs := us) (fun i σ H' => ∃ (acc : Nat) (ns' : List Nd) (x : Option V), σ = [some (.ref h.S), some (.ref a), some (.int (stopOf b : Nat)), some (.int acc), x] ∧ But [h.ln, h.dn] H H' ∧ ShAt g H' h ns' ∧ WF h.nm.length ns' ∧ acc < ns'.length + 2 ∧
            drL h.nm.length (stopOf b) ns' acc (ts.drop i) = drL h.nm.length (stopOf b) ns (1 - stopOf b) ts)
          ⟨_, ns, _, rfl, But.refl, hS, wf, by omega, rfl⟩ (fun i σ H' _ ⟨_, _, _, _, bb, _⟩ => SqT.of (hS.keeps bb _ (.tup _) trivial hu)) ?_ ?_
        · rintro i x σ H1 hx ⟨acc, ns', y, rfl, b1, hS1, wf1, hacc, hres⟩
          obtain ⟨t, ht, hpt⟩ := hps.get hx
          have hts : ts.drop i = t :: ts.drop (i + 1) := by
            obtain ⟨hi, e⟩ := List.getElem?_eq_some_iff.mp ht
            rw [List.drop_eq_getElem_cons hi, e]
          have hm := List.mem_of_getElem? ht
          have okt : t.ok h.nm.length := okL_iff.mp hok.2 t hm
          have okr : okL h.nm.length (ts.drop (i + 1)) := okL_iff.mpr fun u hu => okL_iff.mp hok.2 u (List.mem_of_mem_drop hu)
          have hdt := (depthL_le (n := depthL ts)).mp (Nat.le_refl _) t hm
          have hzt := (sizeL_take ht).2
          have D := dr_ok h6 t ns' wf1 okt
          obtain ⟨m1, e1⟩ := D.ext
          have hacc' : acc < (dr h.nm.length ns' t).2.length + 2 := by rw [e1, List.length_append]; omega
          have J := jn_ok (nn := h.nm.length) hs (h.nm.length + 1) (dr h.nm.length ns' t).2 [] acc (dr h.nm.length ns' t).1 D.wf (KOK.nil _ _ _) hacc' D.lt (by omega)
          have L := drL_ok h6 hs (ts.drop (i + 1)) _ _ J.wf J.lt okr
          obtain ⟨m2, e2⟩ := J.ext
          obtain ⟨m3, e3⟩ := L.ext
          rw [hts] at hres
          have hres : drL h.nm.length (stopOf b) (jn h.nm.length (stopOf b) (h.nm.length + 1) (dr h.nm.length ns' t).2 [] acc (dr h.nm.length ns' t).1).2.1 (jn h.nm.length (stopOf b) (h.nm.length + 1) (dr h.nm.length ns' t).2 [] acc (dr h.nm.length ns' t).1).1 (ts.drop (i + 1)) = drL h.nm.length (stopOf b) ns (1 - stopOf b) ts := hres
          have szJ : (jn h.nm.length (stopOf b) (h.nm.length + 1) (dr h.nm.length ns' t).2 [] acc (dr h.nm.length ns' t).1).2.1.length ≤ 2000 := by
            rw [← hres, e3, List.length_append] at hsz
            omega
          have szD : (dr h.nm.length ns' t).2.length ≤ 2000 := by rw [e2, List.length_append] at szJ; omega
          refine ⟨_, rfl, h.S, h.dx, _, rfl, hS1.s, rfl, _, rfl, _, rfl, h.S, h.dx, _, rfl, hS1.s, rfl, _, rfl, ns', t, x, rfl, hS1, hpt.mono (hS.keeps b1), okt, by omega, by omega, wf1, h6, hnd, szD, fun H2 b2 hS2 => ⟨_, rfl, fun kd hkd => ?_⟩⟩
          refine ⟨h, _, [], acc, _, stopOf b, kd, rfl, hS2.same (same_new hkd), upd_same, (ne_of_none hS2.d hkd).symm, D.wf, KOK.nil _ _ _, hs, hacc', D.lt, by omega, by show 0 + 2 ^ (h.nm.length + 1) ≤ 1000; omega, szJ, fun H3 b3 hS3 _ => ?_⟩
          refine ⟨_, _, _, rfl, fun c o nc e => ?_, hS3, J.wf, J.lt, hres⟩
          have e1 := b2 c o nc (b1 c o nc e)
          have n1 : c ≠ kd := ne_of_none e1 hkd
          refine b3 c o (fun z => ?_) (by rw [upd_ne n1]; exact e1)
          simp only [List.mem_cons, List.not_mem_nil, or_false] at z nc
          rcases z with z | z | z
          · exact nc (.inl z)
          · exact nc (.inr z)
          · exact n1 z
        · rintro σ H1 ⟨acc, ns', y, rfl, b1, hS1, wf1, hacc, hres⟩
          rw [hps.len, List.drop_length] at hres
          have hres : (acc, ns') = dr h.nm.length ns (.gr b ts) := hres
          rw [← hres] at k
          exact ⟨_, rfl, k H1 b1 hS1⟩
end
end RW
/-! The sheet: node, and how it is made. -/
namespace RW
open PySem L2 PySem.Spec PyProof.Rows
theorem flat_strs (ys : List Str) : (ys.map V.str).all flatV = true := by
  rw [List.all_map]
  exact List.all_eq_true.mpr fun _ _ => rfl
theorem inV_str {z : Str} {ys : List Str} (h : z ∈ ys) : inV (.str z) (ys.map V.str) = true := by
  unfold inV
  rw [List.any_eq_true]
  exact ⟨.str z, List.mem_map.mpr ⟨z, h, rfl⟩, by first | exact beq_self_eq_true z | (simp [eqV])⟩
section
variable {P : Program} {w : World} {K : PySem.W.Frag} {mg : Str → Option Value} {base : Heap} {g : At} {f : Fa}
theorem part_contacts (T : Txt K mg g f) {nm : List Str} {j n : Nat} (hj : n + 2 ≤ j) {t : RW.T} {v : V} {H : Hp} (h : IsPart g nm H t v) (hd : t.depth ≤ n) (hz : t.size ≤ 900) :
    ∃ a C dx fs sp, v = .ref a ∧ H a = some (.ins C dx fs) ∧ fs.lookup ("contacts" : Str) = none ∧ Disp P w K mg base j C "contacts" sp ∧ ∀ Q : VK, (∀ (p : Addr) (zs : List Str) (H' : Hp), Same H H' → H' p = some (.tup (zs.map V.str)) → (∀ z ∈ zs, z ∈ nm) → Q (.ref p) H') → sp [v] H Q E0 := by
  obtain ⟨a, C, dx, fs, rfl, ha, hl, hC⟩ := part_cls h "contacts" (by decide +kernel)
  refine ⟨a, C, dx, fs, _, rfl, ha, hl, ⟨n + 2, _, _, ok_contacts (nm := nm) T n, hj, ?_⟩, fun Q q => ⟨t, _, rfl, h, hd, hz, q⟩⟩
  rcases hC with rfl | rfl | rfl | rfl | rfl
  · exact ⟨T.c_cF, T.t_cF_contacts⟩
  · exact ⟨T.c_cC, T.t_cC_contacts⟩
  · exact ⟨T.c_cT, T.t_cT_contacts⟩
  · exact ⟨T.c_cS, T.t_cS_contacts⟩
  · exact ⟨T.c_cB, T.t_cB_contacts⟩
theorem scNode : FnScope ["self", "part", "name", "many"] ["self", "part"] (defScope sNode) := ⟨rfl, rfl, rfl, by decide +kernel, rfl, by decide +kernel, by decide +kernel⟩
theorem ok_node (T : Txt K mg g f) (h : Sh) : Good P w K mg base 32 f.node ["self", "part"] (spDrawn g h 20) := by
  have GD := ok_drawn (P := P) (w := w) (base := base) T h 20
  refine T.d_node.ok scNode (fun vs H Q E z => ?_) (fun cdv A outer s H vs Q E hr z => ?_)
  · obtain ⟨ns, t, v, rfl, _⟩ := z
    rfl
  · obtain ⟨ns, t, v, rfl, hS, hp, hok, hd, hz, wf, h6, hnd, hsz, k⟩ := z
    refine ⟨_, pss_cons (ps_for PassesOwn.never rfl (pi_tup (pe_dyn0 (D := fun C sp => Disp P w K mg base 31 C "contacts" sp) (fun _ _ h => h) hr (pv 1))) (pg_name (i := 2) scNode.nd rfl (Or.inl rfl))
        (pss_one (ps_if (pt_cmpR op_notIn_seq (pv 2) (pe_fld (pv 0) rfl) rfl) (pss_one ps_never) pss_nil)))
      (pss_cons (ps_set (i := 3) scNode.nd rfl (Or.inl rfl) (pe_callB call_len_seq (by rfl) T.b_len PySem.boot_len (pa_cons (pe_fld (pv 0) rfl) pa_nil)))
      (pss_one (ps_try_thru0 (pss_one (ps_ret (pe_me GD hr (by decide) T.c_cSh T.t_cSh_drawn (pv 0) (pa_cons (pv 1) pa_nil))))))), ?_⟩
    obtain ⟨a, C, dx, fs, sp, e1, e2, e3, e4, e5⟩ := part_contacts (P := P) (w := w) (base := base) (j := 31) T (n := 20) (by decide) hp hd (by omega)
    refine ⟨_, rfl, a, C, dx, fs, sp, e1, e2, e3, e4, e5 _ fun p zs H1 s1 h1 hm => ⟨p, rfl, ⟨_, SqT.of h1⟩, ?_⟩⟩
    have hS1 := hS.same s1
    refine for_tup (K := K) (a := p) (xs := zs.map V.str) (fun i σ H' => H' = H1 ∧ ∃ x, σ = [some (.ref h.S), some v, x, none]) ⟨rfl, _, rfl⟩ (fun i σ H' _ ⟨e, _⟩ => by rw [e]; exact SqT.of h1) ?_ ?_
    · rintro i x σ H2 hx ⟨rfl, y, rfl⟩
      rw [List.getElem?_map] at hx
      cases hz : zs[i]? with
      | none => rw [hz] at hx; cases hx
      | some z =>
        rw [hz] at hx
        cases hx
        have hin := hm z (List.mem_of_getElem? hz)
        refine ⟨_, rfl, _, rfl, h.S, g.cSh, h.dx, _, _, rfl, hS1.s, T.c_cSh, T.n_cSh_names, rfl, h.tn, _, rfl, .inr (.inl (.inr ⟨_, hS1.n⟩)), rfl, flat_strs _, _, rfl, iteB (by rw [if_pos rfl, inV_str hin]; rfl) ⟨rfl, _, rfl⟩⟩
    · rintro σ H2 ⟨rfl, y, rfl⟩
      obtain ⟨bs, hl, hlen⟩ := hS1.len
      refine ⟨_, rfl, h.S, g.cSh, h.dx, _, _, rfl, hS1.s, T.c_cSh, T.n_cSh_nodes, rfl, h.ln, _, rfl, .inl (SqL.of hl), ?_⟩
      exact ⟨_, rfl, h.S, h.dx, _, rfl, hS1.s, rfl, _, rfl, ns, t, v, rfl, hS1, hp.mono (.of_same s1), hok, hd, hz, wf, h6, hnd, hsz, fun H3 b3 hS3 => k H3 ((But.of_same s1).trans b3) hS3⟩
theorem scInitS : FnScope ["self", "names", "name"] ["self", "names"] (defScope sInitS) := ⟨rfl, rfl, rfl, by decide +kernel, rfl, by decide +kernel, by decide +kernel⟩
theorem ok_initS (T : Txt K mg g f) : Good P w K mg base 3 f.initS ["self", "names"] (spInitS g) := by
  have GN := ok_isName (P := P) (w := w) (base := base) T
  refine T.d_initS.ok scInitS (fun vs H Q E z => ?_) (fun cdv A outer s H vs Q E hr z => ?_)
  · obtain ⟨S, dx, p, nm, rfl, _⟩ := z
    rfl
  · obtain ⟨S, dx, p, nm, rfl, hp, hnm, hnd, h6, hS, k⟩ := z
    obtain ⟨k1, m1⟩ := T.v_MOST_NAMES
    refine ⟨_, pss_cons (ps_for PassesOwn.never rfl (pi_list (pv 1)) (pg_name (i := 2) scInitS.nd rfl (Or.inl rfl)) (pss_one (ps_if (pt_not (pt_val (pe_fn GN hr (by decide) T.g_isName (pa_cons (pv 2) pa_nil)))) (pss_one ps_never) pss_nil)))
      (pss_cons (ps_if (PW.pt (pw_or (pt_cmpR op_gt (pe_callB call_len_seq (by rfl) T.b_len PySem.boot_len (pa_cons (pv 1) pa_nil)) (pe_gint m1) (nomark _))
          (pw_or1 (pt_cmpR op_lt (pe_lenSetN rfl (by rfl) T.b_len (by rfl) T.b_set (pv 1)) (pe_callB call_len_seq (by rfl) T.b_len PySem.boot_len (pa_cons (pv 1) pa_nil)) (nomark _))))) (pss_one ps_never) pss_nil)
      (pss_cons (ps_fld (pv 0) (pe_callTy call_tupleF (by rfl) T.b_tuple (by decide +kernel) (pa_cons (pv 1) pa_nil)) rfl)
      (pss_cons (ps_fld (pv 0) (pe_lst pa_nil) rfl) (pss_one (ps_fld (pv 0) pe_dnewT rfl))))), ?_⟩
    refine ⟨_, rfl, p, rfl, ⟨_, SqL.of hp⟩, for_list (K := K) (a := p) (xs := nm.map V.str) (fun i σ H' => H' = H ∧ ∃ x, σ = [some (.ref S), some (.ref p), x]) ⟨rfl, _, rfl⟩ (fun i σ H' _ ⟨e, _⟩ => by rw [e]; exact SqL.of hp) ?_ ?_⟩
    · rintro i x σ H2 hx ⟨rfl, y, rfl⟩
      rw [List.getElem?_map] at hx
      cases hz : nm[i]? with
      | none => rw [hz] at hx; cases hx
      | some z =>
        rw [hz] at hx
        cases hx
        exact ⟨_, rfl, z, rfl, hnm z (List.mem_of_getElem? hz), true, rfl, iteB rfl ⟨rfl, _, rfl⟩⟩
    · rintro σ H2 ⟨rfl, y, rfl⟩
      have hlen : (nm.map V.str).length = nm.length := List.length_map _
      refine ⟨_, rfl, p, _, rfl, .inl (SqL.of hp), _, _, rfl, rfl, _, rfl, iteB (dF (by omega)) ?_⟩
      refine ⟨_, rfl, p, nm, rfl, SqL.of hp, hnd, by omega, _, rfl, p, _, rfl, .inl (SqL.of hp), _, _, rfl, rfl, _, rfl, iteB (dF (by omega)) ?_⟩
      refine ⟨_, rfl, p, _, rfl, SqL.of hp, fun tn ob htn hob => ?_⟩
      have n1 : S ≠ tn := ne_of_none hS htn
      refine ⟨_, rfl, S, g.cSh, dx, [], rfl, by rw [upd_ne n1]; exact hS, T.c_cSh, T.n_cSh_names, by show 0 < 1000; decide, Nat.zero_le _, fun ln hln => ?_⟩
      have n2 : S ≠ ln := ne_of_none upd_same hln
      have n3 : tn ≠ ln := ne_of_none (by rw [upd_ne n1.symm, upd_same]) hln
      refine ⟨_, rfl, S, g.cSh, dx, _, rfl, by rw [upd_ne n2, upd_same], T.c_cSh, T.n_cSh_nodes, by show 1 < 1000; decide, fun dn hdn => ?_⟩
      have n4 : S ≠ dn := ne_of_none upd_same hdn
      have n5 : ln ≠ dn := ne_of_none (by rw [upd_ne n2.symm, upd_same]) hdn
      have n6 : tn ≠ dn := ne_of_none (by rw [upd_ne n1.symm, upd_ne n3, upd_ne n1.symm, upd_same]) hdn
      refine ⟨_, rfl, S, g.cSh, dx, _, rfl, by rw [upd_ne n4, upd_same], T.c_cSh, T.n_cSh_numbers, ?_, ?_⟩
      · exact Nat.lt_of_le_of_lt (length_putF _ _ _) (by show 1 + 1 < 1000; decide)
      · rw [shF_put]
        refine k ⟨S, dx, tn, ln, dn, ob, nm⟩ _ rfl rfl (none_upd (none_upd hln)) (none_upd (none_upd (none_upd (none_upd hdn)))) (fun b o nb e => ?_) ⟨upd_same, ?_, hob, ⟨[], ?_, .nil⟩, ?_⟩
        · have z1 : b ≠ S := fun z => nb (by rw [z]; exact List.mem_cons_self)
          have e1 : b ≠ tn := ne_of_none e htn
          have e2 : (upd (upd H2 tn (.frz ob (.tup (nm.map V.str)))) S (.ins g.cSh dx (putF "names" (.ref tn) []))) b = some o := by rw [upd_ne z1, upd_ne e1]; exact e
          have e3 : b ≠ ln := ne_of_none e2 hln
          have e4 : (upd (upd (upd (upd H2 tn (.frz ob (.tup (nm.map V.str)))) S (.ins g.cSh dx (putF "names" (.ref tn) []))) ln (.lst [])) S (.ins g.cSh dx (putF "nodes" (.ref ln) (putF "names" (.ref tn) [])))) b = some o := by rw [upd_ne z1, upd_ne e3]; exact e2
          have e5 : b ≠ dn := ne_of_none e4 hdn
          rw [upd_ne z1, upd_ne e5]
          exact e4
        · show _ = some (HO.frz ob _)
          rw [upd_ne n1.symm, upd_ne n6, upd_ne n1.symm, upd_ne n3, upd_ne n1.symm, upd_same]
        · show _ = some (HO.lst [])
          rw [upd_ne n2.symm, upd_ne n5, upd_ne n2.symm, upd_same]
        · show _ = some (HO.dT [])
          rw [upd_ne n4.symm, upd_same]
end
end RW
/-! The law's own defs: cells, mixing, words, names. -/
namespace RW
open PySem L2 PySem.Spec PyProof.Rows
def spCell (K : PySem.W.Frag) : Sp := fun vs H Q _ => ∃ (a : Addr) (ns : List Int) (k : Int), vs = [.ref a, .int k] ∧ SqL K H a (ns.map V.int) ∧ ns.length ≤ 63 ∧ 0 ≤ k ∧ k ≤ 1000 ∧ ∀ c : Int, Q (.int c) H
def spMixed : Sp := fun vs H Q _ => ∃ (c k : Int), vs = [.int c, .int k] ∧ 0 ≤ k ∧ k ≤ 1000 ∧ ∀ m : Int, 0 ≤ m → m < 2147483648 → Q (.int m) H
def Abc (z : Str) : Prop := ∀ c ∈ z.cps.toList, 97 ≤ c ∧ c ≤ 122
def spWord : Sp := fun vs H Q _ => ∃ (c n : Int), vs = [.int c, .int n] ∧ 0 ≤ n ∧ n ≤ 6 ∧ ∀ z : Str, (z.length : Int) = n → Abc z → Q (.str z) H
def spNames : Sp := fun vs H Q _ => ∃ (c n : Int), vs = [.int c, .int n] ∧ 1 ≤ n ∧ n ≤ 6 ∧ ∀ (p : Addr) (nm : List Str) (H' : Hp), Same H H' → H' p = some (.lst (nm.map V.str)) → (nm.length : Int) = n → nm.Nodup → (∀ z ∈ nm, NameOk z) → Q (.ref p) H'
theorem len_tl (z : Str) : z.cps.toList.length = z.length := by
  show _ = z.cps.size
  simp
theorem sign_at {j : Int} (h0 : 0 ≤ j) (h : j < 26) : atI ("abcdefghijklmnopqrstuvwxyz" : Str).cps.toList j = some (97 + j.toNat) := by
  obtain ⟨k, rfl⟩ : ∃ k : Nat, j = (k : Int) := ⟨j.toNat, by omega⟩
  rw [signs_list]
  refine atI_nat ?_
  rw [List.getElem?_range' (show k < 26 by omega)]
  simp
theorem abc_nil : Abc "" := fun c hc => by
  have e : ("" : Str).cps.toList = [] := by decide +kernel
  rw [e] at hc
  simp at hc
theorem abc_app {x y : Str} (hx : Abc x) (hy : Abc y) : Abc (x ++ y) := fun c hc => by
  have e : (x ++ y).cps.toList = x.cps.toList ++ y.cps.toList := TL.tl_append x y
  rw [e] at hc
  exact (List.mem_append.mp hc).elim (hx c) (hy c)
theorem len_app (x y : Str) : (x ++ y).length = x.length + y.length := by
  rw [← len_tl, ← len_tl, ← len_tl, show (x ++ y).cps.toList = x.cps.toList ++ y.cps.toList from TL.tl_append x y, List.length_append]
section
variable {P : Program} {w : World} {K : PySem.W.Frag} {mg : Str → Option Value} {base : Heap} {g : At} {f : Fa}
theorem scCell : FnScope ["_law_script", "_law_k"] ["_law_script", "_law_k"] (defScope sCell) := ⟨rfl, rfl, rfl, by decide +kernel, rfl, by decide +kernel, by decide +kernel⟩
theorem ok_cell (T : Txt K mg g f) : Good P w K mg base 1 f.cell ["_law_script", "_law_k"] (spCell K) := by
  refine T.d_cell.ok scCell (fun vs H Q E h => ?_) (fun cdv A outer s H vs Q E hr h => ?_)
  · obtain ⟨a, ns, k, rfl, _⟩ := h
    rfl
  · obtain ⟨a, ns, k, rfl, hS, h63, h0, h1, q⟩ := h
    refine ⟨_, pss_cons (ps_if (pt_cmpR op_eq (pe_callB call_len_seq (by rfl) T.b_len PySem.boot_len (pa_cons (pv 0) pa_nil)) pe_int (nomark _)) (pss_one (ps_ret (pv 1))) pss_nil)
      (pss_one (ps_ret (pe_op op_add (pe_ix ix_list (pv 0) (pe_op op_mod (pv 1) (pe_callB call_len_seq (by rfl) T.b_len PySem.boot_len (pa_cons (pv 0) pa_nil))) (fun _ _ => rfl))
        (pe_op op_mul pe_int (pe_op op_fdiv (pv 1) (pe_callB call_len_seq (by rfl) T.b_len PySem.boot_len (pa_cons (pv 0) pa_nil))))))), ?_⟩
    have hl : (ns.map V.int).length = ns.length := List.length_map _
    refine ⟨_, rfl, a, _, rfl, .inl hS, rfl, _, rfl, i2 (fun c => ⟨_, rfl, q _⟩) (fun c => ?_)⟩
    have c : ¬ V.int (((ns.map V.int).length : Nat) : Int) = V.int 0 := of_decide_eq_false c
    have hpos : 0 < ns.length := by
      apply Classical.byContradiction
      intro z
      exact c (by rw [hl, show ns.length = 0 by omega]; rfl)
    have hj : (k % ((ns.map V.int).length : Nat)).toNat < ns.length := by
      rw [hl]
      have := Int.emod_lt_of_pos k (show (0 : Int) < (ns.length : Nat) by omega)
      have := Int.emod_nonneg k (show ((ns.length : Nat) : Int) ≠ 0 by omega)
      omega
    have hat : atI (ns.map V.int) (k % ((ns.map V.int).length : Nat)) = some (.int ns[(k % ((ns.map V.int).length : Nat)).toNat]) := by
      refine at_of (j := (k % ((ns.map V.int).length : Nat)).toNat) ?_ ?_
      · have := Int.emod_nonneg k (show (((ns.map V.int).length : Nat) : Int) ≠ 0 by omega)
        omega
      · rw [List.getElem?_map, List.getElem?_eq_getElem hj]
        rfl
    refine ⟨_, rfl, _, rfl, _, rfl, a, _, rfl, .inl hS, _, _, rfl, rfl, (by show (0 : Int) < _; omega), a, _, _, _, rfl, rfl, hS, hat, _, rfl, _, rfl, a, _, rfl, .inl hS, _, _, rfl, rfl, ⟨by omega, by omega⟩, _, _, rfl, rfl, .inl ⟨by decide, by decide⟩, _, _, rfl, rfl, q _⟩
theorem scMixed : FnScope ["_law_cell", "_law_k", "_law_mix"] ["_law_cell", "_law_k"] (defScope sMixed) := ⟨rfl, rfl, rfl, by decide +kernel, rfl, by decide +kernel, by decide +kernel⟩
theorem ok_mixed (T : Txt K mg g f) : Good P w K mg base 1 f.mixed ["_law_cell", "_law_k"] spMixed := by
  refine T.d_mixed.ok scMixed (fun vs H Q E h => ?_) (fun cdv A outer s H vs Q E hr h => ?_)
  · obtain ⟨c, k, rfl, _⟩ := h
    rfl
  · obtain ⟨c, k, rfl, h0, h1, q⟩ := h
    refine ⟨_, pss_cons (ps_set (i := 2) scMixed.nd rfl (Or.inl rfl) (pe_op op_mod (pe_op op_mul (pe_op op_add (pe_op op_add (pv 0) (pe_op op_mul pe_int (pv 1))) pe_int) pe_int) pe_int))
      (pss_one (ps_ret (pe_op op_mod (pe_op op_add (pe_op op_mul (pv 2) (pv 2)) (pe_op op_mul pe_int (pv 2))) pe_int))), ?_⟩
    refine ⟨_, rfl, _, rfl, _, _, rfl, rfl, .inl ⟨by decide, by decide⟩, _, _, rfl, rfl, _, _, rfl, rfl, _, _, rfl, rfl, .inr ⟨by decide, by decide⟩, _, _, rfl, rfl, (by show (0 : Int) < 2147483647; decide), ?_⟩
    dsimp only
    have m0 := Int.emod_nonneg ((c + 7919 * k + 11) * 48271) (show (2147483647 : Int) ≠ 0 by decide)
    have m1 := Int.emod_lt_of_pos ((c + 7919 * k + 11) * 48271) (show (0 : Int) < 2147483647 by decide)
    generalize (c + 7919 * k + 11) * 48271 % 2147483647 = m at m0 m1 ⊢
    refine ⟨_, rfl, _, rfl, _, _, rfl, rfl, .inl ⟨by omega, by omega⟩, _, rfl, _, _, rfl, rfl, .inl ⟨by decide, by decide⟩, _, _, rfl, rfl, _, _, rfl, rfl, (by show (0 : Int) < 2147483399; decide), ?_⟩
    refine q _ (Int.emod_nonneg _ (by decide)) ?_
    have := Int.emod_lt_of_pos (m * m + 40692 * m) (show (0 : Int) < 2147483399 by decide)
    omega
theorem scWord : FnScope ["_law_cell", "_law_size", "_law_letters", "_law_word_here", "_law_k"] ["_law_cell", "_law_size"] (defScope sWord) := ⟨rfl, rfl, rfl, by decide +kernel, rfl, by decide +kernel, by decide +kernel⟩
theorem ok_word (T : Txt K mg g f) : Good P w K mg base 2 f.word ["_law_cell", "_law_size"] spWord := by
  have GM := ok_mixed (P := P) (w := w) (base := base) T
  refine T.d_word.ok scWord (fun vs H Q E h => ?_) (fun cdv A outer s H vs Q E hr h => ?_)
  · obtain ⟨c, k, rfl, _⟩ := h
    rfl
  · obtain ⟨c, n, rfl, h0, h1, q⟩ := h
    refine ⟨_, pss_cons (ps_set (i := 2) scWord.nd rfl (Or.inl rfl) pe_str) (pss_cons (ps_set (i := 3) scWord.nd rfl (Or.inl rfl) pe_str)
      (pss_cons (ps_for PassesOwn.never rfl (pi_range1 rfl T.b_range (pa_cons (pv 1) pa_nil)) (pg_name (i := 4) scWord.nd rfl (Or.inl rfl))
        (pss_one (ps_set (i := 3) scWord.nd rfl (Or.inl rfl) (pe_op op_add_str (pv 3) (pe_ix ix_str (pv 2) (pe_op op_mod (pe_op op_fdiv (pe_fn GM hr (by decide) T.g_mixed (pa_cons (pv 0) (pa_cons (pv 4) pa_nil))) pe_int) pe_int) (fun _ _ => rfl))))))
      (pss_one (ps_ret (pv 3))))), ?_⟩
    refine ⟨_, rfl, n, rfl, (by omega), (by omega), for_range (lo := 0) (n := n.toNat) (fun i σ H' => H' = H ∧ ∃ (z : Str) (x : Option V), σ = [some (.int c), some (.int n), some (.str "abcdefghijklmnopqrstuvwxyz"), some (.str z), x] ∧ z.length = i ∧ Abc z) ⟨rfl, "", _, rfl, rfl, abc_nil⟩ ?_ ?_⟩
    · rintro i σ H1 hi ⟨rfl, z, x, rfl, hl, hz⟩
      refine ⟨_, rfl, _, rfl, _, rfl, _, rfl, _, _, rfl, (by omega), (by omega), fun m m0 m1 => ?_⟩
      have j0 := Int.emod_nonneg (m / 31) (show (26 : Int) ≠ 0 by decide)
      have j1 := Int.emod_lt_of_pos (m / 31) (show (0 : Int) < 26 by decide)
      refine ⟨_, _, rfl, rfl, ⟨by decide, by decide⟩, _, _, rfl, rfl, (by show (0 : Int) < 26; decide), _, _, _, rfl, rfl, (by decide +kernel), sign_at j0 j1, _, _, rfl, rfl, (by rw [hl]; show i + 1 ≤ sizeLine; exact sz (by omega)), ?_⟩
      refine ⟨rfl, _, _, rfl, by rw [len_app, hl]; rfl, abc_app hz fun c hc => ?_⟩
      have e : c = 97 + (m / 31 % 26).toNat := by simpa using hc
      omega
    · rintro σ H1 ⟨rfl, z, x, rfl, hl, hz⟩
      exact ⟨_, rfl, q z (by omega) hz⟩
/-- the name of a letter: put into the base at a place, a q behind -/
def nameOf (b : List Nat) (k c : Nat) : Str := ⟨(b.take k ++ [c] ++ b.drop k ++ [113]).toArray⟩
theorem name_tl (b : List Nat) (k c : Nat) : (nameOf b k c).cps.toList = b.take k ++ [c] ++ b.drop k ++ [113] := by
  unfold nameOf
  simp
theorem name_inj {b : List Nat} {k c c' : Nat} (h : nameOf b k c = nameOf b k c') : c = c' := by
  have e : (nameOf b k c).cps.toList = (nameOf b k c').cps.toList := by rw [h]
  rw [name_tl, name_tl] at e
  simp only [List.append_assoc, List.append_cancel_left_eq, List.cons_append, List.nil_append, List.cons.injEq] at e
  exact e.1
theorem name_ok {b : List Nat} {k c : Nat} (hb : ∀ x ∈ b, 97 ≤ x ∧ x ≤ 122) (hl : b.length ≤ 6) (hc : 97 ≤ c ∧ c ≤ 122) : NameOk (nameOf b k c) := by
  refine ⟨fun x hx => ?_, ?_, ?_⟩
  · rw [name_tl] at hx
    simp only [List.mem_append, List.mem_singleton] at hx
    rcases hx with ((hx | hx) | hx) | hx
    · exact hb x (List.mem_of_mem_take hx)
    · omega
    · exact hb x (List.mem_of_mem_drop hx)
    · omega
  · rw [← len_tl, name_tl]
    simp only [List.length_append, List.length_take, List.length_drop, List.length_singleton]
    omega
  · rw [name_tl, List.getLast?_append]
    rfl
theorem cut_lo {z : Str} {k : Nat} (h : k ≤ z.length) : (cutS z none (some (k : Int))).cps.toList = z.cps.toList.take k := by
  unfold cutS
  rw [HT.sIx_none, HT.sIx_nat, Nat.min_eq_left h]
  simp
theorem cut_hi {z : Str} {k : Nat} (h : k ≤ z.length) : (cutS z (some (k : Int)) none).cps.toList = z.cps.toList.drop k := by
  unfold cutS
  rw [HT.sIx_none, HT.sIx_nat, Nat.min_eq_left h]
  have : (z.cps.toList.drop k).length ≤ z.length - k := by rw [List.length_drop, len_tl]; exact Nat.le_refl _
  show ((z.cps.toList.drop k).take (z.length - k)).toArray.toList = _
  rw [List.take_of_length_le this]
theorem q_tl : ("q" : Str).cps.toList = [113] := by decide +kernel
theorem name_eq {z : Str} {k c : Nat} (h : k ≤ z.length) : cutS z none (some (k : Int)) ++ (⟨#[c]⟩ : Str) ++ cutS z (some (k : Int)) none ++ ("q" : Str) = nameOf z.cps.toList k c := by
  refine TL.ext_tl ?_
  have a : ∀ x y : Str, (x ++ y).cps.toList = x.cps.toList ++ y.cps.toList := TL.tl_append
  show (cutS z none (some (k : Int)) ++ (⟨#[c]⟩ : Str) ++ cutS z (some (k : Int)) none ++ ("q" : Str)).cps.toList = (nameOf z.cps.toList k c).cps.toList
  rw [a, a, a, cut_lo h, cut_hi h, q_tl, name_tl]
theorem scNames : FnScope ["_law_cell", "_law_many", "_law_letters", "_law_base", "_law_at", "_law_hop", "_law_found", "_law_k", "_law_letter"] ["_law_cell", "_law_many"] (defScope sNames) := ⟨rfl, rfl, rfl, by decide +kernel, rfl, by decide +kernel, by decide +kernel⟩
theorem hop_ne {q a : Int} {i j : Nat} (ha : a = 1 ∨ a = 3 ∨ a = 5) (hi : i < 6) (hj : j < 6) (h : ((q + a * (i : Int)) % 26).toNat = ((q + a * (j : Int)) % 26).toNat) : i = j := by
  rcases ha with rfl | rfl | rfl <;> omega
theorem ok_names (T : Txt K mg g f) : Good P w K mg base 3 f.names ["_law_cell", "_law_many"] spNames := by
  have GW := ok_word (P := P) (w := w) (base := base) T
  refine T.d_names.ok scNames (fun vs H Q E h => ?_) (fun cdv A outer s H vs Q E hr h => ?_)
  · obtain ⟨c, k, rfl, _⟩ := h
    rfl
  · obtain ⟨c, n, rfl, h0, h1, q⟩ := h
    refine ⟨_, pss_cons (ps_set (i := 2) scNames.nd rfl (Or.inl rfl) pe_str)
      (pss_cons (ps_set (i := 3) scNames.nd rfl (Or.inl rfl) (pe_fn GW hr (by decide) T.g_word (pa_cons (pv 0) (pa_cons (pe_op op_mod (pv 0) pe_int) pa_nil))))
      (pss_cons (ps_set (i := 4) scNames.nd rfl (Or.inl rfl) (pe_op op_mod (pe_op op_fdiv (pv 0) pe_int) (pe_op op_add (pe_callB call_len_str (by rfl) T.b_len PySem.boot_len (pa_cons (pv 3) pa_nil)) pe_int)))
      (pss_cons (ps_set (i := 5) scNames.nd rfl (Or.inl rfl) (pe_ix ix_list (pe_lst (pa_cons pe_int (pa_cons pe_int (pa_cons pe_int pa_nil)))) (pe_op op_mod (pe_op op_fdiv (pv 0) pe_int) pe_int) (fun _ _ => rfl)))
      (pss_cons (ps_set (i := 6) scNames.nd rfl (Or.inl rfl) (pe_lst pa_nil))
      (pss_cons (ps_for PassesOwn.never rfl (pi_range1 rfl T.b_range (pa_cons (pv 1) pa_nil)) (pg_name (i := 7) scNames.nd rfl (Or.inl rfl))
        (pss_cons (ps_set (i := 8) scNames.nd rfl (Or.inl rfl) (pe_ix ix_str (pv 2) (pe_op op_mod (pe_op op_add (pe_op op_fdiv (pv 0) pe_int) (pe_op op_mul (pv 5) (pv 7))) pe_int) (fun _ _ => rfl)))
        (pss_one (ps_expr (pe_bm PySem.F.plainAttrs_list PySem.F.slot_list_append PySem.F.type_list_append mt_append (pv 6)
          (pa_cons (pe_op op_add_str (pe_op op_add_str (pe_op op_add_str (pe_slice sl_str (pv 3) po_none (po_some (pv 4))) (pv 8)) (pe_slice sl_str (pv 3) (po_some (pv 4)) po_none)) pe_str) pa_nil))))))
      (pss_one (ps_ret (pv 6)))))))), ?_⟩
    have j0 := Int.emod_nonneg c (show (7 : Int) ≠ 0 by decide)
    have j1 := Int.emod_lt_of_pos c (show (0 : Int) < 7 by decide)
    refine ⟨_, rfl, _, rfl, _, _, rfl, rfl, (by show (0 : Int) < 7; decide), _, _, rfl, j0, by omega, fun z hz abc => ?_⟩
    have zl : z.length ≤ 6 := by omega
    refine ⟨_, rfl, _, _, rfl, rfl, ⟨by decide, by decide⟩, _, rfl, z, rfl, sz (by omega), _, _, rfl, rfl, _, _, rfl, rfl, (by show (0 : Int) < (z.length : Int) + 1; omega), ?_⟩
    dsimp only
    have k0 := Int.emod_nonneg (c / 7) (show ((z.length : Nat) : Int) + 1 ≠ 0 by omega)
    have k1 := Int.emod_lt_of_pos (c / 7) (show (0 : Int) < ((z.length : Nat) : Int) + 1 by omega)
    obtain ⟨k, hk⟩ : ∃ k : Nat, c / 7 % (((z.length : Nat) : Int) + 1) = (k : Int) := ⟨_, (Int.toNat_of_nonneg k0).symm⟩
    rw [hk] at k0 k1 ⊢
    have kz : k ≤ z.length := by omega
    refine ⟨by show 3 ≤ sizeLine; decide, fun p0 hp0 => ?_⟩
    have t0 := Int.emod_nonneg (c / 49) (show (3 : Int) ≠ 0 by decide)
    have t1 := Int.emod_lt_of_pos (c / 49) (show (0 : Int) < 3 by decide)
    obtain ⟨hop, hh, ha⟩ : ∃ a : Int, (a = 1 ∨ a = 3 ∨ a = 5) ∧ atI [V.int 1, V.int 3, V.int 5] (c / 49 % 3) = some (.int a) := by
      rcases (by omega : c / 49 % 3 = 0 ∨ c / 49 % 3 = 1 ∨ c / 49 % 3 = 2) with e | e | e
      · exact ⟨1, .inl rfl, at_of (j := 0) e rfl⟩
      · exact ⟨3, .inr (.inl rfl), at_of (j := 1) e rfl⟩
      · exact ⟨5, .inr (.inr rfl), at_of (j := 2) e rfl⟩
    refine ⟨_, rfl, _, _, rfl, rfl, ⟨by decide, by decide⟩, _, _, rfl, rfl, (by show (0 : Int) < 3; decide), p0, _, _, _, rfl, rfl, SqL.of upd_same, ha, Nat.zero_le _, fun L hL => ?_⟩
    have s1 : Same H (upd H p0 (.lst [V.int 1, V.int 3, V.int 5])) := same_new hp0
    generalize upd H p0 (.lst [V.int 1, V.int 3, V.int 5]) = H1 at s1 hL ⊢
    have hL0 : H L = none := s1.free hL
    refine ⟨_, rfl, n, rfl, (by omega), (by omega), for_range (lo := 0) (n := n.toNat) (fun i σ H' => Same H H' ∧ H' L = some (.lst (((List.range i).map fun (j : Nat) => nameOf z.cps.toList k (97 + ((c / 147 + hop * (j : Int)) % 26).toNat)).map V.str)) ∧
      ∃ x y, σ = [some (.int c), some (.int n), some (.str "abcdefghijklmnopqrstuvwxyz"), some (.str z), some (.int k), some (.int hop), some (.ref L), x, y]) ⟨s1.trans (same_new hL), upd_same, _, _, rfl⟩ ?_ ?_⟩
    · rintro i σ H2 hi ⟨s2, hL2, x, y, rfl⟩
      have u0 := Int.emod_nonneg (c / 147 + hop * ((0 : Int) + (i : Int))) (show (26 : Int) ≠ 0 by decide)
      have u1 := Int.emod_lt_of_pos (c / 147 + hop * ((0 : Int) + (i : Int))) (show (0 : Int) < 26 by decide)
      refine ⟨_, rfl, _, rfl, _, _, rfl, rfl, ⟨by decide, by decide⟩, _, rfl, _, rfl, _, _, rfl, rfl, .inl ⟨by omega, by omega⟩, _, _, rfl, rfl, _, _, rfl, rfl, (by show (0 : Int) < 26; decide), _, _, _, rfl, rfl, (by decide +kernel), sign_at u0 u1, ?_⟩
      have e1 : (cutS z none (some (k : Int))).length = k := by rw [← len_tl, cut_lo kz, List.length_take, len_tl]; omega
      have e2 : (cutS z (some (k : Int)) none).length = z.length - k := by rw [← len_tl, cut_hi kz, List.length_drop, len_tl]
      have e3 : ∀ c : Nat, (⟨#[c]⟩ : Str).length = 1 := fun c => rfl
      have e4 : ("q" : Str).length = 1 := by decide +kernel
      refine ⟨_, rfl, .inl ⟨rfl, _, SqL.of hL2⟩, _, rfl, _, rfl, _, rfl, z, rfl, sz (by omega), _, rfl, _, _, rfl, rfl, sz (by rw [e1, e3]; omega), _, rfl, _, rfl, _, rfl, z, rfl, sz (by omega), _, _, rfl, rfl, sz (by rw [len_app, e1, e2, e3]; omega), _, _, rfl, rfl, sz (by rw [len_app, len_app, e1, e2, e3, e4]; omega), L, _, _, rfl, rfl, hL2, szl (by rw [List.length_map, List.length_map, List.length_range]; omega), ?_⟩
      refine ⟨same_mut s2 hL0, ?_, _, _, rfl⟩
      rw [upd_same, name_eq kz, List.range_succ, List.map_append, List.map_append, Int.zero_add]
      rfl
    · rintro σ H2 ⟨s2, hL2, x, y, rfl⟩
      refine ⟨_, rfl, q L _ H2 s2 hL2 ?_ ?_ ?_⟩
      · rw [List.length_map, List.length_range]
        omega
      · refine List.pairwise_map.mpr (List.Pairwise.imp_of_mem ?_ List.pairwise_lt_range)
        intro a b ha' hb' hab e
        have := name_inj e
        have h1 := List.mem_range.mp ha'
        have h2 := List.mem_range.mp hb'
        have := hop_ne (q := c / 147) (a := hop) (i := a) (j := b) hh (by omega) (by omega) (by omega)
        omega
      · intro y hy
        obtain ⟨i, hi, rfl⟩ := List.mem_map.mp hy
        have u0 := Int.emod_nonneg (c / 147 + hop * (i : Int)) (show (26 : Int) ≠ 0 by decide)
        have u1 := Int.emod_lt_of_pos (c / 147 + hop * (i : Int)) (show (0 : Int) < 26 by decide)
        exact name_ok abc (by rw [len_tl]; exact zl) (by omega)
end
end RW
/-! The law's own defs: a pile of told tuples, the told tuple drawn. -/
namespace RW
open PySem L2 PySem.Spec PyProof.Rows
theorem cut_last (xs : List V) : cutV xs none (some (-1)) = xs.take (xs.length - 1) := by
  unfold cutV
  rw [HT.sIx_none, show HT.sIx xs.length xs.length (some (-1)) = xs.length - 1 from by
    show (if (-1 : Int) < 0 then ((-1 : Int) + (xs.length : Int)).toNat else min (-1 : Int).toNat xs.length) = _
    rw [if_pos (by decide)]; omega]
  simp
theorem cut_to {xs : List V} {k : Nat} (h : k ≤ xs.length) : cutV xs none (some (k : Int)) = xs.take k := by
  unfold cutV
  rw [HT.sIx_none, HT.sIx_nat, Nat.min_eq_left h]
  simp
theorem cut_from {xs : List V} {k : Nat} (h : k ≤ xs.length) : cutV xs (some (k : Int)) none = xs.drop k := by
  unfold cutV
  rw [HT.sIx_none, HT.sIx_nat, Nat.min_eq_left h, List.take_of_length_le]
  rw [List.length_drop]
  exact Nat.le_refl _
theorem sizeL_split (l : List RW.T) (k : Nat) : sizeL (l.take k) + sizeL (l.drop k) = sizeL l := by
  conv => rhs; rw [← List.take_append_drop k l, sizeL_app]
theorem okL_take {nn : Nat} {l : List RW.T} (h : okL nn l) (k : Nat) : okL nn (l.take k) := okL_iff.mpr fun t ht => okL_iff.mp h t (List.mem_of_mem_take ht)
theorem okL_drop {nn : Nat} {l : List RW.T} (h : okL nn l) (k : Nat) : okL nn (l.drop k) := okL_iff.mpr fun t ht => okL_iff.mp h t (List.mem_of_mem_drop ht)
theorem okL_app {nn : Nat} {l l' : List RW.T} (h : okL nn l) (h' : okL nn l') : okL nn (l ++ l') := okL_iff.mpr fun t ht => (List.mem_append.mp ht).elim (okL_iff.mp h t) (okL_iff.mp h' t)
theorem okL_snoc {nn : Nat} {l : List RW.T} {t : RW.T} (h : okL nn l) (h1 : t.ok nn) : okL nn (l ++ [t]) := okL_app h ⟨h1, trivial⟩
theorem IsTolds.snoc {nm : List Str} {H : Hp} {ts : List RW.T} {us : List V} {t : RW.T} {u : V} (h : IsTolds nm H ts us) (h1 : IsTold nm H t u) : IsTolds nm H (ts ++ [t]) (us ++ [u]) := h.app ⟨u, [], rfl, h1, rfl⟩
def spGrown (nm : List Str) : Sp := fun vs H Q _ => ∃ (p nl : Addr) (c : Int) (ts : List RW.T) (us : List V), vs = [.ref p, .int c, .ref nl] ∧ H p = some (.lst us) ∧ IsTolds nm H ts us ∧ okL nm.length ts ∧ ts.length ≤ 100 ∧ H nl = some (.lst (nm.map V.str)) ∧ 1 ≤ nm.length ∧ nm.length ≤ 6 ∧
  ∀ (p' : Addr) (ts' : List RW.T) (us' : List V) (H' : Hp), Same H H' → H' p' = some (.lst us') → IsTolds nm H' ts' us' → okL nm.length ts' → sizeL ts' ≤ sizeL ts + 1 → Q (.ref p') H'
section
variable {P : Program} {w : World} {K : PySem.W.Frag} {mg : Str → Option Value} {base : Heap} {g : At} {f : Fa} {nm : List Str}
theorem scGrown : FnScope ["_law_pile", "_law_cell", "_law_names_here", "_law_kind", "_law_more", "_law_at"] ["_law_pile", "_law_cell", "_law_names_here"] (defScope sGrown) := ⟨rfl, rfl, rfl, by decide +kernel, rfl, by decide +kernel, by decide +kernel⟩
theorem ok_grown (T : Txt K mg g f) : Good P w K mg base 2 f.grown ["_law_pile", "_law_cell", "_law_names_here"] (spGrown nm) := by
  have GM := ok_mixed (P := P) (w := w) (base := base) T
  refine T.d_grown.ok scGrown (fun vs H Q E h => ?_) (fun cdv A outer s H vs Q E hr h => ?_)
  · obtain ⟨p, nl, c, ts, us, rfl, _⟩ := h
    rfl
  · obtain ⟨p, nl, c, ts, us, rfl, hp, hts, hok, h100, hnl, n1, n6, k⟩ := h
    have hu := hu_of hr
    refine ⟨_, pss_cons (ps_set (i := 3) scGrown.nd rfl (Or.inl rfl) (pe_op op_mod (pe_op op_fdiv (pe_fn GM hr (by decide) T.g_mixed (pa_cons (pv 1) (pa_cons pe_int pa_nil))) pe_int) pe_int))
      (pss_cons (ps_set (i := 4) scGrown.nd rfl (Or.inl rfl) (pe_op op_fdiv (pe_fn GM hr (by decide) T.g_mixed (pa_cons (pv 1) (pa_cons pe_int pa_nil))) pe_int))
      (pss_cons (ps_if (pt_cmpR op_eq (pv 3) pe_int (nomark _)) (pss_one (ps_ret (pe_op op_cat (pv 0) (pe_lst (pa_cons (pe_tup (pa_cons pe_str (pa_cons (pe_cmpR op_eq (pe_op op_mod (pv 4) pe_int) pe_int (nomark _)) pa_nil))) pa_nil))))) pss_nil)
      (pss_cons (ps_if (PW.pt (pw_and (pt_cmpR op_eq (pv 3) pe_int (nomark _)) (pw_and1 (pt_cmpR (op_neNil (Nat.lt_of_succ_lt hu)) (pv 0) (pe_lst pa_nil) (nomark _)))))
        (pss_one (ps_ret (pe_op op_cat (pe_slice sl_list (pv 0) po_none (po_some (pe_un un_neg pe_int))) (pe_lst (pa_cons (pe_tup (pa_cons pe_str (pa_cons (pe_ix ix_list (pv 0) (pe_un un_neg pe_int) (fun _ _ => rfl)) pa_nil))) pa_nil))))) pss_nil)
      (pss_cons (ps_if (PW.pt (pw_and (pt_cmpR op_gt (pv 3) pe_int (nomark _)) (pw_and1 (pt_cmpR op_gt (pe_callB call_len_seq (by rfl) T.b_len PySem.boot_len (pa_cons (pv 0) pa_nil)) pe_int (nomark _)))))
        (pss_cons (ps_set (i := 5) scGrown.nd rfl (Or.inl rfl) (pe_callB (call_max2 rfl) (by rfl) T.b_max (by decide +kernel) (pa_cons pe_int (pa_cons (pe_op op_sub (pe_op op_sub (pe_callB call_len_seq (by rfl) T.b_len PySem.boot_len (pa_cons (pv 0) pa_nil)) pe_int) (pe_op op_mod (pv 4) pe_int)) pa_nil))))
        (pss_one (ps_ret (pe_op op_cat (pe_slice sl_list (pv 0) po_none (po_some (pv 5)))
          (pe_lst (pa_cons (pe_op op_catT (pe_tup (pa_cons (pe_ix ix_list (pe_lst (pa_cons pe_str (pa_cons pe_str pa_nil))) (pe_op op_mod (pe_op op_fdiv (pv 4) pe_int) pe_int) (fun _ _ => rfl)) pa_nil))
            (pe_callTy call_tuple_of (by rfl) T.b_tuple (by decide +kernel) (pa_cons (pe_slice sl_list (pv 0) (po_some (pv 5)) po_none) pa_nil))) pa_nil)))))) pss_nil)
      (pss_one (ps_ret (pe_op op_cat (pv 0) (pe_lst (pa_cons (pe_tup (pa_cons pe_str (pa_cons (pe_ix ix_list (pv 2) (pe_op op_mod (pv 4) (pe_callB call_len_seq (by rfl) T.b_len PySem.boot_len (pa_cons (pv 2) pa_nil))) (fun _ _ => rfl)) pa_nil))) pa_nil))))))))), ?_⟩
    have hlen := hts.len
    refine ⟨_, rfl, _, _, rfl, by decide, by decide, fun m1 a0 a1 => ⟨_, _, rfl, rfl, ⟨by decide, by decide⟩, _, _, rfl, rfl, (by show (0 : Int) < 12; decide), ?_⟩⟩
    refine ⟨_, rfl, _, _, rfl, by decide, by decide, fun m2 b0 b1 => ⟨_, _, rfl, rfl, ⟨by decide, by decide⟩, ?_⟩⟩
    dsimp only
    have more0 : 0 ≤ m2 / 5 := by omega
    generalize m2 / 5 = more at more0 ⊢
    generalize m1 / 5 % 12 = kind
    refine ⟨_, rfl, rfl, _, rfl, i2 (fun _ => ?_) (fun _ => ?_)⟩
    · -- a truth
      refine ⟨_, rfl, _, rfl, _, _, rfl, rfl, (by show (0 : Int) < 2; decide), rfl, by show 2 ≤ sizeLine; decide, fun q hq => ⟨by show 1 ≤ sizeLine; decide, fun l hl => ?_⟩⟩
      have s2 := (same_new hq).trans (same_new (o := .lst [.ref q]) hl)
      refine ⟨p, l, us, _, rfl, rfl, s2 _ _ hp, upd_same, sz (by simp; omega), fun r hr => ?_⟩
      have s3 := s2.trans (same_new (o := .lst (us ++ [.ref q])) hr)
      refine k r (ts ++ [.fx (decide (V.int (more % 2) = V.int 1))]) _ _ s3 upd_same ((hts.mono (.of_same s3)).snoc (t := .fx (decide (V.int (more % 2) = V.int 1))) ⟨q, rfl, ?_⟩) (okL_snoc (t := .fx _) hok trivial) (by rw [sizeL_app]; exact Nat.le_refl _)
      exact (same_new hr) _ _ ((same_new hl) _ _ upd_same)
    have hnl' : (nm.map V.str).length = nm.length := List.length_map _
    obtain ⟨j, hj, z, hz, hat⟩ : ∃ (j : Nat) (_ : j < nm.length) (z : Str), nm[j]? = some z ∧ atI (nm.map V.str) (more % (((nm.map V.str).length : Nat) : Int)) = some (.str z) := by
      have e0 := Int.emod_nonneg more (show (((nm.map V.str).length : Nat) : Int) ≠ 0 by omega)
      have e1 := Int.emod_lt_of_pos more (show (0 : Int) < (((nm.map V.str).length : Nat) : Int) by omega)
      have hj : (more % (((nm.map V.str).length : Nat) : Int)).toNat < nm.length := by omega
      refine ⟨_, hj, _, List.getElem?_eq_getElem hj, at_of (j := (more % (((nm.map V.str).length : Nat) : Int)).toNat) (by omega) ?_⟩
      rw [List.getElem?_map, List.getElem?_eq_getElem hj]
      rfl
    have sc := Same.refl H
    refine ⟨_, rfl, rfl, _, rfl, ?_⟩
    by_cases hk1 : decide (V.int kind = V.int 1) = true
    · refine iteA hk1 ⟨_, rfl, Nat.zero_le _, fun q0 hq0 => ⟨p, q0, us, rfl, rfl, SqL.of ((same_new hq0) _ _ hp), SqL.of upd_same, _, rfl, ?_⟩⟩
      replace sc := same_new (o := .lst []) hq0
      generalize upd H q0 (.lst []) = Hc at sc ⊢
      by_cases hus : us = []
      · refine iteB (by rw [hus]; rfl) ⟨_, rfl, _, _, rfl, rfl, _, rfl, iteB (dF ?_) (iteF ?_)⟩
        · have : V.int kind = V.int 1 := of_decide_eq_true hk1
          injection this with this
          omega
        refine ⟨_, rfl, _, rfl, _, rfl, _, rfl, nl, _, rfl, .inl (SqL.of (sc _ _ hnl)), _, _, rfl, rfl, (by show (0 : Int) < (((nm.map V.str).length : Nat) : Int); rw [hnl']; omega), nl, _, _, _, rfl, rfl, SqL.of (sc _ _ hnl), hat, by show 2 ≤ sizeLine; decide, fun q hq => ⟨by show 1 ≤ sizeLine; decide, fun l hl => ?_⟩⟩
        have s2 := (sc.trans (same_new hq)).trans (same_new (o := .lst [.ref q]) hl)
        refine ⟨p, l, us, _, rfl, rfl, s2 _ _ hp, upd_same, sz (by simp; omega), fun r hr => ?_⟩
        have s3 := s2.trans (same_new (o := .lst (us ++ [.ref q])) hr)
        exact k r (ts ++ [.ct j]) _ _ s3 upd_same ((hts.mono (.of_same s3)).snoc (t := .ct j) ⟨q, z, rfl, hz, (same_new hr) _ _ ((same_new hl) _ _ upd_same)⟩) (okL_snoc (t := .ct j) hok hj) (by rw [sizeL_app]; exact Nat.le_refl _)
      · have upos : 0 < us.length := List.length_pos_iff.mpr hus
        have hlast : us[us.length - 1]? = some us[us.length - 1] := List.getElem?_eq_getElem (by omega)
        obtain ⟨t, ht, htl⟩ := (hts.mono (.of_same sc)).get hlast
        generalize us[us.length - 1] = u at hlast htl
        refine iteA (by cases us with | nil => exact absurd rfl hus | cons _ _ => rfl) ⟨_, rfl, 1, rfl, _, rfl, p, us, rfl, SqL.of (sc _ _ hp), fun p1 hp1 => ?_⟩
        rw [show (-1 : Int) = -1 from rfl, cut_last]
        have s1 := sc.trans (same_new (o := .lst (us.take (us.length - 1))) hp1)
        have hp1' := upd_same (H := Hc) (a := p1) (o := .lst (us.take (us.length - 1)))
        have htl1 := htl.mono (.of_same (same_new (o := .lst (us.take (us.length - 1))) hp1))
        generalize upd Hc p1 (.lst (us.take (us.length - 1))) = Hd at s1 hp1' htl1 ⊢
        have hat1 : atI us (-1) = some u := by
          have e : us = us.take (us.length - 1) ++ [u] := by
            have := List.take_append_drop (us.length - 1) us
            rw [List.drop_eq_getElem_cons (by omega)] at this
            rw [List.getElem?_eq_getElem (by omega)] at hlast
            cases hlast
            have hd : us.drop (us.length - 1 + 1) = [] := List.drop_eq_nil_of_le (by omega)
            rw [hd] at this
            exact this.symm
          rw [e]
          exact atI_last _ _
        refine ⟨_, rfl, 1, rfl, p, _, _, _, rfl, rfl, SqL.of (s1 _ _ hp), hat1, by show 2 ≤ sizeLine; decide, fun q hq => ⟨by show 1 ≤ sizeLine; decide, fun l hl => ?_⟩⟩
        have s2 := (same_new (o := .tup [.str "not", u]) hq).trans (same_new (o := .lst [.ref q]) hl)
        refine ⟨p1, l, _, _, rfl, rfl, s2 _ _ hp1', upd_same, sz (by simp; omega), fun r hr => ?_⟩
        have s3 := s2.trans (same_new (o := .lst (us.take (us.length - 1) ++ [.ref q])) hr)
        have hsp : sizeL (ts.take (us.length - 1)) + t.size ≤ sizeL ts := (sizeL_take ht).2
        refine k r (ts.take (us.length - 1) ++ [.nt t]) _ _ (s1.trans s3) upd_same (((hts.take _).mono (.of_same (s1.trans s3))).snoc (t := .nt t) ⟨q, u, rfl, (same_new hr) _ _ ((same_new hl) _ _ upd_same), htl1.mono (.of_same s3)⟩) (okL_snoc (t := .nt t) (okL_take hok _) (okL_iff.mp hok t (List.mem_of_getElem? ht))) ?_
        rw [sizeL_app]
        show _ + (1 + t.size + 0) ≤ _
        omega
    · refine iteB (Bool.eq_false_iff.mpr hk1) (iteF ⟨_, rfl, _, _, rfl, rfl, _, rfl, ?_⟩)
      by_cases hk5 : decide ((5 : Int) < kind) = true
      · refine iteA hk5 ⟨_, rfl, p, _, rfl, .inl (SqL.of hp), _, _, rfl, rfl, _, rfl, ?_⟩
        by_cases hl1 : 1 < us.length
        · refine iteA (dT (by omega)) ?_
          have r0 := Int.emod_nonneg more (show (3 : Int) ≠ 0 by decide)
          have r1 := Int.emod_lt_of_pos more (show (0 : Int) < 3 by decide)
          refine ⟨_, rfl, p, _, rfl, .inl (SqL.of hp), _, _, rfl, rfl, _, rfl, _, _, rfl, rfl, (by show (0 : Int) < 3; decide), _, _, rfl, rfl, _, _, rfl, ?_⟩
          dsimp only
          obtain ⟨kk, hkk, hkl⟩ : ∃ kk : Nat, (if ((us.length : Nat) : Int) - 2 - more % 3 > 0 then ((us.length : Nat) : Int) - 2 - more % 3 else 0) = (kk : Int) ∧ kk + 2 ≤ us.length := by
            refine ⟨(if ((us.length : Nat) : Int) - 2 - more % 3 > 0 then ((us.length : Nat) : Int) - 2 - more % 3 else 0).toNat, ?_, ?_⟩
            · split <;> omega
            · split <;> omega
          rw [hkk]
          obtain ⟨gb, hgw⟩ : ∃ gb : Bool, atI [V.str "and", V.str "or"] (more / 3 % 2) = some (.str (if gb = true then "and" else "or")) := by
            rcases (by omega : more / 3 % 2 = 0 ∨ more / 3 % 2 = 1) with e | e
            · exact ⟨true, at_of (j := 0) e rfl⟩
            · exact ⟨false, at_of (j := 1) e rfl⟩
          refine ⟨_, rfl, _, rfl, _, rfl, p, us, rfl, SqL.of hp, fun p1 hp1 => ?_⟩
          rw [cut_to (show kk ≤ us.length by omega)]
          have s1 := same_new (o := .lst (us.take kk)) hp1
          have hp1' := upd_same (H := H) (a := p1) (o := .lst (us.take kk))
          generalize upd H p1 (.lst (us.take kk)) = Ha at s1 hp1' ⊢
          refine ⟨by show 2 ≤ sizeLine; decide, fun l0 hl0 => ?_⟩
          have s2 := same_new (o := .lst [V.str "and", V.str "or"]) hl0
          refine ⟨_, rfl, _, _, rfl, rfl, ⟨by decide, by decide⟩, _, _, rfl, rfl, (by show (0 : Int) < 2; decide), l0, _, _, _, rfl, rfl, SqL.of upd_same, hgw, by show 1 ≤ sizeLine; decide, fun t0 ht0 => ?_⟩
          replace s2 := s2.trans (same_new (o := .tup [V.str (if gb = true then "and" else "or")]) ht0)
          have ht0' := upd_same (H := upd Ha l0 (.lst [V.str "and", V.str "or"])) (a := t0) (o := .tup [V.str (if gb = true then "and" else "or")])
          generalize upd (upd Ha l0 (.lst [V.str "and", V.str "or"])) t0 (.tup [V.str (if gb = true then "and" else "or")]) = Hb at s2 ht0' ⊢
          have s12 := s1.trans s2
          refine ⟨_, rfl, _, rfl, _, rfl, p, us, rfl, SqL.of (s12 _ _ hp), fun p2 hp2 => ?_⟩
          rw [cut_from (show kk ≤ us.length by omega)]
          have s3 := same_new (o := .lst (us.drop kk)) hp2
          refine ⟨p2, _, rfl, .inl ⟨SqL.of upd_same, fun t1 ht1 => ?_⟩⟩
          replace s3 := s3.trans (same_new (o := .tup (us.drop kk)) ht1)
          have ht1' := upd_same (H := upd Hb p2 (.lst (us.drop kk))) (a := t1) (o := .tup (us.drop kk))
          generalize upd (upd Hb p2 (.lst (us.drop kk))) t1 (.tup (us.drop kk)) = Hd at s3 ht1' ⊢
          have hdl : (us.drop kk).length = us.length - kk := List.length_drop
          refine ⟨t0, t1, _, _, rfl, rfl, SqT.of (s3 _ _ ht0'), SqT.of ht1', List.cons_ne_nil _ _, sz (by rw [hdl]; simp; omega), fun e => ?_, fun _ t2 ht2 => ?_⟩
          · rw [e] at hdl
            simp at hdl
            omega
          refine ⟨by show 1 ≤ sizeLine; decide, fun l hl => ?_⟩
          have s4 := (same_new (o := .tup ([V.str (if gb = true then "and" else "or")] ++ us.drop kk)) ht2).trans (same_new (o := .lst [.ref t2]) hl)
          have ht2' := (same_new (o := .lst [.ref t2]) hl) _ _ (upd_same (H := Hd) (a := t2) (o := .tup ([V.str (if gb = true then "and" else "or")] ++ us.drop kk)))
          refine ⟨p1, l, _, _, rfl, rfl, s4 _ _ (s3 _ _ (s2 _ _ hp1')), upd_same, sz (by simp; omega), fun r hr => ?_⟩
          have s5 := ((s12.trans s3).trans s4).trans (same_new (o := .lst (us.take kk ++ [.ref t2])) hr)
          have hsp := sizeL_split ts kk
          refine k r (ts.take kk ++ [.gr gb (ts.drop kk)]) _ _ s5 upd_same (((hts.take kk).mono (.of_same s5)).snoc (t := .gr gb (ts.drop kk)) ⟨t2, us.drop kk, rfl, (same_new hr) _ _ ht2', (hts.drop kk).mono (.of_same s5)⟩)
            (okL_snoc (t := .gr gb (ts.drop kk)) (okL_take hok _) ⟨by rw [List.length_drop]; omega, okL_drop hok _⟩) ?_
          rw [sizeL_app]
          show _ + (1 + sizeL (ts.drop kk) + 0) ≤ _
          omega
        · refine iteB (dF (by omega)) ?_
          refine ⟨_, rfl, _, rfl, _, rfl, _, rfl, nl, _, rfl, .inl (SqL.of (sc _ _ hnl)), _, _, rfl, rfl, (by show (0 : Int) < (((nm.map V.str).length : Nat) : Int); rw [hnl']; omega), nl, _, _, _, rfl, rfl, SqL.of (sc _ _ hnl), hat, by show 2 ≤ sizeLine; decide, fun q hq => ⟨by show 1 ≤ sizeLine; decide, fun l hl => ?_⟩⟩
          have s2 := (sc.trans (same_new hq)).trans (same_new (o := .lst [.ref q]) hl)
          refine ⟨p, l, us, _, rfl, rfl, s2 _ _ hp, upd_same, sz (by simp; omega), fun r hr => ?_⟩
          have s3 := s2.trans (same_new (o := .lst (us ++ [.ref q])) hr)
          exact k r (ts ++ [.ct j]) _ _ s3 upd_same ((hts.mono (.of_same s3)).snoc (t := .ct j) ⟨q, z, rfl, hz, (same_new hr) _ _ ((same_new hl) _ _ upd_same)⟩) (okL_snoc (t := .ct j) hok hj) (by rw [sizeL_app]; exact Nat.le_refl _)
      · refine iteB (Bool.eq_false_iff.mpr hk5) (iteF ?_)
        refine ⟨_, rfl, _, rfl, _, rfl, _, rfl, nl, _, rfl, .inl (SqL.of (sc _ _ hnl)), _, _, rfl, rfl, (by show (0 : Int) < (((nm.map V.str).length : Nat) : Int); rw [hnl']; omega), nl, _, _, _, rfl, rfl, SqL.of (sc _ _ hnl), hat, by show 2 ≤ sizeLine; decide, fun q hq => ⟨by show 1 ≤ sizeLine; decide, fun l hl => ?_⟩⟩
        have s2 := (sc.trans (same_new hq)).trans (same_new (o := .lst [.ref q]) hl)
        refine ⟨p, l, us, _, rfl, rfl, s2 _ _ hp, upd_same, sz (by simp; omega), fun r hr => ?_⟩
        have s3 := s2.trans (same_new (o := .lst (us ++ [.ref q])) hr)
        exact k r (ts ++ [.ct j]) _ _ s3 upd_same ((hts.mono (.of_same s3)).snoc (t := .ct j) ⟨q, z, rfl, hz, (same_new hr) _ _ ((same_new hl) _ _ upd_same)⟩) (okL_snoc (t := .ct j) hok hj) (by rw [sizeL_app]; exact Nat.le_refl _)
end
end RW
/-! The law's own defs: the told tuple drawn, a row, whether it holds. -/
namespace RW
open PySem L2 PySem.Spec PyProof.Rows
def spToldBy (K : PySem.W.Frag) (nm : List Str) : Sp := fun vs H Q _ => ∃ (a nl : Addr) (ns : List Int) (fr many : Int), vs = [.ref a, .int fr, .int many, .ref nl] ∧ SqL K H a (ns.map V.int) ∧ ns.length ≤ 63 ∧ 0 ≤ fr ∧ fr ≤ 100 ∧ 0 ≤ many ∧ many ≤ 14 ∧
  H nl = some (.lst (nm.map V.str)) ∧ 1 ≤ nm.length ∧ nm.length ≤ 6 ∧ ∀ (v : V) (t : RW.T) (H' : Hp), Same H H' → IsTold nm H' t v → t.ok nm.length → (t.size : Int) ≤ many + 1 → Q v H'
section
variable {P : Program} {w : World} {K : PySem.W.Frag} {mg : Str → Option Value} {base : Heap} {g : At} {f : Fa} {nm : List Str}
theorem scToldBy : FnScope ["_law_script", "_law_first", "_law_many", "_law_names_here", "_law_pile", "_law_k"] ["_law_script", "_law_first", "_law_many", "_law_names_here"] (defScope sToldBy) := ⟨rfl, rfl, rfl, by decide +kernel, rfl, by decide +kernel, by decide +kernel⟩
theorem ok_toldBy (T : Txt K mg g f) : Good P w K mg base 3 f.toldBy ["_law_script", "_law_first", "_law_many", "_law_names_here"] (spToldBy K nm) := by
  have GC := ok_cell (P := P) (w := w) (base := base) T
  have GG := ok_grown (P := P) (w := w) (base := base) (nm := nm) T
  refine T.d_toldBy.ok scToldBy (fun vs H Q E h => ?_) (fun cdv A outer s H vs Q E hr h => ?_)
  · obtain ⟨a, nl, ns, fr, many, rfl, _⟩ := h
    rfl
  · obtain ⟨a, nl, ns, fr, many, rfl, hS, h63, f0, f1, m0, m1, hnl, n1, n6, k⟩ := h
    refine ⟨_, pss_cons (ps_set (i := 4) scToldBy.nd rfl (Or.inl rfl) (pe_lst pa_nil))
      (pss_cons (ps_for PassesOwn.never rfl (pi_range1 rfl T.b_range (pa_cons (pv 2) pa_nil)) (pg_name (i := 5) scToldBy.nd rfl (Or.inl rfl))
        (pss_one (ps_set (i := 4) scToldBy.nd rfl (Or.inl rfl) (pe_fn GG hr (by decide) T.g_grown (pa_cons (pv 4)
          (pa_cons (pe_op op_add (pe_fn GC hr (by decide) T.g_cell (pa_cons (pv 0) (pa_cons (pe_op op_add (pv 1) (pv 5)) pa_nil))) (pe_op op_mul pe_int (pv 5))) (pa_cons (pv 3) pa_nil)))))))
      (pss_cons (ps_if (pt_cmpR op_gt (pe_callB call_len_seq (by rfl) T.b_len PySem.boot_len (pa_cons (pv 4) pa_nil)) pe_int (nomark _))
        (pss_one (ps_ret (pe_op op_catT (pe_tup (pa_cons pe_str pa_nil)) (pe_callTy call_tuple_of (by rfl) T.b_tuple (by decide +kernel) (pa_cons (pv 4) pa_nil))))) pss_nil)
      (pss_one (ps_ret (pe_ix ix_list (pe_op op_cat (pv 4) (pe_lst (pa_cons (pe_tup (pa_cons pe_str (pa_cons (pe_ix ix_list (pv 3) pe_int (fun _ _ => rfl)) pa_nil))) pa_nil))) pe_int (fun _ _ => rfl)))))), ?_⟩
    refine ⟨Nat.zero_le _, fun p0 hp0 => ?_⟩
    refine ⟨_, rfl, many, rfl, (by omega), (by omega), for_range (lo := 0) (n := many.toNat) (fun i σ H' => Same H H' ∧ ∃ (p : Addr) (ts : List RW.T) (us : List V) (x : Option V), σ = [some (.ref a), some (.int fr), some (.int many), some (.ref nl), some (.ref p), x] ∧
      H' p = some (.lst us) ∧ IsTolds nm H' ts us ∧ okL nm.length ts ∧ sizeL ts ≤ i) ⟨same_new hp0, p0, [], [], _, rfl, upd_same, rfl, trivial, Nat.le_refl _⟩ ?_ ?_⟩
    · rintro i σ H1 hi ⟨s1, p, ts, us, x, rfl, hp, hts, hok, hsz⟩
      have := len_le_size ts
      refine ⟨_, rfl, _, rfl, _, rfl, _, rfl, _, _, rfl, rfl, a, ns, _, rfl, s1.seq hS, h63, (by omega), (by omega), fun c => ⟨_, rfl, _, _, rfl, rfl, .inl ⟨by decide, by decide⟩, _, _, rfl, rfl, _, rfl, ?_⟩⟩
      exact ⟨p, nl, _, ts, us, rfl, hp, hts, hok, by omega, s1 _ _ hnl, n1, n6, fun p' ts' us' H2 s2 hp' hts' hok' hsz' => ⟨s1.trans s2, p', ts', us', _, rfl, hp', hts', hok', by omega⟩⟩
    · rintro σ H1 ⟨s1, p, ts, us, x, rfl, hp, hts, hok, hsz⟩
      have hl := hts.len
      have hls := len_le_size ts
      have hm : ((many.toNat : Nat) : Int) = many := by omega
      refine ⟨_, rfl, p, _, rfl, .inl (SqL.of hp), _, _, rfl, rfl, _, rfl, ?_⟩
      by_cases h1 : 1 < us.length
      · refine iteA (dT (by omega)) ⟨by show 1 ≤ sizeLine; decide, fun t0 ht0 => ?_⟩
        have s2 := same_new (o := .tup [V.str "and"]) ht0
        refine ⟨_, rfl, p, us, rfl, .inl ⟨SqL.of (s2 _ _ hp), fun t1 ht1 => ?_⟩⟩
        have s3 := s2.trans (same_new (o := .tup us) ht1)
        refine ⟨t0, t1, _, _, rfl, rfl, SqT.of ((same_new ht1) _ _ upd_same), SqT.of upd_same, List.cons_ne_nil _ _, sz (by simp; omega), fun e => ?_, fun _ t2 ht2 => ?_⟩
        · rw [e] at h1
          simp at h1
        have s4 := s3.trans (same_new (o := .tup ([V.str "and"] ++ us)) ht2)
        refine k _ (.gr true ts) _ (s1.trans s4) ⟨t2, us, rfl, upd_same, hts.mono (.of_same s4)⟩ ⟨by omega, hok⟩ ?_
        show ((1 + sizeL ts : Nat) : Int) ≤ many + 1
        omega
      · refine iteB (dF (by omega)) ?_
        have hz : nm[0]? = some nm[0] := List.getElem?_eq_getElem (by omega)
        generalize nm[0] = z at hz
        refine ⟨_, rfl, _, rfl, nl, _, _, .str z, rfl, rfl, SqL.of (s1 _ _ hnl), atI_nat (j := 0) (by rw [List.getElem?_map, hz]; rfl), by show 2 ≤ sizeLine; decide, fun q hq => ⟨by show 1 ≤ sizeLine; decide, fun l hl2 => ?_⟩⟩
        have s2 := (same_new (o := .tup [V.str "contact", V.str z]) hq).trans (same_new (o := .lst [.ref q]) hl2)
        refine ⟨p, l, us, _, rfl, rfl, s2 _ _ hp, upd_same, sz (by simp; omega), fun r hr => ?_⟩
        have s3 := s2.trans (same_new (o := .lst (us ++ [.ref q])) hr)
        have hq' := (same_new (o := .lst (us ++ [.ref q])) hr) _ _ ((same_new (o := .lst [.ref q]) hl2) _ _ (upd_same (H := H1) (a := q) (o := .tup [V.str "contact", V.str z])))
        cases us with
        | nil =>
          refine ⟨r, _, _, _, rfl, rfl, SqL.of upd_same, atI_nat (j := 0) rfl, ?_⟩
          refine k _ (.ct 0) _ (s1.trans s3) ⟨q, z, rfl, hz, hq'⟩ (show 0 < nm.length by omega) ?_
          show ((1 : Nat) : Int) ≤ many + 1
          omega
        | cons u us =>
          obtain ⟨t, ht, htu⟩ := hts.get (i := 0) rfl
          have hst := (sizeL_take ht).2
          refine ⟨r, _, _, _, rfl, rfl, SqL.of upd_same, atI_nat (j := 0) rfl, ?_⟩
          refine k _ t _ (s1.trans s3) (htu.mono (.of_same s3)) (okL_iff.mp hok t (List.mem_of_getElem? ht)) ?_
          omega
end
end RW
/-! The law's own defs: a row, whether a told tuple holds at it. -/
namespace RW
open PySem L2 PySem.Spec PyProof.Rows
/-- the dict tells the truths of the names, by place -/
def RowIs (nm : List Str) (kvs : List (Key × V)) (e : Nat → Bool) : Prop := ∀ i z, nm[i]? = some z → valV kvs (Sum.inr z) = some (.bl (e i))
def spHolds (nm : List Str) (e : Nat → Bool) (n : Nat) : Sp := fun vs H Q _ => ∃ (v : V) (d : Addr) (t : RW.T) (kvs : List (Key × V)), vs = [v, .ref d] ∧ IsTold nm H t v ∧ t.depth ≤ n ∧ t.ok nm.length ∧ t.size ≤ 1000 ∧ H d = some (.dK kvs) ∧ RowIs nm kvs e ∧ ∀ H', Same H H' → Q (.bl (t.ev e)) H'
def spRow (nm : List Str) : Sp := fun vs H Q _ => ∃ (nl : Addr) (num : Int), vs = [.ref nl, .int num] ∧ H nl = some (.lst (nm.map V.str)) ∧ nm.Nodup ∧ nm.length ≤ 6 ∧ ∀ (p : Addr) (kvs : List (Key × V)) (e : Nat → Bool) (H' : Hp), Same H H' → H' p = some (.dK kvs) → RowIs nm kvs e → Q (.ref p) H'
theorem allE_all (e : Nat → Bool) : ∀ ts : List RW.T, allE e ts = (ts.map fun t => t.ev e).all id
  | [] => rfl
  | t :: ts => by rw [List.map_cons, List.all_cons, ← allE_all e ts]; rfl
theorem anyE_any (e : Nat → Bool) : ∀ ts : List RW.T, anyE e ts = (ts.map fun t => t.ev e).any id
  | [] => rfl
  | t :: ts => by rw [List.map_cons, List.any_cons, ← anyE_any e ts]; rfl
theorem inV_false (bs : List Bool) : inV (.bl false) (bs.map V.bl) = !bs.all id := by
  induction bs with
  | nil => rfl
  | cons b r ih =>
    unfold inV at ih ⊢
    rw [List.map_cons, List.any_cons, ih, List.all_cons]
    cases b <;> rfl
theorem inV_true (bs : List Bool) : inV (.bl true) (bs.map V.bl) = bs.any id := by
  induction bs with
  | nil => rfl
  | cons b r ih =>
    unfold inV at ih ⊢
    rw [List.map_cons, List.any_cons, ih, List.any_cons]
    cases b <;> rfl
theorem flat_bls (bs : List Bool) : (bs.map V.bl).all flatV = true := by
  rw [List.all_map]
  exact List.all_eq_true.mpr fun _ _ => rfl
theorem word_ne {t : RW.T} (h : isLeaf t = false) : decide (V.str (wordT t) = V.str "fixed") = false ∧ decide (V.str (wordT t) = V.str "contact") = false := by
  cases t with
  | fx b => cases h
  | ct i => cases h
  | nt t => exact (show decide (V.str ("not" : Str) = V.str "fixed") = false ∧ decide (V.str ("not" : Str) = V.str "contact") = false by decide +kernel)
  | gr b ts =>
    cases b
    · exact (show decide (V.str ("or" : Str) = V.str "fixed") = false ∧ decide (V.str ("or" : Str) = V.str "contact") = false by decide +kernel)
    · exact (show decide (V.str ("and" : Str) = V.str "fixed") = false ∧ decide (V.str ("and" : Str) = V.str "contact") = false by decide +kernel)
section
variable {P : Program} {w : World} {K : PySem.W.Frag} {mg : Str → Option Value} {base : Heap} {g : At} {f : Fa} {nm : List Str}
theorem scHolds : FnScope ["_law_told", "_law_row_here", "_law_truths", "_law_inner"] ["_law_told", "_law_row_here"] (defScope sHolds) := ⟨rfl, rfl, rfl, by decide +kernel, rfl, by decide +kernel, by decide +kernel⟩
theorem ok_holds (T : Txt K mg g f) (e : Nat → Bool) : ∀ n, Good P w K mg base n f.holds ["_law_told", "_law_row_here"] (spHolds nm e n)
  | 0 => T.d_holds.never fun vs H Q E ⟨v, d, t, kvs, _, _, h, _⟩ => by have := t.depth_pos; omega
  | n + 1 => by
    have GH := ok_holds T e n
    refine T.d_holds.ok scHolds (fun vs H Q E h => ?_) (fun cdv A outer s H vs Q E hr h => ?_)
    · obtain ⟨v, d, t, kvs, rfl, _⟩ := h
      rfl
    · obtain ⟨v, d, t, kvs, rfl, ht, hd, hok, hz, hdk, hrow, k⟩ := h
      have hu := hu_of hr
      refine ⟨_, pss_cons (ps_if (pt_cmpR op_eq (pe_ix ix_tup (pv 0) pe_int (fun _ _ => rfl)) pe_str (nomark _)) (pss_one (ps_ret (pe_ix ix_tup (pv 0) pe_int (fun _ _ => rfl)))) pss_nil)
        (pss_cons (ps_if (pt_cmpR op_eq (pe_ix ix_tup (pv 0) pe_int (fun _ _ => rfl)) pe_str (nomark _)) (pss_one (ps_ret (pe_dget hu (pv 1) (pe_ix ix_tup (pv 0) pe_int (fun _ _ => rfl)) (fun _ _ => rfl)))) pss_nil)
        (pss_cons (ps_setLc (i := 2) (own := [("_law_inner", 3)]) (g := gName 3) (tt := tYes) rfl scHolds.nd rfl rfl (sw_true rfl rfl rfl (by decide +kernel)) (pi_tup (pe_slice sl_tup (pv 0) (po_some pe_int) po_none))
          (blkOk_by (N := ["_law_told", "_law_row_here", "_law_truths", "_law_inner"]) (sc := defScope sHolds) (by decide +kernel)) (fun _ _ _ _ _ => pg_name (i := 3) scHolds.nd rfl (Or.inl rfl)) (fun _ _ _ _ _ => pts_nil)
          (fun _ _ _ _ _ => pe_fn GH hr (Nat.le_refl _) T.g_holds (pa_cons (pv 3) (pa_cons (pv 1) pa_nil))))
        (pss_cons (ps_if (pt_cmpR op_eq (pe_ix ix_tup (pv 0) pe_int (fun _ _ => rfl)) pe_str (nomark _)) (pss_one (ps_ret (pe_not (pe_ix ix_list (pv 2) pe_int (fun _ _ => rfl))))) pss_nil)
        (pss_cons (ps_if (pt_cmpR op_eq (pe_ix ix_tup (pv 0) pe_int (fun _ _ => rfl)) pe_str (nomark _)) (pss_one (ps_ret (pe_cmpR op_notIn_seq pe_bl (pv 2) rfl))) pss_nil)
        (pss_one (ps_ret (pe_cmpR op_in_seq pe_bl (pv 2) rfl))))))), ?_⟩
      cases hl : isLeaf t with
      | true =>
        cases t with
        | fx b =>
          obtain ⟨a, rfl, ha⟩ := ht
          exact ⟨_, rfl, a, _, _, _, rfl, rfl, SqT.of ha, atI_nat (j := 0) rfl, rfl, _, rfl, iteA (dT rfl) ⟨_, rfl, a, _, _, _, rfl, rfl, SqT.of ha, atI_nat (j := 1) rfl, k H (Same.refl _)⟩⟩
        | ct i =>
          obtain ⟨a, z, rfl, hz', ha⟩ := ht
          have hg := DGet.k (k := Sum.inr z) hdk
          rw [hrow i z hz'] at hg
          refine ⟨_, rfl, a, _, _, _, rfl, rfl, SqT.of ha, atI_nat (j := 0) rfl, rfl, _, rfl, iteB (show decide (V.str ("contact" : Str) = V.str "fixed") = false by decide +kernel) ?_⟩
          exact ⟨_, rfl, a, _, _, _, rfl, rfl, SqT.of ha, atI_nat (j := 0) rfl, rfl, _, rfl, iteA (dT rfl) ⟨_, rfl, _, rfl, a, _, _, _, rfl, rfl, SqT.of ha, atI_nat (j := 1) rfl, d, _, rfl, hg, k H (Same.refl _)⟩⟩
        | nt t => cases hl
        | gr b ts => cases hl
      | false =>
        obtain ⟨a, ws, rfl, hta, hws⟩ := told_shape ht
        have hws := hws hl
        have w1 := (word_ne hl).1
        have w2 := (word_ne hl).2
        refine ⟨_, rfl, a, _, _, _, rfl, rfl, SqT.of hta, atI_nat (j := 0) rfl, rfl, _, rfl, iteB w1 ⟨_, rfl, a, _, _, _, rfl, rfl, SqT.of hta, atI_nat (j := 0) rfl, rfl, _, rfl, iteB w2 ?_⟩⟩
        refine ⟨_, rfl, 1, rfl, a, _, rfl, SqT.of hta, fun z => ?_, fun p hp => ?_⟩
        · have z1 : HT.sIx (V.str (wordT t) :: ws).length 0 (some ((1 : Nat) : Int)) = 0 := z.1
          rw [HT.sIx_nat, List.length_cons] at z1
          omega
        · rw [show cutV (V.str (wordT t) :: ws) (some 1) none = ws from cut_from (k := 1) (by rw [List.length_cons]; omega)]
          have s1 := same_new (o := .tup ws) hp
          have hp' := upd_same (H := H) (a := p) (o := .tup ws)
          generalize upd H p (.tup ws) = H1 at s1 hp' ⊢
          refine ⟨p, rfl, ⟨_, SqT.of hp'⟩, fun D hD => ?_⟩
          refine lc_tup (K := K) (a := p) (xs := ws) (fun i H' => Same H1 H' ∧ H' D = some (.lst (((t.kids.take i).map fun t => t.ev e).map V.bl))) ⟨same_new hD, upd_same⟩ (fun i H' _ ⟨s2, _⟩ => SqT.of (s2 _ _ hp')) ?_ ?_
          · rintro i x H2 hx ⟨s2, hL⟩
            obtain ⟨u, hu1, hup⟩ := hws.get hx
            obtain ⟨z1, z2, z3⟩ := kid_le hu1
            refine ⟨rfl, yes_go (iteT ⟨_, rfl, _, rfl, x, d, u, kvs, rfl, hup.mono (.of_same (s1.trans s2)), by omega, kid_ok hok hu1, by omega, s2 _ _ (s1 _ _ hdk), hrow, fun H3 s3 => ?_⟩)⟩
            refine ⟨_, s3 _ _ hL, by rw [List.length_map, List.length_map, List.length_take]; exact szl (by omega), same_mut (s2.trans s3) hD, ?_⟩
            rw [upd_same, List.take_add_one, hu1]
            show some (HO.lst (_ ++ [V.bl _])) = some (HO.lst (((t.kids.take i ++ [u]).map _).map V.bl))
            rw [List.map_append, List.map_append]
            rfl
          · rintro H2 ⟨s2, hL⟩
            rw [hws.len, List.take_length] at hL
            have hta2 := s2 _ _ (s1 _ _ hta)
            have s12 := s1.trans s2
            cases t with
            | fx b => cases hl
            | ct i => cases hl
            | nt t =>
              refine ⟨_, rfl, a, _, _, _, rfl, rfl, SqT.of hta2, atI_nat (j := 0) rfl, rfl, _, rfl, iteA (dT rfl) ?_⟩
              exact ⟨_, rfl, D, _, _, _, rfl, rfl, SqL.of hL, atI_nat (j := 0) rfl, _, rfl, k H2 s12⟩
            | gr b ts =>
              cases b with
              | true =>
                refine ⟨_, rfl, a, _, _, _, rfl, rfl, SqT.of hta2, atI_nat (j := 0) rfl, rfl, _, rfl, iteB (show decide (V.str ("and" : Str) = V.str "not") = false by decide +kernel) ?_⟩
                refine ⟨_, rfl, a, _, _, _, rfl, rfl, SqT.of hta2, atI_nat (j := 0) rfl, rfl, _, rfl, iteA (show decide (V.str ("and" : Str) = V.str "and") = true by decide +kernel) ?_⟩
                refine ⟨_, rfl, D, _, rfl, .inl (SqL.of hL), rfl, flat_bls _, ?_⟩
                refine qb ?_ (k H2 s12)
                rw [if_pos rfl, inV_false, Bool.not_not]
                exact (allE_all e ts).symm
              | false =>
                refine ⟨_, rfl, a, _, _, _, rfl, rfl, SqT.of hta2, atI_nat (j := 0) rfl, rfl, _, rfl, iteB (show decide (V.str ("or" : Str) = V.str "not") = false by decide +kernel) ?_⟩
                refine ⟨_, rfl, a, _, _, _, rfl, rfl, SqT.of hta2, atI_nat (j := 0) rfl, rfl, _, rfl, iteB (show decide (V.str ("or" : Str) = V.str "and") = false by decide +kernel) ?_⟩
                refine ⟨_, rfl, D, _, rfl, .inl (SqL.of hL), rfl, flat_bls _, ?_⟩
                refine qb ?_ (k H2 s12)
                rw [if_neg Bool.false_ne_true, inV_true]
                exact (anyE_any e ts).symm
end
theorem scRow : FnScope ["_law_names_here", "_law_number", "_law_row_here", "_law_name"] ["_law_names_here", "_law_number"] (defScope sRow) := ⟨rfl, rfl, rfl, by decide +kernel, rfl, by decide +kernel, by decide +kernel⟩
section
variable {P : Program} {w : World} {K : PySem.W.Frag} {mg : Str → Option Value} {base : Heap} {g : At} {f : Fa} {nm : List Str}
theorem ok_row (T : Txt K mg g f) : Good P w K mg base 1 f.row ["_law_names_here", "_law_number"] (spRow nm) := by
  refine T.d_row.ok scRow (fun vs H Q E h => ?_) (fun cdv A outer s H vs Q E hr h => ?_)
  · obtain ⟨nl, num, rfl, _⟩ := h
    rfl
  · obtain ⟨nl, num, rfl, hnl, hnd, h6, k⟩ := h
    have hu := hu_of hr
    refine ⟨_, pss_cons (ps_set (i := 2) scRow.nd rfl (Or.inl rfl) pe_dnewK)
      (pss_cons (ps_for PassesOwn.never rfl (pi_list (pv 0)) (pg_name (i := 3) scRow.nd rfl (Or.inl rfl))
        (pss_cons (ps_dput hu (pv 2) (pv 3) (pe_cmpR op_eq (pe_op op_mod (pv 1) pe_int) pe_int (nomark _)) rfl)
        (pss_one (ps_set (i := 1) scRow.nd rfl (Or.inl rfl) (pe_op op_fdiv (pv 1) pe_int)))))
      (pss_one (ps_ret (pv 2)))), ?_⟩
    refine fun p hp => ⟨_, rfl, nl, rfl, ⟨_, SqL.of ((same_new hp) _ _ hnl)⟩, ?_⟩
    refine for_list (K := K) (a := nl) (xs := nm.map V.str) (fun i σ H' => ∃ (num : Int) (x : Option V) (kvs : List (Key × V)) (e : Nat → Bool), σ = [some (.ref nl), some (.int num), some (.ref p), x] ∧ Same H H' ∧ H' p = some (.dK kvs) ∧ kvs.length ≤ i ∧ ∀ j z, j < i → nm[j]? = some z → valV kvs (Sum.inr z) = some (.bl (e j)))
      ⟨num, _, [], fun _ => false, rfl, same_new hp, upd_same, Nat.le_refl _, fun j z h => absurd h (Nat.not_lt_zero _)⟩ (fun i σ H' _ ⟨_, _, _, _, _, s1, _⟩ => SqL.of (s1 _ _ hnl)) ?_ ?_
    · rintro i x σ H1 hx ⟨num, y, kvs, e, rfl, s1, hd, hl, hv⟩
      rw [List.getElem?_map] at hx
      cases hz : nm[i]? with
      | none => rw [hz] at hx; cases hx
      | some z =>
        rw [hz] at hx
        cases hx
        have hi : i < nm.length := (List.getElem?_eq_some_iff.mp hz).1
        refine ⟨_, rfl, _, _, rfl, rfl, (by show (0 : Int) < 2; decide), rfl, _, rfl, _, rfl, p, _, rfl, DPut.k (k := Sum.inr z) hd (szl (by omega)), ?_⟩
        refine ⟨_, rfl, _, _, rfl, rfl, ⟨by decide, by decide⟩, _, _, _, fun j => if j = i then decide (V.int (num % 2) = V.int 1) else e j, rfl, same_mut s1 hp, upd_same, ?_, fun j z' hj hz' => ?_⟩
        · exact Nat.le_trans (length_putK _ _ _) (by omega)
        · rw [valV_put]
          by_cases e1 : j = i
          · subst e1
            rw [hz] at hz'
            cases hz'
            rw [if_pos rfl]
            exact congrArg (fun b => some (V.bl b)) (if_pos rfl).symm
          · have n1 : (Sum.inr z' : Key) ≠ Sum.inr z := fun q => by
              injection q with q
              subst q
              exact e1 (nd_ix hnd hz' hz)
            rw [if_neg n1, hv j z' (by omega) hz']
            exact congrArg (fun b => some (V.bl b)) (if_neg e1).symm
    · rintro σ H1 ⟨num, y, kvs, e, rfl, s1, hd, hl, hv⟩
      rw [List.length_map] at hv
      exact ⟨_, rfl, k p kvs e H1 s1 hd fun j z hz => hv j z (List.getElem?_eq_some_iff.mp hz).1 hz⟩
end
end RW
/-! The law's own defs: whole, place, down, met. -/
namespace RW
open PySem L2 PySem.Spec PyProof.Rows
theorem none_back {H H' : Hp} {p : Addr} (s : Same H H') (h : H' p = none) : H p = none := by
  cases e : H p with
  | none => rfl
  | some o => rw [s p o e] at h; cases h
def iV (n : Nat) : V := .int (n : Int)
def spWhole : Sp := fun vs H Q _ => ∃ i : Int, vs = [.int i] ∧ Q (.bl true) H
def spPlaceL (g : At) : Sp := fun vs H Q _ => ∃ (h : Sh) (ns : List Nd) (x : Nat), vs = [.ref h.S, .int x] ∧ ShAt g H h ns ∧ x < ns.length + 2 ∧ ∀ H', Same H H' → Q (.int (pl h.nm.length ns x)) H'
def spDown (g : At) (e : Nat → Bool) : Sp := fun vs H Q _ => ∃ (h : Sh) (ns : List Nd) (x : Nat) (d : Addr) (kvs : List (Key × V)), vs = [.ref h.S, .int x, .ref d] ∧ ShAt g H h ns ∧ WF h.nm.length ns ∧ x < ns.length + 2 ∧ H d = some (.dK kvs) ∧ RowIs h.nm kvs e ∧ ∀ H', Same H H' → Q (.bl (sem e ns x)) H'
def spMet (g : At) : Sp := fun vs H Q _ => ∃ (h : Sh) (ns : List Nd) (x : Nat), vs = [.ref h.S, .int x] ∧ ShAt g H h ns ∧ WF h.nm.length ns ∧ x < ns.length + 2 ∧ ns.length ≤ 2000 ∧
  ∀ (p : Addr) (ys : List Nat) (H' : Hp), H p = none → Same H H' → H' p = some (.lst (ys.map iV)) → ys.Nodup → (∀ y ∈ ys, 2 ≤ y ∧ y < ns.length + 2) → Q (.ref p) H'
theorem flat_iV (ys : List Nat) : (ys.map iV).all flatV = true := by
  rw [List.all_map]
  exact List.all_eq_true.mpr fun _ _ => rfl
theorem inV_iV (x : Nat) (ys : List Nat) : inV (.int x) (ys.map iV) = decide (x ∈ ys) := by
  unfold inV
  induction ys with
  | nil => rfl
  | cons y r ih =>
    rw [List.map_cons, List.any_cons, ih]
    by_cases e : y = x
    · subst e
      rw [show eqV (iV y) (.int (y : Int)) = true from (show ((y : Int) == (y : Int)) = true from beq_self_eq_true _), Bool.true_or, decide_eq_true List.mem_cons_self]
    · have e2 : eqV (iV y) (.int (x : Int)) = false := (show ((y : Int) == (x : Int)) = false from beq_eq_false_iff_ne.mpr fun z => e (by omega))
      rw [e2, Bool.false_or]
      have e3 : x ∈ y :: r ↔ x ∈ r := by
        rw [List.mem_cons]
        exact ⟨fun z => z.elim (fun q => absurd q.symm e) id, .inr⟩
      exact decide_eq_decide.mpr e3.symm
theorem met_few {ys : List Nat} {n : Nat} (nd : ys.Nodup) (h : ∀ y ∈ ys, 2 ≤ y ∧ y < n + 2) : ys.length ≤ n := by
  have := List.Nodup.length_le_of_subset nd (l₂ := (List.range n).map (· + 2)) (fun y hy => by
    rw [List.mem_map]
    have := h y hy
    exact ⟨y - 2, List.mem_range.mpr (by omega), by omega⟩)
  rwa [List.length_map, List.length_range] at this
section
variable {P : Program} {w : World} {K : PySem.W.Frag} {mg : Str → Option Value} {base : Heap} {g : At} {f : Fa}
theorem scWhole : FnScope ["_law_found"] ["_law_found"] (defScope sWhole) := ⟨rfl, rfl, rfl, by decide +kernel, rfl, by decide +kernel, by decide +kernel⟩
theorem ok_whole (T : Txt K mg g f) : Good P w K mg base 1 f.whole ["_law_found"] spWhole := by
  refine T.d_whole.ok scWhole (fun vs H Q E h => ?_) (fun cdv A outer s H vs Q E hr h => ?_)
  · obtain ⟨i, rfl, _⟩ := h
    rfl
  · obtain ⟨i, rfl, k⟩ := h
    refine ⟨_, pss_one (ps_ret (pe_and (pe_callB call_isi (by rfl) T.b_isinstance (by decide +kernel) (pa_cons (pv 0) (pa_cons (pe_gty (n := "int") T.b_int (by decide +kernel)) pa_nil)))
      (pe_one (pe_not (pe_callB call_isi (by rfl) T.b_isinstance (by decide +kernel) (pa_cons (pv 0) (pa_cons (pe_gty (n := "bool") T.b_bool (by decide +kernel)) pa_nil))))))), ?_⟩
    refine ⟨_, rfl, _, _, _, _, true, rfl, .ty "int", .base (.int i), kit_ty (by decide +kernel), _, rfl, ?_⟩
    exact iteA rfl ⟨_, rfl, _, _, _, _, false, rfl, .ty "bool", .base (.int i), kit_ty (by decide +kernel), _, rfl, k⟩
theorem scPlaceL : FnScope ["_law_sheet", "_law_node"] ["_law_sheet", "_law_node"] (defScope sPlaceL) := ⟨rfl, rfl, rfl, by decide +kernel, rfl, by decide +kernel, by decide +kernel⟩
theorem ok_placeL (T : Txt K mg g f) : Good P w K mg base 3 f.placeL ["_law_sheet", "_law_node"] (spPlaceL g) := by
  have GS := ok_shown (P := P) (w := w) (base := base) T
  refine T.d_placeL.ok scPlaceL (fun vs H Q E h => ?_) (fun cdv A outer s H vs Q E hr h => ?_)
  · obtain ⟨h, ns, x, rfl, _⟩ := h
    rfl
  · obtain ⟨h, ns, x, rfl, hS, hx, k⟩ := h
    refine ⟨_, pss_cons (ps_if (pt_cmpR op_lt (pv 1) pe_int (nomark _)) (pss_one (ps_ret (pe_callB call_len_seq (by rfl) T.b_len PySem.boot_len (pa_cons (pe_fld (pv 0) rfl) pa_nil)))) pss_nil)
      (pss_one (ps_ret (pe_ix ix_tup (pe_me GS hr (by decide) T.c_cSh T.t_cSh_shown (pv 0) (pa_cons (pv 1) pa_nil)) pe_int (fun _ _ => rfl)))), ?_⟩
    refine ⟨_, rfl, _, _, rfl, rfl, _, rfl, i2 (fun c => ?_) (fun c => ?_)⟩
    · have c := of_decide_eq_true c
      refine ⟨_, rfl, h.S, g.cSh, h.dx, _, _, rfl, hS.s, T.c_cSh, T.n_cSh_names, rfl, h.tn, _, rfl, .inr (.inl (.inr ⟨_, hS.n⟩)), ?_⟩
      refine qi ?_ (k H (Same.refl _))
      rw [List.length_map, pl_small (by omega)]
    · have c := of_decide_eq_false c
      obtain ⟨_, _, d, _, _, hd, _⟩ := hS.at_ (x := x) (by omega) hx
      refine ⟨_, rfl, h.S, h.dx, _, rfl, hS.s, rfl, _, rfl, h, ns, x, rfl, hS, hx, fun a H' s' ha => ?_⟩
      rw [show shV ns x = ndV d by simp only [shV, if_neg (show ¬ x < 2 by omega), hd]] at ha
      refine ⟨a, _, _, _, rfl, rfl, SqT.of ha, atI_nat (j := 0) rfl, ?_⟩
      refine qi ?_ (k H' s')
      have := pl_at (nn := h.nm.length) hd
      rw [show x - 2 + 2 = x by omega] at this
      rw [this]
theorem scDown : FnScope ["_law_sheet", "_law_node", "_law_row_here", "_law_place_here", "_law_low", "_law_high"] ["_law_sheet", "_law_node", "_law_row_here"] (defScope sDown) := ⟨rfl, rfl, rfl, by decide +kernel, rfl, by decide +kernel, by decide +kernel⟩
theorem ok_down (T : Txt K mg g f) (e : Nat → Bool) : Good P w K mg base 3 f.down ["_law_sheet", "_law_node", "_law_row_here"] (spDown g e) := by
  have GS := ok_shown (P := P) (w := w) (base := base) T
  refine T.d_down.ok scDown (fun vs H Q E h => ?_) (fun cdv A outer s H vs Q E hr h => ?_)
  · obtain ⟨h, ns, x, d, kvs, rfl, _⟩ := h
    rfl
  · obtain ⟨h, ns, x, d, kvs, rfl, hS, wf, hx, hd, hrow, k⟩ := h
    have hu := hu_of hr
    refine ⟨_, pss_cons (ps_while PassesOwn.never (pt_cmpR op_gt (pv 1) pe_int (nomark _))
        (pss_cons (ps_asg (pe_me GS hr (by decide) T.c_cSh T.t_cSh_shown (pv 0) (pa_cons (pv 1) pa_nil)) (pg_tup rfl (pgs_cons (pg_name (i := 3) scDown.nd rfl (Or.inl rfl)) (pgs_cons (pg_name (i := 4) scDown.nd rfl (Or.inl rfl)) (pgs_cons (pg_name (i := 5) scDown.nd rfl (Or.inl rfl)) pgs_nil)))))
        (pss_cons (ps_set (i := 1) scDown.nd rfl (Or.inl rfl) (pv 4))
        (pss_one (ps_if (pt_val (pe_dget hu (pv 2) (pe_ix ix_tup (pe_fld (pv 0) rfl) (pv 3) (fun _ _ => rfl)) (fun _ _ => rfl))) (pss_one (ps_set (i := 1) scDown.nd rfl (Or.inl rfl) (pv 5))) pss_nil)))))
      (pss_one (ps_ret (pe_cmpR op_eq (pv 1) pe_int (nomark _)))), ?_⟩
    refine ⟨fun m σ H' => ∃ (y : Nat) (x3 x4 x5 : Option V), σ = [some (.ref h.S), some (.int y), some (.ref d), x3, x4, x5] ∧ Same H H' ∧ y < ns.length + 2 ∧ sem e ns y = sem e ns x ∧ m = y, ⟨x, x, _, _, _, rfl, Same.refl _, hx, rfl, rfl⟩, ?_⟩
    rintro m σ H1 ⟨y, x3, x4, x5, rfl, s1, hy, hsem, rfl⟩
    refine ⟨_, rfl, _, _, rfl, rfl, _, rfl, i2 (fun c => ?_) (fun c => ?_)⟩
    · have c := of_decide_eq_true c
      obtain ⟨nd, hnd, _, _, hlo, hhi, hpn, _, _, hse⟩ := wf.node (x := m) (by omega) hy
      have hS1 := hS.same s1
      refine ⟨_, fun _ _ z => z, ?_⟩
      refine ⟨_, rfl, h.S, h.dx, _, rfl, hS1.s, rfl, _, rfl, h, ns, m, rfl, hS1, hy, fun a H2 s2 ha => ?_⟩
      rw [show shV ns m = ndV nd by simp only [shV, if_neg (show ¬ m < 2 by omega), hnd]] at ha
      refine ⟨a, _, rfl, SqT.of ha, rfl, _, _, rfl, _, _, rfl, _, _, rfl, rfl, ?_⟩
      have hS2 := hS1.same s2
      obtain ⟨z, hz⟩ : ∃ z, h.nm[nd.p]? = some z := ⟨_, List.getElem?_eq_getElem hpn⟩
      have hg := DGet.k (k := Sum.inr z) (s2 _ _ (s1 _ _ hd))
      rw [hrow nd.p z hz] at hg
      refine ⟨_, rfl, _, rfl, _, rfl, h.S, g.cSh, h.dx, _, _, rfl, hS2.s, T.c_cSh, T.n_cSh_names, rfl, _, rfl, h.tn, _, _, _, rfl, rfl, .inl (.inr ⟨_, hS2.n⟩), atI_nat (j := nd.p) (by rw [List.getElem?_map, hz]; rfl), d, _, rfl, hg, _, rfl, ?_⟩
      have := hse e
      cases he : e nd.p with
      | true =>
        rw [he, if_pos rfl] at this
        exact iteA rfl ⟨_, rfl, nd.hi, hhi, nd.hi, _, _, _, rfl, s1.trans s2, by omega, by rw [← hsem, this], rfl⟩
      | false =>
        rw [he, if_neg Bool.false_ne_true] at this
        exact iteB rfl ⟨nd.lo, hlo, nd.lo, _, _, _, rfl, s1.trans s2, by omega, by rw [← hsem, this], rfl⟩
    · have c := of_decide_eq_false c
      refine ⟨_, rfl, rfl, ?_⟩
      refine qb ?_ (k H1 s1)
      rw [← hsem]
      rcases (by omega : m = 0 ∨ m = 1) with rfl | rfl
      · rw [sem_zero]; exact dF (by intro z; injection z with z; omega)
      · rw [sem_one]; exact dT rfl
theorem scMet : FnScope ["_law_sheet", "_law_node", "_law_found", "_law_waiting", "_law_here"] ["_law_sheet", "_law_node"] (defScope sMet) := ⟨rfl, rfl, rfl, by decide +kernel, rfl, by decide +kernel, by decide +kernel⟩
theorem ok_met (T : Txt K mg g f) : Good P w K mg base 3 f.met ["_law_sheet", "_law_node"] (spMet g) := by
  have GS := ok_shown (P := P) (w := w) (base := base) T
  refine T.d_met.ok scMet (fun vs H Q E h => ?_) (fun cdv A outer s H vs Q E hr h => ?_)
  · obtain ⟨h, ns, x, rfl, _⟩ := h
    rfl
  · obtain ⟨h, ns, x, rfl, hS, wf, hx, h2000, k⟩ := h
    refine ⟨_, pss_cons (ps_set (i := 2) scMet.nd rfl (Or.inl rfl) (pe_lst pa_nil))
      (pss_cons (ps_set (i := 3) scMet.nd rfl (Or.inl rfl) (pe_lst (pa_cons (pv 1) pa_nil)))
      (pss_cons (ps_while PassesOwn.never (pt_cmpR op_gt (pe_callB call_len_seq (by rfl) T.b_len PySem.boot_len (pa_cons (pv 3) pa_nil)) pe_int (nomark _))
        (pss_cons (ps_set (i := 4) scMet.nd rfl (Or.inl rfl) (pe_bm0 PySem.F.plainAttrs_list PySem.F.slot_list_pop PySem.F.type_list_pop mt_pop (pv 3)))
        (pss_one (ps_if (PW.pt (pw_and (pt_cmpR op_gt (pv 4) pe_int (nomark _)) (pw_and1 (pt_cmpR op_notIn_seq (pv 4) (pv 2) rfl))))
          (pss_cons (ps_expr (pe_bm PySem.F.plainAttrs_list PySem.F.slot_list_append PySem.F.type_list_append mt_append (pv 2) (pa_cons (pv 4) pa_nil)))
          (pss_one (ps_set (i := 3) scMet.nd rfl (Or.inl rfl) (pe_op op_cat (pv 3) (pe_callTy call_list_of (by rfl) T.b_list (by decide +kernel) (pa_cons (pe_slice sl_tup (pe_me GS hr (by decide) T.c_cSh T.t_cSh_shown (pv 0) (pa_cons (pv 4) pa_nil)) (po_some pe_int) po_none) pa_nil)))))) pss_nil))))
      (pss_one (ps_ret (pv 2))))), ?_⟩
    refine ⟨Nat.zero_le _, fun fp hfp => ?_⟩
    refine ⟨_, rfl, by show 1 ≤ sizeLine; decide, fun w0 hw0 => ?_⟩
    have nfw : fp ≠ w0 := ne_of_none upd_same hw0
    have hw0' : H w0 = none := none_back (same_new hfp) hw0
    refine ⟨fun m σ H' => ∃ (wp : Addr) (ys us : List Nat) (x4 : Option V), σ = [some (.ref h.S), some (.int x), some (.ref fp), some (.ref wp), x4] ∧ Same H H' ∧ H wp = none ∧ fp ≠ wp ∧ H' fp = some (.lst (ys.map iV)) ∧ H' wp = some (.lst (us.map iV)) ∧ ys.Nodup ∧
        (∀ y ∈ ys, 2 ≤ y ∧ y < ns.length + 2) ∧ (∀ u ∈ us, u < ns.length + 2) ∧ us.length ≤ ys.length + 1 ∧ m = 3 * (ns.length - ys.length) + us.length,
      ⟨_, w0, [], [x], _, rfl, (same_new hfp).trans (same_new hw0), hw0', nfw, by rw [upd_ne nfw, upd_same]; rfl, upd_same, List.nodup_nil, fun y hy => absurd hy List.not_mem_nil, fun u hu => by rw [List.mem_singleton] at hu; omega, Nat.le_refl _, rfl⟩, ?_⟩
    rintro m σ H1 ⟨wp, ys, us, x4, rfl, s1, hwn, nfw, hf, hw, nd, hys, hus, hlen, rfl⟩
    have few := met_few nd hys
    refine ⟨_, rfl, wp, _, rfl, .inl (SqL.of hw), _, _, rfl, rfl, _, rfl, i2 (fun c => ?_) (fun c => ?_)⟩
    · have c := of_decide_eq_true c
      rw [List.length_map] at c
      refine ⟨_, fun _ _ z => z, ?_⟩
      have hup : us.length - 1 < us.length := by omega
      obtain ⟨u, hu⟩ : ∃ u, us[us.length - 1]? = some u := ⟨_, List.getElem?_eq_getElem hup⟩
      have hum := hus u (List.mem_of_getElem? hu)
      refine ⟨_, rfl, .inl ⟨rfl, _, SqL.of hw⟩, wp, _, iV u, rfl, rfl, hw, by rw [List.length_map, List.getElem?_map, hu]; rfl, ?_⟩
      rw [← List.map_dropLast]
      have s2 := same_mut (o := .lst (us.dropLast.map iV)) s1 hwn
      have hf2 : (upd H1 wp (.lst (us.dropLast.map iV))) fp = some (.lst (ys.map iV)) := by rw [upd_ne nfw]; exact hf
      have hw2 := upd_same (H := H1) (a := wp) (o := .lst (us.dropLast.map iV))
      generalize upd H1 wp (.lst (us.dropLast.map iV)) = H2 at s2 hf2 hw2 ⊢
      have hdl : us.dropLast.length = us.length - 1 := List.length_dropLast
      have hdm : ∀ v ∈ us.dropLast, v < ns.length + 2 := fun v hv => hus v ((List.dropLast_sublist us).subset hv)
      refine ⟨_, rfl, _, _, rfl, rfl, _, rfl, i2 (fun c1 => ?_) (fun c1 => ?_)⟩
      · have c1 : (1 : Int) < (u : Int) := of_decide_eq_true c1
        refine ⟨_, rfl, _, rfl, fp, _, rfl, .inl (SqL.of hf2), rfl, flat_iV _, _, rfl, ?_⟩
        rw [if_pos rfl, show (inV (iV u) (ys.map iV)) = decide (u ∈ ys) from inV_iV u ys]
        by_cases hin : u ∈ ys
        · refine iteB (by rw [decide_eq_true hin]; rfl) ⟨_, ?_, wp, ys, us.dropLast, _, rfl, s2, hwn, nfw, hf2, hw2, nd, hys, hdm, by omega, rfl⟩
          omega
        · refine iteA (by rw [decide_eq_false hin]; rfl) ?_
          refine ⟨_, rfl, .inl ⟨rfl, _, SqL.of hf2⟩, _, rfl, fp, _, _, rfl, rfl, hf2, szl (by rw [List.length_map]; omega), ?_⟩
          have hfn : H fp = none := hfp
          have nd2 : (ys ++ [u]).Nodup := by
            rw [List.nodup_append]
            refine ⟨nd, List.nodup_cons.mpr ⟨List.not_mem_nil, List.nodup_nil⟩, fun a ha b hb => ?_⟩
            rw [List.mem_singleton] at hb
            subst hb
            exact fun z => hin (z ▸ ha)
          have hys2 : ∀ y ∈ ys ++ [u], 2 ≤ y ∧ y < ns.length + 2 := fun y hy => by
            rcases List.mem_append.mp hy with z | z
            · exact hys y z
            · rw [List.mem_singleton] at z; omega
          have few2 := met_few nd2 hys2
          rw [List.length_append, List.length_singleton] at few2
          have s3 := same_mut (o := .lst (ys.map iV ++ [iV u])) s2 hfn
          have hf3 : (upd H2 fp (.lst (ys.map iV ++ [iV u]))) fp = some (.lst ((ys ++ [u]).map iV)) := by rw [upd_same, List.map_append]; rfl
          have hw3 : (upd H2 fp (.lst (ys.map iV ++ [iV u]))) wp = some (.lst (us.dropLast.map iV)) := by rw [upd_ne nfw.symm]; exact hw2
          generalize upd H2 fp (.lst (ys.map iV ++ [iV u])) = H3 at s3 hf3 hw3 ⊢
          have hS3 := hS.same s3
          obtain ⟨d, hd, _, _, hlo, hhi, _⟩ := wf.node (x := u) (by omega) hum
          refine ⟨_, rfl, _, rfl, h.S, h.dx, _, rfl, hS3.s, rfl, _, rfl, h, ns, u, rfl, hS3, hum, fun a H4 s4 ha => ?_⟩
          rw [show shV ns u = ndV d by simp only [shV, if_neg (show ¬ u < 2 by omega), hd]] at ha
          refine ⟨1, rfl, a, _, rfl, SqT.of ha, ?_, fun q hq => ?_⟩
          · exact (show ¬ (HT.sIx 3 0 (some 1) = 0 ∧ HT.sIx 3 3 none = 3) by decide)
          refine ⟨q, _, rfl, .inr (SqT.of upd_same), fun l hl => ?_⟩
          have s5 := (s3.trans s4).trans ((same_new hq).trans (same_new (o := .lst (cutV (ndV d) (some 1) none)) hl))
          have k5 := (s4.trans ((same_new (o := .tup (cutV (ndV d) (some 1) none)) hq).trans (same_new (o := .lst (cutV (ndV d) (some 1) none)) hl)))
          refine ⟨wp, l, _, [iV d.lo, iV d.hi], rfl, rfl, k5 _ _ hw3, upd_same, sz (by rw [List.length_map]; simp; omega), fun r hr => ?_⟩
          have s6 := s5.trans (same_new (o := .lst (us.dropLast.map iV ++ [iV d.lo, iV d.hi])) hr)
          have k6 := k5.trans (same_new (o := .lst (us.dropLast.map iV ++ [iV d.lo, iV d.hi])) hr)
          have hrn : H r = none := none_back s5 hr
          have nfr : fp ≠ r := ne_of_none (k5 _ _ hf3) hr
          refine ⟨_, ?_, r, ys ++ [u], us.dropLast ++ [d.lo, d.hi], _, rfl, s6, hrn, nfr, k6 _ _ hf3, by rw [upd_same, List.map_append]; rfl, nd2, hys2, fun v hv => ?_, ?_, rfl⟩
          · simp only [List.length_append, List.length_cons, List.length_nil]
            omega
          · rcases List.mem_append.mp hv with z | z
            · exact hdm v z
            · simp only [List.mem_cons, List.not_mem_nil, or_false] at z
              omega
          · simp only [List.length_append, List.length_cons, List.length_nil]
            omega
      · refine iteF ⟨_, ?_, wp, ys, us.dropLast, _, rfl, s2, hwn, nfw, hf2, hw2, nd, hys, hdm, by omega, rfl⟩
        omega
    · exact ⟨_, rfl, k fp ys H1 hfp s1 hf nd hys⟩
end
end RW
/-! The law's own defs: formed. -/
namespace RW
open PySem L2 PySem.Spec PyProof.Rows
theorem un65 {k : Nat} {A : Around} (hr : Room k A) : A.units + 65 < cLine := by have := hr.un; omega
theorem un64 {k : Nat} {A : Around} (hr : Room k A) : A.units + 64 < cLine := by have := hr.un; omega
def ndD (d : Nd) : PyData := .tuple [.int (d.p : Int), .int (d.lo : Int), .int (d.hi : Int)]
theorem ndD_eqv (a b : Nd) : PyData.eqv (ndD a) (ndD b) = decide (a = b) := by
  obtain ⟨p, l, u⟩ := a
  obtain ⟨p', l', u'⟩ := b
  unfold ndD
  simp only [PyData.eqv, PyData.eqvAll, Bool.and_true]
  rw [Bool.eq_iff_iff]
  simp only [Bool.and_eq_true, beq_iff_eq, decide_eq_true_eq, Nd.mk.injEq, Int.ofNat_inj]
theorem ndD_any (ds : List Nd) (d : Nd) (h : d ∉ ds) : ((ds.map ndD).any fun z => PyData.eqv z (ndD d)) = false := by
  rw [List.any_map, List.any_eq_false]
  intro a ha
  rw [Function.comp, ndD_eqv, decide_eq_true_eq]
  exact fun z => h (z ▸ ha)
theorem ndD_lay : ∀ ds : List Nd, PyData.canLayAll0 (ds.map ndD) = true ∧ PyData.depthAll (ds.map ndD) ≤ 1
  | [] => ⟨by simp [PyData.canLayAll0], by simp [PyData.depthAll]⟩
  | d :: ds => by
    obtain ⟨h1, h2⟩ := ndD_lay ds
    refine ⟨?_, ?_⟩
    · simp only [List.map_cons, PyData.canLayAll0, h1, ndD, PyData.canLay0, Bool.and_self]
    · simp only [List.map_cons, PyData.depthAll, ndD, PyData.depth]
      omega
theorem ndD_shaped (d : Nd) : SeqAt.shaped (ndD d) = true := by
  unfold SeqAt.shaped
  rw [Bool.and_eq_true, decide_eq_true_eq]
  exact ⟨by simp only [ndD, PyData.canLay0, PyData.canLayAll0, Bool.and_self], by simp only [ndD, PyData.depth, PyData.depthAll]; omega⟩
theorem ndDs_shaped (ds : List Nd) : SeqAt.shaped (.list (ds.map ndD)) = true := by
  obtain ⟨h1, h2⟩ := ndD_lay ds
  unfold SeqAt.shaped
  rw [Bool.and_eq_true, decide_eq_true_eq]
  refine ⟨by simp only [PyData.canLay0, h1], ?_⟩
  simp only [PyData.depth]
  omega
theorem ndD_at {K : PySem.W.Frag} {H : Hp} {b : Addr} {d : Nd} (h : H b = some (.tup (ndV d))) : Dp K H (.ref b) (ndD d) := .tup (SqT.of h) (.cons (.int _) (.cons (.int _) (.cons (.int _) .nil)))
theorem ndDs_at {K : PySem.W.Frag} {H : Hp} {bs : List Addr} {ds : List Nd} (h : NdsAt H bs ds) : DpAll K H (bs.map V.ref) (ds.map ndD) := by
  induction h with
  | nil => exact .nil
  | cons h _ ih => exact .cons (ndD_at h) ih
def nodeAt (ns : List Nd) (y : Nat) : Nd := ns.getD (y - 2) ⟨0, 0, 0⟩
theorem nodeAt_of {ns : List Nd} {y : Nat} {d : Nd} (h : ns[y - 2]? = some d) : nodeAt ns y = d := by
  unfold nodeAt
  rw [List.getD_eq_getElem?_getD, h]
  rfl
theorem node_new {nn : Nat} {ns : List Nd} (wf : WF nn ns) {ys : List Nat} (nd : ys.Nodup) (h : ∀ y ∈ ys, 2 ≤ y ∧ y < ns.length + 2) {i y : Nat} (hy : ys[i]? = some y) : nodeAt ns y ∉ (ys.take i).map (nodeAt ns) := by
  intro hm
  obtain ⟨z, hz, e⟩ := List.mem_map.mp hm
  obtain ⟨j, hj, ej⟩ := List.getElem_of_mem hz
  rw [List.length_take] at hj
  have hjy : ys[j]? = some z := by
    rw [List.getElem_take] at ej
    rw [List.getElem?_eq_getElem (by omega), ej]
  have hz' := h z (List.mem_of_getElem? hjy)
  have hy' := h y (List.mem_of_getElem? hy)
  have e1 : ns[z - 2]? = some (nodeAt ns z) := by
    rw [List.getElem?_eq_getElem (by omega)]
    exact congrArg some (nodeAt_of (List.getElem?_eq_getElem (by omega))).symm
  have e2 : ns[y - 2]? = some (nodeAt ns y) := by
    rw [List.getElem?_eq_getElem (by omega)]
    exact congrArg some (nodeAt_of (List.getElem?_eq_getElem (by omega))).symm
  rw [e] at e1
  have q := nd_ix wf.nd e1 e2
  have : z = y := by omega
  subst this
  have := nd_ix nd hjy hy
  omega
def spFormed (g : At) : Sp := fun vs H Q _ => ∃ (h : Sh) (ns : List Nd) (x : Nat), vs = [.ref h.S, .int x] ∧ ShAt g H h ns ∧ WF h.nm.length ns ∧ x < ns.length + 2 ∧ ns.length ≤ 2000 ∧ ∀ H', Same H H' → Q (.bl true) H'
section
variable {P : Program} {w : World} {K : PySem.W.Frag} {mg : Str → Option Value} {base : Heap} {g : At} {f : Fa}
theorem scFormed : FnScope ["_law_sheet", "_law_node", "_law_shown", "_law_here", "_law_told", "_law_one", "_law_place_here", "_law_low", "_law_high"] ["_law_sheet", "_law_node"] (defScope sFormed) := ⟨rfl, rfl, rfl, by decide +kernel, rfl, by decide +kernel, by decide +kernel⟩
theorem ok_formed (T : Txt K mg g f) : Good P w K mg base 4 f.formed ["_law_sheet", "_law_node"] (spFormed g) := by
  have GS := ok_shown (P := P) (w := w) (base := base) T
  have GM := ok_met (P := P) (w := w) (base := base) T
  have GW := ok_whole (P := P) (w := w) (base := base) T
  have GP := ok_placeL (P := P) (w := w) (base := base) T
  refine T.d_formed.ok scFormed (fun vs H Q E h => ?_) (fun cdv A outer s H vs Q E hr h => ?_)
  · obtain ⟨h, ns, x, rfl, _⟩ := h
    rfl
  · obtain ⟨h, ns, x, rfl, hS, wf, hx, h2000, k⟩ := h
    have hu := hu_of hr
    refine ⟨_, pss_cons (ps_set (i := 2) scFormed.nd rfl (Or.inl rfl) (pe_lst pa_nil))
      (pss_cons (ps_for PassesOwn.never rfl (pi_list (pe_fn GM hr (by decide) T.g_met (pa_cons (pv 0) (pa_cons (pv 1) pa_nil)))) (pg_name (i := 3) scFormed.nd rfl (Or.inl rfl))
        (pss_cons (ps_set (i := 4) scFormed.nd rfl (Or.inl rfl) (pe_me GS hr (by decide) T.c_cSh T.t_cSh_shown (pv 0) (pa_cons (pv 3) pa_nil)))
        (pss_cons (ps_if (PW.pt (pw_or (pt_not (pt_val (pe_callB call_isi (by rfl) T.b_isinstance (by decide +kernel) (pa_cons (pv 4) (pa_cons (pe_gty (n := "tuple") T.b_tuple (by decide +kernel)) pa_nil)))))
            (pw_or (pt_cmpR op_ne (pe_callB call_len_seq (by rfl) T.b_len PySem.boot_len (pa_cons (pv 4) pa_nil)) pe_int (nomark _))
            (pw_or1 (pt_cmpR (op_neNil (Nat.lt_of_succ_lt hu)) (pe_lc (own := [("_law_one", 5)]) (g := gName 5) rfl scFormed.nd (pi_tup (pv 4))
                (blkOk_by (N := ["_law_sheet", "_law_node", "_law_shown", "_law_here", "_law_told", "_law_one", "_law_place_here", "_law_low", "_law_high"]) (sc := defScope sFormed) (by decide +kernel))
                (fun _ _ _ _ _ => pg_name (i := 5) scFormed.nd rfl (Or.inl rfl)) (fun _ _ _ _ _ => pts_one (pt_not (pt_val (pe_fn GW hr (by decide) T.g_whole (pa_cons (pv 5) pa_nil))))) (fun _ _ _ _ _ => pv 5)) (pe_lst pa_nil) (nomark _))))))
          (pss_one (ps_ret pe_bl)) pss_nil)
        (pss_cons (ps_asg (pv 4) (pg_tup rfl (pgs_cons (pg_name (i := 6) scFormed.nd rfl (Or.inl rfl)) (pgs_cons (pg_name (i := 7) scFormed.nd rfl (Or.inl rfl)) (pgs_cons (pg_name (i := 8) scFormed.nd rfl (Or.inl rfl)) pgs_nil)))))
        (pss_cons (ps_if (PW.pt (pw_or (pt_not (pt_chain op_le op_lt pe_int (pv 6) (pe_callB call_len_seq (by rfl) T.b_len PySem.boot_len (pa_cons (pe_fld (pv 0) rfl) pa_nil))))
            (pw_or (pt_cmpR op_eq (pv 7) (pv 8) (nomark _)) (pw_or1 (pt_cmpR (op_inD (un65 hr)) (pv 4) (pv 2) rfl)))))
          (pss_one (ps_ret pe_bl)) pss_nil)
        (pss_cons (ps_if (PW.pt (pw_or (pt_cmpR op_le (pe_fn GP hr (by decide) T.g_placeL (pa_cons (pv 0) (pa_cons (pv 7) pa_nil))) (pv 6) (nomark _)) (pw_or1 (pt_cmpR op_le (pe_fn GP hr (by decide) T.g_placeL (pa_cons (pv 0) (pa_cons (pv 8) pa_nil))) (pv 6) (nomark _)))))
          (pss_one (ps_ret pe_bl)) pss_nil)
        (pss_one (ps_expr (pe_bm PySem.F.plainAttrs_list PySem.F.slot_list_append PySem.F.type_list_append mt_append (pv 2) (pa_cons (pv 4) pa_nil))))))))))
      (pss_one (ps_ret (pe_and (pe_cmpR (op_eqD (un64 hr)) (pe_me GS hr (by decide) T.c_cSh T.t_cSh_shown (pv 0) (pa_cons pe_int pa_nil)) (pe_tup pa_nil) (nomark _))
        (pe_one (pe_cmpR (op_eqD (un64 hr)) (pe_me GS hr (by decide) T.c_cSh T.t_cSh_shown (pv 0) (pa_cons pe_int pa_nil)) (pe_tup pa_nil) (nomark _))))))), ?_⟩
    refine ⟨Nat.zero_le _, fun sp hsp => ?_⟩
    have s0 := same_new (o := .lst []) hsp
    have hsp0 := upd_same (H := H) (a := sp) (o := .lst [])
    generalize upd H sp (.lst []) = H0 at s0 hsp0 ⊢
    refine ⟨_, rfl, _, rfl, h, ns, x, rfl, hS.same s0, wf, hx, h2000, fun fp ys H1 hfn s1 hfp nd hys => ⟨fp, rfl, ⟨_, SqL.of hfp⟩, ?_⟩⟩
    have nfs : fp ≠ sp := (ne_of_none hsp0 hfn).symm
    refine for_list (K := K) (a := fp) (xs := ys.map iV) (fun i σ H' => ∃ (bs : List Addr) (x3 x4 x6 x7 x8 : Option V), σ = [some (.ref h.S), some (.int x), some (.ref sp), x3, x4, none, x6, x7, x8] ∧ Same H H' ∧ H' fp = some (.lst (ys.map iV)) ∧ H' sp = some (.lst (bs.map V.ref)) ∧
        bs.length = i ∧ NdsAt H' bs ((ys.take i).map (nodeAt ns)))
      ⟨[], _, _, _, _, _, rfl, s0.trans s1, hfp, s1 _ _ hsp0, rfl, .nil⟩ (fun i σ H' _ ⟨_, _, _, _, _, _, _, _, e, _⟩ => SqL.of e) ?_ ?_
    · rintro i v σ H2 hv ⟨bs, x3, x4, x6, x7, x8, rfl, s2, hfp2, hsp2, hbl, hbs⟩
      rw [List.getElem?_map] at hv
      cases hy : ys[i]? with
      | none => rw [hy] at hv; cases hv
      | some y =>
        rw [hy] at hv
        cases hv
        obtain ⟨y2, yn⟩ := hys y (List.mem_of_getElem? hy)
        obtain ⟨d, hd, _, hne, hlo, hhi, hpn, g1, g2, _⟩ := wf.node y2 yn
        have hnew := node_new wf nd hys hy
        rw [nodeAt_of hd] at hnew
        have hS2 := hS.same s2
        refine ⟨_, rfl, h.S, h.dx, _, rfl, hS2.s, rfl, _, rfl, h, ns, y, rfl, hS2, yn, fun a H3 s3 ha => ?_⟩
        rw [show shV ns y = ndV d by simp only [shV, if_neg (show ¬ y < 2 by omega), hd]] at ha
        have hS3 := hS2.same s3
        refine ⟨_, rfl, _, _, _, _, true, rfl, .ty "tuple", .base (.tup ha), kit_ty (by decide +kernel), _, rfl, ?_⟩
        refine iteB rfl ?_
        refine ⟨_, rfl, a, _, rfl, .inr (SqT.of ha), rfl, _, rfl, ?_⟩
        refine iteB rfl ?_
        refine ⟨_, rfl, a, rfl, ⟨_, SqT.of ha⟩, fun D hD => ?_⟩
        refine lc_tup (K := K) (a := a) (xs := ndV d) (fun i H' => Same H3 H' ∧ H' D = some (.lst [])) ⟨same_new hD, upd_same⟩ (fun i H' _ ⟨s4, _⟩ => SqT.of (s4 _ _ ha)) ?_ ?_
        · rintro j v H4 hv ⟨s4, hD4⟩
          obtain ⟨z, rfl⟩ : ∃ z : Int, v = .int z := by
            rcases j with _ | _ | _ | j
            · cases hv; exact ⟨_, rfl⟩
            · cases hv; exact ⟨_, rfl⟩
            · cases hv; exact ⟨_, rfl⟩
            · cases hv
          exact ⟨rfl, _, rfl, z, rfl, true, rfl, iteB rfl ⟨s4, hD4⟩⟩
        · rintro H4 ⟨s4, hD4⟩
          refine ⟨Nat.zero_le _, fun q hq => ⟨D, q, [], rfl, rfl, SqL.of ((same_new hq) _ _ hD4), SqL.of upd_same, _, rfl, iteB rfl ?_⟩⟩
          have s5 := s4.trans (same_new (o := .lst []) hq)
          generalize upd H4 q (.lst []) = H5 at s5 ⊢
          have ha5 := s5 _ _ ha
          have s25 := s3.trans s5
          have hS5 := hS2.same s25
          refine ⟨_, rfl, a, _, rfl, SqT.of ha5, rfl, _, _, rfl, _, _, rfl, _, _, rfl, rfl, ?_⟩
          refine ⟨_, rfl, _, _, rfl, rfl, _, rfl, iteA (dT (by omega)) ⟨_, rfl, h.S, g.cSh, h.dx, _, _, rfl, hS5.s, T.c_cSh, T.n_cSh_names, rfl, h.tn, _, rfl, .inr (.inl (.inr ⟨_, hS5.n⟩)), _, _, rfl, rfl, _, rfl, ?_⟩⟩
          rw [decide_eq_true (show (d.p : Int) < (((h.nm.map V.str).length : Nat) : Int) by rw [List.length_map]; omega)]
          refine iteB rfl ⟨_, rfl, _, rfl, rfl, _, rfl, iteB (dF fun z => ?_) ?_⟩
          · injection z with z
            omega
          refine ⟨_, rfl, _, rfl, ndD d, _, ndD_at ha5, .lst (SqL.of (s25 _ _ hsp2)) (ndDs_at (hbs.mono (.of_same s25))), ndD_shaped d, ndDs_shaped _, _, rfl, iteB (ndD_any _ _ hnew) ?_⟩
          refine ⟨_, rfl, _, rfl, h, ns, d.lo, rfl, hS5, by omega, fun H6 s6 => ⟨_, rfl, _, _, rfl, rfl, _, rfl, iteB (dF (by omega)) ?_⟩⟩
          refine ⟨_, rfl, _, rfl, h, ns, d.hi, rfl, hS5.same s6, by omega, fun H7 s7 => ⟨_, rfl, _, _, rfl, rfl, _, rfl, iteB (dF (by omega)) ?_⟩⟩
          have s27 := (s25.trans s6).trans s7
          have hs7 := s27 _ _ hsp2
          refine ⟨_, rfl, .inl ⟨rfl, _, SqL.of hs7⟩, _, rfl, sp, _, _, rfl, rfl, hs7, ?_, ?_⟩
          · have := met_few nd hys
            have hi : i < ys.length := (List.getElem?_eq_some_iff.mp hy).1
            exact szl (by rw [List.length_map]; omega)
          · refine ⟨bs ++ [a], _, _, _, _, _, rfl, same_mut (s2.trans s27) hsp, ?_, ?_, by rw [List.length_append, hbl]; rfl, ?_⟩
            · rw [upd_ne nfs]
              exact s27 _ _ hfp2
            · rw [upd_same, List.map_append]
              rfl
            · have nas : a ≠ sp := ne_of ha (s3 _ _ hsp2) (by intro z; cases z)
              have kp : Keeps H7 (upd H7 sp (.lst (bs.map V.ref ++ [.ref a]))) := fun b o fx e => by
                have n1 : b ≠ sp := fun y => by rw [y, hs7] at e; cases e; exact fx
                rw [upd_ne n1]
                exact e
              rw [List.take_add_one, hy, List.map_append]
              refine (hbs.mono ((Keeps.of_same s27).trans kp)).snoc ?_
              rw [nodeAt_of hd]
              exact kp _ _ trivial (s7 _ _ (s6 _ _ ha5))
    · rintro σ H2 ⟨bs, x3, x4, x6, x7, x8, rfl, s2, hfp2, hsp2, hbl, hbs⟩
      have hS2 := hS.same s2
      refine ⟨_, rfl, h.S, h.dx, _, rfl, hS2.s, rfl, h, ns, 0, rfl, hS2, by omega, fun a H3 s3 ha => ?_⟩
      refine ⟨Nat.zero_le _, fun q hq => ?_⟩
      have s4 := s3.trans (same_new (o := .tup []) hq)
      refine ⟨.tuple [], .tuple [], .tup (SqT.of ((same_new hq) _ _ ha)) .nil, .tup (SqT.of upd_same) .nil, by decide +kernel, by decide +kernel, _, rfl, ?_⟩
      refine iteA (by decide +kernel) ?_
      generalize upd H3 q (.tup []) = H4 at s4 ⊢
      have hS4 := hS2.same s4
      refine ⟨_, rfl, h.S, h.dx, _, rfl, hS4.s, rfl, h, ns, 1, rfl, hS4, by omega, fun a H5 s5 ha => ?_⟩
      refine ⟨Nat.zero_le _, fun q hq => ?_⟩
      refine ⟨.tuple [], .tuple [], .tup (SqT.of ((same_new hq) _ _ ha)) .nil, .tup (SqT.of upd_same) .nil, by decide +kernel, by decide +kernel, ?_⟩
      exact qb (by decide +kernel) (k _ ((s2.trans s4).trans (s5.trans (same_new hq))))
end
end RW
/-! The law. -/
namespace RW
open PySem L2 PySem.Spec PyProof.Rows
def spLaw (K : PySem.W.Frag) : Sp := fun vs H Q _ => ∃ (a : Addr) (ns : List Int), vs = [.ref a] ∧ SqL K H a (ns.map V.int) ∧ ns.length ≤ 63 ∧ ∀ H', Q (.bl true) H'
theorem nms_lay : ∀ nm : List Str, (∀ z ∈ nm, NameOk z) → PyData.canLayAll0 (nm.map PyData.str) = true ∧ PyData.depthAll (nm.map PyData.str) = 0
  | [], _ => ⟨by simp [PyData.canLayAll0], by simp [PyData.depthAll]⟩
  | z :: nm, h => by
    obtain ⟨h1, h2⟩ := nms_lay nm fun y hy => h y (List.mem_cons_of_mem _ hy)
    have hz := h z List.mem_cons_self
    have hs : PyData.strOk z = true := by
      unfold PyData.strOk
      rw [← Array.all_toList, List.all_eq_true]
      intro c hc
      have := hz.abc c hc
      exact decide_eq_true (by omega)
    exact ⟨by simp only [List.map_cons, PyData.canLayAll0, h1, PyData.canLay0, hs, Bool.and_self], by simp only [List.map_cons, PyData.depthAll, h2, PyData.depth, Nat.max_self]⟩
theorem nms_shaped {nm : List Str} (h : ∀ z ∈ nm, NameOk z) : SeqAt.shaped (.tuple (nm.map PyData.str)) = true := by
  obtain ⟨h1, h2⟩ := nms_lay nm h
  unfold SeqAt.shaped
  rw [Bool.and_eq_true, decide_eq_true_eq]
  refine ⟨by simp only [PyData.canLay0, h1], ?_⟩
  simp only [PyData.depth]
  omega
theorem nms_dp {K : PySem.W.Frag} {H : Hp} : ∀ nm : List Str, DpAll K H (nm.map V.str) (nm.map PyData.str)
  | [] => .nil
  | z :: nm => .cons (.str z) (nms_dp nm)
theorem sh_data (ns : List Nd) (x : Nat) : ∃ d, SeqAt.shaped d = true ∧ ∀ (K : PySem.W.Frag) (H : Hp) (a : Addr), H a = some (.tup (shV ns x)) → Dp K H (.ref a) d := by
  unfold shV
  split
  · exact ⟨.tuple [], by decide +kernel, fun K H a h => .tup (SqT.of h) .nil⟩
  · split
    · rename_i d _
      exact ⟨ndD d, ndD_shaped d, fun K H a h => ndD_at h⟩
    · exact ⟨.tuple [], by decide +kernel, fun K H a h => .tup (SqT.of h) .nil⟩
theorem same_but {B H H' : Hp} {h : Sh} (s : Same B H) (b : But [h.ln, h.dn] H H') (n1 : B h.ln = none) (n2 : B h.dn = none) : Same B H' := fun c o e => b c o (fun z => by
  simp only [List.mem_cons, List.not_mem_nil, or_false] at z
  rcases z with z | z
  · rw [z, n1] at e; cases e
  · rw [z, n2] at e; cases e) (s c o e)
theorem join_if {c : Bool} {A : Prop} {N : L2.St → Hp → Prop} {σ : L2.St} {H : Hp} (R : Hp → Prop) (hN : ∀ H', R H' → N σ H') (hA : (∀ H', R H' → N σ H') → A) (h0 : R H) : if c = true then A else N σ H := by
  cases c with
  | true => exact iteT (hA hN)
  | false => exact iteF (hN H h0)
section
variable {P : Program} {w : World} {K : PySem.W.Frag} {mg : Str → Option Value} {base : Heap} {g : At} {f : Fa}
theorem scLaw : FnScope ["_law_script", "_law_names_here", "_law_sheet", "_law_told", "_law_part", "_law_node", "_law_number", "_law_row_here", "_law_before"] ["_law_script"] (defScope sLaw) := ⟨rfl, rfl, rfl, by decide +kernel, rfl, by decide +kernel, by decide +kernel⟩
theorem ok_law {fL : Addr} {fd : FuncData} (F : Fun K "law" "law" sLaw fL fd) (T : Txt K mg g f) : FnOk P w K mg base CX0 33 fL fd ["_law_script"] (spLaw K) := by
  have GC := ok_cell (P := P) (w := w) (base := base) T
  have GN := ok_names (P := P) (w := w) (base := base) T
  have GI := ok_initS (P := P) (w := w) (base := base) T
  have GS := ok_shown (P := P) (w := w) (base := base) T
  have GW := ok_whole (P := P) (w := w) (base := base) T
  have GF := ok_formed (P := P) (w := w) (base := base) T
  have GT := fun nm => ok_toldBy (P := P) (w := w) (base := base) (nm := nm) T
  have GP := fun nm => ok_partOf (P := P) (w := w) (base := base) (nm := nm) T
  have GO := fun h => ok_node (P := P) (w := w) (base := base) T h
  have GR := fun nm => ok_row (P := P) (w := w) (base := base) (nm := nm) T
  have GD := fun e => ok_down (P := P) (w := w) (base := base) T e
  have GH := fun nm e => ok_holds (P := P) (w := w) (base := base) (nm := nm) T e 20
  refine F.ok scLaw (fun vs H Q E h => ?_) (fun cdv A outer s H vs Q E hr h => ?_)
  · obtain ⟨a, ns, rfl, _⟩ := h
    rfl
  · obtain ⟨a, sc, rfl, hS, h63, k⟩ := h
    have hu := hu_of hr
    refine ⟨_, pss_cons (ps_set (i := 1) scLaw.nd rfl (Or.inl rfl) (pe_fn GN hr (by decide) T.g_names (pa_cons (pe_fn GC hr (by decide) T.g_cell (pa_cons (pv 0) (pa_cons pe_int pa_nil)))
        (pa_cons (pe_op op_add pe_int (pe_op op_mod (pe_fn GC hr (by decide) T.g_cell (pa_cons (pv 0) (pa_cons pe_int pa_nil))) pe_int)) pa_nil))))
      (pss_cons (ps_set (i := 2) scLaw.nd rfl (Or.inl rfl) (pe_mk T.m_cSh GI hr (by decide) T.g_cSh (pa_cons (pv 1) pa_nil)))
      (pss_cons (ps_if (pt_cmpR (op_neD (un64 hr)) (pe_fld (pv 2) rfl) (pe_callTy call_tuple_of (by rfl) T.b_tuple (by decide +kernel) (pa_cons (pv 1) pa_nil)) (nomark _)) (pss_one (ps_ret pe_bl)) pss_nil)
      (pss_cons (ps_if (pt_cmpR op_eq (pe_op op_mod (pe_op op_fdiv (pe_fn GC hr (by decide) T.g_cell (pa_cons (pv 0) (pa_cons pe_int pa_nil))) pe_int) pe_int) pe_int (nomark _))
        (pss_one (ps_expr (pe_some (p := fun _ => True) fun h _ => pe_me (GO h) hr (by decide) T.c_cSh T.t_cSh_node (pv 2) (pa_cons (pe_some (p := fun _ => True) fun nm _ => pe_fn (GP nm) hr (by decide) T.g_partOf (pa_cons
          (pe_some (p := fun _ => True) fun nm _ => pe_fn (GT nm) hr (by decide) T.g_toldBy (pa_cons (pv 0) (pa_cons pe_int (pa_cons (pe_op op_mod (pe_fn GC hr (by decide) T.g_cell (pa_cons (pv 0) (pa_cons pe_int pa_nil))) pe_int) (pa_cons (pv 1) pa_nil))))) pa_nil)) pa_nil)))) pss_nil)
      (pss_cons (ps_set (i := 3) scLaw.nd rfl (Or.inl rfl) (pe_some (p := fun _ => True) fun nm _ => pe_fn (GT nm) hr (by decide) T.g_toldBy (pa_cons (pv 0) (pa_cons pe_int (pa_cons (pe_op op_mod (pe_fn GC hr (by decide) T.g_cell (pa_cons (pv 0) (pa_cons pe_int pa_nil))) pe_int) (pa_cons (pv 1) pa_nil))))))
      (pss_cons (ps_set (i := 4) scLaw.nd rfl (Or.inl rfl) (pe_some (p := fun _ => True) fun nm _ => pe_fn (GP nm) hr (by decide) T.g_partOf (pa_cons (pv 3) pa_nil)))
      (pss_cons (ps_set (i := 5) scLaw.nd rfl (Or.inl rfl) (pe_some (p := fun _ => True) fun h _ => pe_me (GO h) hr (by decide) T.c_cSh T.t_cSh_node (pv 2) (pa_cons (pv 4) pa_nil)))
      (pss_cons (ps_if (PW.pt (pw_or (pt_not (pt_val (pe_fn GW hr (by decide) T.g_whole (pa_cons (pv 5) pa_nil)))) (pw_or (pt_cmpR op_lt (pv 5) pe_int (nomark _)) (pw_or1 (pt_not (pt_val (pe_fn GF hr (by decide) T.g_formed (pa_cons (pv 2) (pa_cons (pv 5) pa_nil)))))))))
        (pss_one (ps_ret pe_bl)) pss_nil)
      (pss_cons (ps_for PassesOwn.never rfl (pi_range1 rfl T.b_range (pa_cons (pe_ix ix_list (pe_lst (pa_cons pe_int (pa_cons pe_int (pa_cons pe_int (pa_cons pe_int (pa_cons pe_int (pa_cons pe_int (pa_cons pe_int pa_nil))))))))
            (pe_callB call_len_seq (by rfl) T.b_len PySem.boot_len (pa_cons (pv 1) pa_nil)) (fun _ _ => rfl)) pa_nil)) (pg_name (i := 6) scLaw.nd rfl (Or.inl rfl))
        (pss_cons (ps_set (i := 7) scLaw.nd rfl (Or.inl rfl) (pe_some (p := fun _ => True) fun nm _ => pe_fn (GR nm) hr (by decide) T.g_row (pa_cons (pv 1) (pa_cons (pv 6) pa_nil))))
        (pss_one (ps_if (pt_cmpR op_ne (pe_some (p := fun _ => True) fun e _ => pe_fn (GD e) hr (by decide) T.g_down (pa_cons (pv 2) (pa_cons (pv 5) (pa_cons (pv 7) pa_nil))))
            (pe_some (p := fun _ => True) fun nm _ => pe_some (p := fun _ => True) fun e _ => pe_fn (GH nm e) hr (by decide) T.g_holds (pa_cons (pv 3) (pa_cons (pv 7) pa_nil))) (nomark _)) (pss_one (ps_ret pe_bl)) pss_nil))))
      (pss_cons (ps_set (i := 8) scLaw.nd rfl (Or.inl rfl) (pe_me GS hr (by decide) T.c_cSh T.t_cSh_shown (pv 2) (pa_cons (pv 5) pa_nil)))
      (pss_one (ps_ret (pe_and (pe_cmpR op_eq (pe_some (p := fun _ => True) fun h _ => pe_me (GO h) hr (by decide) T.c_cSh T.t_cSh_node (pv 2) (pa_cons (pv 4) pa_nil)) (pv 5) (nomark _))
        (pe_one (pe_cmpR (op_eqD (un64 hr)) (pe_me GS hr (by decide) T.c_cSh T.t_cSh_shown (pv 2) (pa_cons (pv 5) pa_nil)) (pv 8) (nomark _))))))))))))))), ?_⟩
    refine ⟨_, rfl, a, sc, 0, rfl, hS, h63, by decide, by decide, fun c0 => ⟨_, rfl, a, sc, 1, rfl, hS, h63, by decide, by decide, fun c1 => ⟨_, _, rfl, rfl, (by show (0 : Int) < 6; decide), _, _, rfl, rfl, _, _, rfl, by omega, by omega, fun p nm B sB hpB hlen hnd hnm => ?_⟩⟩⟩
    have n1 : 1 ≤ nm.length := by omega
    have n6 : nm.length ≤ 6 := by omega
    refine ⟨_, rfl, fun x dx nx ndx ndxx => ?_⟩
    have npx : p ≠ x := ne_of_none hpB nx
    have npd : p ≠ dx := ne_of_none hpB ndx
    refine ⟨x, dx, p, nm, rfl, by rw [upd_ne npx, upd_ne npd]; exact hpB, hnm, hnd, n6, upd_same, fun h H2 eS enm nln ndn b2 hS2 => ⟨rfl, ?_⟩⟩
    subst eS
    subst enm
    have nln : B h.ln = none := none_upd (none_upd nln)
    have ndn : B h.dn = none := none_upd (none_upd ndn)
    have s2 : Same B H2 := fun b o e => b2 b o (fun z => by
      rw [List.mem_singleton] at z
      rw [z, nx] at e
      cases e) (by rw [upd_ne (ne_of_none e nx), upd_ne (ne_of_none e ndx)]; exact e)
    have hSB := sB.seq hS
    clear b2
    -- the names
    refine ⟨_, rfl, h.S, g.cSh, h.dx, _, _, rfl, hS2.s, T.c_cSh, T.n_cSh_names, rfl, _, rfl, p, _, rfl, .inl ⟨SqL.of (s2 _ _ hpB), fun t ht => ?_⟩⟩
    have s3 := same_new (o := .tup (h.nm.map V.str)) ht
    refine ⟨_, _, .tup (.inl (.inr ⟨_, s3 _ _ hS2.n⟩)) (nms_dp _), .tup (SqT.of upd_same) (nms_dp _), nms_shaped hnm, nms_shaped hnm, _, rfl, ?_⟩
    refine iteB (by rw [SeqAt.eqv_refl _ (SeqAt.canLay_of_shaped (nms_shaped hnm))]; rfl) ?_
    have hS3 := hS2.same s3
    have s3 := s2.trans s3
    generalize upd H2 t (.tup (h.nm.map V.str)) = H3 at s3 hS3 ⊢
    -- a first part, or none
    refine ⟨_, rfl, a, sc, 1, rfl, s3.seq hSB, h63, by decide, by decide, fun c2 => ⟨_, _, rfl, rfl, ⟨by decide, by decide⟩, _, _, rfl, rfl, (by show (0 : Int) < 2; decide), rfl, _, rfl, ?_⟩⟩
    refine join_if (fun H' => ∃ ns : List Nd, Same B H' ∧ ShAt g H' h ns ∧ WF h.nm.length ns ∧ ns.length ≤ 513) ?cont ?first ⟨[], s3, hS3, WF.nil _, by decide⟩
    case first =>
      intro go
      refine ⟨h, trivial, _, rfl, h.S, h.dx, _, rfl, hS3.s, rfl, h.nm, trivial, h.nm, trivial, _, rfl, _, rfl, a, sc, 3, rfl, s3.seq hSB, h63, by decide, by decide, fun c3 => ⟨_, _, rfl, rfl, (by show (0 : Int) < 9; decide), _, rfl, ?_⟩⟩
      refine ⟨a, p, sc, 20, _, rfl, s3.seq hSB, h63, by decide, by decide, by omega, by omega, s3 _ _ hpB, n1, n6, fun v t H5 s5 ht hok hsz => ?_⟩
      have dsz := t.depth_le_size
      refine ⟨t, v, rfl, hnm, ht, hok, by omega, by omega, fun H6 u s6 hp => ?_⟩
      have D := dr_ok n6 t [] (WF.nil _) hok
      have Dc := D.cnt
      rw [List.length_nil] at Dc
      refine ⟨[], t, u, rfl, (hS3.same s5).same s6, hp, hok, by omega, by omega, WF.nil _, n6, hnd, by omega, fun H7 b7 hS7 => ?_⟩
      exact go H7 ⟨_, same_but ((s3.trans s5).trans s6) b7 nln ndn, hS7, D.wf, by omega⟩
    rintro H4 ⟨ns, s4, hS4, wf, hns⟩
    -- the told tuple, its part, its node
    refine ⟨h.nm, trivial, _, rfl, _, rfl, a, sc, 2, rfl, s4.seq hSB, h63, by decide, by decide, fun c4 => ⟨_, _, rfl, rfl, (by show (0 : Int) < 15; decide), _, rfl, ?_⟩⟩
    refine ⟨a, p, sc, 4, _, rfl, s4.seq hSB, h63, by decide, by decide, by omega, by omega, s4 _ _ hpB, n1, n6, fun v t H5 s5 ht hok hsz => ?_⟩
    have dsz := t.depth_le_size
    refine ⟨h.nm, trivial, _, rfl, t, v, rfl, hnm, ht, hok, by omega, by omega, fun H6 u s6 hp => ?_⟩
    have D := dr_ok n6 t ns wf hok
    have Dc := D.cnt
    have ht6 := ht.mono (.of_same s6)
    have s46 := s5.trans s6
    have hS6 := hS4.same s46
    have hre := dr_re n6 t ns wf hok []
    simp only [List.append_nil] at hre
    have hsz2 : (dr h.nm.length ns t).2.length ≤ 2000 := by omega
    refine ⟨h, trivial, _, rfl, h.S, h.dx, _, rfl, hS6.s, rfl, _, rfl, ns, t, u, rfl, hS6, hp, hok, by omega, by omega, wf, n6, hnd, hsz2, fun H7 b7 hS7 => ?_⟩
    have s7 := same_but (s4.trans s46) b7 nln ndn
    have ht7 := ht6.mono (hS6.keeps b7)
    have hp7 := hp.mono (hS6.keeps b7)
    have wf7 := D.wf
    have lt7 := D.lt
    have sm7 := D.sm
    generalize hms : (dr h.nm.length ns t).2 = ms at hS7 hre hsz2 wf7 lt7 sm7
    generalize hx : (dr h.nm.length ns t).1 = x at hre lt7 sm7
    have hre : dr h.nm.length ms t = (x, ms) := by rw [hre, ← hms, ← hx]
    -- it is whole, formed
    refine ⟨_, rfl, _, rfl, true, rfl, ?_⟩
    refine iteB rfl ⟨_, rfl, _, _, rfl, rfl, _, rfl, ?_⟩
    refine iteB (dF (by omega)) ⟨_, rfl, _, rfl, h, ms, x, rfl, hS7, wf7, lt7, hsz2, fun H8 s8 => ⟨true, rfl, ?_⟩⟩
    refine iteB rfl ?_
    have hS8 := hS7.same s8
    have hp8 := s8 _ _ (s7 _ _ hpB)
    -- every row
    refine ⟨by show 7 ≤ sizeLine; decide, fun q hq => ⟨_, rfl, p, _, rfl, .inl (SqL.of ((same_new hq) _ _ hp8)), ?_⟩⟩
    have sq := same_new (o := .lst [V.int 1, V.int 2, V.int 4, V.int 8, V.int 16, V.int 32, V.int 64]) hq
    have hqq := upd_same (H := H8) (a := q) (o := .lst [V.int 1, V.int 2, V.int 4, V.int 8, V.int 16, V.int 32, V.int 64])
    obtain ⟨M, hM, hat⟩ : ∃ M : Nat, M ≤ 64 ∧ atI [V.int 1, V.int 2, V.int 4, V.int 8, V.int 16, V.int 32, V.int 64] (((h.nm.map V.str).length : Nat) : Int) = some (.int (M : Int)) := by
      rw [List.length_map]
      rcases (by omega : h.nm.length = 1 ∨ h.nm.length = 2 ∨ h.nm.length = 3 ∨ h.nm.length = 4 ∨ h.nm.length = 5 ∨ h.nm.length = 6) with e | e | e | e | e | e <;> rw [e]
      · exact ⟨2, by decide, atI_nat (j := 1) rfl⟩
      · exact ⟨4, by decide, atI_nat (j := 2) rfl⟩
      · exact ⟨8, by decide, atI_nat (j := 3) rfl⟩
      · exact ⟨16, by decide, atI_nat (j := 4) rfl⟩
      · exact ⟨32, by decide, atI_nat (j := 5) rfl⟩
      · exact ⟨64, by decide, atI_nat (j := 6) rfl⟩
    refine ⟨q, _, _, _, rfl, rfl, SqL.of hqq, hat, M, rfl, by omega, by omega, for_range (lo := 0) (n := M) (fun i σ H' => ∃ x6 x7 : Option V, σ = [some (.ref a), some (.ref p), some (.ref h.S), some v, some u, some (.int x), x6, x7, none] ∧ Same H8 H')
      ⟨_, _, rfl, sq⟩ ?_ ?_⟩
    · rintro i σ H9 hi ⟨x6, x7, rfl, s9⟩
      have hS9 := hS8.same s9
      have ht9 := ht7.mono (.of_same (s8.trans s9))
      refine ⟨h.nm, trivial, _, rfl, _, rfl, p, _, rfl, s9 _ _ hp8, hnd, n6, fun d kvs e H10 s10 hd hrow => ?_⟩
      refine ⟨e, trivial, _, rfl, _, rfl, _, rfl, h, ms, x, d, kvs, rfl, hS9.same s10, wf7, lt7, hd, hrow, fun H11 s11 => ?_⟩
      refine ⟨h.nm, trivial, e, trivial, _, rfl, _, rfl, v, d, t, kvs, rfl, ht9.mono (.of_same (s10.trans s11)), by omega, hok, by omega, s11 _ _ hd, hrow, fun H12 s12 => ⟨rfl, _, rfl, ?_⟩⟩
      refine iteB (by rw [sm7 e]; exact nT rfl) ⟨_, _, rfl, ((s9.trans s10).trans s11).trans s12⟩
    · rintro σ H9 ⟨x6, x7, rfl, s9⟩
      have hS9 := hS8.same s9
      have hp9 := hp7.mono (.of_same (s8.trans s9))
      -- drawn once more
      refine ⟨_, rfl, h.S, h.dx, _, rfl, hS9.s, rfl, _, rfl, h, ms, x, rfl, hS9, lt7, fun ab H10 s10 hab => ?_⟩
      have hS10 := hS9.same s10
      refine ⟨h, trivial, _, rfl, h.S, h.dx, _, rfl, hS10.s, rfl, _, rfl, ms, t, u, rfl, hS10, hp9.mono (.of_same s10), hok, by omega, by omega, wf7, n6, hnd, by rw [hre]; exact hsz2, fun H11 b11 hS11 => ?_⟩
      rw [hre] at hS11 ⊢
      have hab11 := hS10.keeps b11 ab (.tup (shV ms x)) trivial hab
      obtain ⟨dd, hsh, hdp⟩ := sh_data ms x
      refine ⟨_, rfl, rfl, _, rfl, iteA (dT rfl) ?_⟩
      refine ⟨_, rfl, h.S, h.dx, _, rfl, hS11.s, rfl, _, rfl, h, ms, x, rfl, hS11, lt7, fun a2 H12 s12 ha2 => ⟨_, rfl, dd, dd, hdp _ _ _ ha2, hdp _ _ _ (s12 _ _ hab11), hsh, hsh, ?_⟩⟩
      exact qb (SeqAt.eqv_refl _ (SeqAt.canLay_of_shaped hsh)) (k _)
end
end RW
/-! The walk: the law's promise, at the heap behind the top. -/
namespace RW
open PySem L2 PySem.Spec PyProof.Rows
theorem law_mk {l : PySem.W.OpenLaw} {w : World} {K : PySem.W.Frag} {h : Heap} {mg : Str → Option Value} {fa fL : Addr} {g : At} {f : Fa} (X : K.In h) (G : h.Ns mainGlobals mg) (hfa : mg "law" = some (.ref fa))
    {oc kV dc pm cd ct : Value} {od an : Option Addr} {sl : Array (Option Value)} (aL : PySem.W.nsIn K mainGlobals "law" = some (some (.ref fL)))
    (lL : K.lookup fL = some ⟨oc, od, .func (PySem.W.fnOf "law" "law" (defArgs sLaw) (defBody sLaw) (defScope sLaw) .none kV dc pm an cd ct), sl⟩) (cL : PySem.W.codeIn K cd "law" = true) (kL : PySem.W.keepIn K (.ref fL) = true) (T : Txt K mg g f) :
    ∃ fd : FuncData, (∀ (s : Shared) (u : Value), BindsTo s fd ⟨[u], []⟩ [("_law_script", u)]) ∧ ∀ base : Heap, K.In base → base.Ns mainGlobals mg → FnOk l.prog w K mg base CX0 33 fa fd ["_law_script"] (spLaw K) := by
  have e := hfa.symm.trans (PySem.W.mg_of X G aL)
  cases e
  exact ⟨PySem.W.fnOf "law" "law" (defArgs sLaw) (defBody sLaw) (defScope sLaw) .none kV dc pm an cd ct, fun s u => .of_eq rfl, fun base _ _ => ok_law (fun_mk (st := sLaw) lL cL kL) T⟩
theorem walk {l : PySem.W.OpenLaw} {q : Program} {loose : List Str} {XP : (Str → Option Value) → Heap → Prop} {YP : World → Heap → Prop} {d : DefRec} {K : Params → PySem.W.Frag} (hn : l.most = some 63) (hdf : d.params.defaults = [])
    (hY : ∀ (w : World) (h : Heap), YP w h → (K w.params).In h)
    (F : ∀ (w : World) (mg : Str → Option Value) (fa : Addr) (h : Heap), (K w.params).In h → h.Ns mainGlobals mg → mg d.name = some (.ref fa) →
      ∃ fd : FuncData, (∀ (s : Shared) (u : Value), BindsTo s fd ⟨[u], []⟩ [("_law_script", u)]) ∧ ∀ base : Heap, (K w.params).In base → base.Ns mainGlobals mg → FnOk l.prog w (K w.params) mg base CX0 33 fa fd ["_law_script"] (spLaw (K w.params))) :
    PySem.W.WalkO q loose XP YP l.row.toRowW d [] (fun f vs => PySem.call f vs) :=
  L2.walk_of (n := 63) (k := 33) (x := "_law_script") (CX := fun _ => CX0) (sp := fun w => spLaw (K w.params)) hn (by decide) hdf ⟨rfl, by decide, by decide⟩ hY F (fun _ _ a ns hl _ hS => ⟨a, ns, rfl, hS, hl, fun _ => rfl⟩) fun _ _ _ _ _ z => z
end RW
open PySem PySem.W PyProof.Rows in
set_option maxRecDepth 100000 in
set_option maxHeartbeats 0 in
theorem PySem.Challenge.cw_rungworks_k31_nodes_drawn_holds : PySem.Challenge.rw_rungworks_k31_nodes_drawn.Holds := by
  w_on; o_law; k_head; (case hw => w_witness2)
  k_fill
  refine RW.walk (l := PySem.Challenge.rw_rungworks_k31_nodes_drawn) rfl rfl (fun w h Y => PySem.W.kIn_of Y) ?F
  case F =>
    intro w mg fa h KX G hmg
    refine' RW.law_mk KX G hmg ?a_law ?l_law ?c_law ?k_law (RW.all_mk KX G ?a_cF ?a_cC ?a_cT ?a_cS ?a_cB ?a_cSh ?a_isWord ?a_isName ?a_single ?a_joined ?a_partOf ?a_cell ?a_mixed ?a_word ?a_names ?a_grown ?a_toldBy ?a_holds ?a_row ?a_down ?a_whole ?a_met ?a_placeL ?a_formed ?i_cF ?i_cC ?i_cT ?i_cS ?i_cB ?i_cSh ?e_cF_size ?e_cF_depth ?e_cF_contacts ?e_cF_bounded ?e_cC_size ?e_cC_depth ?e_cC_contacts ?e_cC_bounded ?e_cT_size ?e_cT_depth ?e_cT_contacts ?e_cT_bounded ?e_cS_size ?e_cS_depth ?e_cS_contacts ?e_cS_bounded ?e_cB_size ?e_cB_depth ?e_cB_contacts ?e_cB_bounded ?e_cF_inner ?e_cC_inner ?e_cT_inner ?e_cS_inner ?e_cB_inner ?e_cF_gather ?e_cC_gather ?e_cT_gather ?e_cS_gather ?e_cB_gather ?e_cSh_place ?e_cSh_made ?e_cSh_below ?e_cSh_joined ?e_cSh_opposite ?e_cSh_drawn ?e_cSh_need ?e_cSh_node ?e_cSh_shown ?j_inner ?j_size ?j_depth ?j_gather ?j_contacts ?j_bounded ?j_initF ?j_initC ?j_gatherC ?j_initT ?j_innerT ?j_initG ?j_innerG ?j_initS ?j_place ?j_made ?j_below ?j_join ?j_opp ?j_drawn ?j_need ?j_node ?j_shown ?l_isWord ?c_isWord ?k_isWord ?l_isName ?c_isName ?k_isName ?l_inner ?c_inner ?k_inner ?l_size ?c_size ?k_size ?l_depth ?c_depth ?k_depth ?l_gather ?c_gather ?k_gather ?l_contacts ?c_contacts ?k_contacts ?l_bounded ?c_bounded ?k_bounded ?l_initF ?c_initF ?k_initF ?l_initC ?c_initC ?k_initC ?l_gatherC ?c_gatherC ?k_gatherC ?l_initT ?c_initT ?k_initT ?l_innerT ?c_innerT ?k_innerT ?l_initG ?c_initG ?k_initG ?l_innerG ?c_innerG ?k_innerG ?l_single ?c_single ?k_single ?l_joined ?c_joined ?k_joined ?l_partOf ?c_partOf ?k_partOf ?l_initS ?c_initS ?k_initS ?l_place ?c_place ?k_place ?l_made ?c_made ?k_made ?l_below ?c_below ?k_below ?l_join ?c_join ?k_join ?l_opp ?c_opp ?k_opp ?l_drawn ?c_drawn ?k_drawn ?l_need ?c_need ?k_need ?l_node ?c_node ?k_node ?l_shown ?c_shown ?k_shown ?l_cell ?c_cell ?k_cell ?l_mixed ?c_mixed ?k_mixed ?l_word ?c_word ?k_word ?l_names ?c_names ?k_names ?l_grown ?c_grown ?k_grown ?l_toldBy ?c_toldBy ?k_toldBy ?l_holds ?c_holds ?k_holds ?l_row ?c_row ?k_row ?l_down ?c_down ?k_down ?l_whole ?c_whole ?k_whole ?l_met ?c_met ?k_met ?l_placeL ?c_placeL ?k_placeL ?l_formed ?c_formed ?k_formed ?p_cF ?q_cF ?r_cF ?s_cF ?u_cF ?w_cF ?p_cC ?q_cC ?r_cC ?s_cC ?u_cC ?w_cC ?p_cT ?q_cT ?r_cT ?s_cT ?u_cT ?w_cT ?p_cS ?q_cS ?r_cS ?s_cS ?u_cS ?w_cS ?p_cB ?q_cB ?r_cB ?s_cB ?u_cB ?w_cB ?p_cSh ?q_cSh ?r_cSh ?s_cSh ?u_cSh ?w_cSh ?ya_cF ?yb_cF ?yc_cF ?ya_cC ?yb_cC ?yc_cC ?ya_cT ?yb_cT ?yc_cT ?ya_cS ?yb_cS ?yc_cS ?x_n_cF_value ?x_n_cC_name ?x_n_cT_part ?x_n_cS_parts ?x_n_cB_parts ?x_n_cSh_names ?x_n_cSh_nodes ?x_n_cSh_numbers ?y_h_cF ?y_o_cF ?y_h_cC ?y_o_cC ?y_h_cT ?y_o_cT ?y_h_cS ?y_o_cS ?y_h_cB ?y_o_cB ?y_hg ?y_ht ?y_k_cC_cF ?y_k_cT_cF ?y_k_cS_cF ?y_k_cB_cF ?y_k_cT_cC ?y_k_cS_cC ?y_k_cB_cC ?y_k_cS_cT ?y_k_cB_cT ?y_k_cB_cS ?z_b_len ?z_b_sum ?z_b_max ?z_b_min ?z_b_tuple ?z_b_list ?z_b_set ?z_b_range ?z_b_isinstance ?z_b_int ?z_b_bool ?z_v_MOST_SIGNS ?z_v_MOST_SIZE ?z_v_MOST_DEEP ?z_v_MOST_NAMES ?z_v_MOST_NODES ?z_v_SIGNS ?z_v_KEPT ?z2_v_KEPT ?z3_v_KEPT)
    (case a_law => k_is)
    (case l_law => k_is)
    (case c_law => k_is)
    (case k_law => k_is)
    (case a_cF => k_is)
    (case a_cC => k_is)
    (case a_cT => k_is)
    (case a_cS => k_is)
    (case a_cB => k_is)
    (case a_cSh => k_is)
    (case a_isWord => k_is)
    (case a_isName => k_is)
    (case a_single => k_is)
    (case a_joined => k_is)
    (case a_partOf => k_is)
    (case a_cell => k_is)
    (case a_mixed => k_is)
    (case a_word => k_is)
    (case a_names => k_is)
    (case a_grown => k_is)
    (case a_toldBy => k_is)
    (case a_holds => k_is)
    (case a_row => k_is)
    (case a_down => k_is)
    (case a_whole => k_is)
    (case a_met => k_is)
    (case a_placeL => k_is)
    (case a_formed => k_is)
    (case i_cF => k_is)
    (case i_cC => k_is)
    (case i_cT => k_is)
    (case i_cS => k_is)
    (case i_cB => k_is)
    (case i_cSh => k_is)
    (case e_cF_size => k_is)
    (case e_cF_depth => k_is)
    (case e_cF_contacts => k_is)
    (case e_cF_bounded => k_is)
    (case e_cC_size => k_is)
    (case e_cC_depth => k_is)
    (case e_cC_contacts => k_is)
    (case e_cC_bounded => k_is)
    (case e_cT_size => k_is)
    (case e_cT_depth => k_is)
    (case e_cT_contacts => k_is)
    (case e_cT_bounded => k_is)
    (case e_cS_size => k_is)
    (case e_cS_depth => k_is)
    (case e_cS_contacts => k_is)
    (case e_cS_bounded => k_is)
    (case e_cB_size => k_is)
    (case e_cB_depth => k_is)
    (case e_cB_contacts => k_is)
    (case e_cB_bounded => k_is)
    (case e_cF_inner => k_is)
    (case e_cC_inner => k_is)
    (case e_cT_inner => k_is)
    (case e_cS_inner => k_is)
    (case e_cB_inner => k_is)
    (case e_cF_gather => k_is)
    (case e_cC_gather => k_is)
    (case e_cT_gather => k_is)
    (case e_cS_gather => k_is)
    (case e_cB_gather => k_is)
    (case e_cSh_place => k_is)
    (case e_cSh_made => k_is)
    (case e_cSh_below => k_is)
    (case e_cSh_joined => k_is)
    (case e_cSh_opposite => k_is)
    (case e_cSh_drawn => k_is)
    (case e_cSh_need => k_is)
    (case e_cSh_node => k_is)
    (case e_cSh_shown => k_is)
    (case j_inner => k_is)
    (case j_size => k_is)
    (case j_depth => k_is)
    (case j_gather => k_is)
    (case j_contacts => k_is)
    (case j_bounded => k_is)
    (case j_initF => k_is)
    (case j_initC => k_is)
    (case j_gatherC => k_is)
    (case j_initT => k_is)
    (case j_innerT => k_is)
    (case j_initG => k_is)
    (case j_innerG => k_is)
    (case j_initS => k_is)
    (case j_place => k_is)
    (case j_made => k_is)
    (case j_below => k_is)
    (case j_join => k_is)
    (case j_opp => k_is)
    (case j_drawn => k_is)
    (case j_need => k_is)
    (case j_node => k_is)
    (case j_shown => k_is)
    (case l_isWord => k_is)
    (case c_isWord => k_is)
    (case k_isWord => k_is)
    (case l_isName => k_is)
    (case c_isName => k_is)
    (case k_isName => k_is)
    (case l_inner => k_is)
    (case c_inner => k_is)
    (case k_inner => k_is)
    (case l_size => k_is)
    (case c_size => k_is)
    (case k_size => k_is)
    (case l_depth => k_is)
    (case c_depth => k_is)
    (case k_depth => k_is)
    (case l_gather => k_is)
    (case c_gather => k_is)
    (case k_gather => k_is)
    (case l_contacts => k_is)
    (case c_contacts => k_is)
    (case k_contacts => k_is)
    (case l_bounded => k_is)
    (case c_bounded => k_is)
    (case k_bounded => k_is)
    (case l_initF => k_is)
    (case c_initF => k_is)
    (case k_initF => k_is)
    (case l_initC => k_is)
    (case c_initC => k_is)
    (case k_initC => k_is)
    (case l_gatherC => k_is)
    (case c_gatherC => k_is)
    (case k_gatherC => k_is)
    (case l_initT => k_is)
    (case c_initT => k_is)
    (case k_initT => k_is)
    (case l_innerT => k_is)
    (case c_innerT => k_is)
    (case k_innerT => k_is)
    (case l_initG => k_is)
    (case c_initG => k_is)
    (case k_initG => k_is)
    (case l_innerG => k_is)
    (case c_innerG => k_is)
    (case k_innerG => k_is)
    (case l_single => k_is)
    (case c_single => k_is)
    (case k_single => k_is)
    (case l_joined => k_is)
    (case c_joined => k_is)
    (case k_joined => k_is)
    (case l_partOf => k_is)
    (case c_partOf => k_is)
    (case k_partOf => k_is)
    (case l_initS => k_is)
    (case c_initS => k_is)
    (case k_initS => k_is)
    (case l_place => k_is)
    (case c_place => k_is)
    (case k_place => k_is)
    (case l_made => k_is)
    (case c_made => k_is)
    (case k_made => k_is)
    (case l_below => k_is)
    (case c_below => k_is)
    (case k_below => k_is)
    (case l_join => k_is)
    (case c_join => k_is)
    (case k_join => k_is)
    (case l_opp => k_is)
    (case c_opp => k_is)
    (case k_opp => k_is)
    (case l_drawn => k_is)
    (case c_drawn => k_is)
    (case k_drawn => k_is)
    (case l_need => k_is)
    (case c_need => k_is)
    (case k_need => k_is)
    (case l_node => k_is)
    (case c_node => k_is)
    (case k_node => k_is)
    (case l_shown => k_is)
    (case c_shown => k_is)
    (case k_shown => k_is)
    (case l_cell => k_is)
    (case c_cell => k_is)
    (case k_cell => k_is)
    (case l_mixed => k_is)
    (case c_mixed => k_is)
    (case k_mixed => k_is)
    (case l_word => k_is)
    (case c_word => k_is)
    (case k_word => k_is)
    (case l_names => k_is)
    (case c_names => k_is)
    (case k_names => k_is)
    (case l_grown => k_is)
    (case c_grown => k_is)
    (case k_grown => k_is)
    (case l_toldBy => k_is)
    (case c_toldBy => k_is)
    (case k_toldBy => k_is)
    (case l_holds => k_is)
    (case c_holds => k_is)
    (case k_holds => k_is)
    (case l_row => k_is)
    (case c_row => k_is)
    (case k_row => k_is)
    (case l_down => k_is)
    (case c_down => k_is)
    (case k_down => k_is)
    (case l_whole => k_is)
    (case c_whole => k_is)
    (case k_whole => k_is)
    (case l_met => k_is)
    (case c_met => k_is)
    (case k_met => k_is)
    (case l_placeL => k_is)
    (case c_placeL => k_is)
    (case k_placeL => k_is)
    (case l_formed => k_is)
    (case c_formed => k_is)
    (case k_formed => k_is)
    (case p_cF => k_is)
    (case q_cF => k_is)
    (case r_cF => k_is)
    (case s_cF => k_is)
    (case u_cF => k_is)
    (case w_cF => k_is)
    (case p_cC => k_is)
    (case q_cC => k_is)
    (case r_cC => k_is)
    (case s_cC => k_is)
    (case u_cC => k_is)
    (case w_cC => k_is)
    (case p_cT => k_is)
    (case q_cT => k_is)
    (case r_cT => k_is)
    (case s_cT => k_is)
    (case u_cT => k_is)
    (case w_cT => k_is)
    (case p_cS => k_is)
    (case q_cS => k_is)
    (case r_cS => k_is)
    (case s_cS => k_is)
    (case u_cS => k_is)
    (case w_cS => k_is)
    (case p_cB => k_is)
    (case q_cB => k_is)
    (case r_cB => k_is)
    (case s_cB => k_is)
    (case u_cB => k_is)
    (case w_cB => k_is)
    (case p_cSh => k_is)
    (case q_cSh => k_is)
    (case r_cSh => k_is)
    (case s_cSh => k_is)
    (case u_cSh => k_is)
    (case w_cSh => k_is)
    (case ya_cF => k_is)
    (case yb_cF => k_is)
    (case yc_cF => k_is)
    (case ya_cC => k_is)
    (case yb_cC => k_is)
    (case yc_cC => k_is)
    (case ya_cT => k_is)
    (case yb_cT => k_is)
    (case yc_cT => k_is)
    (case ya_cS => k_is)
    (case yb_cS => k_is)
    (case yc_cS => k_is)
    (case x_n_cF_value => k_is)
    (case x_n_cC_name => k_is)
    (case x_n_cT_part => k_is)
    (case x_n_cS_parts => k_is)
    (case x_n_cB_parts => k_is)
    (case x_n_cSh_names => k_is)
    (case x_n_cSh_nodes => k_is)
    (case x_n_cSh_numbers => k_is)
    (case y_h_cF => k_is)
    (case y_o_cF => k_is)
    (case y_h_cC => k_is)
    (case y_o_cC => k_is)
    (case y_h_cT => k_is)
    (case y_o_cT => k_is)
    (case y_h_cS => k_is)
    (case y_o_cS => k_is)
    (case y_h_cB => k_is)
    (case y_o_cB => k_is)
    (case y_hg => k_is)
    (case y_ht => k_is)
    (case y_k_cC_cF => k_is)
    (case y_k_cT_cF => k_is)
    (case y_k_cS_cF => k_is)
    (case y_k_cB_cF => k_is)
    (case y_k_cT_cC => k_is)
    (case y_k_cS_cC => k_is)
    (case y_k_cB_cC => k_is)
    (case y_k_cS_cT => k_is)
    (case y_k_cB_cT => k_is)
    (case y_k_cB_cS => k_is)
    (case z_b_len => k_is)
    (case z_b_sum => k_is)
    (case z_b_max => k_is)
    (case z_b_min => k_is)
    (case z_b_tuple => k_is)
    (case z_b_list => k_is)
    (case z_b_set => k_is)
    (case z_b_range => k_is)
    (case z_b_isinstance => k_is)
    (case z_b_int => k_is)
    (case z_b_bool => k_is)
    (case z_v_MOST_SIGNS => k_is)
    (case z_v_MOST_SIZE => k_is)
    (case z_v_MOST_DEEP => k_is)
    (case z_v_MOST_NAMES => k_is)
    (case z_v_MOST_NODES => k_is)
    (case z_v_SIGNS => k_is)
    (case z_v_KEPT => k_is)
    (case z2_v_KEPT => k_is)
    (case z3_v_KEPT => exact RW.KeptIs.mk _ _ _ _ _ _ _ _ _ _ _)
