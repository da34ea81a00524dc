import PyProof.Rows.All
import Wide.All
import OpenK.AllK
import Wide.FinOn
import HandS.ForMost
import HandS.Evl
import HandS.Steps
import HandS.Codes
import HandS.DictComp
import HandS.Wide
import HandS.Zip
import HandS.Strs
import HandS.TupAny
import HandS.Style
import HandS.IsInst
import HandS.Deep
import KE.GoesEnum
import PyProof.SumAnyB
import HandS.SetFor
import HandS.FStrTup
import PySem.Challenge.RW_roundpost_k10_whole_rotas_turned_and_bac
set_option Elab.async false
set_option linter.all false
set_option maxRecDepth 100000
set_option maxHeartbeats 9000000
/-! part RPr1 -/
/-! extra rules: t[::-1] of a tuple -/
namespace RP
open PySem PySem.Spec PyProof.Rows L2
section
variable {prog : Program} {w : World} {A : Around} {E : Value → Shared → Prop} {s : Shared}
theorem fmCongr {α β : Type} {f g : α → Option β} : ∀ {l : List α}, (∀ x ∈ l, f x = g x) → l.filterMap f = l.filterMap g
  | [], _ => rfl
  | x :: l, h => by
    rw [List.filterMap_cons, List.filterMap_cons, h x List.mem_cons_self, fmCongr fun y hy => h y (List.mem_cons_of_mem _ hy)]
theorem revPlaces (n : Nat) : Builtin.Slice.slicePlaces ((n : Int) - 1) (-1) (-1) = n := by
  unfold Builtin.Slice.slicePlaces
  have h1 : ¬ ((-1 : Int) > 0) := by omega
  simp only [h1, if_false]
  by_cases h : (n : Int) - 1 > -1
  · simp only [h, if_true]
    have e : ((n : Int) - 1 - -1 - 1) / (- -1) = (n : Int) - 1 := by
      rw [show (- -1 : Int) = 1 by decide, Int.ediv_one]
      omega
    rw [e]
    omega
  · simp only [h, if_false]
    omega
theorem revPick (xs : Array Value) : ((List.range xs.size).filterMap fun (k : Nat) => xs[((xs.size : Int) - 1 + (k : Int) * (-1)).toNat]?).toArray = xs.toList.reverse.toArray := by
  have e : (List.range xs.size).filterMap (fun (k : Nat) => xs[((xs.size : Int) - 1 + (k : Int) * (-1)).toNat]?) = ((List.range xs.size).map (fun k => xs.size - 1 - k)).filterMap (xs[·]?) := by
    rw [List.filterMap_map]
    refine fmCongr fun k hk => ?_
    have := List.mem_range.mp hk
    show xs[((xs.size : Int) - 1 + (k : Int) * (-1)).toNat]? = xs[xs.size - 1 - k]?
    rw [show ((xs.size : Int) - 1 + (k : Int) * (-1)).toNat = xs.size - 1 - k by omega]
  rw [e, PySem.W.krv_range, List.filterMap_reverse, PySem.W.krv_all]
theorem applyRev {sl : Addr} {vl vu vs : Value} {n : Nat} {Q : Int × Int × Nat → Shared → Prop} (hs : s.heap.IsSliceOf sl vl vu vs) (pl : IsPart vl none) (pu : IsPart vu none) (ps : IsPart vs (some (-1)))
    (h : Q ((n : Int) - 1, -1, n) s) : wpAny (model prog w) A (Builtin.Slice.sliceApplied (.ref sl) (pure (n : Int))) Q E s := by
  obtain ⟨os, hos, hcs, hds⟩ := id hs
  unfold Builtin.Slice.sliceApplied Builtin.Slice.sliceFields
  refine wpAny_bind (wpAny_bind (wpAny_field hos hds (x := vl) rfl (wpAny_bind (wpAny_field hos hds (x := vu) rfl (wpAny_bind (wpAny_field hos hds (x := vs) rfl (wpAny_pure ?_)))))))
  refine wpAny_bind (HT.slicePart_ ps ?_)
  show wpAny _ _ (if ((-1 : Int) == 0) = true then _ else _) _ _ s
  rw [if_neg (by decide)]
  refine wpAny_bind (HT.slicePart_ pl (wpAny_bind (HT.slicePart_ pu (wpAny_bind (wpAny_pure ?_)))))
  show wpAny _ _ (pure (((n : Int) - 1), (-1 : Int), Builtin.Slice.slicePlaces ((n : Int) - 1) (-1) (-1))) _ _ s
  rw [revPlaces]
  exact wpAny_pure h
theorem getItem_tupRev {t sl : Addr} {items : Array Value} {vl vu vs : Value} {Q : Value → Shared → Prop} (ht : IsTup s.heap t items) (hs : s.heap.IsSliceOf sl vl vu vs) (pl : IsPart vl none) (pu : IsPart vu none) (ps : IsPart vs (some (-1)))
    (h : Q (.ref s.heap.objs.size) { s with heap := s.heap.push { cls := .type "tuple", data := .seq items.toList.reverse.toArray } })
    (hsz : items.size ≤ sizeLine) : wpAny (model prog w) A (getItem (.ref t) (.ref sl)) Q E s := by
  have hok : sizeOk (.seq items.toList.reverse.toArray) := by
    show items.toList.reverse.toArray.size ≤ sizeLine
    rw [List.size_toArray, List.length_reverse, Array.length_toList]
    exact hsz
  obtain ⟨os, hos, hcs, hds⟩ := id hs
  have hTs : s.TypeIs (.ref sl) "slice" := ⟨os, hos, hcs⟩
  unfold getItem
  try with_reducible refine wpAny_holding ?_
  first | refine wpAny_bind (wpAny_pure ?_) | skip
  refine wpAny_bind (wpAny_sequenceKey ht.typeIs (by decide) ?_)
  refine wpAny_bind (wpAny_callSpecial?_slot (name := Str.ofString "__getitem__") ht.typeIs PyProof.Rows.slot_tuple_getitem
    (wpAny_call_entry PyProof.Rows.slot_tuple_getitem ht.typeIs entry_tuple_getitem ?_ (args_tuple_getitem _ _)))
  show wpAny _ _ (Builtin.Tuple.tupleItemsOf (.ref t) >>= _) _ _ s
  refine wpAny_bind (tupleItemsOf_ ht ?_)
  refine wpAny_bind (wpAny_typeOf hTs ?_)
  rw [if_pos (by decide)]
  refine wpAny_bind (applyRev hs pl pu ps ?_)
  have hno : ¬ ((((items.size : Int) - 1 : Int) == 0 && (-1 : Int) == 1 && items.size == items.size) = true) := by
    rw [show ((-1 : Int) == 1) = false from rfl, Bool.and_false, Bool.false_and]
    exact Bool.false_ne_true
  show wpAny _ _ (if (((items.size : Int) - 1 : Int) == 0 && (-1 : Int) == 1 && items.size == items.size) = true then _ else _) _ _ s
  rw [if_neg hno, revPick]
  first
    | exact wpAny_bind (m := Builtin.Tuple.tupleExact _) (wpAny_newObj_type (wpAny_pure ⟨_, rfl, wpAny_pure h⟩) hok)
    | exact wpAny_bind (m := Builtin.Tuple.tupleExact _) (wpAny_newObj_type (wpAny_bind (wpAny_pure (wpAny_pure ⟨_, rfl, wpAny_pure h⟩))) hok)
    | exact wpAny_bind (wpAny_bind (m := Builtin.Tuple.tupleExact _) (wpAny_newObj_type (wpAny_pure (wpAny_pure ⟨_, rfl, wpAny_pure h⟩)) hok))
    | exact wpAny_bind (wpAny_bind (m := Builtin.Tuple.tupleExact _) (wpAny_newObj_type (wpAny_pure ⟨_, rfl, wpAny_pure h⟩) hok))
end
/-- t[::-1] -/
def tRevT (K : PySem.W.Frag) (te : TE) : TE := fun σ H Q => te σ H fun x H1 => ∃ a xs, x = .ref a ∧ SqT K H1 a xs ∧ ∀ p (o : Obj), H1 p = none → o.dict = none → Q (.ref p) (upd H1 p (.frz o (.tup xs.reverse)))
theorem pe_revT {X : Cx} {e : Expr} {te : TE} {k : Nat} {p1 p2 p3 pos : Pos} (he : PE X e te) : PE X (.Subscript e (.Slice none none (some (.UnaryOp .USub (.Constant (.int 1) k p1) p2)) p3) pos) (tRevT X.K te) := by
  refine ⟨fun pins s σ H Q I h => ?_⟩
  refine Subscript_ (thn (he.run pins s σ H _ I h) fun v s1 ⟨x, H1, I1, r1, a, xs, ex, hx, q⟩ => ?_)
  subst ex
  cases r1
  have hst : PO X (some (.UnaryOp .USub (.Constant (.int 1) k p1) p2)) (tPart (tUn (rU fun i => .int (-i)) (tC (.int 1)))) := po_some (pe_un un_neg pe_int)
  refine wpAny_Slice (thn (po_none.run pins s1 σ H1 (fun o H2 => o = none ∧ H2 = H1) I1 ⟨rfl, rfl⟩) fun vl s2 ⟨l, H2, I2, pl, el, e2⟩ => ?_)
  subst el e2
  refine thn (po_none.run pins s2 σ H2 (fun o H3 => o = none ∧ H3 = H2) I2 ⟨rfl, rfl⟩) fun vu s3 ⟨u, H3, I3, pu, eu, e3⟩ => ?_
  subst eu e3
  refine thn (hst.run pins s3 σ H3 (fun o H4 => o = some (-1) ∧ H4 = H3) I3 ⟨1, rfl, -1, rfl, rfl, rfl⟩) fun vs s4 ⟨o, H4, I4, ps, eo, e4⟩ => ?_
  subst eo e4
  have I5 : Inv X pins σ H4 { s4 with heap := s4.heap.push { cls := .type "slice", data := .fields #[vl, vu, vs] } } := I4.kept (t' := s4.toks) fun b ob q => Heap.get?_push_of_some _ q
  obtain ⟨its, r, ht, hz⟩ := I5.tuple hx
  have hlen := r.length
  refine tail_any (ops := [.ref a, .ref s4.heap.objs.size]) ht.typeIs (PyProof.Rows.slot_tuple_getitem.lookup) ?_ (by with_unfolding_all rfl)
  refine getItem_tupRev ht (Heap.IsSliceOf.new _ vl vu vs) pl pu ps ?_ (by rw [List.size_toArray]; omega)
  refine ⟨.ref _, _, I5.laid (t' := s4.toks) (o := .frz { cls := .type "tuple", data := .seq its.reverse.toArray } (.tup xs.reverse)) (fun b ob q => Heap.get?_push_of_some _ q) (Nat.le_refl _) ?_, rfl, q _ _ (I5.hok.fresh (Nat.le_refl _)) rfl⟩
  exact ⟨Heap.get?_push_size _ rfl, by rw [List.length_reverse]; exact hz, its.reverse, r.reverse, ⟨_, Heap.get?_push_size _ rfl, rfl, _, rfl⟩⟩
/-! name = {k: v for ..} on one line, the name a local -/
theorem swd_true {kx vx : Expr} {gs : List Comprehension} {scope : Scope} {pos py : Pos} {y : Str} {l : Nat} {env : Env} (hk : env.scope.kind = .function) (hy : env.scope.names.lookup y = some .local) (hl : (py.line == pos.line) = true)
    (ha : (scope.names.any fun (n, k) => n == y && (k == .local || k == .cell)) = false) : swapsWith (.DictComp kx vx gs scope pos) (some (.Name y py)) l env = pure true := by
  have ky : env.kindOf y = some .local := hy
  have hb : env.blockKind = .function := by unfold Env.blockKind; rw [hk]; rfl
  unfold swapsWith
  simp only [hb, ky, ha, Expr.pos, hl]
  rfl
theorem ps_setDc {X : Cx} {i : Nat} {y : Str} {py : Pos} {kx vx tg iter : Expr} {ifs : List Expr} {scope : Scope} {own : List (Str × Nat)} {pos spos : Pos} {wi : TI} {g : TG} {tt : TT} {tk tv : TE} (hc : X.calm = true) (hN : X.N.Nodup) (hy : X.N[i]? = some y) (hyl : X.env.scope.names.lookup y = some .local)
    (hsw : swapsWith (.DictComp kx vx [⟨tg, iter, ifs, 0⟩] scope pos) (some (.Name y py)) spos.line X.env = pure true) (hi : PI X tg iter wi) (ok : BlkOk X.N X.env.scope scope own)
    (hg : ∀ (s : Shared) (H : Hp) (C : Addr) (cl : List (Str × Addr)) (fp : List Addr), PG (X.blk s H scope (compEnvC scope cl C X.env) fp) tg g) (ht : ∀ (s : Shared) (H : Hp) (C : Addr) (cl : List (Str × Addr)) (fp : List Addr), PTs (X.blk s H scope (compEnvC scope cl C X.env) fp) ifs tt)
    (hk : ∀ (s : Shared) (H : Hp) (C : Addr) (cl : List (Str × Addr)) (fp : List Addr), PE (X.blk s H scope (compEnvC scope cl C X.env) fp) kx tk)
    (he : ∀ (s : Shared) (H : Hp) (C : Addr) (cl : List (Str × Addr)) (fp : List Addr), PE (X.blk s H scope (compEnvC scope cl C X.env) fp) vx tv) (hs : ∀ x, foldedSetIterable iter X.env x = pure x := by intro _; rfl) :
    PS X (.Assign [.Name y py] (.DictComp kx vx [⟨tg, iter, ifs, 0⟩] scope pos) spos) (tAsg (tDc wi g tt tk tv (own.map (·.2))) (gName i)) := by
  refine ⟨fun pins s σ H D I h => ?_⟩
  rw [exec_Assign_Name_used _ _ _ _ hsw]
  refine wpAny_bind (wpAny_standAt (wpAny_bind ?_))
  show wpAny _ X.A (do let _ ← comprehension (.DictComp kx vx [⟨tg, iter, ifs, 0⟩] scope pos) scope X.env (firstIterPos [⟨tg, iter, ifs, 0⟩] pos) newDict false (eval iter X.env) (some (assign (.Name y py) X.env))) _ _ s
  have h : tDc wi g tt tk tv (own.map (·.2)) σ H (fun x H1 => gName i x σ H1 D.nx) := h
  refine wpAny_bind (thn (dc_core (Qf := fun _ s' => SP X pins D .next s') hc hN I hi ok hg ht hk he hs h fun L C s' m H' I' q hn f => ?_) fun _ s' hq => wpAny_pure (wpAny_pure hq))
  show wpAny _ _ (assign (.Name y py) X.env (.ref L)) _ _ _
  refine wpAny_assign_Name (store_ok2 (v := V.ref L) I' hN hy (.inl hyl) rfl (fun s2 I2 ⟨a, sb, ha⟩ => ?_) (.inr hyl))
  obtain ⟨f0, f1, f2, f3, f4, f5⟩ := f
  have haC : C ≠ a := by
    rcases ha with z | z
    · rw [z]; exact f1
    · exact fun e => f4 y a z e.symm
  refine ⟨m, hn.sameBut sb haC, fun h3 sb3 => ?_⟩
  exact ⟨_, H', I2.turned (t' := s2.toks) (fun b o hb e => (sb3.2 b hb).trans e) f0 f1 f3 f4 f5, q⟩
/-! ### tuples whose own object is known: made by tuple(..), by +; t.index -/
def rTupS (K : PySem.W.Frag) : List V → Hp → VK → Prop := fun xs H Q => ∃ p ys, xs = [.ref p] ∧ SqL K H p ys ∧ ∀ l (o : Obj), H l = none → o.dict = none → Q (.ref l) (upd H l (.frz o (.tup ys)))
theorem call_tupF {X : Cx} : CallR X (.type "tuple") (rTupS X.K) := by
  intro pins s σ H xs us Q I r h
  obtain ⟨p, ys, rfl, hq, q⟩ := h
  obtain ⟨u, rfl, rx⟩ := vals1 r
  cases rx
  obtain ⟨its, r', pl, hz⟩ := I.list hq
  have hlen := r'.length
  refine call_tuple_list pl.isList (fun h' kp => ?_) (by simp only [List.size_toArray] <;> omega)
  have I1 : Inv X pins σ H { s with heap := h' } := I.kept (t' := s.toks) kp
  have I2 : Inv X pins σ (upd H h'.objs.size (.frz { cls := .type "tuple", data := .seq its.toArray } (.tup ys))) { s with heap := h'.push { cls := .type "tuple", data := .seq its.toArray } } :=
    I1.laid (t' := s.toks) (fun b o e => Heap.get?_push_of_some _ e) (Nat.le_refl _) ⟨Heap.get?_push_size _ rfl, hz, its, r', IsTup.new _ _⟩
  exact ⟨.ref h'.objs.size, _, I2, rfl, q _ _ (I1.hok.fresh (Nat.le_refl _)) rfl⟩
/-- t + u -/
def rCatF (K : PySem.W.Frag) : R2 := fun x y H Q => ∃ a b xs ys, x = .ref a ∧ y = .ref b ∧ SqT K H a xs ∧ SqT K H b ys ∧ xs.length + ys.length ≤ sizeLine ∧
  (xs = [] → Q (.ref b) H) ∧ (xs ≠ [] → ys = [] → Q (.ref a) H) ∧ (xs ≠ [] → ys ≠ [] → ∀ p (o : Obj), H p = none → o.dict = none → Q (.ref p) (upd H p (.frz o (.tup (xs ++ ys)))))
theorem op_catF {X : Cx} : OpR X (binaryOp .Add) (rCatF X.K) := by
  intro pins s σ H x y v u Q I rx ry h
  obtain ⟨a, b, xs, ys, rfl, rfl, ha, hb, hz, q0, q1, q2⟩ := h
  cases rx
  cases ry
  obtain ⟨its, r1, p1, _⟩ := I.tuple ha
  obtain ⟨its2, r2, p2, _⟩ := I.tuple hb
  by_cases hx : xs = []
  · subst hx
    cases r1
    exact cat_tup0 p1 p2 ⟨.ref b, H, I, rfl, q0 rfl⟩
  · refine HT.cat_tup p1 p2 (fun z => hx (r1.nil_iff.mp z)) (fun z => ⟨.ref a, H, I, rfl, q1 hx (r2.nil_iff.mp z)⟩) (fun z => ?_) (by rw [← r1.length, ← r2.length]; exact hz)
    refine ⟨.ref s.heap.objs.size, _, I.laid (t' := s.toks) (o := .frz { cls := .type "tuple", data := .seq (its ++ its2).toArray } (.tup (xs ++ ys))) (fun b ob q => Heap.get?_push_of_some _ q) (Nat.le_refl _) ?_, rfl, q2 hx (fun w => z (r2.nil_iff.mpr w)) _ _ (I.hok.fresh (Nat.le_refl _)) rfl⟩
    exact ⟨Heap.get?_push_size _ rfl, by rw [List.length_append]; exact hz, _, r1.append r2, IsTup.new _ _⟩
/-- a tuple of texts, its own object without a dict -/
def TF (H : Hp) (a : Addr) (ss : List Str) : Prop := ∃ o : Obj, H a = some (.frz o (.tup (ss.map V.str))) ∧ o.dict = none
/-- t.index(x), x there -/
def tTix (to te : TE) : TE := fun σ H Q => to σ H fun x H1 => ∃ (a : Addr) (ss : List Str), x = .ref a ∧ TF H1 a ss ∧ te σ H1 fun y H2 => ∃ (z : Str) (j : Nat), [y] = [V.str z] ∧ TF H2 a ss ∧ ss[j]? = some z ∧ (∀ m, m < j → ss[m]? ≠ some z) ∧ Q (.int (j : Nat)) H2
theorem pe_tix {X : Cx} {o e : Expr} {apos cpos : Pos} {to te : TE} (ho : PE X o to) (he : PE X e te) (hbase : attributeBase o "index" X.env (eval o X.env) = eval o X.env := by rfl)
    (hfew : ((backTo cpos (starEach [e] X.env)).all (fun x => !x.1) && (backToKw cpos (keywordEach [] X.env)).all (fun x => x.1.isSome)
      && decide ([e].length + ([] : List Keyword).length + (if ([] : List Keyword).isEmpty then 0 else 1) < 30)) = true := by rfl)
    (hline : (apos.endLine == cpos.line) = true := by rfl) (hs : starEach [e] X.env = (false, eval e X.env) :: starEach [] X.env := by rfl) (hplain : (backTo cpos (starEach [] X.env)).any (·.1) = false := by rfl) :
    PE X (.Call (.Attribute o "index" apos) [e] [] cpos) (tTix to te) := by
  refine ⟨fun pins s σ H Q I h => ?_⟩
  refine wpAny_Call_method_late hbase hfew hline rfl (thn (ho.run pins s σ H _ I h) fun v s1 ⟨x, H1, I1, r1, a, ss, ex, ⟨ob, hob, hdn⟩, q1⟩ => ?_)
  subst ex
  cases r1
  obtain ⟨g1, _, its1, rv1, ht1⟩ := I1.hok a _ hob
  obtain ⟨o1, go1, gc1, _⟩ := id ht1
  refine ⟨"tuple", "tuple.index", PySem.F.plainAttrs_tuple, PySem.F.slot_tuple_index, PySem.F.type_tuple_index, ⟨o1, go1, gc1⟩, fun b hb => ?_, ?_⟩
  · cases hb
    exact ⟨ob, g1, hdn⟩
  have hA := (pa_cons he pa_nil hs).run cpos pins s1 σ H1 (fun vs H2 => ∃ (z : Str) (j : Nat), vs = [.str z] ∧ TF H2 a ss ∧ ss[j]? = some z ∧ (∀ m, m < j → ss[m]? ≠ some z) ∧ Q (.int (j : Nat)) H2) I1 q1
  rw [hs] at hA ⊢
  refine Calls.callWith_builtin (by show (false || (backTo cpos (starEach [] X.env)).any (·.1)) = false; rw [hplain] <;> rfl) (Calls.evalArgs_plain ?_)
  refine thn hA fun us s2 ⟨vs, H2, I2, r2, z, j, ev, ⟨o2, h2, _⟩, hj, hno, q2⟩ => ?_
  subst ev
  exact mt_tup_index pins s2 σ H2 (.ref a) [.str z] (.ref a) us Q I2 rfl r2 ⟨a, ss, z, j, rfl, rfl, .inl (.inr ⟨o2, h2⟩), hj, hno, q2⟩
end RP
/-! part RPr2 -/
/-! extra rules: sum of truth values; enumerate of a tuple -/
namespace RP
open PySem PySem.Spec PyProof.Rows L2
/-! ### sum of a list of truth values -/
def b01 (b : Bool) : Int := if b = true then 1 else 0
theorem vals_bl {bs : List Bool} {us : List Value} (h : Vals (bs.map V.bl) us) (i : Nat) (v : Value) (e : us[i]? = some v) : ∃ b, bs[i]? = some b ∧ v = .bool b := by
  rw [Vals.bls h, List.getElem?_map] at e
  cases q : bs[i]? with
  | none => rw [q] at e; cases e
  | some b =>
    rw [q] at e
    exact ⟨b, rfl, (Option.some.inj e).symm⟩
def rSumB (K : PySem.W.Frag) : List V → Hp → VK → Prop := fun vs H Q => ∃ (a : Addr) (bs : List Bool), vs = [V.ref a] ∧ SqL K H a (bs.map V.bl) ∧ Q (.int (bs.map b01).sum) H
theorem cr_sumB {X : Cx} (hc : X.calm = true) : CallR X (.builtin "sum") (rSumB X.K) := by
  intro pins s σ H vs us Q I r h
  obtain ⟨a, bs, rfl, hs, q⟩ := h
  obtain ⟨its, rv, hl, _⟩ := I.list hs
  rw [Vals.ref1 r]
  have hh : X.A.handled = none := I.ok.hd hc
  have hL := hl.isList
  have hlt : a < s.heap.objs.size := by obtain ⟨_, e, _⟩ := hL; exact Heap.lt_size e
  have hne : a ≠ s.heap.objs.size := Nat.ne_of_lt hlt
  refine call_sum_walkAnyB (wpAny_pyIter_list hL ?_)
  have hlen : its.toArray.size = bs.length := by rw [List.size_toArray, ← rv.length, List.length_map]
  refine ⟨_, _, _, _, _, _, _, fun i => b01 (bs.getD i false), rfl, (Walks.list (A := X.A.in1) hh _ a hne its.toArray).toS, ⟨⟨_, Heap.get?_push_size _ rfl, rfl, rfl⟩, hL.push _⟩, fun b hb => ?_, fun i v hv => ?_, fun s' t' hm => ?_⟩
  · show b < (s.heap.push _).objs.size
    rw [Heap.size_push]
    rcases List.mem_cons.mp hb with rfl | hb
    · exact Nat.lt_succ_self _
    · rw [List.mem_singleton.mp hb]
      exact Nat.lt_succ_of_lt hlt
  · have hv' : its[i]? = some v := by simpa using hv
    obtain ⟨b, hb, rfl⟩ := vals_bl rv i v hv'
    refine .inr ⟨b, rfl, ?_⟩
    show b01 (bs.getD i false) = _
    rw [List.getD_eq_getElem?_getD, hb] <;> rfl
  · obtain ⟨h', g', d', tk', os'⟩ := s'
    have eg : g' = s.gens := hm.gens
    have ed : d' = s.drawn := hm.drawn
    have eo : os' = s.os := hm.os
    subst eg; subst ed; subst eo
    have hk : ∀ b o, s.heap.get? b = some o → h'.get? b = some o := fun b o e => hm.heap b o (fun z => absurd (List.mem_singleton.mp z) (Nat.ne_of_lt (Heap.lt_size e))) (Heap.get?_push_of_some _ e)
    refine ⟨.int _, H, I.kept (t' := tk') hk, ⟨_, rfl⟩, ?_⟩
    have e : preSum (fun i => b01 (bs.getD i false)) its.toArray.size = (bs.map b01).sum := by
      rw [hlen]
      have key : ∀ n, n ≤ bs.length → preSum (fun i => b01 (bs.getD i false)) n = ((bs.take n).map b01).sum := by
        intro n
        induction n with
        | zero => intro _; rfl
        | succ n ih =>
          intro hn
          have hlt' : n < bs.length := hn
          have e1 : bs.getD n false = bs[n] := by
            rw [List.getD_eq_getElem?_getD, List.getElem?_eq_getElem hlt'] <;> rfl
          have e2 : bs.take (n + 1) = bs.take n ++ [bs[n]] := by
            rw [List.take_add_one, List.getElem?_eq_getElem hlt'] <;> rfl
          show preSum (fun i => b01 (bs.getD i false)) n + b01 (bs.getD n false) = _
          rw [ih (Nat.le_of_lt hlt'), e1, e2, List.map_append, List.sum_append]
          simp
      rw [key bs.length (Nat.le_refl _), List.take_length]
    rw [e]
    exact q
/-! ### enumerate of a tuple -/
set_option maxHeartbeats 1000000 in
theorem meets_enum1 {v : Value} {o : Obj} {Hq : Heap → Prop} (B : Begins v o Hq) :
    Meets (Builtin.«enumerate.__new__» ⟨[.type "enumerate", v], []⟩) (fun _ R s => Hq s.heap ∧
      R (.ok (.ret (.ref (s.heap.push o).objs.size))) { s with heap := (s.heap.push o).push { cls := .type "enumerate", data := .fields #[.none, .bool false, .ref s.heap.objs.size, rawInt 0, .none, .none] } }) :=
  .of_wp fun prog w A R s h => by
    obtain ⟨hp, g, d, tk, os⟩ := s; obtain ⟨h1, h⟩ := h
    have hsub := sub_enumerate
    have q1 : ∀ {A' : Around} {E : Value → Shared → Prop} {Q : Value → Shared → Prop}, Q (.ref hp.objs.size) ⟨hp.push o, g, d, tk, os⟩ → wpAny (model prog w) A' (pyIter v) Q E ⟨hp, g, d, tk, os⟩ :=
      fun q => B.iter prog w _ _ ⟨hp, g, d, tk, os⟩ _ h1 q
    wp_walk using q1
    refine wpAny_stack_any fun st => wpAny_pure ?_
    split
    · rename_i c _ _ _ _ _
      cases (c == Value.type "enumerate")
      · wp_walk using q1
        exact ⟨_, rfl, h⟩
      · wp_walk using q1
        exact ⟨_, rfl, h⟩
    · wp_walk using q1
      exact ⟨_, rfl, h⟩
section
variable {prog : Program} {w : World} {A : Around} {E : Value → Shared → Prop} {s : Shared}
theorem call_enum1 {v : Value} {o : Obj} {Hq : Heap → Prop} {Q : Value → Shared → Prop} (B : Begins v o Hq) (h1 : Hq s.heap)
    (h : ∀ h', IsEnum h' (s.heap.objs.size + 1) s.heap.objs.size 0 .none → h'.get? s.heap.objs.size = some o → h'.objs.size = s.heap.objs.size + 2 →
      (∀ b o, s.heap.get? b = some o → h'.get? b = some o) → Q (.ref (s.heap.objs.size + 1)) { s with heap := h' }) :
    wpAny (model prog w) A (call (.type "enumerate") [v]) Q E s := by
  refine callType_new F.called_enumerate (by decide) (F.typeCall_enumerate_1 _) (F.newCall_enumerate_1 _) (fun obj => F.args_object_init_2 obj _) F.entry_enumerate_new
    (meets_enum1 B) ⟨h1, ?_⟩
  have hz : (s.heap.push o).objs.size = s.heap.objs.size + 1 := Heap.size_push ..
  show _ ∧ _
  rw [hz]
  have he : IsEnum ((s.heap.push o).push { cls := .type "enumerate", data := .fields #[.none, .bool false, .ref s.heap.objs.size, rawInt 0, .none, .none] }) (s.heap.objs.size + 1) s.heap.objs.size 0 .none := by
    have := Heap.get?_push_size (s.heap.push o) (o := { cls := .type "enumerate", data := .fields #[.none, .bool false, .ref s.heap.objs.size, rawInt 0, .none, .none] }) rfl
    rw [hz] at this; exact this
  exact ⟨⟨_, he, rfl⟩, h _ he (Heap.get?_push_of_some _ (Heap.get?_push_size _ B.free)) (by rw [Heap.size_push, hz]) fun b o x => Heap.get?_push_of_some _ (Heap.get?_push_of_some _ x)⟩
end
/-- the tuple at a as it stands at each turn, place and item in a new pair -/
def IteT (K : PySem.W.Frag) (a : Addr) : It :=
  ⟨fun i H => ∃ (xs : List V) (x : V), SqT K H a xs ∧ xs[i]? = some x, fun i H v H' => ∃ T x, v = .ref T ∧ H T = none ∧ H' = upd H T (.tup [.int (i : Nat), x]) ∧ ∀ xs, SqT K H a xs → xs[i]? = some x, fun i H => ∃ xs : List V, SqT K H a xs ∧ xs.length ≤ i⟩
theorem turn_enumT {P : Program} {w : World} {K : PySem.W.Frag} {elts : List Expr} {kk : Nat} {tpos : Pos} (a e it : Addr) :
    Turn P w K (.Tuple elts kk tpos) (IteT K a) [e, it] e (fun i h => (∃ old, IsEnum h e it ((i : Nat) : Int) old) ∧ h.IsTupleIter it a i ∧ e ≠ it) where
  mem := by simp
  obj := fun i h st b hb => by
    obtain ⟨⟨old, he⟩, ⟨o, ho, hc, hd⟩, _⟩ := st
    have e' : b = e ∨ b = it := by simpa using hb
    rcases e' with z | z
    · rw [z]; exact ⟨_, he, fun v q => nomatch q⟩
    · rw [z]; exact ⟨o, ho, fun v q => by rw [hd] at q; cases q⟩
  keep := fun i h h' st k => let ⟨⟨old, he⟩, hi, hne⟩ := st; ⟨⟨old, k e (by simp) _ he⟩, hi.at fun o q => k it (by simp) o q, hne⟩
  item := by
    intro X hP hw hK hc i pins s σ H E I hf st hg
    subst hP hw hK
    obtain ⟨⟨old, he⟩, hit, hne⟩ := st
    obtain ⟨xs, x, hq, hx⟩ := hg
    obtain ⟨its, rv, p, hz⟩ := I.tuple hq
    obtain ⟨u, hu, ru⟩ := rv.get hx
    have hel : e < s.heap.objs.size := Heap.lt_size he
    have hil : it < s.heap.objs.size := by obtain ⟨_, q, _⟩ := hit; exact Heap.lt_size q
    have hT : s.heap.IsTuple a its.toArray := p
    have hta : a ≠ it := fun z => by
      obtain ⟨o1, q1, c1, d1⟩ := hit
      obtain ⟨o2, q2, c2, _⟩ := hT
      rw [z, q1] at q2
      cases q2
      rw [c1] at c2
      exact absurd c2 (by decide)
    have hea : e ∉ [it, a] := fun z => by
      rcases List.mem_cons.mp z with z | z
      · exact hne z
      · have z' := List.mem_singleton.mp z
        obtain ⟨o2, q2, c2, _⟩ := hT
        rw [← z', he] at q2
        cases q2
        have c3 : Value.type "enumerate" = Value.type "tuple" := c2
        exact absurd (Value.type.inj c3) (by decide)
    have hiz : i < its.toArray.size := by
      have := (List.getElem?_eq_some_iff.mp hu).1
      simpa using this
    refine wpAny_pyNext_enum_itemD (Draws.tuple (A := X.A.in1) (I.ok.hd hc) it a hta its.toArray) he ⟨hit, hT⟩ hiz hne hea fun x' h' tk hx' ho hit' hTn hsz hk => ?_
    have ex : x' = u := by
      have hx2 : its[i]? = some x' := by simpa using hx'
      rw [hu] at hx2
      exact (Option.some.inj hx2).symm
    subst ex
    refine ⟨_, rfl, wpAny_letOwnedTupleGo_enum (s := { s with heap := h', toks := tk + 1 }) ho fun h'' he' sb => ?_⟩
    have hT2 : h''.get? s.heap.objs.size = some { cls := .type "tuple", data := .seq #[.int i tk, x'] } := (sb.2 _ (Nat.ne_of_gt hel)).trans hTn
    have new : ObjOk X.prog X.w (upd H s.heap.objs.size (.tup [.int (i : Nat), x])) h'' s.heap.objs.size (.tup [.int (i : Nat), x]) :=
      ⟨by show 2 ≤ sizeLine; decide, [.int i tk, x'], .cons ⟨_, rfl⟩ (.cons ru .nil), ⟨_, hT2, rfl, _, rfl⟩⟩
    have I1 : Inv X pins σ (upd H s.heap.objs.size (.tup [.int (i : Nat), x])) { s with heap := h'', toks := tk + 1 } :=
      I.turnedNew (ch := [e, it]) (fun b ob hb q => (sb.2 b (fun z => hb (by simp [z]))).trans (hk b ob (fun z => hb (by simp [z])) (fun z => hb (by simp [z])) q)) hf (Nat.le_refl _) new
    refine ⟨.ref s.heap.objs.size, _, I1, rfl, ⟨_, x, rfl, I.hok.fresh (Nat.le_refl _), rfl, fun ys hy => by rw [I.tuple_inj hy hq]; exact hx⟩, ⟨⟨x', ?_⟩, hit'.1.at fun o q => (sb.2 it (Ne.symm hne)).trans q, hne⟩, fun b hb => ?_⟩
    · have e1 : ((i + 1 : Nat) : Int) = (i : Int) + 1 := by omega
      rw [e1]; exact he'
    · have hb' : b < s.heap.objs.size := by
        have e' : b = e ∨ b = it := by simpa using hb
        rcases e' with z | z
        · rw [z]; exact hel
        · rw [z]; exact hil
      rw [upd_ne (Nat.ne_of_lt hb')]
      exact (hf b hb).1
  done := by
    intro X hP hw hK hc i pins s σ H E I hf st hg
    subst hP hw hK
    obtain ⟨⟨old, he⟩, hit, hne⟩ := st
    obtain ⟨xs, hq, hx⟩ := hg
    obtain ⟨its, rv, p, hz⟩ := I.tuple hq
    obtain ⟨f0, f1, f2, f3, f4, f5⟩ := hf it (by simp)
    have hl := rv.length
    have hT : s.heap.IsTuple a its.toArray := p
    unfold pyNext
    have hTe : s.TypeIs (.ref e) "enumerate" := ⟨_, he, rfl⟩
    refine wpAny_bind (wpAny_attempt (wpAny_callSpecial?_slot (name := Str.ofString "__next__") hTe F.slot_enumerate_next
      (wpAny_call_entry F.slot_enumerate_next hTe F.entry_enumerate_next ?_ (F.args_enumerate_next_1 _))))
    show wpAny _ _ (field (.ref e) 2 >>= _) _ _ _
    refine wpAny_bind (wpAny_field he rfl (x := .ref it) rfl ?_)
    refine wpAny_bind (wpAny_nextOf_tuple_end (I.ok.hd hc) hit hT (by simp; omega) fun h' x he' hx' => ?_)
    obtain ⟨o, ho, hcs⟩ := hx'
    refine wpAny_bind (wpAny_isInstance (T := "StopIteration") (b := true) ⟨o, ho, hcs⟩ isSubtype_stop ?_)
    exact wpAny_pure ⟨rfl, I.turned (t' := s.toks) (fun b o hb q => he' b o hb q) f0 f1 f3 f4 f5⟩
  self := fun A i s Q E st h => let ⟨⟨_, he⟩, _⟩ := st; wpAny_pyIter_enum he h
def iEnumT (K : PySem.W.Frag) (ta : TA) : TI := fun σ H R => ta σ H fun vs H1 => ∃ a xs, vs = [.ref a] ∧ SqT K H1 a xs ∧ R (IteT K a) H1
theorem pi_enumT {X : Cx} {e : Expr} {ta : TA} {p pos tpos : Pos} {elts : List Expr} {kk : Nat} (hg : Gl X "enumerate") (hm : X.mg "enumerate" = none) (ha : PA X [e] ta) (hs : starEach [e] X.env = [(false, eval e X.env)] := by rfl) :
    PI X (.Tuple elts kk tpos) (.Call (.Name "enumerate" p) [e] [] pos) (iEnumT X.K ta) := by
  refine ⟨fun pins s σ H R I h => ?_⟩
  refine Call_ (ld_blt I hg hm boot_enumerate (PyProof.Rows.callWith_type1 (thn (ha.run pos pins s σ H _ I h) fun us s1 ⟨vs, H1, I1, r1, q1⟩ => ?_) hs rfl))
  obtain ⟨a, xs, ex, hq, q⟩ := q1
  subst ex
  cases r1 with
  | cons r rr =>
    cases rr
    cases r
    obtain ⟨its, rv, p', hz⟩ := I1.tuple hq
    refine call_enum1 (begins_tuple a its.toArray) (show s1.heap.IsTuple a its.toArray from p') fun h' he hit hsz hk => wpAny_pyIter_enum he ?_
    have I2 : Inv X pins σ H1 { s1 with heap := h' } := I1.kept (t' := s1.toks) hk
    refine ⟨s1.heap.objs.size + 1, [s1.heap.objs.size + 1, s1.heap.objs.size], _, _, H1, rfl, I2, turn_enumT a (s1.heap.objs.size + 1) s1.heap.objs.size, ⟨⟨.none, he⟩, ⟨_, hit, rfl, rfl⟩, Nat.succ_ne_self _⟩, fun b hb => ?_, q⟩
    have e' : b = s1.heap.objs.size + 1 ∨ b = s1.heap.objs.size := by simpa using hb
    have hle : s1.heap.objs.size ≤ b := by
      rcases e' with z | z
      · rw [z]; exact Nat.le_add_right _ _
      · rw [z]; exact Nat.le_refl _
    exact I1.fpOk hle (I1.hok.fresh hle)
end RP
/-! part RPr3 -/
/-! extra rules: len(set(t)) of a tuple of texts; a call by keywords alone; repr of data -/
namespace RP
open PySem PySem.Spec PyProof.Rows L2
/-! ### the unlike texts of a list -/
def dstep (acc : List Str) (x : Str) : List Str := if x ∈ acc then acc else acc ++ [x]
def dlist (xs : List Str) : List Str := xs.foldl dstep []
theorem dlist_snoc (xs : List Str) (x : Str) : dlist (xs ++ [x]) = dstep (dlist xs) x := by
  unfold dlist
  rw [List.foldl_append] <;> rfl
theorem dfold_mem (y : Str) : ∀ (xs acc : List Str), y ∈ xs.foldl dstep acc ↔ y ∈ acc ∨ y ∈ xs
  | [], acc => by simp
  | x :: xs, acc => by
    rw [List.foldl_cons, dfold_mem y xs]
    unfold dstep
    by_cases h : x ∈ acc
    · rw [if_pos h]
      constructor
      · rintro (a | a)
        · exact .inl a
        · exact .inr (List.mem_cons_of_mem _ a)
      · rintro (a | a)
        · exact .inl a
        · rcases List.mem_cons.mp a with e | a
          · rw [e]; exact .inl h
          · exact .inr a
    · rw [if_neg h]
      rw [List.mem_append, List.mem_singleton, List.mem_cons, or_assoc]
theorem dlist_mem (y : Str) (xs : List Str) : y ∈ dlist xs ↔ y ∈ xs := by
  unfold dlist
  rw [dfold_mem]
  simp
theorem dfold_le : ∀ (xs acc : List Str), (xs.foldl dstep acc).length ≤ acc.length + xs.length
  | [], acc => Nat.le_refl _
  | x :: xs, acc => by
    rw [List.foldl_cons]
    have h := dfold_le xs (dstep acc x)
    have h2 : (dstep acc x).length ≤ acc.length + 1 := by
      unfold dstep
      split
      · omega
      · rw [List.length_append] <;> simp
    rw [List.length_cons]
    omega
theorem dlist_le (xs : List Str) : (dlist xs).length ≤ xs.length := by
  have h := dfold_le xs []
  rw [List.length_nil, Nat.zero_add] at h
  exact h
theorem dfold_nodup : ∀ (xs acc : List Str), xs.Nodup → (∀ x ∈ xs, x ∉ acc) → xs.foldl dstep acc = acc ++ xs
  | [], acc, _, _ => by simp
  | x :: xs, acc, h, hd => by
    rw [List.nodup_cons] at h
    have e : dstep acc x = acc ++ [x] := if_neg (hd x List.mem_cons_self)
    rw [List.foldl_cons, e, dfold_nodup xs (acc ++ [x]) h.2 fun y hy hm => ?_, List.append_assoc]
    · rfl
    · rcases List.mem_append.mp hm with a | a
      · exact hd y (List.mem_cons_of_mem _ hy) a
      · rw [List.mem_singleton] at a
        rw [a] at hy
        exact h.1 hy
theorem dlist_nodup {xs : List Str} (h : xs.Nodup) : dlist xs = xs := by
  unfold dlist
  rw [dfold_nodup xs [] h fun _ _ z => nomatch z] <;> rfl
theorem dfold_lt : ∀ (xs acc : List Str), (xs.foldl dstep acc).length = acc.length + xs.length → xs.Nodup ∧ ∀ x ∈ xs, x ∉ acc
  | [], acc, _ => ⟨List.nodup_nil, fun _ z => nomatch z⟩
  | x :: xs, acc, h => by
    rw [List.foldl_cons, List.length_cons] at h
    have h1 := dfold_le xs (dstep acc x)
    by_cases hx : x ∈ acc
    · have e : dstep acc x = acc := if_pos hx
      rw [e] at h h1
      omega
    · have e : dstep acc x = acc ++ [x] := if_neg hx
      rw [e] at h
      have h2 : (xs.foldl dstep (acc ++ [x])).length = (acc ++ [x]).length + xs.length := by
        rw [h, List.length_append]
        simp
        omega
      obtain ⟨a, b⟩ := dfold_lt xs (acc ++ [x]) h2
      refine ⟨List.nodup_cons.mpr ⟨fun hm => b x hm (List.mem_append_right _ List.mem_cons_self), a⟩, fun y hy hm => ?_⟩
      rcases List.mem_cons.mp hy with e2 | hy
      · rw [e2] at hm; exact hx hm
      · exact b y hy (List.mem_append_left _ hm)
/-- as many unlike ones as items: none twice -/
theorem dlist_iff (xs : List Str) : (dlist xs).length = xs.length ↔ xs.Nodup := by
  constructor
  · intro h
    exact (dfold_lt xs [] (by simpa [dlist] using h)).1
  · intro h
    rw [dlist_nodup h]
/-! ### set(t) -/
section
variable {prog : Program} {w : World} {A : Around} {E : Value → Shared → Prop} {s : Shared}
theorem fill_set {R : Result → Shared → Prop} {I : Addr} {fp wr : List Addr} {G : Array GenState → Array GenState → Prop} {n : Nat} {P : Nat → Value → Prop} {St : Nat → Shared → Prop} (W : WalksS prog w A.in1 I fp wr G n P St) (S : Addr) (hSf : S ∉ fp) (xs : List Str) (hsz : xs.length = n)
    (hb : xs.length + 1 < scanBound) (hval : ∀ i v, P i v → ∃ t x, xs[i]? = some x ∧ v = .str x t) :
    ∀ (k i : Nat) (s : Shared), n - i = k → i ≤ n → St i s →
      s.heap.SetOf (PySem.strKind prog w) S (fun y => decide (y ∈ xs.take i)) (dlist (xs.take i)).length →
      (∀ s', Moved (S :: wr) G s s' → s'.heap.SetOf (PySem.strKind prog w) S (fun y => decide (y ∈ xs)) (dlist xs).length → R (.ok (.ret .none)) s') →
      codeAny (model prog w) A (.builtin "set.update.loop" ⟨[.ref S, .ref I], []⟩) R s := by
  have hSw : S ∉ wr := fun h => hSf (W.sub _ h)
  have hsub : ∀ b ∈ wr, b ∈ S :: wr := fun b hb => List.mem_cons_of_mem _ hb
  have keepS : ∀ {s s' : Shared} {f : Str → Bool} {m : Nat}, Moved wr G s s' → s.heap.SetOf (PySem.strKind prog w) S f m → s'.heap.SetOf (PySem.strKind prog w) S f m := fun hm ⟨o, es, ep, t, ho, r⟩ => ⟨o, es, ep, t, hm.heap S _ hSw ho, r⟩
  intro k
  induction k with
  | zero =>
    intro i s hk hi hst hS hR
    obtain rfl : i = n := by omega
    have e : xs.take i = xs := List.take_of_length_le (by omega)
    rw [e] at hS
    refine codeAny_builtin PyProof.Rows.F.entry_set_update_loop ?_
    rw [Around.under_plainId PyProof.Rows.F.plain_set_update_loop _]
    show wpAny _ A.in1 (pyNext (.ref I) >>= _) _ _ s
    refine wpAny_bind (W.done s _ _ hst fun s' hm => ?_)
    show wpAny _ A.in1 (ret Value.none) _ _ s'
    exact wpAny_pure (hR s' (hm.mono hsub) (keepS hm hS))
  | succ k ih =>
    intro i s hk hi hst hS hR
    have hlt : i < n := by omega
    refine codeAny_builtin PyProof.Rows.F.entry_set_update_loop ?_
    rw [Around.under_plainId PyProof.Rows.F.plain_set_update_loop _]
    show wpAny _ A.in1 (pyNext (.ref I) >>= _) _ _ s
    refine wpAny_bind (W.item i s _ _ hlt hst fun v s' hP hst' hm => ?_)
    obtain ⟨t, x, hx, rfl⟩ := hval i v hP
    have hS' := keepS hm hS
    have hle := dlist_le (xs.take i)
    rw [List.length_take] at hle
    show wpAny _ A.in1 (holding [Value.str x t] (setAdd S (.str x t)) >>= _) _ _ s'
    refine wpAny_bind (wpAny_holding ?_)
    unfold setAdd
    refine wpAny_holding ?_
    refine wpAny_bind ((PySem.strKind prog w).pyHash (k := x) (strKind_is _ _ _ _) ?_)
    refine wpAny_setAddHashed_of (knd := PySem.strKind prog w) (s := { s' with toks := s'.toks + 1 }) (strKind_is _ _ _ _) rfl hS' (by omega) fun h' hsb hS2 => ?_
    have et : xs.take (i + 1) = xs.take i ++ [x] := by
      rw [List.take_add_one, hx] <;> rfl
    have hSi : h'.SetOf (PySem.strKind prog w) S (fun y => decide (y ∈ xs.take (i + 1))) (dlist (xs.take (i + 1))).length := by
      refine SetOf_congr hS2 (fun y => ?_) ?_
      · rw [et]
        simp [List.mem_append]
      · rw [et, dlist_snoc]
        unfold dstep
        by_cases hm' : x ∈ xs.take i
        · rw [if_pos ((dlist_mem _ _).mpr hm')]
          simp [hm']
        · rw [if_neg (fun z => hm' ((dlist_mem _ _).mp z))]
          simp [hm']
    refine wpAny_pure ⟨plainId_quiet PyProof.Rows.F.plain_set_update_loop _, ih (i + 1) _ (by omega) hlt (W.frame _ s' _ _ hst' (Nat.le_succ _) fun b hb o e => ?_) hSi fun s'' hm'' hS'' => ?_⟩
    · rw [hsb.2 b (fun h : b = S => hSf (by rw [← h]; exact hb))]; exact e
    · refine hR s'' (Moved.trans W.gtrans ((hm.mono hsub).then_heap (Nat.le_succ _) fun b o hb e => ?_) hm'') hS''
      rw [hsb.2 b (fun h : b = S => hb (by rw [h]; exact List.mem_cons_self))]; exact e
theorem strs_get : ∀ {us : List Value} {xs : List Str}, Vals (xs.map V.str) us → ∀ (i : Nat) (v : Value), us[i]? = some v → ∃ t x, xs[i]? = some x ∧ v = .str x t
  | us, xs, r, i, v, h => by
    have hl := r.length
    rw [List.length_map] at hl
    have hi : i < us.length := (List.getElem?_eq_some_iff.mp h).1
    have hx : xs[i]? = some xs[i] := List.getElem?_eq_getElem (by omega)
    obtain ⟨u, hu, ru⟩ := r.get (i := i) (x := V.str xs[i]) (by rw [List.getElem?_map, hx] <;> rfl)
    rw [h] at hu
    cases hu
    obtain ⟨t, rfl⟩ := ru
    exact ⟨t, _, hx, rfl⟩
set_option maxHeartbeats 3200000 in
theorem call_set_tupT {l : Addr} {its : List Value} (xs : List Str) {Q : Value → Shared → Prop} (hh : A.handled = none) (hl : s.heap.IsTuple l its.toArray) (hit : Vals (xs.map V.str) its) (hb : xs.length + 1 < scanBound)
    (h : ∀ (h' : Heap) (tk : Nat), h'.SetOf (PySem.strKind prog w) s.heap.objs.size (fun y => decide (y ∈ xs)) (dlist xs).length → (∀ b o, s.heap.get? b = some o → h'.get? b = some o) → Q (.ref s.heap.objs.size) { s with heap := h', toks := tk }) :
    wpAny (model prog w) A (call (.type "set") [.ref l]) Q E s := by
  have hisz : its.toArray.size = xs.length := by
    rw [List.size_toArray, ← hit.length, List.length_map]
  obtain ⟨c, tl, hmro⟩ := PySem.F.called_set.mro
  have hmade := PySem.F.called_set.made
  have hsub := PySem.F.called_set.sub
  refine wpAny_call (codeAny_of_tree ?_)
  show wpAny _ _ (callAny (.type "set") _) _ _ _
  refine wpAny_pure ⟨Code.quiet_builtin _ (by decide +kernel), codeAny_builtin PySem.F.entry_type_call ?_⟩
  rw [Around.under_plain (weight_type_call_type "set" [.ref l] []) rfl]
  have h1 := PySem.F.called_set.notType
  have h2 := PySem.F.called_set.canCreate
  have hct := PySem.F.typeCall_set_1 (.ref l)
  repeat (any_goals (first | assumption | wp_step))

  refine codeAny_mono (code_set_new_1 (.ref l) (E := E) (Q₁ := fun obj s₁ => ∃ led : Bool, obj = .ref s.heap.objs.size ∧ s₁ = { s with heap := s.heap.push { cls := .type "set", dict := none, data := .set #[] 0 (.fresh 0 0 led) } }) fun led => ⟨led, rfl, rfl⟩) fun r s₁ hr => ?_
  cases r with
  | error e => exact hr
  | ok fl =>
    cases fl with
    | ret obj =>
      obtain ⟨led, rfl, rfl⟩ := hr
      have hS : (s.heap.push { cls := .type "set", dict := none, data := .set #[] 0 (.fresh 0 0 led) }).get? s.heap.objs.size = some { cls := .type "set", dict := none, data := .set #[] 0 (.fresh 0 0 led) } := Heap.get?_push_size _ rfl
      have hT : Shared.TypeIs { s with heap := s.heap.push { cls := .type "set", dict := none, data := .set #[] 0 (.fresh 0 0 led) } } (.ref s.heap.objs.size) "set" := ⟨_, hS, rfl⟩
      have hli := PySem.F.called_set.init.lookup
      have hbi := PySem.F.called_set.init.bind (.ref s.heap.objs.size)
      repeat (any_goals (first | assumption | wp_step))

      refine codeAny_mono (codeAny_call_builtin (R := wants (fun r s₂ => r = .none ∧ ∃ h' tk, s₂ = { s with heap := h', toks := tk } ∧
          h'.SetOf (PySem.strKind prog w) s.heap.objs.size (fun y => decide (y ∈ xs)) (dlist xs).length ∧ (∀ b o, s.heap.get? b = some o → h'.get? b = some o)) E) PySem.F.called_set.init.plain PySem.F.entry_set_init (check_set_init_1 hT ?_)) fun r₂ s₂ hr₂ => ?_
      · obtain ⟨ol, hol, hcl, nl, hdl⟩ := hl
        obtain ⟨ocls, odict, odata, oslots⟩ := ol
        simp only at hcl hdl
        subst hcl; subst hdl
        have hol' : (s.heap.push { cls := .type "set", dict := none, data := .set #[] 0 (.fresh 0 0 led) }).get? l = some { cls := .type "tuple", dict := odict, data := .seq its.toArray nl, slots := oslots } := Heap.get?_push_of_some _ hol
        have hsls := PySem.F.sub_tuple_set
        have hslf := PySem.F.sub_tuple_frozenset
        have hne : (Value.type "tuple" == Value.type "dict") = false := by decide
        have hl1 : (s.heap.push { cls := .type "set", dict := none, data := .set #[] 0 (.fresh 0 0 led) }).IsTuple l its.toArray := ⟨_, hol', rfl, nl, rfl⟩
        unfold Builtin.«set.__init__» noKeywords Builtin.Frozenset.updateFrom
        generalize hPI : pyIter = PI
        wp_walk
        subst hPI

        refine wpAny_pyIter_tuple hl1 ?_
        refine wpAny_bind (wpAny_runValue ?_)
        have hlS : l < s.heap.objs.size := Heap.lt_size hol
        have hh3 : A.in1.in1.in1.handled = none := by simp [hh]
        have hneI : l ≠ (s.heap.push { cls := .type "set", dict := none, data := .set #[] 0 (.fresh 0 0 led) }).objs.size := by
          rw [Heap.size_push]; exact Nat.ne_of_lt (Nat.lt_succ_of_lt hlS)
        have hSf : s.heap.objs.size ∉ [(s.heap.push { cls := .type "set", dict := none, data := .set #[] 0 (.fresh 0 0 led) }).objs.size, l] := by
          rw [Heap.size_push]; simp only [List.mem_cons, List.mem_singleton, List.not_mem_nil, or_false, not_or]
          exact ⟨Nat.ne_of_lt (Nat.lt_succ_self _), Nat.ne_of_gt hlS⟩
        have hval : ∀ (i : Nat) (v : Value), its.toArray[i]? = some v → ∃ t x, xs[i]? = some x ∧ v = .str x t := fun i v hv => strs_get hit i v (by simpa using hv)
        refine fill_set ((Walks.tuple hh3 _ l hneI its.toArray).toS) s.heap.objs.size
          hSf xs hisz.symm hb hval (its.toArray.size - 0) 0 _ (by omega) (Nat.zero_le _)
          ⟨⟨_, Heap.get?_push_size _ rfl, rfl, rfl⟩, (hl1.push _)⟩ ?hS0 ?hR
        case hS0 =>
          have hget : ((s.heap.push { cls := .type "set", dict := none, data := .set #[] 0 (.fresh 0 0 led) }).push { cls := .type "tuple_iterator", data := .fields #[.ref l, .int 0 0] }).get? s.heap.objs.size
              = some { cls := .type "set", dict := none, data := .set #[] 0 (.fresh 0 0 led) } := Heap.get?_push_of_some _ hS
          exact PyProof.Rows.SetOf_congr ((PyProof.Rows.setObjOf_fresh (knd := PySem.strKind prog w) led).setOf hget (by unfold scanBound; omega)) (fun _ => rfl) rfl
        case hR =>
          intro s' hm hS'
          obtain ⟨h', g', d', tk', os'⟩ := s'
          have eg : g' = s.gens := hm.gens
          have ed : d' = s.drawn := hm.drawn
          have eo : os' = s.os := hm.os
          subst eg; subst ed; subst eo
          show wpAny _ _ _ _ _ _
          refine wpAny_pure ?_
          show wpAny _ _ (ret Value.none) _ _ _
          refine wpAny_pure ⟨rfl, h', tk', rfl, hS', fun b o e => ?_⟩
          have hb0 : b < s.heap.objs.size := Heap.lt_size e
          have hb1 : b ≠ s.heap.objs.size := Nat.ne_of_lt hb0
          have hb2 : b ≠ (s.heap.push { cls := .type "set", dict := none, data := .set #[] 0 (.fresh 0 0 led) }).objs.size := by
            rw [Heap.size_push]; exact Nat.ne_of_lt (Nat.lt_succ_of_lt hb0)
          exact hm.heap b o (by simp only [List.mem_cons, List.mem_singleton, List.not_mem_nil, or_false, not_or]; exact ⟨hb1, hb2⟩) (Heap.get?_push_of_some _ (Heap.get?_push_of_some _ e))

      · cases r₂ with
        | error e => exact hr₂
        | ok fl₂ =>
          cases fl₂ with
          | ret r =>
            obtain ⟨rfl, h', tk, rfl, hS', hk'⟩ := hr₂
            repeat (any_goals (first | assumption | wp_step))
            exact h _ _ hS' hk'
          | _ => exact hr₂.elim
    | _ => exact hr.elim
end
/-- len(set(t)), t a tuple of texts -/
def tLenSetT (K : PySem.W.Frag) (ta : TE) : TE := fun σ H Q => ta σ H fun x H1 => ∃ (l : Addr) (xs : List Str), x = .ref l ∧ SqT K H1 l (xs.map V.str) ∧ xs.length ≤ 4000 ∧ Q (.int ((dlist xs).length : Nat)) H1
theorem pe_lenSetT {X : Cx} {a : Expr} {ta : TE} {p p2 q pos : Pos} (hg : Gl X "len") (hm : X.mg "len" = none) (hg2 : Gl X "set") (hm2 : X.mg "set" = none) (ha : PE X a ta) (hc : X.calm = true := by rfl)
    (na : starEach [a] X.env = (false, eval a X.env) :: starEach [] X.env := by rfl) : PE X (.Call (.Name "len" p) [.Call (.Name "set" p2) [a] [] q] [] pos) (tLenSetT X.K ta) := by
  refine ⟨fun pins s σ H Q I h => ?_⟩
  refine Call_ (ld_blt I hg hm boot_len ?_)
  refine PyProof.Rows.callWith_builtin1 (PyProof.Rows.args_cons ?_ rfl) rfl rfl
  refine Call_ (ld_blt I hg2 hm2 boot_set ?_)
  refine PyProof.Rows.callWith_type1 (PyProof.Rows.args_cons (thn (ha.run pins s σ H _ I h) fun v s1 ⟨x, H1, I1, r1, l, xs, ex, hq, hl, q1⟩ => PyProof.Rows.args_nil ?_) na) na rfl
  subst ex
  cases r1
  obtain ⟨its, r, pl, hz⟩ := I1.tuple hq
  refine call_set_tupT xs (I1.ok.hd hc) (show s1.heap.IsTuple l its.toArray from pl) r (by unfold scanBound; omega) fun h' tk hS hk => ?_
  refine PyProof.Rows.args_nil ?_
  have hle := dlist_le xs
  obtain ⟨o, es, ep, t, ho, hex, hd, _, _, _, hf, hn⟩ := hS
  have I2 : Inv X pins σ H1 { s1 with heap := h', toks := tk } := I1.kept hk
  exact call_len_set ho hex hd hf (by rw [hn]; omega) ⟨.int _, H1, I2.tok _, ⟨_, by rw [hn]⟩, q1⟩
/-! ### a call by keywords alone -/
theorem pe_callK0 {X : Cx} {CX : CXT} {k : Nat} {f : Addr} {fd : FuncData} {ps ks : List Str} {sp : Sp} {E : XK} {x : Str} {p pos : Pos} {kws : List Keyword} {tk : TA} {g : List Value → List Value → List Value} {gV : List V → List V → List V}
    (F : FnOk X.prog X.w X.K X.mg X.base CX k f fd ps sp) (hr : Room k X.A) (hg : Gl X x) (hm : X.mg x = some (.ref f)) (hk : PySem.W.keepIn X.K (.ref f) = true) (hb : KBinds X.K fd ps ks g gV) (hx : Passes CX X E)
    (hkw : PK X kws tk) (hall : (backToKw pos (keywordEach kws X.env)).all (·.1.isSome) = true := by rfl) (hks : (backToKw pos (keywordEach kws X.env)).filterMap (·.1) = ks := by rfl)
    (hdb : (x == ("__debug__" : Str)) = false := by decide)
    (hpl : ((backTo pos (starEach [] X.env)).any (·.1) || (backToKw pos (keywordEach kws X.env)).any (·.1.isNone)) = false := by rfl) :
    PE X (.Call (.Name x p) [] kws pos) (tCallK sp gV E tNil tk) := by
  refine ⟨fun pins s σ H Q I h => ?_⟩
  refine wpAny_Call_Name_kw (ld_glob I hg hm ?_ hdb)
  refine PySem.W.callWith_KW0 (h₀ := X.base) I.ok.mod.kin hk hall ?_ hpl
  refine thn (hkw.run pos pins s σ H _ I h) fun ws s2 ⟨zs, H2, I2, rz, q2⟩ => ⟨I2.kIn, ?_⟩
  rw [hks]
  exact run_fnk (vs := []) (us := []) F hr hb hx I2 .nil rz q2
/-! ### repr of data, where no repr is under way -/
def rReprD (K : PySem.W.Frag) : List V → Hp → VK → Prop := fun vs H Q => ∃ (a : Addr) (d : PyData), vs = [V.ref a] ∧ Dp K H (V.ref a) d ∧ d.showable = true ∧ d.hasDict = false ∧ d.depth ≤ 32 ∧ d.shown.length ≤ sizeLine ∧ Q (.str d.shown) H
theorem cr_reprD {X : Cx} {k : Nat} (hr : Room k X.A) (hg : X.A.guards = some []) : CallR X (.builtin "repr") (rReprD X.K) := by
  intro pins s σ H vs us Q I r h
  obtain ⟨a, d, rfl, hd, hs, hn, hz, hl, q⟩ := h
  rw [Vals.ref1 r]
  obtain ⟨as, rd⟩ := Dp.reads I d (.ref a) (.ref a) hd rfl
  have hu := hr.units
  exact repr_of_reads' rd hs (fun z => absurd z (by rw [hn]; exact Bool.false_ne_true)) hg (by omega) (fun _ _ e => e) (fun h' u tk hk => ⟨.str d.shown, H, I.kept (t' := tk) hk, ⟨u, rfl⟩, q⟩) hl
end RP
/-! part RPbase -/
/-! the text by places; what the top leaves; defs as facts -/
namespace RP
open PySem PySem.Spec PyProof.Rows L2
def topS (i : Nat) : Stmt := PySem.Challenge.pw_roundpost_k10_whole_rotas_turned_and_bac.main.body.getD i (.Pass ⟨0, 0, 0, 0⟩)
abbrev s_names_of_roads : Stmt := topS 9
abbrev N_names_of_roads : List Str := ["web", "road"]
theorem sc_names_of_roads : FnScope N_names_of_roads ["web"] (defScope s_names_of_roads) := ⟨rfl, rfl, rfl, by decide +kernel, rfl, by decide +kernel, by decide +kernel⟩
abbrev s_other_end : Stmt := topS 10
abbrev N_other_end : List Str := ["road", "place"]
theorem sc_other_end : FnScope N_other_end ["road", "place"] (defScope s_other_end) := ⟨rfl, rfl, rfl, by decide +kernel, rfl, by decide +kernel, by decide +kernel⟩
abbrev s_steps_from : Stmt := topS 11
abbrev N_steps_from : List Str := ["web", "place", "found", "left", "here", "road"]
theorem sc_steps_from : FnScope N_steps_from ["web", "place"] (defScope s_steps_from) := ⟨rfl, rfl, rfl, by decide +kernel, rfl, by decide +kernel, by decide +kernel⟩
abbrev s_first_way : Stmt := topS 12
abbrev N_first_way : List Str := ["web", "place", "other", "steps", "found", "here", "nearer", "road"]
theorem sc_first_way : FnScope N_first_way ["web", "place", "other"] (defScope s_first_way) := ⟨rfl, rfl, rfl, by decide +kernel, rfl, by decide +kernel, by decide +kernel⟩
abbrev s_way_places : Stmt := topS 13
abbrev N_way_places : List Str := ["web", "place", "way", "roads", "found", "here", "name", "road"]
theorem sc_way_places : FnScope N_way_places ["web", "place", "way"] (defScope s_way_places) := ⟨rfl, rfl, rfl, by decide +kernel, rfl, by decide +kernel, by decide +kernel⟩
abbrev s_is_way : Stmt := topS 14
abbrev N_is_way : List Str := ["web", "thing", "names", "name", "place"]
theorem sc_is_way : FnScope N_is_way ["web", "thing"] (defScope s_is_way) := ⟨rfl, rfl, rfl, by decide +kernel, rfl, by decide +kernel, by decide +kernel⟩
abbrev s_ring_in_web : Stmt := topS 15
abbrev N_ring_in_web : List Str := ["web", "kept", "road", "back"]
theorem sc_ring_in_web : FnScope N_ring_in_web ["web"] (defScope s_ring_in_web) := ⟨rfl, rfl, rfl, by decide +kernel, rfl, by decide +kernel, by decide +kernel⟩
abbrev s_is_ring : Stmt := topS 16
abbrev N_is_ring : List Str := ["web", "thing", "place", "places"]
theorem sc_is_ring : FnScope N_is_ring ["web", "thing"] (defScope s_is_ring) := ⟨rfl, rfl, rfl, by decide +kernel, rfl, by decide +kernel, by decide +kernel⟩
abbrev s_is_integer : Stmt := topS 21
abbrev N_is_integer : List Str := ["thing"]
theorem sc_is_integer : FnScope N_is_integer ["thing"] (defScope s_is_integer) := ⟨rfl, rfl, rfl, by decide +kernel, rfl, by decide +kernel, by decide +kernel⟩
abbrev s_is_within : Stmt := topS 22
abbrev N_is_within : List Str := ["thing", "least", "most"]
theorem sc_is_within : FnScope N_is_within ["thing", "least", "most"] (defScope s_is_within) := ⟨rfl, rfl, rfl, by decide +kernel, rfl, by decide +kernel, by decide +kernel⟩
abbrev s_is_name : Stmt := topS 23
abbrev N_is_name : List Str := ["thing", "sign"]
theorem sc_is_name : FnScope N_is_name ["thing"] (defScope s_is_name) := ⟨rfl, rfl, rfl, by decide +kernel, rfl, by decide +kernel, by decide +kernel⟩
abbrev s_is_row_of : Stmt := topS 24
abbrev N_is_row_of : List Str := ["thing", "least", "most"]
theorem sc_is_row_of : FnScope N_is_row_of ["thing", "least", "most"] (defScope s_is_row_of) := ⟨rfl, rfl, rfl, by decide +kernel, rfl, by decide +kernel, by decide +kernel⟩
abbrev s_are_of : Stmt := topS 25
abbrev N_are_of : List Str := ["thing", "names", "part"]
theorem sc_are_of : FnScope N_are_of ["thing", "names"] (defScope s_are_of) := ⟨rfl, rfl, rfl, by decide +kernel, rfl, by decide +kernel, by decide +kernel⟩
abbrev s_need_count : Stmt := topS 26
abbrev N_need_count : List Str := ["count", "least", "most"]
theorem sc_need_count : FnScope N_need_count ["count", "least", "most"] (defScope s_need_count) := ⟨rfl, rfl, rfl, by decide +kernel, rfl, by decide +kernel, by decide +kernel⟩
abbrev s_are_names : Stmt := topS 31
abbrev N_are_names : List Str := ["thing", "name"]
theorem sc_are_names : FnScope N_are_names ["thing"] (defScope s_are_names) := ⟨rfl, rfl, rfl, by decide +kernel, rfl, by decide +kernel, by decide +kernel⟩
abbrev s_is_road : Stmt := topS 32
abbrev N_is_road : List Str := ["thing", "places"]
theorem sc_is_road : FnScope N_is_road ["thing", "places"] (defScope s_is_road) := ⟨rfl, rfl, rfl, by decide +kernel, rfl, by decide +kernel, by decide +kernel⟩
abbrev s_is_web_form : Stmt := topS 33
abbrev N_is_web_form : List Str := ["thing", "road"]
theorem sc_is_web_form : FnScope N_is_web_form ["thing"] (defScope s_is_web_form) := ⟨rfl, rfl, rfl, by decide +kernel, rfl, by decide +kernel, by decide +kernel⟩
abbrev s_need_web : Stmt := topS 34
abbrev N_need_web : List Str := ["web"]
theorem sc_need_web : FnScope N_need_web ["web"] (defScope s_need_web) := ⟨rfl, rfl, rfl, by decide +kernel, rfl, by decide +kernel, by decide +kernel⟩
abbrev s_is_place : Stmt := topS 35
abbrev N_is_place : List Str := ["web", "thing"]
theorem sc_is_place : FnScope N_is_place ["web", "thing"] (defScope s_is_place) := ⟨rfl, rfl, rfl, by decide +kernel, rfl, by decide +kernel, by decide +kernel⟩
abbrev s_need_place : Stmt := topS 36
abbrev N_need_place : List Str := ["web", "place"]
theorem sc_need_place : FnScope N_need_place ["web", "place"] (defScope s_need_place) := ⟨rfl, rfl, rfl, by decide +kernel, rfl, by decide +kernel, by decide +kernel⟩
abbrev s_is_rota : Stmt := topS 37
abbrev N_is_rota : List Str := ["web", "thing"]
theorem sc_is_rota : FnScope N_is_rota ["web", "thing"] (defScope s_is_rota) := ⟨rfl, rfl, rfl, by decide +kernel, rfl, by decide +kernel, by decide +kernel⟩
abbrev s_need_rota : Stmt := topS 38
abbrev N_need_rota : List Str := ["web", "rota"]
theorem sc_need_rota : FnScope N_need_rota ["web", "rota"] (defScope s_need_rota) := ⟨rfl, rfl, rfl, by decide +kernel, rfl, by decide +kernel, by decide +kernel⟩
abbrev s_is_round : Stmt := topS 39
abbrev N_is_round : List Str := ["web", "thing"]
theorem sc_is_round : FnScope N_is_round ["web", "thing"] (defScope s_is_round) := ⟨rfl, rfl, rfl, by decide +kernel, rfl, by decide +kernel, by decide +kernel⟩
abbrev s_need_week : Stmt := topS 40
abbrev N_need_week : List Str := ["web", "week", "one"]
theorem sc_need_week : FnScope N_need_week ["web", "week"] (defScope s_need_week) := ⟨rfl, rfl, rfl, by decide +kernel, rfl, by decide +kernel, by decide +kernel⟩
abbrev s_round_of : Stmt := topS 41
abbrev N_round_of : List Str := ["week", "day"]
theorem sc_round_of : FnScope N_round_of ["week", "day"] (defScope s_round_of) := ⟨rfl, rfl, rfl, by decide +kernel, rfl, by decide +kernel, by decide +kernel⟩
abbrev s_turned_rota : Stmt := topS 43
abbrev N_turned_rota : List Str := ["web", "rota", "count"]
theorem sc_turned_rota : FnScope N_turned_rota ["web", "rota", "count"] (defScope s_turned_rota) := ⟨rfl, rfl, rfl, by decide +kernel, rfl, by decide +kernel, by decide +kernel⟩
abbrev s_backwards : Stmt := topS 44
abbrev N_backwards : List Str := ["web", "rota"]
theorem sc_backwards : FnScope N_backwards ["web", "rota"] (defScope s_backwards) := ⟨rfl, rfl, rfl, by decide +kernel, rfl, by decide +kernel, by decide +kernel⟩
abbrev s_ends_by_road : Stmt := topS 46
abbrev N_ends_by_road : List Str := ["web", "name", "one", "other"]
theorem sc_ends_by_road : FnScope N_ends_by_road ["web"] (defScope s_ends_by_road) := ⟨rfl, rfl, rfl, by decide +kernel, rfl, by decide +kernel, by decide +kernel⟩
abbrev s_news_places : Stmt := topS 47
abbrev N_news_places : List Str := ["web", "week", "place", "ends", "walked", "found", "before", "one", "other", "row", "road"]
theorem sc_news_places : FnScope N_news_places ["web", "week", "place"] (defScope s_news_places) := ⟨rfl, rfl, rfl, by decide +kernel, rfl, by decide +kernel, by decide +kernel⟩
abbrev s_arrivals_from : Stmt := topS 48
abbrev N_arrivals_from : List Str := ["web", "week", "place", "moment", "missed", "ends", "many", "found", "day", "first", "index", "road", "one", "other", "name"]
theorem sc_arrivals_from : FnScope N_arrivals_from ["web", "week", "place", "moment", "missed"] (defScope s_arrivals_from) := ⟨rfl, rfl, rfl, by decide +kernel, rfl, by decide +kernel, by decide +kernel⟩
abbrev s_days_from : Stmt := topS 49
abbrev N_days_from : List Str := ["web", "week", "place", "arrivals", "found", "moment"]
theorem sc_days_from : FnScope N_days_from ["web", "week", "place"] (defScope s_days_from) := ⟨rfl, rfl, rfl, by decide +kernel, rfl, by decide +kernel, by decide +kernel⟩
abbrev s_need_two_places : Stmt := topS 51
abbrev N_need_two_places : List Str := ["web", "week", "place", "other"]
theorem sc_need_two_places : FnScope N_need_two_places ["web", "week", "place", "other"] (defScope s_need_two_places) := ⟨rfl, rfl, rfl, by decide +kernel, rfl, by decide +kernel, by decide +kernel⟩
abbrev s_days : Stmt := topS 52
abbrev N_days : List Str := ["web", "week", "place", "other"]
theorem sc_days : FnScope N_days ["web", "week", "place", "other"] (defScope s_days) := ⟨rfl, rfl, rfl, by decide +kernel, rfl, by decide +kernel, by decide +kernel⟩
abbrev s_falls_of_row : Stmt := topS 54
abbrev N_falls_of_row : List Str := ["row", "at", "rank"]
theorem sc_falls_of_row : FnScope N_falls_of_row ["row"] (defScope s_falls_of_row) := ⟨rfl, rfl, rfl, by decide +kernel, rfl, by decide +kernel, by decide +kernel⟩
abbrev s_need_ring : Stmt := topS 56
abbrev N_need_ring : List Str := ["web", "rota", "ring", "road"]
theorem sc_need_ring : FnScope N_need_ring ["web", "rota", "ring"] (defScope s_need_ring) := ⟨rfl, rfl, rfl, by decide +kernel, rfl, by decide +kernel, by decide +kernel⟩
abbrev s_lap : Stmt := topS 57
abbrev N_lap : List Str := ["web", "rota", "ring", "falls"]
theorem sc_lap : FnScope N_lap ["web", "rota", "ring"] (defScope s_lap) := ⟨rfl, rfl, rfl, by decide +kernel, rfl, by decide +kernel, by decide +kernel⟩
abbrev s_ring_of : Stmt := topS 59
abbrev N_ring_of : List Str := ["web"]
theorem sc_ring_of : FnScope N_ring_of ["web"] (defScope s_ring_of) := ⟨rfl, rfl, rfl, by decide +kernel, rfl, by decide +kernel, by decide +kernel⟩
abbrev s_law_feed : Stmt := topS 61
abbrev N_law_feed : List Str := ["_law_script", "_law_k", "_law_cell"]
theorem sc_law_feed : FnScope N_law_feed ["_law_script", "_law_k"] (defScope s_law_feed) := ⟨rfl, rfl, rfl, by decide +kernel, rfl, by decide +kernel, by decide +kernel⟩
abbrev s_law_draw : Stmt := topS 62
abbrev N_law_draw : List Str := ["_law_feed_here", "_law_many", "_law_rest", "_law_got", "_law_stir"]
theorem sc_law_draw : FnScope N_law_draw ["_law_feed_here", "_law_many"] (defScope s_law_draw) := ⟨rfl, rfl, rfl, by decide +kernel, rfl, by decide +kernel, by decide +kernel⟩
abbrev s_law_one : Stmt := topS 63
abbrev N_law_one : List Str := ["_law_feed_here", "_law_things"]
theorem sc_law_one : FnScope N_law_one ["_law_feed_here", "_law_things"] (defScope s_law_one) := ⟨rfl, rfl, rfl, by decide +kernel, rfl, by decide +kernel, by decide +kernel⟩
abbrev s_law_mixed : Stmt := topS 64
abbrev N_law_mixed : List Str := ["_law_feed_here", "_law_things", "_law_pool", "_law_got", "_law_turn"]
theorem sc_law_mixed : FnScope N_law_mixed ["_law_feed_here", "_law_things"] (defScope s_law_mixed) := ⟨rfl, rfl, rfl, by decide +kernel, rfl, by decide +kernel, by decide +kernel⟩
abbrev s_law_names : Stmt := topS 65
abbrev N_law_names : List Str := ["_law_feed_here", "_law_many"]
theorem sc_law_names : FnScope N_law_names ["_law_feed_here", "_law_many"] (defScope s_law_names) := ⟨rfl, rfl, rfl, by decide +kernel, rfl, by decide +kernel, by decide +kernel⟩
abbrev s_law_web : Stmt := topS 66
abbrev N_law_web : List Str := ["_law_feed_here", "_law_way", "_law_many", "_law_shape", "_law_names_here", "_law_ties", "_law_at", "_law_back", "_law_turn", "_law_one_here", "_law_roads", "_law_tie", "_law_road"]
theorem sc_law_web : FnScope N_law_web ["_law_feed_here", "_law_way"] (defScope s_law_web) := ⟨rfl, rfl, rfl, by decide +kernel, rfl, by decide +kernel, by decide +kernel⟩
abbrev s_law_rota : Stmt := topS 67
abbrev N_law_rota : List Str := ["_law_feed_here", "_law_web_here", "_law_road"]
theorem sc_law_rota : FnScope N_law_rota ["_law_feed_here", "_law_web_here"] (defScope s_law_rota) := ⟨rfl, rfl, rfl, by decide +kernel, rfl, by decide +kernel, by decide +kernel⟩
abbrev s_law_fresh : Stmt := topS 68
abbrev N_law_fresh : List Str := ["_law_feed_here", "_law_many", "_law_letters", "_law_got", "_law_at", "_law_signs", "_law_first", "_law_turn"]
theorem sc_law_fresh : FnScope N_law_fresh ["_law_feed_here", "_law_many"] (defScope s_law_fresh) := ⟨rfl, rfl, rfl, by decide +kernel, rfl, by decide +kernel, by decide +kernel⟩
abbrev s_law_wide_web : Stmt := topS 69
abbrev N_law_wide_web : List Str := ["_law_feed_here", "_law_places", "_law_names_here", "_law_roads", "_law_at", "_law_name", "_law_one_here", "_law_other"]
theorem sc_law_wide_web : FnScope N_law_wide_web ["_law_feed_here"] (defScope s_law_wide_web) := ⟨rfl, rfl, rfl, by decide +kernel, rfl, by decide +kernel, by decide +kernel⟩
abbrev s_law_steps : Stmt := topS 70
abbrev N_law_steps : List Str := ["_law_web_here", "_law_place", "_law_got", "_law_turn", "_law_road", "_law_one_here", "_law_other", "_law_here", "_law_there"]
theorem sc_law_steps : FnScope N_law_steps ["_law_web_here", "_law_place"] (defScope s_law_steps) := ⟨rfl, rfl, rfl, by decide +kernel, rfl, by decide +kernel, by decide +kernel⟩
abbrev s_law_is_tree : Stmt := topS 71
abbrev N_law_is_tree : List Str := ["_law_web_here"]
theorem sc_law_is_tree : FnScope N_law_is_tree ["_law_web_here"] (defScope s_law_is_tree) := ⟨rfl, rfl, rfl, by decide +kernel, rfl, by decide +kernel, by decide +kernel⟩
abbrev s_law_days_right : Stmt := topS 72
abbrev N_law_days_right : List Str := ["_law_web_here", "_law_rota_here", "_law_turned", "_law_back", "_law_place", "_law_other", "_law_there", "_law_home"]
theorem sc_law_days_right : FnScope N_law_days_right ["_law_web_here", "_law_rota_here", "_law_turned", "_law_back"] (defScope s_law_days_right) := ⟨rfl, rfl, rfl, by decide +kernel, rfl, by decide +kernel, by decide +kernel⟩
abbrev s_law : Stmt := topS 73
abbrev N_law : List Str := ["_law_script", "_law_k", "_law_feed_here", "_law_web_here", "_law_rota_here", "_law_ring", "_law_back", "_law_many", "_law_falls", "_law_count", "_law_told", "_law_turned", "_law_at"]
theorem sc_law : FnScope N_law ["_law_script"] (defScope s_law) := ⟨rfl, rfl, rfl, by decide +kernel, rfl, by decide +kernel, by decide +kernel⟩

/-! ### readings by name -/
def rLenD : List V → Hp → VK → Prop := fun xs H Q => ∃ a kvs, xs = [V.ref a] ∧ H a = some (.dK kvs) ∧ Q (.int kvs.length) H
def rLenStr : List V → Hp → VK → Prop := fun xs H Q => ∃ z : Str, xs = [.str z] ∧ z.length ≤ sizeLine ∧ Q (.int z.length) H
def rInt1 : List V → Hp → VK → Prop := fun xs H Q => (∃ i, xs = [.int i] ∧ Q (.int i) H) ∨ ∃ k, xs = [.bl k] ∧ Q (.int (if k then 1 else 0)) H
/-! ### what the top leaves -/
structure Top (mg : Str → Option Value) (tk : Nat → Tok) : Prop where
  len : mg "len" = none
  range : mg "range" = none
  tuple : mg "tuple" = none
  list : mg "list" = none
  isinstance : mg "isinstance" = none
  str : mg "str" = none
  int : mg "int" = none
  bool : mg "bool" = none
  all : mg "all" = none
  any : mg "any" = none
  set : mg "set" = none
  sum : mg "sum" = none
  max : mg "max" = none
  enumerate : mg "enumerate" = none
  zip : mg "zip" = none
  repr : mg "repr" = none
  g_LETTERS : mg "LETTERS" = some (.str "abcdefghijklmnopqrstuvwxyz" (tk 0))
  g_SIGNS : mg "SIGNS" = some (.str "abcdefghijklmnopqrstuvwxyz0123456789" (tk 1))
  g_MOST_SIGNS : mg "MOST_SIGNS" = some (.int 8 (tk 2))
  g_MOST_PLACES : mg "MOST_PLACES" = some (.int 10 (tk 3))
  g_MOST_ROADS : mg "MOST_ROADS" = some (.int 14 (tk 4))
  g_MOST_ROUNDS : mg "MOST_ROUNDS" = some (.int 4 (tk 5))
/-- a def of the text, under its name -/
structure DefAt (K : PySem.W.Frag) (mg : Str → Option Value) (x : Str) (st : Stmt) (ps : List Str) : Prop where
  ex : ∃ (f : Addr) (fd : FuncData), Fun K x x st f fd ∧ mg x = some (.ref f) ∧ Binds K fd ps []
/-- the function object at f -/
def LkFn (K : PySem.W.Frag) (f : Addr) (fd : FuncData) : Prop := ∃ (oc : Value) (od : Option Addr) (osl : Array (Option Value)), K.lookup f = some ⟨oc, od, .func fd, osl⟩
/-- .. that keeps a promise -/
structure Cal (P : Program) (w : World) (K : PySem.W.Frag) (mg : Str → Option Value) (base : Heap) (k : Nat) (x : Str) (sp : Sp) : Prop where
  ex : ∃ (f : Addr) (fd : FuncData) (ps : List Str), FnOk P w K mg base CX0 k f fd ps sp ∧ mg x = some (.ref f) ∧ PySem.W.keepIn K (.ref f) = true ∧ Binds K fd ps [] ∧ LkFn K f fd
/-- the same, the parameters named -/
structure CalP (P : Program) (w : World) (K : PySem.W.Frag) (mg : Str → Option Value) (base : Heap) (k : Nat) (x : Str) (ps : List Str) (sp : Sp) : Prop where
  ex : ∃ (f : Addr) (fd : FuncData), FnOk P w K mg base CX0 k f fd ps sp ∧ mg x = some (.ref f) ∧ PySem.W.keepIn K (.ref f) = true ∧ Binds K fd ps [] ∧ LkFn K f fd
theorem CalP.cal {P : Program} {w : World} {K : PySem.W.Frag} {mg : Str → Option Value} {base : Heap} {k : Nat} {x : Str} {ps : List Str} {sp : Sp} (c : CalP P w K mg base k x ps sp) : Cal P w K mg base k x sp := let ⟨f, fd, h⟩ := c.ex; ⟨f, fd, ps, h⟩
/-- .. called by keywords alone -/
structure CalK (P : Program) (w : World) (K : PySem.W.Frag) (mg : Str → Option Value) (base : Heap) (k : Nat) (x : Str) (ks : List Str) (gV : List V → List V → List V) (sp : Sp) : Prop where
  ex : ∃ (f : Addr) (fd : FuncData) (ps : List Str) (g : List Value → List Value → List Value), FnOk P w K mg base CX0 k f fd ps sp ∧ mg x = some (.ref f) ∧ PySem.W.keepIn K (.ref f) = true ∧ KBinds K fd ps ks g gV
section
variable {P : Program} {w : World} {K : PySem.W.Frag} {mg : Str → Option Value} {base : Heap}
theorem cal {x : Str} {st : Stmt} {N ps : List Str} {k : Nat} {sp : Sp} (D : DefAt K mg x st ps) (S : FnScope N ps (defScope st)) (len : ∀ vs H Q E, sp vs H Q E → vs.length = ps.length)
    (hbody : ∀ (f : Addr) (cdv : Value) (A : Around) (outer : List Env) (s : Shared) (H : Hp) (vs : List V) (Q : VK) (E : XK), Room k (A.deeper (envOfC x (defScope st) s.heap.objs.size f cdv)) → sp vs H Q E →
      ∃ t, PSs (cxOf CX0 P w K mg base N x (defScope st) f cdv A outer s H E).nox (defBody st) t ∧ t { nx := fun _ H' => Q .non H', rt := Q } (start N vs) H) : Cal P w K mg base (k + 1) x sp := by
  obtain ⟨f, fd, F, m, b⟩ := D.ex
  obtain ⟨oc, od, _, _, _, _, _, _, osl, _, lk, _⟩ := F.ex
  exact ⟨f, fd, ps, F.ok S len (fun cdv => hbody f cdv), m, F.kp, b, oc, od, osl, lk⟩
theorem calP {x : Str} {st : Stmt} {N ps : List Str} {k : Nat} {sp : Sp} (D : DefAt K mg x st ps) (S : FnScope N ps (defScope st)) (len : ∀ vs H Q E, sp vs H Q E → vs.length = ps.length)
    (hbody : ∀ (f : Addr) (cdv : Value) (A : Around) (outer : List Env) (s : Shared) (H : Hp) (vs : List V) (Q : VK) (E : XK), Room k (A.deeper (envOfC x (defScope st) s.heap.objs.size f cdv)) → sp vs H Q E →
      ∃ t, PSs (cxOf CX0 P w K mg base N x (defScope st) f cdv A outer s H E).nox (defBody st) t ∧ t { nx := fun _ H' => Q .non H', rt := Q } (start N vs) H) : CalP P w K mg base (k + 1) x ps sp := by
  obtain ⟨f, fd, F, m, b⟩ := D.ex
  obtain ⟨oc, od, _, _, _, _, _, _, osl, _, lk, _⟩ := F.ex
  exact ⟨f, fd, F.ok S len (fun cdv => hbody f cdv), m, F.kp, b, oc, od, osl, lk⟩
end
section
variable {X : Cx} {k j : Nat} {x : Str} {sp : Sp} {p pos : Pos} {e : Expr} {es : List Expr} {t tk : TA} {kws : List Keyword} {ks : List Str} {gV : List V → List V → List V}
theorem pc (c : Cal X.prog X.w X.K X.mg X.base k x sp) (hr : Room j X.A) (hk : k ≤ j) (hg : Gl X x) (ha : PA X (e :: es) t)
    (hdb : (x == ("__debug__" : Str)) = false := by decide) (he : starEach (e :: es) X.env = (false, eval e X.env) :: starEach es X.env := by rfl) (hpl : (backTo pos (starEach es X.env)).any (·.1) = false := by rfl) :
    PE X (.Call (.Name x p) (e :: es) [] pos) (tCall sp [] E0 t) := by
  obtain ⟨f, fd, ps, F, hm, kp, b, _⟩ := c.ex
  exact pe_call F (hr.mono hk) hg hm kp b .nil pass0 ha hdb he hpl
theorem pck0 (c : CalK X.prog X.w X.K X.mg X.base k x ks gV sp) (hr : Room j X.A) (hk : k ≤ j) (hg : Gl X x) (hkw : PK X kws tk) (hall : (backToKw pos (keywordEach kws X.env)).all (·.1.isSome) = true := by rfl) (hks : (backToKw pos (keywordEach kws X.env)).filterMap (·.1) = ks := by rfl)
    (hdb : (x == ("__debug__" : Str)) = false := by decide) (hpl : ((backTo pos (starEach [] X.env)).any (·.1) || (backToKw pos (keywordEach kws X.env)).any (·.1.isNone)) = false := by rfl) :
    PE X (.Call (.Name x p) [] kws pos) (tCallK sp gV E0 tNil tk) := by
  obtain ⟨f, fd, ps, g, F, hm, kp, b⟩ := c.ex
  exact pe_callK0 F (hr.mono hk) hg hm kp b pass0 hkw hall hks hdb hpl
end
end RP
/-! part RPev -/
/-! what a reading evaluates to: more words over Evl -/
namespace RP
open PySem PySem.Spec PyProof.Rows L2 Evl
/-- a tuple to be read at a -/
abbrev Tp (H : Hp) (a : Addr) (xs : List V) : Prop := Rd H a (.tup xs)
theorem tp_of {H : Hp} {a : Addr} {xs : List V} (h : H a = some (.tup xs)) : Tp H a xs := .inl h
theorem TF.tp {H : Hp} {a : Addr} {ss : List Str} (h : TF H a ss) : Tp H a (ss.map V.str) := let ⟨o, e, _⟩ := h; .inr ⟨o, e⟩
theorem TF.ex {H H' : Hp} {a : Addr} {ss : List Str} (e : Ex H H') (h : TF H a ss) : TF H' a ss := let ⟨o, z, d⟩ := h; ⟨o, e a _ z, d⟩
section
variable {K : PySem.W.Frag} {σ : L2.St} {H H' : Hp} {ta tb te tc : TE} {t u : TT} {x y z v : V} {a : Addr} {xs : List V} {i : Int}
theorem ev_t (ha : Ev ta σ H (.ref a)) (h : Tp H a xs) (hi : Ev tb σ H (.int i)) (hv : atI xs i = some v) : Ev (tOp (rIxT K) ta tb) σ H v := ev_op ha hi (rv_ixT (.inl h) hv)
theorem ev_l (ha : Ev ta σ H (.ref a)) (h : H a = some (.lst xs)) (hi : Ev tb σ H (.int i)) (hv : atI xs i = some v) : Ev (tOp (rIxL K) ta tb) σ H v := ev_op ha hi (rv_ixL (sq_of h) hv)
theorem ev_sl (ha : Ev ta σ H (.ref a)) (h : SqL K H a xs) (hi : Ev tb σ H (.int i)) (hv : atI xs i = some v) : Ev (tOp (rIxL K) ta tb) σ H v := ev_op ha hi (rv_ixL h hv)
/-- t[c], c written -/
theorem ev_tc {j : Nat} (ha : Ev ta σ H (.ref a)) (h : Tp H a xs) (hv : xs[j]? = some v) : Ev (tOp (rIxT K) ta (tC (.int (j : Int)))) σ H v := ev_t ha h ev_c (atI_nat hv)
theorem ev_lc' {j : Nat} (ha : Ev ta σ H (.ref a)) (h : H a = some (.lst xs)) (hv : xs[j]? = some v) : Ev (tOp (rIxL K) ta (tC (.int (j : Int)))) σ H v := ev_l ha h ev_c (atI_nat hv)
/-- isinstance -/
theorem ev_isi {T : String} {w : Value} {b : Bool} (ha : Ev ta σ H x) (hx : ∀ H1, Ex H H1 → TyX K H1 x w) (hk : PySem.W.kitOne K w (.type T) = some b) : Ev (tCB (rIsi K) (tCons ta (tCons (tC (.ty T)) tNil))) σ H (.bl b) :=
  ev_cb (ea_cons ha (ea_cons ev_c ea_nil)) fun H1 e Q q => ⟨_, _, _, _, _, rfl, .ty T, hx H1 e, hk, q H1 (Ex.refl _)⟩
theorem ev_isStr {s : Str} (ha : Ev ta σ H (.str s)) : Ev (tCB (rIsi K) (tCons ta (tCons (tC (.ty "str")) tNil))) σ H (.bl true) := ev_isi ha (fun _ _ => .base (.str s)) (if_pos (beq_self_eq_true _))
theorem ev_isInt {n : Int} (ha : Ev ta σ H (.int n)) : Ev (tCB (rIsi K) (tCons ta (tCons (tC (.ty "int")) tNil))) σ H (.bl true) := ev_isi ha (fun _ _ => .base (.int n)) (if_pos (beq_self_eq_true _))
theorem ev_isBool {n : Int} (ha : Ev ta σ H (.int n)) : Ev (tCB (rIsi K) (tCons ta (tCons (tC (.ty "bool")) tNil))) σ H (.bl false) := ev_isi ha (fun _ _ => .base (.int n)) (kit_ty (by decide +kernel))
theorem ev_isTup (ha : Ev ta σ H (.ref a)) (h : Tp H a xs) : Ev (tCB (rIsi K) (tCons ta (tCons (tC (.ty "tuple")) tNil))) σ H (.bl true) := ev_isi ha (fun _ e => (ex_rd e h).elim (fun z => .base (.tup z)) fun ⟨_, z⟩ => .fTuple z) (if_pos (beq_self_eq_true _))
theorem ev_lenT (ha : Ev ta σ H (.ref a)) (h : Tp H a xs) : Ev (tCB (rLenS K) (tCons ta tNil)) σ H (.int (xs.length : Int)) := fun H1 e Q q =>
  ha H1 e _ fun H2 e2 => ⟨a, xs, rfl, Or.inr (.inl (ex_rd (e.trans e2) h)), q H2 e2⟩
theorem ev_lenStr {s : Str} (ha : Ev ta σ H (.str s)) (h : s.length ≤ 100000) : Ev (tCB rLenStr (tCons ta tNil)) σ H (.int (s.length : Int)) := fun H1 e Q q => ha H1 e _ fun H2 e2 => ⟨s, rfl, sz_of h, q H2 e2⟩
theorem ev_lenD {kvs : List (Key × V)} (ha : Ev ta σ H (.ref a)) (h : H a = some (.dK kvs)) : Ev (tCB rLenD (tCons ta tNil)) σ H (.int (kvs.length : Int)) := fun H1 e Q q => ha H1 e _ fun H2 e2 => ⟨a, kvs, rfl, (e.trans e2) a _ h, q H2 e2⟩
theorem ev_lenSet {ss : List Str} (ha : Ev ta σ H (.ref a)) (h : Tp H a (ss.map V.str)) (hl : ss.length ≤ 4000) : Ev (tLenSetT K ta) σ H (.int ((dlist ss).length : Nat)) := fun H1 e Q q => ha H1 e _ fun H2 e2 => ⟨a, ss, rfl, .inl (ex_rd (e.trans e2) h), hl, q H2 e2⟩
theorem ev_int1 {n : Int} (ha : Ev ta σ H (.int n)) : Ev (tCB rInt1 (tCons ta tNil)) σ H (.int n) := fun H1 e Q q => ha H1 e _ fun H2 e2 => .inl ⟨n, rfl, q H2 e2⟩
/-- all, any of a new list of truth values -/
theorem ev_all {bs : List Bool} (ha : EvL ta σ H (bs.map V.bl)) : Ev (tCB (rAll K) (tCons ta tNil)) σ H (.bl (bs.all id)) := fun H1 e Q q => ha H1 e _ fun p H2 _ e2 hp => ⟨p, bs, rfl, sq_of hp, q H2 e2⟩
theorem ev_any {bs : List Bool} (ha : EvL ta σ H (bs.map V.bl)) : Ev (tCB (rAny K) (tCons ta tNil)) σ H (.bl (bs.any id)) := fun H1 e Q q => ha H1 e _ fun p H2 _ e2 hp => ⟨p, bs, rfl, sq_of hp, q H2 e2⟩
/-- a in t (texts), as truth -/
theorem inV_strs {s : Str} : ∀ {ss : List Str}, inV (.str s) (ss.map V.str) = decide (s ∈ ss) := by
  intro ss
  induction ss with
  | nil => simp [inV]
  | cons y ss ih =>
    simp only [inV, List.map_cons, List.any_cons] at ih ⊢
    rw [ih]
    by_cases e : s = y
    · subst e
      simp [eqV]
    · have e' : ¬ y = s := fun z => e z.symm
      simp [eqV, e, e']
theorem ev_inT {s : Str} {ss : List Str} (ha : Ev ta σ H (.str s)) (hb : Ev tb σ H (.ref a)) (h : Tp H a (ss.map V.str)) : Ev (tOp (rIn K false) ta tb) σ H (.bl (decide (s ∈ ss))) := by
  have q := ev_op ha hb (rv_isT (K := K) (.inl h) (x := .str s) rfl (flat_strs ss))
  rw [inV_strs] at q
  exact q
theorem ev_inL {s : Str} {ss : List Str} (ha : Ev ta σ H (.str s)) (hb : Ev tb σ H (.ref a)) (h : H a = some (.lst (ss.map V.str))) : Ev (tOp (rIn K false) ta tb) σ H (.bl (decide (s ∈ ss))) := by
  have q := ev_op ha hb (rv_isL (K := K) (sq_of h) (x := .str s) rfl (flat_strs ss))
  rw [inV_strs] at q
  exact q
/-- a in t[..], the slice new or the tuple itself -/
theorem ev_inSl {neg : Bool} {s : Str} {ss : List Str} {tl th : TO} {lo hi : Option Int} (ha : Ev ta σ H (.str s)) (hb : Ev tb σ H (.ref a)) (h : Tp H a xs) (hl : EvO tl σ H lo) (hh : EvO th σ H hi) (hc : cutV xs lo hi = ss.map V.str)
    (hw : ¬ (HT.sIx xs.length 0 lo = 0 ∧ HT.sIx xs.length xs.length hi = xs.length)) : Ev (tOp (rIn K neg) ta (tSl (rSlA K) tb tl th)) σ H (.bl (if neg then !decide (s ∈ ss) else decide (s ∈ ss))) := fun H1 e Q q =>
  ha H1 e _ fun H2 e2 => hb H2 (e.trans e2) _ fun H3 e3 => hl H3 ((e.trans e2).trans e3) _ fun H4 e4 => hh H4 (((e.trans e2).trans e3).trans e4) _ fun H5 e5 => by
    have hx : Tp H5 a xs := ex_rd ((((e.trans e2).trans e3).trans e4).trans e5) h
    refine ⟨a, xs, rfl, .inl hx, fun z => absurd z hw, fun _ p hp => ⟨p, ss.map V.str, rfl, .inr (st_of (by rw [upd_same, hc])), rfl, flat_strs ss, ?_⟩⟩
    rw [inV_strs]
    exact q _ ((((e2.trans e3).trans e4).trans e5).trans (Ex.new hp))
/-- one sign in a text -/
theorem ev_sign {c : Nat} {s : Str} (ha : Ev ta σ H (.str ⟨#[c]⟩)) (hb : Ev tb σ H (.str s)) : Ev (tOp rInS ta tb) σ H (.bl (decide (c ∈ s.cps.toList))) := ev_op ha hb fun H1 _ Q q => ⟨c, s, rfl, rfl, q H1 (Ex.refl _)⟩
theorem ev_chain {r r' : R2} {k b : Bool} (ha : Ev ta σ H x) (hb : Ev tb σ H y) (hc : k = true → Ev tc σ H z) (hr : RV r x y H (.bl k)) (hr' : k = true → RV r' y z H (.bl b)) (hk : k = false → b = false) : Ev (tChain r r' ta tb tc) σ H (.bl b) := fun H1 e Q q =>
  ha H1 e _ fun H2 e2 => hb H2 (e.trans e2) _ fun H3 e3 => hr H3 ((e.trans e2).trans e3) _ fun H4 e4 => ⟨k, rfl, by
    cases k with
    | true =>
      refine iteT ?_
      exact hc rfl H4 (((e.trans e2).trans e3).trans e4) _ fun H5 e5 => hr' rfl H5 ((((e.trans e2).trans e3).trans e4).trans e5) Q fun H6 e6 => q H6 ((((e2.trans e3).trans e4).trans e5).trans e6)
    | false =>
      refine iteF ?_
      have q2 := q H4 ((e2.trans e3).trans e4)
      rw [hk rfl] at q2
      exact q2⟩
/-! ### a value told by a property that stays -/
def EvP (te : TE) (σ : L2.St) (H : Hp) (P : V → Hp → Prop) : Prop := ∀ H1, Ex H H1 → ∀ Q : VK, (∀ v H2, Ex H1 H2 → P v H2 → Q v H2) → te σ H1 Q
theorem EvP.mono {P : V → Hp → Prop} (e : Ex H H') (h : EvP te σ H P) : EvP te σ H' P := fun H1 e1 => h H1 (e.trans e1)
theorem Ev.p {P : V → Hp → Prop} (h : Ev te σ H v) (hp : ∀ H1, Ex H H1 → P v H1) : EvP te σ H P := fun H1 e Q q => h H1 e Q fun H2 e2 => q v H2 e2 (hp H2 (e.trans e2))
theorem EvL.p {P : V → Hp → Prop} (h : EvL te σ H xs) (hp : ∀ p H1, Ex H H1 → H1 p = some (.lst xs) → P (.ref p) H1) : EvP te σ H P := fun H1 e Q q => h H1 e Q fun p H2 _ e2 h2 => q _ H2 e2 (hp p H2 (e.trans e2) h2)
theorem EvU.p {P : V → Hp → Prop} (h : EvU te σ H xs) (hp : ∀ p H1, Ex H H1 → H1 p = some (.tup xs) → P (.ref p) H1) : EvP te σ H P := fun H1 e Q q => h H1 e Q fun p H2 _ e2 h2 => q _ H2 e2 (hp p H2 (e.trans e2) h2)
/-- what a promise gives -/
def SpP (sp : Sp) (vs : List V) (H : Hp) (P : V → Hp → Prop) : Prop := ∀ H1, Ex H H1 → ∀ Q : VK, (∀ v H2, Ex H1 H2 → P v H2 → Q v H2) → ∀ E : XK, sp vs H1 Q E
theorem evp_call {sp : Sp} {tq : TA} {vs : List V} {P : V → Hp → Prop} (h : EvA tq σ H vs) (hs : SpP sp vs H P) : EvP (tCall sp [] E0 tq) σ H P := fun H1 e Q q =>
  h H1 e _ fun H2 e2 => by
    rw [List.append_nil]
    exact hs H2 (e.trans e2) Q (fun v H3 e3 hp => q v H3 (e2.trans e3) hp) E0
theorem ev_callV {sp : Sp} {tq : TA} {vs : List V} (h : EvA tq σ H vs) (hs : SpV sp vs H z) : Ev (tCall sp [] E0 tq) σ H z := ev_call h (by rw [List.append_nil]; exact hs)
theorem el_callL {sp : Sp} {tq : TA} {vs : List V} (h : EvA tq σ H vs) (hs : SpL sp vs H xs) : EvL (tCall sp [] E0 tq) σ H xs := el_call h (by rw [List.append_nil]; exact hs)
variable {D : Ends} {tu tw tz : TS} {g : TG} {P : V → Hp → Prop}
theorem s_asgP {i : Nat} (h : EvP te σ H P) (k : ∀ v H1, Ex H H1 → P v H1 → D.nx (σ.set i (some v)) H1) : tAsg te (gName i) D σ H := h H (Ex.refl H) _ fun v H1 e p => k v H1 e p
theorem q_asgP {i : Nat} (h : EvP te σ H P) (k : ∀ v H1, Ex H H1 → P v H1 → tz D (σ.set i (some v)) H1) : tSeq (tAsg te (gName i)) tz D σ H := s_asgP (D := { D with nx := tz D }) h k
theorem s_retP (h : EvP te σ H P) (k : ∀ v H1, Ex H H1 → P v H1 → D.rt v H1) : tRet te D σ H := h H (Ex.refl H) _ k
theorem q_dropP (h : EvP te σ H P) (k : ∀ v H1, Ex H H1 → P v H1 → tz D σ H1) : tSeq (tDrop te) tz D σ H := h H (Ex.refl H) _ k
/-- if not c: raise ..; c holds -/
theorem q_need (h : EvT t σ H false) (k : ∀ H1, Ex H H1 → tz D σ H1) : tSeq (tIfS t tNever tNext) tz D σ H := q_when h (fun z => Bool.noConfusion z) fun _ => k
theorem s_need (h : EvT t σ H false) (k : ∀ H1, Ex H H1 → D.nx σ H1) : tIfS t tNever tNext D σ H := s_when h (fun z => Bool.noConfusion z) fun _ => k
/-! ### comprehensions, a turn told once -/
/-- one turn of a comprehension gives y, or nothing -/
def StepTo (g : TG) (tt : TT) (te : TE) (σ0 : L2.St) (vs : List Nat) (x : V) (H : Hp) (o : Option V) : Prop :=
  ∀ H1, Ex H H1 → ∀ C : Option V → Hp → Prop, (∀ H2, Ex H1 H2 → C o H2) → g x σ0 H1 fun σ2 H2 => wipe σ2 vs = σ0 ∧ tt σ2 H2 fun b H3 => if b = true then te σ2 H3 fun y H4 => C (some y) H4 else C none H3
theorem StepTo.plain {j : Nat} {vs : List Nat} {σ0 : L2.St} (hw : wipe (σ0.set j (some x)) vs = σ0) (he : Ev te (σ0.set j (some x)) H v) : StepTo (gName j) tYes te σ0 vs x H (some v) := fun H1 e C c =>
  ⟨hw, (iteT (B := C none H1) (he H1 e _ fun H2 e2 => c H2 e2) : if true = true then te (σ0.set j (some x)) H1 (fun y H4 => C (some y) H4) else C none H1)⟩
theorem StepTo.test {j : Nat} {vs : List Nat} {σ0 : L2.St} {b : Bool} (hw : wipe (σ0.set j (some x)) vs = σ0) (ht : EvT t (σ0.set j (some x)) H b) (he : b = true → Ev te (σ0.set j (some x)) H v) : StepTo (gName j) t te σ0 vs x H (if b then some v else none) := fun H1 e C c =>
  ⟨hw, ht H1 e _ fun H2 e2 => by
    cases b with
    | true => exact iteT (he rfl H2 (e.trans e2) _ fun H3 e3 => c H3 (e2.trans e3))
    | false => exact iteF (c H2 e2)⟩
def Cg (H : Hp) (out : Nat → List V) (Dl : Addr) (i : Nat) (H' : Hp) : Prop := H Dl = none ∧ Ex H H' ∧ H' Dl = some (.lst (out i))
theorem cg_turn {vs : List Nat} {σ0 : L2.St} {out : Nat → List V} {Dl : Addr} {i : Nat} {o : Option V} (p : Cg H out Dl i H') (hs : StepTo g t te σ0 vs x H o) (ho : out (i + 1) = out i ++ o.toList) (hz : (out i).length < 100000) :
    g x σ0 H' fun σ2 H2 => wipe σ2 vs = σ0 ∧ t σ2 H2 fun b H3 => if b = true then te σ2 H3 fun y H4 => ∃ acc, H4 Dl = some (.lst acc) ∧ acc.length < sizeLine ∧ Cg H out Dl (i + 1) (upd H4 Dl (.lst (acc ++ [y]))) else Cg H out Dl (i + 1) H3 := by
  obtain ⟨p1, p2, p3⟩ := p
  refine hs H' p2 (fun o' H4 => match o' with
    | some y => ∃ acc, H4 Dl = some (.lst acc) ∧ acc.length < sizeLine ∧ Cg H out Dl (i + 1) (upd H4 Dl (.lst (acc ++ [y])))
    | none => Cg H out Dl (i + 1) H4) fun H2 e2 => ?_
  cases o with
  | some y =>
    refine ⟨out i, e2 Dl _ p3, sz_lt hz, p1, Ex.mut (p2.trans e2) p1, ?_⟩
    rw [ho]
    exact upd_same
  | none =>
    refine ⟨p1, p2.trans e2, ?_⟩
    rw [ho, Option.toList_none, List.append_nil]
    exact e2 Dl _ p3
/-- the prefixes of a filterMap -/
def fmTo {α : Type} (L : List α) (f : α → Option V) (i : Nat) : List V := (L.take i).filterMap f
theorem fmTo_succ {α : Type} {L : List α} {f : α → Option V} {i : Nat} {w : α} (h : L[i]? = some w) : fmTo L f (i + 1) = fmTo L f i ++ (f w).toList := by
  unfold fmTo
  rw [List.take_add_one, h, List.filterMap_append]
  cases e : f w with
  | none => simp [e]
  | some y => simp [e]
theorem fmTo_len {α : Type} (L : List α) (f : α → Option V) (i : Nat) : (fmTo L f i).length ≤ L.length := by
  unfold fmTo
  refine Nat.le_trans (List.length_filterMap_le _ _) ?_
  rw [List.length_take]
  exact Nat.min_le_right _ _
theorem map_get {α : Type} {L : List α} {enc : α → V} {i : Nat} {x : V} (h : (L.map enc)[i]? = some x) : ∃ w, L[i]? = some w ∧ enc w = x := by
  rw [List.getElem?_map] at h
  cases e : L[i]? with
  | none => rw [e] at h; cases h
  | some w => rw [e] at h; exact ⟨w, rfl, Option.some.inj h⟩
/-- over a tuple -/
theorem el_lcT {α : Type} {tl : TE} {vs : List Nat} (L : List α) (enc : α → V) (f : α → Option V) (h : Ev tl σ H (.ref a)) (hx : Tp H a (L.map enc)) (hz : L.length ≤ 40000)
    (hs : ∀ (i : Nat) (w : α), L[i]? = some w → StepTo g t te (wipe σ vs) vs (enc w) H (f w)) : EvL (tLc (iTup K tl) g t te vs) σ H (L.filterMap f) := fun H0 e Q q => h H0 e _ fun H1 e1 => ⟨a, rfl, ⟨_, .inl (ex_rd (e.trans e1) hx)⟩, fun Dl hD =>
  lc_tup (xs := L.map enc) (Cg H1 (fmTo L f) Dl) ⟨hD, Ex.new hD, upd_same⟩ (fun i H' _ p => .inl (ex_rd ((e.trans e1).trans p.2.1) hx)) (fun i x H' hi p => by
    obtain ⟨w, hw, rfl⟩ := map_get hi
    have hs' : StepTo g t te (wipe σ vs) vs (enc w) H1 (f w) := fun H2 e2 => hs i w hw H2 ((e.trans e1).trans e2)
    exact cg_turn p hs' (fmTo_succ hw) (by have := fmTo_len L f i; omega)) (fun H' p => q Dl H' (fresh_back e1 p.1) (e1.trans p.2.1) (by
    have e2 := p.2.2
    rw [List.length_map] at e2
    have e3 : fmTo L f L.length = L.filterMap f := by unfold fmTo; rw [List.take_length]
    rw [e3] at e2
    exact e2))⟩
/-- over a list -/
theorem el_lcLs {α : Type} {tl : TE} {vs : List Nat} (L : List α) (enc : α → V) (f : α → Option V) (h : Ev tl σ H (.ref a)) (hx : H a = some (.lst (L.map enc))) (hz : L.length ≤ 40000)
    (hs : ∀ (i : Nat) (w : α), L[i]? = some w → StepTo g t te (wipe σ vs) vs (enc w) H (f w)) : EvL (tLc (iList K tl) g t te vs) σ H (L.filterMap f) := fun H0 e Q q => h H0 e _ fun H1 e1 => ⟨a, rfl, ⟨_, sq_of ((e.trans e1) a _ hx)⟩, fun Dl hD =>
  lc_list (xs := L.map enc) (Cg H1 (fmTo L f) Dl) ⟨hD, Ex.new hD, upd_same⟩ (fun i H' _ p => sq_of (((e.trans e1).trans p.2.1) a _ hx)) (fun i x H' hi p => by
    obtain ⟨w, hw, rfl⟩ := map_get hi
    have hs' : StepTo g t te (wipe σ vs) vs (enc w) H1 (f w) := fun H2 e2 => hs i w hw H2 ((e.trans e1).trans e2)
    exact cg_turn p hs' (fmTo_succ hw) (by have := fmTo_len L f i; omega)) (fun H' p => q Dl H' (fresh_back e1 p.1) (e1.trans p.2.1) (by
    have e2 := p.2.2
    rw [List.length_map] at e2
    have e3 : fmTo L f L.length = L.filterMap f := by unfold fmTo; rw [List.take_length]
    rw [e3] at e2
    exact e2))⟩
theorem fm_all {α : Type} (L : List α) (k : α → V) : L.filterMap (fun w => some (k w)) = L.map k := by
  induction L with
  | nil => rfl
  | cons w L ih =>
    show k w :: L.filterMap (fun w => some (k w)) = k w :: L.map k
    rw [ih]
/-- over a tuple, each item told -/
theorem el_lcTm {α : Type} {tl : TE} {vs : List Nat} {j : Nat} (L : List α) (enc k : α → V) (h : Ev tl σ H (.ref a)) (hx : Tp H a (L.map enc)) (hz : L.length ≤ 40000) (hw : ∀ x, wipe ((wipe σ vs).set j (some x)) vs = wipe σ vs)
    (hs : ∀ (i : Nat) (w : α), L[i]? = some w → Ev te ((wipe σ vs).set j (some (enc w))) H (k w)) : EvL (tLc (iTup K tl) (gName j) tYes te vs) σ H (L.map k) := by
  have q := el_lcT (K := K) (g := gName j) (t := tYes) (te := te) (vs := vs) L enc (fun w => some (k w)) h hx hz fun i w hi => StepTo.plain (hw _) (hs i w hi)
  rw [fm_all] at q
  exact q
theorem el_lcLm {α : Type} {tl : TE} {vs : List Nat} {j : Nat} (L : List α) (enc k : α → V) (h : Ev tl σ H (.ref a)) (hx : H a = some (.lst (L.map enc))) (hz : L.length ≤ 40000) (hw : ∀ x, wipe ((wipe σ vs).set j (some x)) vs = wipe σ vs)
    (hs : ∀ (i : Nat) (w : α), L[i]? = some w → Ev te ((wipe σ vs).set j (some (enc w))) H (k w)) : EvL (tLc (iList K tl) (gName j) tYes te vs) σ H (L.map k) := by
  have q := el_lcLs (K := K) (g := gName j) (t := tYes) (te := te) (vs := vs) L enc (fun w => some (k w)) h hx hz fun i w hi => StepTo.plain (hw _) (hs i w hi)
  rw [fm_all] at q
  exact q
/-- over a text, sign by sign -/
theorem el_lcStr {vs : List Nat} {j : Nat} {s : Str} (k : Nat → V) (h : Ev ta σ H (.str s)) (hz : s.cps.size ≤ 40000) (hw : ∀ x, wipe ((wipe σ vs).set j (some x)) vs = wipe σ vs)
    (hs : ∀ c, c ∈ s.cps.toList → Ev te ((wipe σ vs).set j (some (.str ⟨#[c]⟩))) H (k c)) : EvL (tLc (iStr ta) (gName j) tYes te vs) σ H (s.cps.toList.map k) := fun H0 e Q q => h H0 e _ fun H1 e1 => ⟨s, rfl, fun Dl hD => by
  refine ⟨fun i m H' => m = s.cps.size - i ∧ i ≤ s.cps.size ∧ Cg H1 (fmTo s.cps.toList (fun c => some (k c))) Dl i H', ⟨s.cps.size, by simp, Nat.zero_le _, hD, Ex.new hD, upd_same⟩, ?_⟩
  rintro i m H' ⟨rfl, hi, p⟩
  by_cases hlt : i < s.cps.size
  · refine .inr ⟨hlt, Cg H1 (fmTo s.cps.toList (fun c => some (k c))) Dl (i + 1), fun H2 p2 => ⟨s.cps.size - (i + 1), by omega, rfl, hlt, p2⟩, fun x H2 y => ?_⟩
    obtain ⟨rfl, c, hc, rfl⟩ := y
    have hc' : s.cps.toList[i]? = some c := by rw [Array.getElem?_toList]; exact hc
    have hst : StepTo (gName j) tYes te (wipe σ vs) vs (.str ⟨#[c]⟩) H1 (some (k c)) := StepTo.plain (hw _) ((hs c (List.mem_of_getElem? hc')).mono (e.trans e1))
    exact cg_turn p hst (fmTo_succ hc') (by have := fmTo_len s.cps.toList (fun c => some (k c)) i; have e9 : s.cps.toList.length = s.cps.size := Array.length_toList; omega)
  · have ei : i = s.cps.size := by omega
    subst ei
    refine .inl ⟨Nat.le_refl _, q Dl H' (fresh_back e1 p.1) (e1.trans p.2.1) ?_⟩
    have e2 := p.2.2
    have e3 : fmTo s.cps.toList (fun c => some (k c)) s.cps.size = s.cps.toList.map k := by
      unfold fmTo
      rw [List.take_of_length_le (by rw [Array.length_toList]; exact Nat.le_refl _), fm_all]
    rw [e3] at e2
    exact e2⟩
/-! ### loops, by the part taken so far -/
theorem tk_succ {α : Type} {L : List α} {i : Nat} {w : α} (h : L[i]? = some w) : L.take (i + 1) = L.take i ++ [w] := by
  rw [List.take_add_one, h] <;> rfl
theorem tk_split {α : Type} {L : List α} {i : Nat} {w : α} (h : L[i]? = some w) : ∃ post, L = L.take i ++ w :: post := by
  refine ⟨L.drop (i + 1), ?_⟩
  obtain ⟨hi, e⟩ := List.getElem?_eq_some_iff.mp h
  rw [← e, List.getElem_cons_drop, List.take_append_drop]
theorem s_forTp {α : Type} {tl : TE} (L : List α) (enc : α → V) (h : Ev tl σ H (.ref a)) (hx : Tp H a (L.map enc)) (Pv : List α → L2.St → Hp → Prop) (h0 : ∀ H1, Ex H H1 → Pv [] σ H1) (hl : ∀ pre σ' H', Pv pre σ' H' → Tp H' a (L.map enc))
    (hs : ∀ pre w post σ' H', L = pre ++ w :: post → Pv pre σ' H' → g (enc w) σ' H' fun σ2 H2 => tu { D with nx := Pv (pre ++ [w]), ct := Pv (pre ++ [w]), bk := D.nx } σ2 H2) (hd : ∀ σ' H', Pv L σ' H' → D.nx σ' H') : tFor (iTup K tl) g tu D σ H :=
  s_forT h (.inl hx) (fun i σ' H' => Pv (L.take i) σ' H') (fun H1 e => h0 H1 e) (fun i σ' H' _ p => .inl (hl _ _ _ p)) (fun i x σ' H' hi p => by
    obtain ⟨w, hw, rfl⟩ := map_get hi
    obtain ⟨post, e⟩ := tk_split hw
    have q := hs (L.take i) w post σ' H' e p
    rw [tk_succ hw]
    exact q) (fun σ' H' p => hd σ' H' (by
    have p' : Pv (L.take (L.map enc).length) σ' H' := p
    rw [List.length_map, List.take_length] at p'
    exact p'))
theorem q_forTp {α : Type} {tl : TE} (L : List α) (enc : α → V) (h : Ev tl σ H (.ref a)) (hx : Tp H a (L.map enc)) (Pv : List α → L2.St → Hp → Prop) (h0 : ∀ H1, Ex H H1 → Pv [] σ H1) (hl : ∀ pre σ' H', Pv pre σ' H' → Tp H' a (L.map enc))
    (hs : ∀ pre w post σ' H', L = pre ++ w :: post → Pv pre σ' H' → g (enc w) σ' H' fun σ2 H2 => tu { D with nx := Pv (pre ++ [w]), ct := Pv (pre ++ [w]), bk := tz D } σ2 H2) (hd : ∀ σ' H', Pv L σ' H' → tz D σ' H') : tSeq (tFor (iTup K tl) g tu) tz D σ H :=
  s_forTp (D := { D with nx := tz D }) L enc h hx Pv h0 hl hs hd
end
end RP
/-! part RPd1 -/
/-! webs as data; names, roads, the looks at the arguments -/
namespace RP
open PySem PySem.Spec PyProof.Rows L2 Evl
abbrev Road := Str × Str × Str
structure Web where
  ps : List Str
  rs : List Road
def LET : Str := "abcdefghijklmnopqrstuvwxyz"
def SIG : Str := "abcdefghijklmnopqrstuvwxyz0123456789"
/-- a name -/
structure NameOk (s : Str) : Prop where
  le : s.length ≤ 8
  fst : ∃ c, s.cps.toList[0]? = some c ∧ c ∈ LET.cps.toList
  all : ∀ c ∈ s.cps.toList, c ∈ SIG.cps.toList
structure RoadOk (ps : List Str) (r : Road) : Prop where
  nm : NameOk r.1
  one : r.2.1 ∈ ps
  other : r.2.2 ∈ ps
  ne : r.2.1 ≠ r.2.2
structure WebOk (W : Web) : Prop where
  p1 : 1 ≤ W.ps.length
  p10 : W.ps.length ≤ 10
  pn : ∀ p ∈ W.ps, NameOk p
  pd : W.ps.Nodup
  r14 : W.rs.length ≤ 14
  rr : ∀ r ∈ W.rs, RoadOk W.ps r
  rd : (W.rs.map (·.1)).Nodup
def Web.names (W : Web) : List Str := W.rs.map (·.1)
/-! ### in the heap -/
def roadV (r : Road) : List V := [.str r.1, .str r.2.1, .str r.2.2]
def RoadsAt (H : Hp) (q : Addr) (trs : List (Addr × Road)) : Prop := Tp H q (trs.map fun x => V.ref x.1) ∧ ∀ x ∈ trs, Tp H x.1 (roadV x.2)
/-- a web; trs: its roads and where they stand -/
structure WebAt (H : Hp) (a : Addr) (W : Web) (p q : Addr) (trs : List (Addr × Road)) : Prop where
  w : Tp H a [.ref p, .ref q]
  ps : TF H p W.ps
  rs : RoadsAt H q trs
  e : trs.map (·.2) = W.rs
theorem RoadsAt.ex {H H' : Hp} {q : Addr} {trs : List (Addr × Road)} (e : Ex H H') (h : RoadsAt H q trs) : RoadsAt H' q trs := ⟨ex_rd e h.1, fun x hx => ex_rd e (h.2 x hx)⟩
theorem WebAt.ex {H H' : Hp} {a : Addr} {W : Web} {p q : Addr} {trs : List (Addr × Road)} (e : Ex H H') (h : WebAt H a W p q trs) : WebAt H' a W p q trs := ⟨ex_rd e h.w, h.ps.ex e, h.rs.ex e, h.e⟩
theorem trs_map {W : Web} {trs : List (Addr × Road)} {α : Type} (h : trs.map (·.2) = W.rs) (k : Road → α) : trs.map (fun x => k x.2) = W.rs.map k := by
  rw [← h, List.map_map] <;> rfl
theorem trs_len {W : Web} {trs : List (Addr × Road)} (h : trs.map (·.2) = W.rs) : trs.length = W.rs.length := by rw [← h, List.length_map]
theorem trs_mem {W : Web} {trs : List (Addr × Road)} (h : trs.map (·.2) = W.rs) {x : Addr × Road} (hx : x ∈ trs) : x.2 ∈ W.rs := by rw [← h]; exact List.mem_map_of_mem hx
section
variable {K : PySem.W.Frag} {σ : L2.St} {H : Hp} {ta : TE} {a p q t : Addr} {W : Web} {trs : List (Addr × Road)} {r : Road}
theorem ev_w0 (h : Ev ta σ H (.ref a)) (w : Tp H a [.ref p, .ref q]) : Ev (tOp (rIxT K) ta (tC (.int 0))) σ H (.ref p) := ev_tc (j := 0) h w rfl
theorem ev_w1 (h : Ev ta σ H (.ref a)) (w : Tp H a [.ref p, .ref q]) : Ev (tOp (rIxT K) ta (tC (.int 1))) σ H (.ref q) := ev_tc (j := 1) h w rfl
theorem ev_r0 (h : Ev ta σ H (.ref t)) (w : Tp H t (roadV r)) : Ev (tOp (rIxT K) ta (tC (.int 0))) σ H (.str r.1) := ev_tc (j := 0) h w rfl
theorem ev_r1 (h : Ev ta σ H (.ref t)) (w : Tp H t (roadV r)) : Ev (tOp (rIxT K) ta (tC (.int 1))) σ H (.str r.2.1) := ev_tc (j := 1) h w rfl
theorem ev_r2 (h : Ev ta σ H (.ref t)) (w : Tp H t (roadV r)) : Ev (tOp (rIxT K) ta (tC (.int 2))) σ H (.str r.2.2) := ev_tc (j := 2) h w rfl
end
section
variable {P : Program} {w : World} {K : PySem.W.Frag} {mg : Str → Option Value} {base : Heap} {tk : Nat → Tok}
/-! ### names_of_roads -/
def sp_names_of_roads : Sp := fun vs H Q _ => ∃ a W p q trs, vs = [.ref a] ∧ WebAt H a W p q trs ∧ W.rs.length ≤ 100 ∧ ∀ d H', H d = none → Ex H H' → H' d = some (.lst (W.names.map V.str)) → Q (.ref d) H'
theorem spl_names {a p q : Addr} {W : Web} {trs : List (Addr × Road)} {H : Hp} (h : WebAt H a W p q trs) (hl : W.rs.length ≤ 100) : SpL sp_names_of_roads [.ref a] H (W.names.map V.str) := fun H1 e Q k E => ⟨a, W, p, q, trs, rfl, h.ex e, hl, fun d H' => k d H'⟩
theorem ok_names_of_roads (T : Top mg tk) (D : DefAt K mg "names_of_roads" s_names_of_roads ["web"]) : Cal P w K mg base 1 "names_of_roads" sp_names_of_roads := by
  refine cal D sc_names_of_roads (fun vs H Q E h => ?_) (fun f cdv A outer s H vs Q E hr h => ?_)
  · obtain ⟨a, W, p, q, trs, rfl, _⟩ := h
    rfl
  · obtain ⟨a, W, p, q, trs, rfl, h, hl, k⟩ := h
    refine ⟨_, (pss_one (ps_ret (pe_lc (g := (gName 1)) (own := [("road", 1)]) rfl sc_names_of_roads.nd (pi_tup (pe_ix (r := rIxT K) ix_tup (pv 0) pe_int (fun _ _ => rfl))) (blkOk_by (N := N_names_of_roads) (sc := defScope s_names_of_roads) (by decide +kernel)) (fun _ _ _ _ _ => (pg_name (i := 1) sc_names_of_roads.nd rfl (.inl rfl))) (fun _ _ _ _ _ => pts_nil) (fun _ _ _ _ _ => (pe_ix (r := rIxT K) ix_tup (pv 1) pe_int (fun _ _ => rfl)))))), ?_⟩
    have e1 : trs.map (fun x => V.str x.2.1) = W.names.map V.str := by
      rw [Web.names, ← h.e, List.map_map, List.map_map] <;> rfl
    rw [← e1] at k
    exact s_retL (el_lcTm (K := K) trs (fun x => V.ref x.1) (fun x => V.str x.2.1) (ev_w1 (ev_var rfl) h.w) h.rs.1 (by rw [trs_len h.e]; omega) (fun _ => rfl) fun i x hx => ev_r0 (ev_var rfl) (h.rs.2 x (List.mem_of_getElem? hx))) k
/-! ### other_end -/
def oend (r : Road) (p : Str) : Str := if r.2.1 = p then r.2.2 else r.2.1
def sp_other_end : Sp := fun vs H Q _ => ∃ t r p, vs = [.ref t, .str p] ∧ Tp H t (roadV r) ∧ ∀ H', Ex H H' → Q (.str (oend r p)) H'
theorem spv_other_end {t : Addr} {r : Road} {p : Str} {H : Hp} (h : Tp H t (roadV r)) : SpV sp_other_end [.ref t, .str p] H (.str (oend r p)) := fun H1 e Q k E => ⟨t, r, p, rfl, ex_rd e h, k⟩
theorem ok_other_end (T : Top mg tk) (D : DefAt K mg "other_end" s_other_end ["road", "place"]) : Cal P w K mg base 1 "other_end" sp_other_end := by
  refine cal D sc_other_end (fun vs H Q E h => ?_) (fun f cdv A outer s H vs Q E hr h => ?_)
  · obtain ⟨t, r, p, rfl, _⟩ := h
    rfl
  · obtain ⟨t, r, p, rfl, h, k⟩ := h
    refine ⟨_, (pss_one (ps_ret (pe_ifExp (pt_cmpR op_eq (pe_ix (r := rIxT K) ix_tup (pv 0) pe_int (fun _ _ => rfl)) (pv 1) (nomark _)) (pe_ix (r := rIxT K) ix_tup (pv 0) pe_int (fun _ _ => rfl)) (pe_ix (r := rIxT K) ix_tup (pv 0) pe_int (fun _ _ => rfl))))), ?_⟩
    refine s_ret (ev_if (b := decide (V.str r.2.1 = V.str p)) (et_test (ev_op (ev_r1 (ev_var rfl) h) (ev_var rfl) (rv_eq rfl))) (fun hb => ?_) (fun hb => ?_)) k
    · have e : r.2.1 = p := V.str.inj (of_decide_eq_true hb)
      have e2 : oend r p = r.2.2 := if_pos e
      rw [e2]
      exact ev_r2 (ev_var rfl) h
    · have e : ¬ r.2.1 = p := fun z => of_decide_eq_false hb (by rw [z])
      have e2 : oend r p = r.2.1 := if_neg e
      rw [e2]
      exact ev_r1 (ev_var rfl) h
/-! ### kinds -/
def sp_is_integer : Sp := fun vs H Q _ => ∃ n : Int, vs = [.int n] ∧ ∀ H', Ex H H' → Q (.bl true) H'
theorem ok_is_integer (T : Top mg tk) (D : DefAt K mg "is_integer" s_is_integer ["thing"]) : Cal P w K mg base 1 "is_integer" sp_is_integer := by
  refine cal D sc_is_integer (fun vs H Q E h => ?_) (fun f cdv A outer s H vs Q E hr h => ?_)
  · obtain ⟨n, rfl, _⟩ := h
    rfl
  · obtain ⟨n, rfl, k⟩ := h
    refine ⟨_, (pss_one (ps_ret (pe_and (pe_callB (r := rIsi K) call_isi (by rfl) T.isinstance (by decide +kernel) (pa_cons (pv 0) (pa_cons (pe_bltn (v := .ty "int") (u := .type "int") (by rfl) T.int (by decide +kernel) rfl) pa_nil))) (pe_one (pe_not (pe_callB (r := rIsi K) call_isi (by rfl) T.isinstance (by decide +kernel) (pa_cons (pv 0) (pa_cons (pe_bltn (v := .ty "bool") (u := .type "bool") (by rfl) T.bool (by decide +kernel) rfl) pa_nil)))))))), ?_⟩
    exact s_ret (ev_andV (a := true) (b := true) (ev_isInt (ev_var rfl)) fun _ => ev_notV (a := false) (ev_isBool (ev_var rfl))) k
/-- an int within the bounds -/
def sp_is_within : Sp := fun vs H Q _ => ∃ n lo hi : Int, vs = [.int n, .int lo, .int hi] ∧ lo ≤ n ∧ n ≤ hi ∧ ∀ H', Ex H H' → Q (.bl true) H'
theorem ev_chain_le {K : PySem.W.Frag} {σ : L2.St} {H : Hp} {ta tb tc : TE} {i j l : Int} (ha : Ev ta σ H (.int i)) (hb : Ev tb σ H (.int j)) (hc : Ev tc σ H (.int l)) (h1 : i ≤ j) (h2 : j ≤ l) : Ev (tChain (rI0 fun i j => .bl (decide (i ≤ j))) (rI0 fun i j => .bl (decide (i ≤ j))) ta tb tc) σ H (.bl true) :=
  ev_chain (k := true) ha hb (fun _ => hc) (by have q := rv_I0 (H := H) (g := fun i j => V.bl (decide (i ≤ j))) (i := i) (j := j); simp only [h1, decide_true] at q; exact q) (fun _ => by have q := rv_I0 (H := H) (g := fun i j => V.bl (decide (i ≤ j))) (i := j) (j := l); simp only [h2, decide_true] at q; exact q) (fun z => Bool.noConfusion z)
theorem ok_is_within (T : Top mg tk) (D : DefAt K mg "is_within" s_is_within ["thing", "least", "most"]) (c_is_integer : Cal P w K mg base 1 "is_integer" sp_is_integer) : Cal P w K mg base 2 "is_within" sp_is_within := by
  refine cal D sc_is_within (fun vs H Q E h => ?_) (fun f cdv A outer s H vs Q E hr h => ?_)
  · obtain ⟨n, lo, hi, rfl, _⟩ := h
    rfl
  · obtain ⟨n, lo, hi, rfl, h1, h2, k⟩ := h
    refine ⟨_, (pss_one (ps_ret (pe_and (pc c_is_integer hr (by decide) (by rfl) (pa_cons (pv 0) pa_nil)) (pe_one (pe_chain op_le op_le (pv 1) (pv 0) (pv 2)))))), ?_⟩
    exact s_ret (ev_andV (a := true) (b := true) (ev_callV (ea_cons (ev_var rfl) ea_nil) fun H1 e Q q E => ⟨n, rfl, q⟩) fun _ => ev_chain_le (K := K) (ev_var rfl) (ev_var rfl) (ev_var rfl) h1 h2) k
def sp_is_name : Sp := fun vs H Q _ => ∃ s : Str, vs = [.str s] ∧ NameOk s ∧ ∀ H', Ex H H' → Q (.bl true) H'
theorem all_tt {α : Type} (L : List α) (f : α → Bool) (h : ∀ x ∈ L, f x = true) : (L.map f).all id = true := by
  rw [List.all_eq_true]
  intro b hb
  obtain ⟨x, hx, rfl⟩ := List.mem_map.mp hb
  exact h x hx
theorem ok_is_name (T : Top mg tk) (D : DefAt K mg "is_name" s_is_name ["thing"]) : Cal P w K mg base 1 "is_name" sp_is_name := by
  refine cal D sc_is_name (fun vs H Q E h => ?_) (fun f cdv A outer s H vs Q E hr h => ?_)
  · obtain ⟨n, rfl, _⟩ := h
    rfl
  · obtain ⟨n, rfl, h, k⟩ := h
    refine ⟨_, (pss_cons (ps_if (PW.pt (pw_or (pt_not (pt_val (pe_callB (r := rIsi K) call_isi (by rfl) T.isinstance (by decide +kernel) (pa_cons (pv 0) (pa_cons (pe_bltn (v := .ty "str") (u := .type "str") (by rfl) T.str (by decide +kernel) rfl) pa_nil))))) (pw_or1 (pt_not (pt_chain op_le op_le pe_int (pe_callB (r := rLenStr) call_len_str (by rfl) T.len PySem.boot_len (pa_cons (pv 0) pa_nil)) (pe_glob (v := .int 8) rfl T.g_MOST_SIGNS ⟨_, rfl⟩)))))) (pss_one (ps_ret pe_bl)) pss_nil)
        (pss_one (ps_ret (pe_and (pe_cmpR op_inS (pe_ix ix_str (pv 0) pe_int (fun _ _ => rfl)) (pe_glob (v := .str "abcdefghijklmnopqrstuvwxyz") rfl T.g_LETTERS ⟨_, rfl⟩) (by rfl)) (pe_one (pe_callB (r := rAll K) (cr_all rfl) (by rfl) T.all (by decide +kernel) (pa_cons (pe_lc (g := (gName 1)) (own := [("sign", 1)]) rfl sc_is_name.nd (pi_str (pv 0)) (blkOk_by (N := N_is_name) (sc := defScope s_is_name) (by decide +kernel)) (fun _ _ _ _ _ => (pg_name (i := 1) sc_is_name.nd rfl (.inl rfl))) (fun _ _ _ _ _ => pts_nil) (fun _ _ _ _ _ => (pe_cmpR op_inS (pv 1) (pe_glob (v := .str "abcdefghijklmnopqrstuvwxyz0123456789") rfl T.g_SIGNS ⟨_, rfl⟩) (by rfl)))) pa_nil))))))), ?_⟩
    obtain ⟨c, hc, hL⟩ := h.fst
    have hlen : n.cps.toList.length = n.length := Array.length_toList
    have h1 : 1 ≤ n.length := by
      have := (List.getElem?_eq_some_iff.mp hc).1
      omega
    have h8 := h.le
    refine q_when (b := false) (et_or (a := false) (b := false) (et_not (a := true) (et_B (ev_isStr (ev_var rfl)))) fun _ => et_not (a := true) (et_test (ev_chain_le (K := K) ev_c (ev_lenStr (ev_var rfl) (by omega)) ev_c (by omega) (by omega)))) (fun z => Bool.noConfusion z) fun _ H1 e1 => ?_
    have hall : (n.cps.toList.map (fun c => decide (c ∈ SIG.cps.toList))).all id = true := all_tt _ _ fun x hx => decide_eq_true (h.all x hx)
    refine s_ret (v := .bl true) (ev_is (ev_andV (a := decide (c ∈ LET.cps.toList)) (b := (n.cps.toList.map (fun c => decide (c ∈ SIG.cps.toList))).all id) (ev_sign (ev_op (ev_var rfl) ev_c (rv_ixS (by omega) (atI_nat (j := 0) hc))) ev_c) fun _ => ev_all ?_) ?_) fun H2 e2 => k H2 (e1.trans e2)
    · rw [List.map_map]
      exact el_lcStr _ (ev_var rfl) (by have : n.cps.size = n.length := rfl; omega) (fun _ => rfl) fun c hc => ev_sign (ev_var rfl) ev_c
    · rw [hall, decide_eq_true hL]
      rfl
def sp_is_row_of : Sp := fun vs H Q _ => ∃ a xs, ∃ lo hi : Int, vs = [.ref a, .int lo, .int hi] ∧ Tp H a xs ∧ lo ≤ (xs.length : Int) ∧ (xs.length : Int) ≤ hi ∧ ∀ H', Ex H H' → Q (.bl true) H'
theorem spv_is_row_of {a : Addr} {xs : List V} {lo hi : Int} {H : Hp} (h : Tp H a xs) (h1 : lo ≤ (xs.length : Int)) (h2 : (xs.length : Int) ≤ hi) : SpV sp_is_row_of [.ref a, .int lo, .int hi] H (.bl true) := fun H1 e Q k E => ⟨a, xs, lo, hi, rfl, ex_rd e h, h1, h2, k⟩
theorem ok_is_row_of (T : Top mg tk) (D : DefAt K mg "is_row_of" s_is_row_of ["thing", "least", "most"]) : Cal P w K mg base 1 "is_row_of" sp_is_row_of := by
  refine cal D sc_is_row_of (fun vs H Q E h => ?_) (fun f cdv A outer s H vs Q E hr h => ?_)
  · obtain ⟨a, xs, lo, hi, rfl, _⟩ := h
    rfl
  · obtain ⟨a, xs, lo, hi, rfl, h, h1, h2, k⟩ := h
    refine ⟨_, (pss_one (ps_ret (pe_and (pe_callB (r := rIsi K) call_isi (by rfl) T.isinstance (by decide +kernel) (pa_cons (pv 0) (pa_cons (pe_bltn (v := .ty "tuple") (u := .type "tuple") (by rfl) T.tuple (by decide +kernel) rfl) pa_nil))) (pe_one (pe_chain op_le op_le (pv 1) (pe_callB (r := Evl.rLenS K) call_len_seq (by rfl) T.len PySem.boot_len (pa_cons (pv 0) pa_nil)) (pv 2)))))), ?_⟩
    exact s_ret (ev_andV (a := true) (b := true) (ev_isTup (ev_var rfl) h) fun _ => ev_chain_le (K := K) (ev_var rfl) (ev_lenT (ev_var rfl) h) (ev_var rfl) h1 h2) k
/-- unlike ones of some names -/
def sp_are_of : Sp := fun vs H Q _ => ∃ (a b : Addr) (ss ns : List Str), vs = [.ref a, .ref b] ∧ Tp H a (ss.map V.str) ∧ (Tp H b (ns.map V.str) ∨ H b = some (.lst (ns.map V.str))) ∧ ss.length ≤ 1000 ∧ ss.Nodup ∧ (∀ s ∈ ss, s ∈ ns) ∧ ∀ H', Ex H H' → Q (.bl true) H'
theorem ok_are_of (T : Top mg tk) (D : DefAt K mg "are_of" s_are_of ["thing", "names"]) : Cal P w K mg base 1 "are_of" sp_are_of := by
  refine cal D sc_are_of (fun vs H Q E h => ?_) (fun f cdv A outer s H vs Q E hr h => ?_)
  · obtain ⟨a, b, ss, ns, rfl, _⟩ := h
    rfl
  · obtain ⟨a, b, ss, ns, rfl, h, hb, hl, hd, hs, k⟩ := h
    refine ⟨_, (pss_cons (ps_if (pt_not (pt_val (pe_callB (r := rAll K) (cr_all rfl) (by rfl) T.all (by decide +kernel) (pa_cons (pe_lc (g := (gName 2)) (own := [("part", 2)]) rfl sc_are_of.nd (pi_tup (pv 0)) (blkOk_by (N := N_are_of) (sc := defScope s_are_of) (by decide +kernel)) (fun _ _ _ _ _ => (pg_name (i := 2) sc_are_of.nd rfl (.inl rfl))) (fun _ _ _ _ _ => pts_nil) (fun _ _ _ _ _ => (pe_and (pe_callB (r := rIsi K) call_isi (by rfl) T.isinstance (by decide +kernel) (pa_cons (pv 2) (pa_cons (pe_bltn (v := .ty "str") (u := .type "str") (by rfl) T.str (by decide +kernel) rfl) pa_nil))) (pe_one (pe_cmpR (r := rIn K false) op_in_seq (pv 2) (pv 1) (by rfl)))))) pa_nil)))) (pss_one (ps_ret pe_bl)) pss_nil)
        (pss_one (ps_ret (pe_cmpR op_eq (pe_lenSetT (by rfl) T.len (by rfl) T.set (pv 0)) (pe_callB (r := Evl.rLenS K) call_len_seq (by rfl) T.len PySem.boot_len (pa_cons (pv 0) pa_nil)) (nomark _))))), ?_⟩
    have hall : (ss.map (fun s => decide (s ∈ ns))).all id = true := all_tt _ _ fun x hx => decide_eq_true (hs x hx)
    refine q_when (b := false) (et_not (a := true) (et_B (ev_is (ev_all (bs := ss.map fun s => decide (s ∈ ns)) ?_) (by rw [hall])))) (fun z => Bool.noConfusion z) fun _ H1 e1 => ?_
    · rw [List.map_map]
      refine el_lcTm (K := K) ss V.str _ (ev_var rfl) h (by omega) (fun _ => rfl) fun i s hi => ?_
      refine ev_is (ev_andV (a := true) (b := decide (s ∈ ns)) (ev_isStr (ev_var rfl)) fun _ => ?_) (by rw [Bool.true_and] <;> rfl)
      rcases hb with hb | hb
      · exact ev_inT (ev_var rfl) (ev_var rfl) hb
      · exact ev_inL (ev_var rfl) (ev_var rfl) hb
    · refine s_ret (v := .bl true) (ev_is (ev_op (ev_lenSet (ev_var rfl) (ex_rd e1 h) (by omega)) (ev_lenT (ev_var rfl) (ex_rd e1 h)) (rv_eq rfl)) ?_) fun H2 e2 => k H2 (e1.trans e2)
      rw [dlist_nodup hd, List.length_map]
      exact congrArg V.bl (decide_eq_true rfl)
def sp_need_count : Sp := fun vs H Q _ => ∃ n lo hi : Int, vs = [.int n, .int lo, .int hi] ∧ lo ≤ n ∧ n ≤ hi ∧ ∀ H', Ex H H' → Q .non H'
theorem ok_need_count (T : Top mg tk) (D : DefAt K mg "need_count" s_need_count ["count", "least", "most"]) (c_is_within : Cal P w K mg base 2 "is_within" sp_is_within) : Cal P w K mg base 3 "need_count" sp_need_count := by
  refine cal D sc_need_count (fun vs H Q E h => ?_) (fun f cdv A outer s H vs Q E hr h => ?_)
  · obtain ⟨n, lo, hi, rfl, _⟩ := h
    rfl
  · obtain ⟨n, lo, hi, rfl, h1, h2, k⟩ := h
    refine ⟨_, (pss_one (ps_if (pt_not (pt_val (pc c_is_within hr (by decide) (by rfl) (pa_cons (pv 0) (pa_cons (pv 1) (pa_cons (pv 2) pa_nil)))))) (pss_one ps_never) pss_nil)), ?_⟩
    exact s_need (et_not (a := true) (et_B (ev_callV (ea_cons (ev_var rfl) (ea_cons (ev_var rfl) (ea_cons (ev_var rfl) ea_nil))) fun H1 e Q q E => ⟨n, lo, hi, rfl, h1, h2, q⟩))) k
end
end RP
/-! part RPd2 -/
/-! the looks at webs, rotas, weeks; turned and backwards -/
namespace RP
open PySem PySem.Spec PyProof.Rows L2 Evl
/-! ### arguments told by properties -/
def Mono (P : V → Hp → Prop) : Prop := ∀ v H H', Ex H H' → P v H → P v H'
def EvAP (ta : TA) (σ : L2.St) (H : Hp) (P : List V → Hp → Prop) : Prop := ∀ H1, Ex H H1 → ∀ Q : List V → Hp → Prop, (∀ vs H2, Ex H1 H2 → P vs H2 → Q vs H2) → ta σ H1 Q
def TFV (H : Hp) (a : Addr) (xs : List V) : Prop := ∃ o : Obj, H a = some (.frz o (.tup xs)) ∧ o.dict = none
theorem TFV.tp {H : Hp} {a : Addr} {xs : List V} (h : TFV H a xs) : Tp H a xs := let ⟨o, e, _⟩ := h; .inr ⟨o, e⟩
theorem TFV.ex {H H' : Hp} {a : Addr} {xs : List V} (e : Ex H H') (h : TFV H a xs) : TFV H' a xs := let ⟨o, z, d⟩ := h; ⟨o, e a _ z, d⟩
section
variable {K : PySem.W.Frag} {σ : L2.St} {H H' : Hp} {ta tb te : TE} {tr tq : TA} {a : Addr} {xs : List V} {P1 P : V → Hp → Prop} {P2 PA : List V → Hp → Prop} {z : V} {sp : Sp}
theorem eap_nil : EvAP tNil σ H (fun vs _ => vs = []) := fun H1 _ Q q => q [] H1 (Ex.refl _) rfl
theorem eap_cons (h : EvP te σ H P1) (m : Mono P1) (hr : EvAP tr σ H P2) : EvAP (tCons te tr) σ H (fun vs H' => ∃ v r, vs = v :: r ∧ P1 v H' ∧ P2 r H') := fun H1 e Q q =>
  h H1 e _ fun v H2 e2 p => hr H2 (e.trans e2) _ fun r H3 e3 p2 => q _ H3 (e2.trans e3) ⟨v, r, rfl, m v _ _ e3 p, p2⟩
theorem ev_p (h : Ev te σ H z) : EvP te σ H (fun v _ => v = z) := fun H1 e Q q => h H1 e Q fun H2 e2 => q z H2 e2 rfl
theorem mono_eq : Mono (fun v _ => v = z) := fun _ _ _ _ h => h
theorem evp_callA (h : EvAP tq σ H PA) (hs : ∀ vs H1, Ex H H1 → PA vs H1 → SpP sp vs H1 P) : EvP (tCall sp [] E0 tq) σ H P := fun H1 e Q q =>
  h H1 e _ fun vs H2 e2 p => by
    rw [List.append_nil]
    exact hs vs H2 (e.trans e2) p H2 (Ex.refl _) Q (fun v H3 e3 hp => q v H3 (e2.trans e3) hp) E0
theorem ev_callA (h : EvAP tq σ H PA) (hs : ∀ vs H1, Ex H H1 → PA vs H1 → SpV sp vs H1 z) : Ev (tCall sp [] E0 tq) σ H z := fun H1 e Q q =>
  h H1 e _ fun vs H2 e2 p => by
    rw [List.append_nil]
    exact hs vs H2 (e.trans e2) p H2 (Ex.refl _) Q (fun H3 e3 => q H3 (e2.trans e3)) E0
/-- a tuple to be read -/
def IsTp (xs : List V) : V → Hp → Prop := fun v H => ∃ p, v = .ref p ∧ Tp H p xs
theorem mono_tp : Mono (IsTp xs) := fun v H H' e ⟨p, hp, h⟩ => ⟨p, hp, ex_rd e h⟩
def IsTF (xs : List V) : V → Hp → Prop := fun v H => ∃ p, v = .ref p ∧ TFV H p xs
theorem mono_tf : Mono (IsTF xs) := fun v H H' e ⟨p, hp, h⟩ => ⟨p, hp, h.ex e⟩
def IsLs (xs : List V) : V → Hp → Prop := fun v H => ∃ p, v = .ref p ∧ H p = some (.lst xs)
theorem mono_ls : Mono (IsLs xs) := fun v H H' e ⟨p, hp, h⟩ => ⟨p, hp, e p _ h⟩
theorem evp_l (h : EvL te σ H xs) : EvP te σ H (IsLs xs) := EvL.p h fun p H1 _ e => ⟨p, rfl, e⟩
/-- a slice of a tuple -/
theorem cut_whole {xs : List V} {lo hi : Option Int} (h : HT.sIx xs.length 0 lo = 0 ∧ HT.sIx xs.length xs.length hi = xs.length) : cutV xs lo hi = xs := by
  unfold cutV
  rw [h.1, h.2]
  show (xs.drop 0).take (xs.length - 0) = xs
  rw [List.drop_zero, Nat.sub_zero, List.take_length]
theorem evp_sl {tl th : TO} {lo hi : Option Int} (ha : Ev ta σ H (.ref a)) (h : Tp H a xs) (hl : EvO tl σ H lo) (hh : EvO th σ H hi) : EvP (tSl (rSlA K) ta tl th) σ H (IsTp (cutV xs lo hi)) := fun H1 e Q q =>
  ha H1 e _ fun H2 e2 => hl H2 (e.trans e2) _ fun H3 e3 => hh H3 ((e.trans e2).trans e3) _ fun H4 e4 => by
    have hx : Tp H4 a xs := ex_rd (((e.trans e2).trans e3).trans e4) h
    refine ⟨a, xs, rfl, .inl hx, fun z => ?_, fun _ p hp => ?_⟩
    · refine q _ _ ((e2.trans e3).trans e4) ⟨a, rfl, ?_⟩
      rw [cut_whole z]
      exact hx
    · exact q _ _ (((e2.trans e3).trans e4).trans (Ex.new hp)) ⟨p, rfl, .inl upd_same⟩
/-- tuple(a new list) -/
theorem evp_tup (h : EvL te σ H xs) : EvP (tCB (rTupS K) (tCons te tNil)) σ H (IsTF xs) := fun H1 e Q q =>
  h H1 e _ fun p H2 _ e2 hp => ⟨p, xs, rfl, sq_of hp, fun l o hl ho => q _ _ (e2.trans (Ex.new hl)) ⟨l, rfl, o, upd_same, ho⟩⟩
/-- tuple(a list that stands) -/
theorem evp_tupL (h : Ev te σ H (.ref a)) (hl : SqL K H a xs) : EvP (tCB (rTupS K) (tCons te tNil)) σ H (IsTF xs) := fun H1 e Q q =>
  h H1 e _ fun H2 e2 => ⟨a, xs, rfl, ex_l (e.trans e2) hl, fun l o hn ho => q _ _ (e2.trans (Ex.new hn)) ⟨l, rfl, o, upd_same, ho⟩⟩
end
theorem cut_from {α : Type} (xs : List V) (c : Nat) (h : c ≤ xs.length) : cutV xs (some (c : Int)) none = xs.drop c := by
  unfold cutV
  rw [HT.sIx_nat xs.length 0 c, HT.sIx_none, Nat.min_eq_left h]
  refine List.take_of_length_le ?_
  rw [List.length_drop]
  exact Nat.le_refl _
theorem cut_to (xs : List V) (c : Nat) (h : c ≤ xs.length) : cutV xs none (some (c : Int)) = xs.take c := by
  unfold cutV
  rw [HT.sIx_nat xs.length xs.length c, HT.sIx_none, Nat.min_eq_left h]
  rfl
section
variable {P : Program} {w : World} {K : PySem.W.Frag} {mg : Str → Option Value} {base : Heap} {tk : Nat → Tok}
/-! ### webs -/
def sp_are_names : Sp := fun vs H Q _ => ∃ (a : Addr) (ss : List Str), vs = [.ref a] ∧ Tp H a (ss.map V.str) ∧ ss.length ≤ 1000 ∧ ss.Nodup ∧ (∀ s ∈ ss, NameOk s) ∧ ∀ H', Ex H H' → Q (.bl true) H'
theorem spv_are_names {a : Addr} {ss : List Str} {H : Hp} (h : Tp H a (ss.map V.str)) (hl : ss.length ≤ 1000) (hd : ss.Nodup) (hn : ∀ s ∈ ss, NameOk s) : SpV sp_are_names [.ref a] H (.bl true) := fun H1 e Q k E => ⟨a, ss, rfl, ex_rd e h, hl, hd, hn, k⟩
theorem ok_are_names (T : Top mg tk) (D : DefAt K mg "are_names" s_are_names ["thing"]) (c_is_name : Cal P w K mg base 1 "is_name" sp_is_name) : Cal P w K mg base 2 "are_names" sp_are_names := by
  refine cal D sc_are_names (fun vs H Q E h => ?_) (fun f cdv A outer s H vs Q E hr h => ?_)
  · obtain ⟨a, ss, rfl, _⟩ := h
    rfl
  · obtain ⟨a, ss, rfl, h, hl, hd, hn, k⟩ := h
    refine ⟨_, (pss_one (ps_ret (pe_and (pe_callB (r := rAll K) (cr_all rfl) (by rfl) T.all (by decide +kernel) (pa_cons (pe_lc (g := (gName 1)) (own := [("name", 1)]) rfl sc_are_names.nd (pi_tup (pv 0)) (blkOk_by (N := N_are_names) (sc := defScope s_are_names) (by decide +kernel)) (fun _ _ _ _ _ => (pg_name (i := 1) sc_are_names.nd rfl (.inl rfl))) (fun _ _ _ _ _ => pts_nil) (fun _ _ _ _ _ => (pc c_is_name hr (by decide) (by rfl) (pa_cons (pv 1) pa_nil)))) pa_nil)) (pe_one (pe_cmpR op_eq (pe_lenSetT (by rfl) T.len (by rfl) T.set (pv 0)) (pe_callB (r := Evl.rLenS K) call_len_seq (by rfl) T.len PySem.boot_len (pa_cons (pv 0) pa_nil)) (nomark _)))))), ?_⟩
    have hall : (ss.map (fun _ => true)).all id = true := all_tt _ _ fun x hx => rfl
    refine s_ret (v := .bl true) (ev_is (ev_andV (a := (ss.map (fun _ => true)).all id) (b := decide (V.int ((dlist ss).length : Nat) = V.int ((ss.map V.str).length : Int))) (ev_all (bs := ss.map fun _ => true) ?_) fun _ => ev_op (ev_lenSet (ev_var rfl) h (by omega)) (ev_lenT (ev_var rfl) h) (rv_eq rfl)) ?_) k
    · rw [List.map_map]
      refine el_lcTm (K := K) ss V.str _ (ev_var rfl) h (by omega) (fun _ => rfl) fun i s hi => ?_
      exact ev_callV (ea_cons (ev_var rfl) ea_nil) fun H1 e Q q E => ⟨s, rfl, hn s (List.mem_of_getElem? hi), q⟩
    · rw [hall, dlist_nodup hd, List.length_map, decide_eq_true rfl]
      rfl
/-- a road between two of the places -/
def sp_is_road : Sp := fun vs H Q _ => ∃ (t b : Addr) (r : Road) (ps : List Str), vs = [.ref t, .ref b] ∧ Tp H t (roadV r) ∧ Tp H b (ps.map V.str) ∧ RoadOk ps r ∧ ∀ H', Ex H H' → Q (.bl true) H'
theorem cut_road (r : Road) : cutV (roadV r) (some 1) none = [r.2.1, r.2.2].map V.str := rfl
theorem ok_is_road (T : Top mg tk) (D : DefAt K mg "is_road" s_is_road ["thing", "places"]) (c_is_row_of : Cal P w K mg base 1 "is_row_of" sp_is_row_of) (c_is_name : Cal P w K mg base 1 "is_name" sp_is_name) (c_are_of : Cal P w K mg base 1 "are_of" sp_are_of) : Cal P w K mg base 2 "is_road" sp_is_road := by
  refine cal D sc_is_road (fun vs H Q E h => ?_) (fun f cdv A outer s H vs Q E hr h => ?_)
  · obtain ⟨t, b, r, ps, rfl, _⟩ := h
    rfl
  · obtain ⟨t, b, r, ps, rfl, h, hb, hk, k⟩ := h
    refine ⟨_, (pss_one (ps_ret (pe_and (pc c_is_row_of hr (by decide) (by rfl) (pa_cons (pv 0) (pa_cons pe_int (pa_cons pe_int pa_nil)))) (pe_and (pc c_is_name hr (by decide) (by rfl) (pa_cons (pe_ix (r := rIxT K) ix_tup (pv 0) pe_int (fun _ _ => rfl)) pa_nil)) (pe_one (pc c_are_of hr (by decide) (by rfl) (pa_cons (pe_slice (r := rSlA K) sl_tupA (pv 0) (po_some pe_int) po_none) (pa_cons (pv 1) pa_nil)))))))), ?_⟩
    refine s_ret (v := .bl true) (ev_andV (a := true) (b := true) (ev_callV (ea_cons (ev_var rfl) (ea_cons ev_c (ea_cons ev_c ea_nil))) (spv_is_row_of h (by show (3 : Int) ≤ 3; omega) (by show (3 : Int) ≤ 3; omega))) fun _ => ev_andV (a := true) (b := true) (ev_callV (ea_cons (ev_r0 (ev_var rfl) h) ea_nil) fun H1 e Q q E => ⟨r.1, rfl, hk.nm, q⟩) fun _ => ?_) k
    refine ev_callA (eap_cons (evp_sl (K := K) (ev_var rfl) h (eo_some ev_c) eo_none) mono_tp (eap_cons (ev_p (ev_var rfl)) mono_eq eap_nil)) fun vs H1 e1 hp => ?_
    obtain ⟨v, r1, rfl, ⟨p, rfl, hp⟩, v2, r2, rfl, rfl, rfl⟩ := hp
    rw [cut_road] at hp
    refine fun H2 e2 Q q E => ⟨p, b, [r.2.1, r.2.2], ps, rfl, ex_rd e2 hp, .inl (ex_rd (e1.trans e2) hb), by show 2 ≤ 1000; omega, ?_, ?_, q⟩
    · refine List.nodup_cons.mpr ⟨fun z => hk.ne (List.mem_singleton.mp z), List.nodup_cons.mpr ⟨List.not_mem_nil, List.nodup_nil⟩⟩
    · intro s hs
      rcases List.mem_cons.mp hs with e | hs
      · rw [e]; exact hk.one
      · rw [List.mem_singleton.mp hs]; exact hk.other
def sp_is_web_form : Sp := fun vs H Q _ => ∃ (a p q : Addr) (W : Web) (trs : List (Addr × Road)), vs = [.ref a] ∧ WebAt H a W p q trs ∧ WebOk W ∧ ∀ H', Ex H H' → Q (.bl true) H'
theorem ok_is_web_form (T : Top mg tk) (D : DefAt K mg "is_web_form" s_is_web_form ["thing"]) (c_is_row_of : Cal P w K mg base 1 "is_row_of" sp_is_row_of) (c_are_names : Cal P w K mg base 2 "are_names" sp_are_names) (c_is_road : Cal P w K mg base 2 "is_road" sp_is_road) : Cal P w K mg base 3 "is_web_form" sp_is_web_form := by
  refine cal D sc_is_web_form (fun vs H Q E h => ?_) (fun f cdv A outer s H vs Q E hr h => ?_)
  · obtain ⟨a, p, q, W, trs, rfl, _⟩ := h
    rfl
  · obtain ⟨a, p, q, W, trs, rfl, h, ok, k⟩ := h
    refine ⟨_, (pss_cons (ps_if (PW.pt (pw_or (pt_not (pt_val (pc c_is_row_of hr (by decide) (by rfl) (pa_cons (pv 0) (pa_cons pe_int (pa_cons pe_int pa_nil)))))) (pw_or (pt_not (pt_val (pc c_is_row_of hr (by decide) (by rfl) (pa_cons (pe_ix (r := rIxT K) ix_tup (pv 0) pe_int (fun _ _ => rfl)) (pa_cons pe_int (pa_cons (pe_glob (v := .int 10) rfl T.g_MOST_PLACES ⟨_, rfl⟩) pa_nil)))))) (pw_or1 (pt_not (pt_val (pc c_are_names hr (by decide) (by rfl) (pa_cons (pe_ix (r := rIxT K) ix_tup (pv 0) pe_int (fun _ _ => rfl)) pa_nil)))))))) (pss_one (ps_ret pe_bl)) pss_nil)
        (pss_cons (ps_if (PW.pt (pw_or (pt_not (pt_val (pc c_is_row_of hr (by decide) (by rfl) (pa_cons (pe_ix (r := rIxT K) ix_tup (pv 0) pe_int (fun _ _ => rfl)) (pa_cons pe_int (pa_cons (pe_glob (v := .int 14) rfl T.g_MOST_ROADS ⟨_, rfl⟩) pa_nil)))))) (pw_or1 (pt_not (pt_val (pe_callB (r := rAll K) (cr_all rfl) (by rfl) T.all (by decide +kernel) (pa_cons (pe_lc (g := (gName 1)) (own := [("road", 1)]) rfl sc_is_web_form.nd (pi_tup (pe_ix (r := rIxT K) ix_tup (pv 0) pe_int (fun _ _ => rfl))) (blkOk_by (N := N_is_web_form) (sc := defScope s_is_web_form) (by decide +kernel)) (fun _ _ _ _ _ => (pg_name (i := 1) sc_is_web_form.nd rfl (.inl rfl))) (fun _ _ _ _ _ => pts_nil) (fun _ _ _ _ _ => (pc c_is_road hr (by decide) (by rfl) (pa_cons (pv 1) (pa_cons (pe_ix (r := rIxT K) ix_tup (pv 0) pe_int (fun _ _ => rfl)) pa_nil))))) pa_nil))))))) (pss_one (ps_ret pe_bl)) pss_nil)
        (pss_one (ps_ret (pc c_are_names hr (by decide) (by rfl) (pa_cons (pe_callTy (r := rTupS K) call_tupF (by rfl) T.tuple (by decide +kernel) (pa_cons (pe_lc (g := (gName 1)) (own := [("road", 1)]) rfl sc_is_web_form.nd (pi_tup (pe_ix (r := rIxT K) ix_tup (pv 0) pe_int (fun _ _ => rfl))) (blkOk_by (N := N_is_web_form) (sc := defScope s_is_web_form) (by decide +kernel)) (fun _ _ _ _ _ => (pg_name (i := 1) sc_is_web_form.nd rfl (.inl rfl))) (fun _ _ _ _ _ => pts_nil) (fun _ _ _ _ _ => (pe_ix (r := rIxT K) ix_tup (pv 1) pe_int (fun _ _ => rfl)))) pa_nil)) pa_nil)))))), ?_⟩
    have lp : (W.ps.map V.str).length = W.ps.length := List.length_map ..
    have lr : (trs.map fun x => V.ref x.1).length = W.rs.length := by rw [List.length_map, trs_len h.e]
    have hp1 := ok.p1
    have hp10 := ok.p10
    have hr14 := ok.r14
    refine q_when (b := false) (et_or (a := false) (b := false) (et_not (a := true) (et_B (ev_callV (ea_cons (ev_var rfl) (ea_cons ev_c (ea_cons ev_c ea_nil))) (spv_is_row_of h.w (by show (2 : Int) ≤ 2; omega) (by show (2 : Int) ≤ 2; omega))))) fun _ =>
      et_or (a := false) (b := false) (et_not (a := true) (et_B (ev_callV (ea_cons (ev_w0 (ev_var rfl) h.w) (ea_cons ev_c (ea_cons ev_c ea_nil))) (spv_is_row_of h.ps.tp (by omega) (by omega))))) fun _ =>
      et_not (a := true) (et_B (ev_callV (ea_cons (ev_w0 (ev_var rfl) h.w) ea_nil) (spv_are_names h.ps.tp (by omega) ok.pd ok.pn)))) (fun z => Bool.noConfusion z) fun _ H1 e1 => ?_
    have h1 := h.ex e1
    have hall : (trs.map (fun _ => true)).all id = true := all_tt _ _ fun x hx => rfl
    refine q_when (b := false) (et_or (a := false) (b := false) (et_not (a := true) (et_B (ev_callV (ea_cons (ev_w1 (ev_var rfl) h1.w) (ea_cons ev_c (ea_cons ev_c ea_nil))) (spv_is_row_of h1.rs.1 (by omega) (by omega))))) fun _ =>
      et_not (a := true) (et_B (ev_is (ev_all (bs := trs.map fun _ => true) ?_) (by rw [hall])))) (fun z => Bool.noConfusion z) fun _ H2 e2 => ?_
    · rw [List.map_map]
      refine el_lcTm (K := K) trs (fun x => V.ref x.1) _ (ev_w1 (ev_var rfl) h1.w) h1.rs.1 (by rw [trs_len h.e]; omega) (fun _ => rfl) fun i x hx => ?_
      have hm := List.mem_of_getElem? hx
      exact ev_callV (ea_cons (ev_var rfl) (ea_cons (ev_w0 (ev_var rfl) h1.w) ea_nil)) fun H3 e3 Q q E => ⟨x.1, p, x.2, W.ps, rfl, ex_rd e3 (h1.rs.2 x hm), ex_rd e3 h1.ps.tp, ok.rr _ (trs_mem h.e hm), q⟩
    · have h2 := h1.ex e2
      have en : (trs.map fun x => V.str x.2.1) = W.names.map V.str := by rw [Web.names, ← h.e, List.map_map, List.map_map] <;> rfl
      refine s_ret (v := .bl true) (ev_callA (eap_cons (evp_tup (K := K) (el_lcTm (K := K) trs (fun x => V.ref x.1) (fun x => V.str x.2.1) (ev_w1 (ev_var rfl) h2.w) h2.rs.1 (by rw [trs_len h.e]; omega) (fun _ => rfl) fun i x hx => ev_r0 (ev_var rfl) (h2.rs.2 x (List.mem_of_getElem? hx)))) mono_tf eap_nil) fun vs H3 e3 hp => ?_) fun H3 e3 => k H3 ((e1.trans e2).trans e3)
      obtain ⟨v, r1, rfl, ⟨p', rfl, hp'⟩, rfl⟩ := hp
      rw [en] at hp'
      exact spv_are_names (TFV.tp hp') (by rw [Web.names, List.length_map]; omega) ok.rd fun s hs => by
        obtain ⟨r, hr', rfl⟩ := List.mem_map.mp hs
        exact (ok.rr r hr').nm
def sp_need_web : Sp := fun vs H Q _ => ∃ (a p q : Addr) (W : Web) (trs : List (Addr × Road)), vs = [.ref a] ∧ WebAt H a W p q trs ∧ WebOk W ∧ ∀ H', Ex H H' → Q .non H'
theorem spv_need_web {a p q : Addr} {W : Web} {trs : List (Addr × Road)} {H : Hp} (h : WebAt H a W p q trs) (ok : WebOk W) : SpV sp_need_web [.ref a] H .non := fun H1 e Q k E => ⟨a, p, q, W, trs, rfl, h.ex e, ok, k⟩
theorem ok_need_web (T : Top mg tk) (D : DefAt K mg "need_web" s_need_web ["web"]) (c_is_web_form : Cal P w K mg base 3 "is_web_form" sp_is_web_form) : Cal P w K mg base 4 "need_web" sp_need_web := by
  refine cal D sc_need_web (fun vs H Q E h => ?_) (fun f cdv A outer s H vs Q E hr h => ?_)
  · obtain ⟨a, p, q, W, trs, rfl, _⟩ := h
    rfl
  · obtain ⟨a, p, q, W, trs, rfl, h, ok, k⟩ := h
    refine ⟨_, (pss_one (ps_if (pt_not (pt_val (pc c_is_web_form hr (by decide) (by rfl) (pa_cons (pv 0) pa_nil)))) (pss_one ps_never) pss_nil)), ?_⟩
    exact s_need (et_not (a := true) (et_B (ev_callV (ea_cons (ev_var rfl) ea_nil) fun H1 e Q k E => ⟨a, p, q, W, trs, rfl, h.ex e, ok, k⟩))) k
def sp_is_place : Sp := fun vs H Q _ => ∃ (a p q : Addr) (W : Web) (trs : List (Addr × Road)) (x : Str), vs = [.ref a, .str x] ∧ WebAt H a W p q trs ∧ x ∈ W.ps ∧ ∀ H', Ex H H' → Q (.bl true) H'
theorem ok_is_place (T : Top mg tk) (D : DefAt K mg "is_place" s_is_place ["web", "thing"]) : Cal P w K mg base 1 "is_place" sp_is_place := by
  refine cal D sc_is_place (fun vs H Q E h => ?_) (fun f cdv A outer s H vs Q E hr h => ?_)
  · obtain ⟨a, p, q, W, trs, x, rfl, _⟩ := h
    rfl
  · obtain ⟨a, p, q, W, trs, x, rfl, h, hx, k⟩ := h
    refine ⟨_, (pss_one (ps_ret (pe_and (pe_callB (r := rIsi K) call_isi (by rfl) T.isinstance (by decide +kernel) (pa_cons (pv 1) (pa_cons (pe_bltn (v := .ty "str") (u := .type "str") (by rfl) T.str (by decide +kernel) rfl) pa_nil))) (pe_one (pe_cmpR (r := rIn K false) op_in_seq (pv 1) (pe_ix (r := rIxT K) ix_tup (pv 0) pe_int (fun _ _ => rfl)) (by rfl)))))), ?_⟩
    exact s_ret (v := .bl true) (ev_andV (a := true) (b := true) (ev_isStr (ev_var rfl)) fun _ => ev_is (ev_inT (ev_var rfl) (ev_w0 (ev_var rfl) h.w) h.ps.tp) (by rw [decide_eq_true hx])) k
def sp_need_place : Sp := fun vs H Q _ => ∃ (a p q : Addr) (W : Web) (trs : List (Addr × Road)) (x : Str), vs = [.ref a, .str x] ∧ WebAt H a W p q trs ∧ x ∈ W.ps ∧ ∀ H', Ex H H' → Q .non H'
theorem ok_need_place (T : Top mg tk) (D : DefAt K mg "need_place" s_need_place ["web", "place"]) (c_is_place : Cal P w K mg base 1 "is_place" sp_is_place) : Cal P w K mg base 2 "need_place" sp_need_place := by
  refine cal D sc_need_place (fun vs H Q E h => ?_) (fun f cdv A outer s H vs Q E hr h => ?_)
  · obtain ⟨a, p, q, W, trs, x, rfl, _⟩ := h
    rfl
  · obtain ⟨a, p, q, W, trs, x, rfl, h, hx, k⟩ := h
    refine ⟨_, (pss_one (ps_if (pt_not (pt_val (pc c_is_place hr (by decide) (by rfl) (pa_cons (pv 0) (pa_cons (pv 1) pa_nil))))) (pss_one ps_never) pss_nil)), ?_⟩
    exact s_need (et_not (a := true) (et_B (ev_callV (ea_cons (ev_var rfl) (ea_cons (ev_var rfl) ea_nil)) fun H1 e Q k E => ⟨a, p, q, W, trs, x, rfl, h.ex e, hx, k⟩))) k
/-! ### rotas -/
structure RotaOk (W : Web) (ro : List Str) : Prop where
  len : ro.length = W.rs.length
  nd : ro.Nodup
  sub : ∀ n ∈ ro, n ∈ W.names
def sp_is_rota : Sp := fun vs H Q _ => ∃ (a p q b : Addr) (W : Web) (trs : List (Addr × Road)) (ro : List Str), vs = [.ref a, .ref b] ∧ WebAt H a W p q trs ∧ WebOk W ∧ Tp H b (ro.map V.str) ∧ RotaOk W ro ∧ ∀ H', Ex H H' → Q (.bl true) H'
theorem spv_are_of_names {a p q b : Addr} {W : Web} {trs : List (Addr × Road)} {ro : List Str} {σ : L2.St} {H : Hp} {ta tb : TE} (h : WebAt H a W p q trs) (ok : WebOk W) (hb : Tp H b (ro.map V.str)) (rk : RotaOk W ro) (ha : Ev ta σ H (.ref a)) (hv : Ev tb σ H (.ref b)) :
    Ev (tCall sp_are_of [] E0 (tCons tb (tCons (tCall sp_names_of_roads [] E0 (tCons ta tNil)) tNil))) σ H (.bl true) := by
  have hr14 := ok.r14
  have hl := rk.len
  refine ev_callA (eap_cons (ev_p hv) mono_eq (eap_cons (evp_l (el_callL (ea_cons ha ea_nil) (spl_names h (by omega)))) mono_ls eap_nil)) fun vs H1 e1 hp => ?_
  obtain ⟨v, r1, rfl, rfl, v2, r2, rfl, ⟨d, rfl, hd⟩, rfl⟩ := hp
  exact fun H2 e2 Q k E => ⟨b, d, ro, W.names, rfl, ex_rd (e1.trans e2) hb, .inr (e2 d _ hd), by omega, rk.nd, rk.sub, k⟩
theorem ok_is_rota (T : Top mg tk) (D : DefAt K mg "is_rota" s_is_rota ["web", "thing"]) (c_is_row_of : Cal P w K mg base 1 "is_row_of" sp_is_row_of) (c_are_of : Cal P w K mg base 1 "are_of" sp_are_of) (c_names_of_roads : Cal P w K mg base 1 "names_of_roads" sp_names_of_roads) : Cal P w K mg base 2 "is_rota" sp_is_rota := by
  refine cal D sc_is_rota (fun vs H Q E h => ?_) (fun f cdv A outer s H vs Q E hr h => ?_)
  · obtain ⟨a, p, q, b, W, trs, ro, rfl, _⟩ := h
    rfl
  · obtain ⟨a, p, q, b, W, trs, ro, rfl, h, ok, hb, rk, k⟩ := h
    refine ⟨_, (pss_one (ps_ret (pe_and (pc c_is_row_of hr (by decide) (by rfl) (pa_cons (pv 1) (pa_cons (pe_callB (r := Evl.rLenS K) call_len_seq (by rfl) T.len PySem.boot_len (pa_cons (pe_ix (r := rIxT K) ix_tup (pv 0) pe_int (fun _ _ => rfl)) pa_nil)) (pa_cons (pe_callB (r := Evl.rLenS K) call_len_seq (by rfl) T.len PySem.boot_len (pa_cons (pe_ix (r := rIxT K) ix_tup (pv 0) pe_int (fun _ _ => rfl)) pa_nil)) pa_nil)))) (pe_one (pc c_are_of hr (by decide) (by rfl) (pa_cons (pv 1) (pa_cons (pc c_names_of_roads hr (by decide) (by rfl) (pa_cons (pv 0) pa_nil)) pa_nil))))))), ?_⟩
    have lr : (trs.map fun x => V.ref x.1).length = W.rs.length := by rw [List.length_map, trs_len h.e]
    have l2 : (ro.map V.str).length = W.rs.length := by rw [List.length_map, rk.len]
    exact s_ret (v := .bl true) (ev_andV (a := true) (b := true) (ev_callV (ea_cons (ev_var rfl) (ea_cons (ev_lenT (ev_w1 (ev_var rfl) h.w) h.rs.1) (ea_cons (ev_lenT (ev_w1 (ev_var rfl) h.w) h.rs.1) ea_nil))) (spv_is_row_of hb (by omega) (by omega))) fun _ => spv_are_of_names h ok hb rk (ev_var rfl) (ev_var rfl)) k
def sp_need_rota : Sp := fun vs H Q _ => ∃ (a p q b : Addr) (W : Web) (trs : List (Addr × Road)) (ro : List Str), vs = [.ref a, .ref b] ∧ WebAt H a W p q trs ∧ WebOk W ∧ Tp H b (ro.map V.str) ∧ RotaOk W ro ∧ ∀ H', Ex H H' → Q .non H'
theorem spv_need_rota {a p q b : Addr} {W : Web} {trs : List (Addr × Road)} {ro : List Str} {H : Hp} (h : WebAt H a W p q trs) (ok : WebOk W) (hb : Tp H b (ro.map V.str)) (rk : RotaOk W ro) : SpV sp_need_rota [.ref a, .ref b] H .non := fun H1 e Q k E => ⟨a, p, q, b, W, trs, ro, rfl, h.ex e, ok, ex_rd e hb, rk, k⟩
theorem ok_need_rota (T : Top mg tk) (D : DefAt K mg "need_rota" s_need_rota ["web", "rota"]) (c_is_rota : Cal P w K mg base 2 "is_rota" sp_is_rota) : Cal P w K mg base 3 "need_rota" sp_need_rota := by
  refine cal D sc_need_rota (fun vs H Q E h => ?_) (fun f cdv A outer s H vs Q E hr h => ?_)
  · obtain ⟨a, p, q, b, W, trs, ro, rfl, _⟩ := h
    rfl
  · obtain ⟨a, p, q, b, W, trs, ro, rfl, h, ok, hb, rk, k⟩ := h
    refine ⟨_, (pss_one (ps_if (pt_not (pt_val (pc c_is_rota hr (by decide) (by rfl) (pa_cons (pv 0) (pa_cons (pv 1) pa_nil))))) (pss_one ps_never) pss_nil)), ?_⟩
    exact s_need (et_not (a := true) (et_B (ev_callV (ea_cons (ev_var rfl) (ea_cons (ev_var rfl) ea_nil)) fun H1 e Q k E => ⟨a, p, q, b, W, trs, ro, rfl, h.ex e, ok, ex_rd e hb, rk, k⟩))) k
def sp_is_round : Sp := fun vs H Q _ => ∃ (a p q b : Addr) (W : Web) (trs : List (Addr × Road)) (ro : List Str), vs = [.ref a, .ref b] ∧ WebAt H a W p q trs ∧ WebOk W ∧ Tp H b (ro.map V.str) ∧ RotaOk W ro ∧ ∀ H', Ex H H' → Q (.bl true) H'
theorem ok_is_round (T : Top mg tk) (D : DefAt K mg "is_round" s_is_round ["web", "thing"]) (c_are_of : Cal P w K mg base 1 "are_of" sp_are_of) (c_names_of_roads : Cal P w K mg base 1 "names_of_roads" sp_names_of_roads) : Cal P w K mg base 2 "is_round" sp_is_round := by
  refine cal D sc_is_round (fun vs H Q E h => ?_) (fun f cdv A outer s H vs Q E hr h => ?_)
  · obtain ⟨a, p, q, b, W, trs, ro, rfl, _⟩ := h
    rfl
  · obtain ⟨a, p, q, b, W, trs, ro, rfl, h, ok, hb, rk, k⟩ := h
    refine ⟨_, (pss_one (ps_ret (pe_and (pe_callB (r := rIsi K) call_isi (by rfl) T.isinstance (by decide +kernel) (pa_cons (pv 1) (pa_cons (pe_bltn (v := .ty "tuple") (u := .type "tuple") (by rfl) T.tuple (by decide +kernel) rfl) pa_nil))) (pe_one (pc c_are_of hr (by decide) (by rfl) (pa_cons (pv 1) (pa_cons (pc c_names_of_roads hr (by decide) (by rfl) (pa_cons (pv 0) pa_nil)) pa_nil))))))), ?_⟩
    exact s_ret (v := .bl true) (ev_andV (a := true) (b := true) (ev_isTup (ev_var rfl) hb) fun _ => spv_are_of_names h ok hb rk (ev_var rfl) (ev_var rfl)) k
/-- a week that is one rota -/
def sp_need_week : Sp := fun vs H Q _ => ∃ (a p q c b : Addr) (W : Web) (trs : List (Addr × Road)) (ro : List Str), vs = [.ref a, .ref c] ∧ WebAt H a W p q trs ∧ WebOk W ∧ Tp H c [.ref b] ∧ Tp H b (ro.map V.str) ∧ RotaOk W ro ∧ ∀ H', Ex H H' → Q .non H'
theorem ok_need_week (T : Top mg tk) (D : DefAt K mg "need_week" s_need_week ["web", "week"]) (c_is_row_of : Cal P w K mg base 1 "is_row_of" sp_is_row_of) (c_is_round : Cal P w K mg base 2 "is_round" sp_is_round) : Cal P w K mg base 3 "need_week" sp_need_week := by
  refine cal D sc_need_week (fun vs H Q E h => ?_) (fun f cdv A outer s H vs Q E hr h => ?_)
  · obtain ⟨a, p, q, c, b, W, trs, ro, rfl, _⟩ := h
    rfl
  · obtain ⟨a, p, q, c, b, W, trs, ro, rfl, h, ok, hc, hb, rk, k⟩ := h
    refine ⟨_, (pss_one (ps_if (PW.pt (pw_or (pt_not (pt_val (pc c_is_row_of hr (by decide) (by rfl) (pa_cons (pv 1) (pa_cons pe_int (pa_cons (pe_glob (v := .int 4) rfl T.g_MOST_ROUNDS ⟨_, rfl⟩) pa_nil)))))) (pw_or1 (pt_not (pt_val (pe_callB (r := rAll K) (cr_all rfl) (by rfl) T.all (by decide +kernel) (pa_cons (pe_lc (g := (gName 2)) (own := [("one", 2)]) rfl sc_need_week.nd (pi_tup (pv 1)) (blkOk_by (N := N_need_week) (sc := defScope s_need_week) (by decide +kernel)) (fun _ _ _ _ _ => (pg_name (i := 2) sc_need_week.nd rfl (.inl rfl))) (fun _ _ _ _ _ => pts_nil) (fun _ _ _ _ _ => (pc c_is_round hr (by decide) (by rfl) (pa_cons (pv 0) (pa_cons (pv 2) pa_nil))))) pa_nil))))))) (pss_one ps_never) pss_nil)), ?_⟩
    refine s_need (et_or (a := false) (b := false) (et_not (a := true) (et_B (ev_callV (ea_cons (ev_var rfl) (ea_cons ev_c (ea_cons ev_c ea_nil))) (spv_is_row_of hc (by show (1 : Int) ≤ 1; omega) (by show (1 : Int) ≤ 4; omega))))) fun _ => et_not (a := true) (et_B (ev_all (bs := [true]) ?_))) k
    refine el_lcTm (K := K) [()] (fun _ => V.ref b) (fun _ => V.bl true) (ev_var rfl) hc (by show 1 ≤ 40000; omega) (fun _ => rfl) fun i x hx => ?_
    exact ev_callV (ea_cons (ev_var rfl) (ea_cons (ev_var rfl) ea_nil)) fun H1 e Q k E => ⟨a, p, q, b, W, trs, ro, rfl, h.ex e, ok, ex_rd e hb, rk, k⟩
def sp_round_of : Sp := fun vs H Q _ => ∃ (c b : Addr) (day : Int), vs = [.ref c, .int day] ∧ Tp H c [.ref b] ∧ ∀ H', Ex H H' → Q (.ref b) H'
theorem fmod_one (x : Int) : x.fmod 1 = 0 := by
  rw [Int.fmod_eq_emod_of_nonneg x (by decide : (0 : Int) ≤ 1)]
  exact Int.emod_one x
theorem ok_round_of (T : Top mg tk) (D : DefAt K mg "round_of" s_round_of ["week", "day"]) : Cal P w K mg base 1 "round_of" sp_round_of := by
  refine cal D sc_round_of (fun vs H Q E h => ?_) (fun f cdv A outer s H vs Q E hr h => ?_)
  · obtain ⟨c, b, day, rfl, _⟩ := h
    rfl
  · obtain ⟨c, b, day, rfl, h, k⟩ := h
    refine ⟨_, (pss_one (ps_ret (pe_ix (r := rIxT K) ix_tup (pv 0) (pe_op op_modN (pe_op op_sub (pv 1) pe_int) (pe_callB (r := Evl.rLenS K) call_len_seq (by rfl) T.len PySem.boot_len (pa_cons (pv 0) pa_nil))) (fun _ _ => rfl)))), ?_⟩
    have e0 : ((day - 1).fmod ((([V.ref b] : List V).length : Nat) : Int)) = 0 := fmod_one _
    exact s_ret (v := .ref b) (ev_t (ev_var rfl) h (ev_is (ev_op (ev_op (ev_var rfl) ev_c rv_I0) (ev_lenT (ev_var rfl) h) (rv_I (by show ((1 : Nat) : Int) ≠ 0; omega))) (by rw [e0])) rfl) k
end
end RP
/-! part RPm1 -/
/-! plain: dicts by texts, steps, ways, rings -/
namespace RP
open PySem PySem.Spec PyProof.Rows L2 Evl
/-! ### look -/
def look {α : Type} (d : List (Str × α)) (x : Str) : Option α := (d.find? fun e => decide (e.1 = x)).map (·.2)
theorem look_nil {α : Type} (x : Str) : look ([] : List (Str × α)) x = none := rfl
theorem look_pos {α : Type} {e : Str × α} {d : List (Str × α)} {x : Str} (h : e.1 = x) : look (e :: d) x = some e.2 := by simp [look, List.find?_cons, h]
theorem look_neg {α : Type} {e : Str × α} {d : List (Str × α)} {x : Str} (h : ¬ e.1 = x) : look (e :: d) x = look d x := by simp [look, List.find?_cons, h]
theorem look_snoc {α : Type} {x : Str} {v : α} (y : Str) : ∀ {d : List (Str × α)}, look d x = none → look (d ++ [(x, v)]) y = if y = x then some v else look d y
  | [], _ => by
    by_cases e : x = y
    · rw [if_pos e.symm]; exact look_pos (e := (x, v)) e
    · rw [if_neg fun z => e z.symm]; exact look_neg (e := (x, v)) e
  | a :: d, h => by
    have hx : ¬ a.1 = x := fun z => by rw [look_pos z] at h; cases h
    rw [look_neg hx] at h
    by_cases e : a.1 = y
    · rw [List.cons_append, look_pos e, look_pos e, if_neg fun z => hx (e.trans z)]
    · rw [List.cons_append, look_neg e, look_neg e, look_snoc y h]
theorem look_some_mem {α : Type} {x : Str} {v : α} : ∀ {d : List (Str × α)}, look d x = some v → (x, v) ∈ d
  | [], h => by cases h
  | a :: d, h => by
    by_cases e : a.1 = x
    · rw [look_pos e] at h
      cases h
      rw [← e]
      exact List.mem_cons_self
    · rw [look_neg e] at h
      exact List.mem_cons_of_mem _ (look_some_mem h)
theorem look_none_iff {α : Type} {x : Str} : ∀ {d : List (Str × α)}, look d x = none ↔ x ∉ d.map (·.1)
  | [] => by simp [look]
  | a :: d => by
    by_cases e : a.1 = x
    · rw [look_pos e]
      simp [e]
    · rw [look_neg e, look_none_iff]
      simp only [List.map_cons, List.mem_cons, not_or]
      exact ⟨fun h => ⟨fun z => e z.symm, h⟩, fun h => h.2⟩
theorem look_mem_nd {α : Type} {x : Str} {v : α} : ∀ {d : List (Str × α)}, (d.map (·.1)).Nodup → (x, v) ∈ d → look d x = some v
  | [], _, h => nomatch h
  | a :: d, nd, h => by
    rw [List.map_cons, List.nodup_cons] at nd
    rcases List.mem_cons.mp h with e | h
    · rw [← e]; exact look_pos rfl
    · have : ¬ a.1 = x := fun z => nd.1 (by rw [z]; exact List.mem_map_of_mem (f := (·.1)) h)
      rw [look_neg this]
      exact look_mem_nd nd.2 h
def dkv {α : Type} (enc : α → V) (d : List (Str × α)) : List (Key × V) := d.map fun e => ((Sum.inr e.1 : Key), enc e.2)
theorem dkv_len {α : Type} (enc : α → V) (d : List (Str × α)) : (dkv enc d).length = d.length := List.length_map ..
theorem inr_inj {a b : Str} : ((Sum.inr a : Key) = Sum.inr b) ↔ a = b := ⟨fun h => Sum.inr.inj h, fun h => by rw [h]⟩
theorem valV_dkv {α : Type} (enc : α → V) (x : Str) : ∀ d : List (Str × α), valV (dkv enc d) (Sum.inr x : Key) = (look d x).map enc
  | [] => rfl
  | e :: d => by
    by_cases h : e.1 = x
    · rw [look_pos h]
      exact valV_pos (p := ((Sum.inr e.1 : Key), enc e.2)) (by rw [h])
    · rw [look_neg h, ← valV_dkv enc x d]
      exact valV_neg (p := ((Sum.inr e.1 : Key), enc e.2)) fun z => h (inr_inj.mp z)
theorem putK_dkv {α : Type} {enc : α → V} {d : List (Str × α)} {x : Str} (v : α) (h : look d x = none) : putK (dkv enc d) (Sum.inr x : Key) (enc v) = dkv enc (d ++ [(x, v)]) := by
  have e : valV (dkv enc d) (Sum.inr x : Key) = none := by rw [valV_dkv, h] <;> rfl
  rw [putK_new _ e, dkv, dkv, List.map_append] <;> rfl
/-! ### lists without repeats -/
theorem nodup_le {α : Type} [BEq α] [LawfulBEq α] : ∀ {l m : List α}, l.Nodup → (∀ x ∈ l, x ∈ m) → l.length ≤ m.length
  | [], _, _, _ => Nat.zero_le _
  | x :: l, m, nd, h => by
    rw [List.nodup_cons] at nd
    have hx := h x List.mem_cons_self
    have hl : ∀ y ∈ l, y ∈ m.erase x := fun y hy => by
      have hne : y ≠ x := fun z => nd.1 (by rw [← z]; exact hy)
      exact (List.mem_erase_of_ne hne).mpr (h y (List.mem_cons_of_mem _ hy))
    have ih := nodup_le nd.2 hl
    have hp : 0 < m.length := List.length_pos_of_mem hx
    rw [List.length_erase_of_mem hx] at ih
    rw [List.length_cons]
    omega
/-- as many without repeats: all of them -/
theorem nodup_all {α : Type} [BEq α] [LawfulBEq α] : ∀ {l m : List α}, l.Nodup → (∀ x ∈ l, x ∈ m) → m.length ≤ l.length → ∀ y ∈ m, y ∈ l := by
  intro l m nd h hl y hy
  rcases Classical.em (y ∈ l) with hyl | hyl
  · exact hyl
  · have h2 := nodup_le (l := y :: l) (m := m) (List.nodup_cons.mpr ⟨hyl, nd⟩) fun x hx => by
      rcases List.mem_cons.mp hx with e | hx
      · rw [e]; exact hy
      · exact h x hx
    rw [List.length_cons] at h2
    omega
/-! ### roads -/
def tch (p : Str) (r : Road) : Prop := p ∈ [r.2.1, r.2.2]
instance (p : Str) (r : Road) : Decidable (tch p r) := inferInstanceAs (Decidable (p ∈ [r.2.1, r.2.2]))
theorem tch_iff {p : Str} {r : Road} : tch p r ↔ p = r.2.1 ∨ p = r.2.2 := by simp [tch]
theorem tch_oend {p : Str} {r : Road} (h : tch p r) : tch (oend r p) r := by
  rw [tch_iff]
  unfold oend
  split
  · exact .inr rfl
  · exact .inl rfl
theorem oend_oend {p : Str} {r : Road} (h : tch p r) : oend r (oend r p) = p := by
  rw [tch_iff] at h
  unfold oend
  by_cases e : r.2.1 = p
  · rw [if_pos e]
    by_cases e2 : r.2.1 = r.2.2
    · rw [if_pos e2, ← e2, e]
    · rw [if_neg e2, e]
  · rw [if_neg e]
    rcases h with h | h
    · exact absurd h.symm e
    · rw [if_pos rfl, h]
/-! ### steps -/
structure Bfs (R : List Road) (p : Str) (d : List (Str × Int)) (left : List Str) (ex : Str → Road → Prop) : Prop where
  st : look d p = some 0
  nn : ∀ x n, look d x = some n → 0 ≤ n
  par : ∀ x n, look d x = some n → x = p ∨ ∃ r ∈ R, tch x r ∧ look d (oend r x) = some (n - 1)
  lf : ∀ x ∈ left, look d x ≠ none
  cl : ∀ x, look d x ≠ none → x ∉ left → ∀ r ∈ R, tch x r → ¬ ex x r → look d (oend r x) ≠ none
  nd : (d.map (·.1)).Nodup
  un : ∀ x ∈ d.map (·.1), x ∈ p :: R.flatMap fun r => [r.2.1, r.2.2]
theorem flat_len : ∀ R : List Road, (R.flatMap fun r => [r.2.1, r.2.2]).length = 2 * R.length
  | [] => rfl
  | r :: R => by
    rw [List.flatMap_cons, List.length_append, flat_len R]
    show 2 + 2 * R.length = 2 * (R.length + 1)
    omega
theorem Bfs.len {R : List Road} {p : Str} {d : List (Str × Int)} {left : List Str} {ex : Str → Road → Prop} (b : Bfs R p d left ex) : d.length ≤ 2 * R.length + 1 := by
  have h := nodup_le b.nd b.un
  rw [List.length_map, List.length_cons, flat_len] at h
  exact h
abbrev noEx : Str → Road → Prop := fun _ _ => False
abbrev exAt (here : Str) (pre : List Road) : Str → Road → Prop := fun x r => x = here ∧ r ∉ pre
theorem Bfs.init (R : List Road) (p : Str) : Bfs R p [(p, 0)] [p] noEx where
  st := look_pos rfl
  nn := fun x n h => by
    by_cases e : p = x
    · rw [look_pos (e := (p, (0 : Int))) e] at h; cases h; exact Int.le_refl _
    · rw [look_neg (e := (p, (0 : Int))) e] at h; cases h
  par := fun x n h => by
    by_cases e : p = x
    · exact .inl e.symm
    · rw [look_neg (e := (p, (0 : Int))) e] at h; cases h
  lf := fun x hx => by
    rw [List.mem_singleton.mp hx, look_pos rfl]
    exact fun z => nomatch z
  cl := fun x h hx => by
    by_cases e : p = x
    · exact absurd (by rw [e]; exact List.mem_cons_self) hx
    · rw [look_neg (e := (p, (0 : Int))) e] at h; exact absurd rfl h
  nd := by simp
  un := fun x hx => by
    rw [List.mem_singleton.mp hx]
    exact List.mem_cons_self
theorem Bfs.pop {R : List Road} {p here : Str} {d : List (Str × Int)} {left : List Str} (b : Bfs R p d (here :: left) noEx) : Bfs R p d left (exAt here []) :=
  { b with
    lf := fun x hx => b.lf x (List.mem_cons_of_mem _ hx)
    cl := fun x h hx r hr ht he => by
      by_cases e : x = here
      · exact absurd ⟨e, List.not_mem_nil⟩ he
      · exact b.cl x h (fun z => (List.mem_cons.mp z).elim e hx) r hr ht (fun z => z) }
theorem Bfs.skip {R : List Road} {p here : Str} {d : List (Str × Int)} {left : List Str} {pre : List Road} {r : Road} (b : Bfs R p d left (exAt here pre)) (h : tch here r → look d (oend r here) ≠ none) : Bfs R p d left (exAt here (pre ++ [r])) :=
  { b with
    cl := fun x hx hl r' hr ht he => by
      by_cases e : x = here
      · by_cases e2 : r' = r
        · rw [e, e2]
          exact h (by rw [← e, ← e2]; exact ht)
        · exact b.cl x hx hl r' hr ht fun z => he ⟨z.1, fun m => (List.mem_append.mp m).elim z.2 fun m => e2 (List.mem_singleton.mp m)⟩
      · exact b.cl x hx hl r' hr ht fun z => e z.1 }
theorem Bfs.add {R : List Road} {p here : Str} {d : List (Str × Int)} {left : List Str} {pre : List Road} {r : Road} {n : Int} (b : Bfs R p d left (exAt here pre)) (hr : r ∈ R) (ht : tch here r) (hh : look d here = some n) (ho : look d (oend r here) = none) :
    Bfs R p (d ++ [(oend r here, n + 1)]) (left ++ [oend r here]) (exAt here (pre ++ [r])) := by
  have hne : ∀ x v, look d x = some v → x ≠ oend r here := fun x v h z => by rw [z, ho] at h; cases h
  have keep : ∀ x v, look d x = some v → look (d ++ [(oend r here, n + 1)]) x = some v := fun x v h => by rw [look_snoc x ho, if_neg (hne x v h), h]
  have keepN : ∀ x, look d x ≠ none → look (d ++ [(oend r here, n + 1)]) x ≠ none := fun x h => by
    cases e : look d x with
    | none => exact absurd e h
    | some v => rw [keep x v e]; exact fun z => nomatch z
  refine { st := keep _ _ b.st, nn := fun x m h => ?_, par := fun x m h => ?_, lf := fun x hx => ?_, cl := fun x hx hl r' hr' ht' he => ?_, nd := ?_, un := fun x hx => ?_ }
  · rw [look_snoc x ho] at h
    by_cases e : x = oend r here
    · rw [if_pos e] at h
      have := b.nn _ _ hh
      cases h
      omega
    · rw [if_neg e] at h; exact b.nn x m h
  · rw [look_snoc x ho] at h
    by_cases e : x = oend r here
    · rw [if_pos e] at h
      cases h
      refine .inr ⟨r, hr, by rw [e]; exact tch_oend ht, ?_⟩
      rw [e, oend_oend ht, keep _ _ hh]
      congr 1
      omega
    · rw [if_neg e] at h
      rcases b.par x m h with h1 | ⟨r', hr', ht', hl'⟩
      · exact .inl h1
      · exact .inr ⟨r', hr', ht', keep _ _ hl'⟩
  · rcases List.mem_append.mp hx with hx | hx
    · exact keepN x (b.lf x hx)
    · rw [List.mem_singleton.mp hx, look_snoc _ ho, if_pos rfl]
      exact fun z => nomatch z
  · have hx2 : x ≠ oend r here := fun z => hl (by rw [z]; exact List.mem_append_right _ List.mem_cons_self)
    have hx3 : look d x ≠ none := fun z => hx (by rw [look_snoc x ho, if_neg hx2, z])
    have hl2 : x ∉ left := fun z => hl (List.mem_append_left _ z)
    by_cases e : x = here
    · by_cases e2 : r' = r
      · rw [e, e2, look_snoc _ ho, if_pos rfl]
        exact fun z => nomatch z
      · exact keepN _ (b.cl x hx3 hl2 r' hr' ht' fun z => he ⟨z.1, fun m => (List.mem_append.mp m).elim z.2 fun m => e2 (List.mem_singleton.mp m)⟩)
    · exact keepN _ (b.cl x hx3 hl2 r' hr' ht' fun z => e z.1)
  · rw [List.map_append, List.nodup_append]
    refine ⟨b.nd, by simp, fun a ha c hc e => ?_⟩
    have hc2 : c = oend r here := by simpa using hc
    exact look_none_iff.mp ho (by rw [← hc2, ← e]; exact ha)
  · rw [List.map_append] at hx
    rcases List.mem_append.mp hx with hx | hx
    · exact b.un x hx
    · have e : x = oend r here := by simpa using hx
      rw [e]
      exact List.mem_cons_of_mem _ (List.mem_flatMap.mpr ⟨r, hr, tch_oend ht⟩)
theorem Bfs.all {R : List Road} {p here : Str} {d : List (Str × Int)} {left : List Str} (b : Bfs R p d left (exAt here R)) : Bfs R p d left noEx :=
  { b with cl := fun x hx hl r hr ht _ => b.cl x hx hl r hr ht fun z => z.2 hr }
/-- what steps_from gives -/
structure Steps (R : List Road) (p : Str) (d : List (Str × Int)) : Prop where
  st : look d p = some 0
  nn : ∀ x n, look d x = some n → 0 ≤ n
  par : ∀ x n, look d x = some n → x = p ∨ ∃ r ∈ R, tch x r ∧ look d (oend r x) = some (n - 1)
  cl : ∀ x, look d x ≠ none → ∀ r ∈ R, tch x r → look d (oend r x) ≠ none
theorem Bfs.steps {R : List Road} {p : Str} {d : List (Str × Int)} (b : Bfs R p d [] noEx) : Steps R p d := ⟨b.st, b.nn, b.par, fun x hx r hr ht => b.cl x hx List.not_mem_nil r hr ht fun z => z⟩
/-! ### ways that fall -/
/-- roads gone one behind another from x to y, each place with a lesser number than the one ahead -/
inductive DWalk (R : List Road) (d : List (Str × Int)) : Str → List Road → Str → Prop where
  | nil {x : Str} {n : Int} (h : look d x = some n) : DWalk R d x [] x
  | cons {x y : Str} {r : Road} {rs : List Road} {n m : Int} (hr : r ∈ R) (ht : tch x r) (hn : look d x = some n) (hm : look d (oend r x) = some m) (hl : m < n) (h : DWalk R d (oend r x) rs y) : DWalk R d x (r :: rs) y
theorem DWalk.start {R : List Road} {d : List (Str × Int)} {x y : Str} {rs : List Road} (h : DWalk R d x rs y) : ∃ n, look d x = some n := by
  cases h with
  | nil h => exact ⟨_, h⟩
  | cons _ _ h => exact ⟨_, h⟩
theorem DWalk.snoc {R : List Road} {d : List (Str × Int)} {x y : Str} {rs : List Road} {r : Road} {n m : Int} (h : DWalk R d x rs y) (hr : r ∈ R) (ht : tch y r) (hn : look d y = some n) (hm : look d (oend r y) = some m) (hl : m < n) : DWalk R d x (rs ++ [r]) (oend r y) := by
  induction h with
  | nil h => exact .cons hr ht hn hm hl (.nil hm)
  | cons a b c d' e _ ih => exact .cons a b c d' e (ih ht hn hm)
/-- the places come to -/
def pls : Str → List Road → List Str
  | _, [] => []
  | x, r :: rs => oend r x :: pls (oend r x) rs
theorem DWalk.less {R : List Road} {d : List (Str × Int)} {x y : Str} {rs : List Road} (h : DWalk R d x rs y) : ∀ z ∈ pls x rs, ∃ n m, look d x = some n ∧ look d z = some m ∧ m < n := by
  induction h with
  | nil h => exact fun z hz => nomatch hz
  | cons a b c e f _ ih =>
    intro z hz
    rcases List.mem_cons.mp hz with q | hz
    · rw [q]; exact ⟨_, _, c, e, f⟩
    · obtain ⟨n', m', h1, h2, h3⟩ := ih z hz
      rw [e] at h1
      cases h1
      exact ⟨_, _, c, h2, by omega⟩
theorem DWalk.nodup {R : List Road} {d : List (Str × Int)} {x y : Str} {rs : List Road} (h : DWalk R d x rs y) : (x :: pls x rs).Nodup := by
  induction h with
  | nil h => exact List.nodup_cons.mpr ⟨List.not_mem_nil, List.nodup_nil⟩
  | cons a b c e f h ih =>
    refine List.nodup_cons.mpr ⟨fun z => ?_, ih⟩
    obtain ⟨n', m', h1, h2, h3⟩ := (DWalk.cons a b c e f h).less _ z
    rw [h1] at h2
    cases h2
    omega
theorem DWalk.last {R : List Road} {d : List (Str × Int)} {x y : Str} {rs : List Road} (h : DWalk R d x rs y) : (x :: pls x rs).getLast? = some y := by
  induction h with
  | nil h => rfl
  | cons a b c e f _ ih =>
    show (_ :: _ :: _).getLast? = _
    rw [List.getLast?_cons_cons]
    exact ih
/-- a road of it joins two places of it, the first with the greatest number -/
theorem DWalk.ends {R : List Road} {d : List (Str × Int)} {x y : Str} {rs : List Road} (h : DWalk R d x rs y) : ∀ r ∈ rs, r ∈ R ∧ ∀ z, tch z r → z ∈ x :: pls x rs := by
  induction h with
  | nil h => exact fun r hr => nomatch hr
  | @cons x y r rs n m a b c e f _ ih =>
    intro r' hr'
    rcases List.mem_cons.mp hr' with q | hr'
    · subst q
      refine ⟨a, fun z hz => ?_⟩
      by_cases e2 : z = x
      · rw [e2]; exact List.mem_cons_self
      · have e3 : z = oend r' x := by
          rw [tch_iff] at hz b
          unfold oend
          by_cases q : r'.2.1 = x
          · rw [if_pos q]
            rcases hz with hz | hz
            · exact absurd (hz.trans q) e2
            · exact hz
          · rw [if_neg q]
            rcases hz with hz | hz
            · exact hz
            · rcases b with b | b
              · exact absurd b.symm q
              · exact absurd (hz.trans b.symm) e2
        rw [e3]
        exact List.mem_cons_of_mem _ List.mem_cons_self
    · obtain ⟨h1, h2⟩ := ih r' hr'
      exact ⟨h1, fun z hz => List.mem_cons_of_mem _ (h2 z hz)⟩
theorem DWalk.roads {R : List Road} {d : List (Str × Int)} {x y : Str} {rs : List Road} (h : DWalk R d x rs y) : rs.Nodup := by
  induction h with
  | nil h => exact List.nodup_nil
  | @cons x y r rs n m a b c e f h ih =>
    refine List.nodup_cons.mpr ⟨fun z => ?_, ih⟩
    have h2 := (h.ends r z).2 x b
    have nd := (DWalk.cons a b c e f h).nodup
    rw [List.nodup_cons] at nd
    exact nd.1 h2
theorem DWalk.len {R : List Road} {d : List (Str × Int)} {x y : Str} {rs : List Road} (h : DWalk R d x rs y) : rs.length ≤ R.length := nodup_le h.roads fun r hr => (h.ends r hr).1
/-! ### ways by names -/
def rfind (R : List Road) (n : Str) : Option Road := R.find? fun r => decide (r.1 = n)
def wpl (R : List Road) : Str → List Str → Option (List Str)
  | _, [] => some []
  | x, n :: ns => match rfind R n with
    | none => none
    | some r => if tch x r then (wpl R (oend r x) ns).map (oend r x :: ·) else none
theorem rfind_mem {R : List Road} (nd : (R.map (·.1)).Nodup) {r : Road} (h : r ∈ R) : rfind R r.1 = some r := by
  induction R with
  | nil => exact nomatch h
  | cons a R ih =>
    rw [List.map_cons, List.nodup_cons] at nd
    unfold rfind
    rcases List.mem_cons.mp h with e | h
    · rw [e, List.find?_cons_of_pos (by simp)]
    · have : ¬ a.1 = r.1 := fun z => nd.1 (by rw [z]; exact List.mem_map_of_mem (f := (·.1)) h)
      rw [List.find?_cons_of_neg (by simpa using this)]
      exact ih nd.2 h
theorem wpl_of {R : List Road} (nd : (R.map (·.1)).Nodup) : ∀ {x : Str} {rs : List Road}, (∀ r ∈ rs, r ∈ R) → (∀ (x0 : Str) pre r post, rs = pre ++ r :: post → tch ((x :: pls x pre).getLast (List.cons_ne_nil _ _)) r) → wpl R x (rs.map (·.1)) = some (pls x rs)
  | x, [], _, _ => rfl
  | x, r :: rs, h, ht => by
    have h1 : tch x r := ht x [] r rs rfl
    rw [List.map_cons]
    unfold wpl
    rw [rfind_mem nd (h r List.mem_cons_self)]
    simp only [h1, if_true]
    rw [wpl_of nd (fun r' hr' => h r' (List.mem_cons_of_mem _ hr')) fun x0 pre r' post e => ?_]
    · rfl
    · have q := ht x (r :: pre) r' post (by rw [e]; rfl)
      have e3 : (x :: pls x (r :: pre)).getLast (List.cons_ne_nil _ _) = (oend r x :: pls (oend r x) pre).getLast (List.cons_ne_nil _ _) := List.getLast_cons (List.cons_ne_nil _ _)
      rw [e3] at q
      exact q
theorem DWalk.wpl {R : List Road} {d : List (Str × Int)} {x y : Str} {rs : List Road} (h : DWalk R d x rs y) {R' : List Road} (hs : ∀ r ∈ R, r ∈ R') (nd : (R'.map (·.1)).Nodup) : RP.wpl R' x (rs.map (·.1)) = some (pls x rs) := by
  induction h with
  | nil h => rfl
  | cons a b c e f _ ih =>
    rw [List.map_cons]
    unfold RP.wpl
    rw [rfind_mem nd (hs _ a)]
    simp only [b, if_true, ih]
    rfl
theorem wpl_app {R : List Road} : ∀ {x : Str} {ns ms : List Str} {pl : List Str}, wpl R x ns = some pl → wpl R x (ns ++ ms) = (wpl R ((x :: pl).getLast (List.cons_ne_nil _ _)) ms).map (pl ++ ·)
  | x, [], ms, pl, h => by
    cases h
    show wpl R x ms = (wpl R x ms).map ([] ++ ·)
    simp
  | x, n :: ns, ms, pl, h => by
    unfold wpl at h
    cases hr : rfind R n with
    | none => rw [hr] at h; cases h
    | some r =>
      rw [hr] at h
      by_cases ht : tch x r
      · simp only [ht, if_true] at h
        cases hq : wpl R (oend r x) ns with
        | none => rw [hq] at h; cases h
        | some pl' =>
          rw [hq] at h
          have e : pl = oend r x :: pl' := (Option.some.inj h).symm
          subst e
          have ih := wpl_app (ms := ms) hq
          have e2 : wpl R x (n :: ns ++ ms) = (wpl R (oend r x) (ns ++ ms)).map (oend r x :: ·) := by
            show wpl R x (n :: (ns ++ ms)) = _
            rw [wpl, hr]
            simp only [ht, if_true]
          have e3 : (x :: oend r x :: pl').getLast (List.cons_ne_nil _ _) = (oend r x :: pl').getLast (List.cons_ne_nil _ _) := List.getLast_cons (List.cons_ne_nil _ _)
          rw [e2, ih, e3, Option.map_map]
          rfl
      · simp only [ht, if_false] at h
        cases h
theorem wpl_len {R : List Road} : ∀ {x : Str} {ns pl : List Str}, wpl R x ns = some pl → pl.length = ns.length
  | x, [], pl, h => by cases h; rfl
  | x, n :: ns, pl, h => by
    unfold wpl at h
    cases hr : rfind R n with
    | none => rw [hr] at h; cases h
    | some r =>
      rw [hr] at h
      by_cases ht : tch x r
      · simp only [ht, if_true] at h
        cases hq : wpl R (oend r x) ns with
        | none => rw [hq] at h; cases h
        | some pl' =>
          rw [hq] at h
          cases h
          rw [List.length_cons, List.length_cons, wpl_len hq]
      · simp only [ht, if_false] at h
        cases h
/-- a ring, by names -/
structure RingOk (R : List Road) (ps : List Str) (rg : List Str) : Prop where
  sub : ∀ n ∈ rg, n ∈ R.map (·.1)
  two : 2 ≤ rg.length
  nd : rg.Nodup
  run : ∃ p ∈ ps, ∃ pl, wpl R p rg = some pl ∧ pl.getLast? = some p ∧ pl.Nodup
theorem map_nodup_of {R : List Road} (nd : (R.map (·.1)).Nodup) : ∀ {rs : List Road}, rs.Nodup → (∀ r ∈ rs, r ∈ R) → (rs.map (·.1)).Nodup
  | [], _, _ => List.nodup_nil
  | r :: rs, h, hs => by
    rw [List.nodup_cons] at h
    rw [List.map_cons, List.nodup_cons]
    refine ⟨fun z => ?_, map_nodup_of nd h.2 fun r' hr' => hs r' (List.mem_cons_of_mem _ hr')⟩
    obtain ⟨r', hr', e⟩ := List.mem_map.mp z
    have h1 := rfind_mem nd (hs r' (List.mem_cons_of_mem _ hr'))
    have h2 := rfind_mem nd (hs r List.mem_cons_self)
    rw [e, h2] at h1
    cases h1
    exact h.1 hr'
/-- a road and a falling way from its other end back: a ring -/
theorem ring_of_walk {R kept : List Road} {ps : List Str} {d : List (Str × Int)} {r : Road} {rs : List Road} (nd : (R.map (·.1)).Nodup) (hr : r ∈ R) (hk : ∀ k ∈ kept, k ∈ R) (hn : r ∉ kept) (hp : r.2.1 ∈ ps) (hne : r.2.1 ≠ r.2.2) (h : DWalk kept d r.2.2 rs r.2.1) :
    RingOk R ps ((r :: rs).map (·.1)) := by
  have hsub : ∀ x ∈ r :: rs, x ∈ R := fun x hx => by
    rcases List.mem_cons.mp hx with e | hx
    · rw [e]; exact hr
    · exact hk x (h.ends x hx).1
  have hndr : (r :: rs).Nodup := List.nodup_cons.mpr ⟨fun z => hn (h.ends r z).1, h.roads⟩
  have e1 : oend r r.2.1 = r.2.2 := if_pos rfl
  refine ⟨fun n hm => ?_, ?_, map_nodup_of nd hndr hsub, r.2.1, hp, r.2.2 :: pls r.2.2 rs, ?_, h.last, h.nodup⟩
  · obtain ⟨x, hx, rfl⟩ := List.mem_map.mp hm
    exact List.mem_map_of_mem (hsub x hx)
  · rw [List.length_map, List.length_cons]
    cases rs with
    | nil => exact absurd (Option.some.inj h.last).symm hne
    | cons a b => rw [List.length_cons]; omega
  · have h2 := h.wpl (R' := R) hk nd
    rw [List.map_cons]
    unfold wpl
    rw [rfind_mem nd hr]
    have ht : tch r.2.1 r := by rw [tch_iff]; exact .inl rfl
    simp only [ht, if_true]
    rw [e1, h2]
    rfl
end RP
/-! part RPd3 -/
/-! turned, backwards; steps_from, first_way -/
namespace RP
open PySem PySem.Spec PyProof.Rows L2 Evl
section
variable {K : PySem.W.Frag} {σ : L2.St} {H H' : Hp} {ta tb te td ty tv : TE} {a : Addr} {xs : List V} {D : Ends} {tz : TS}
/-- a slice, the whole being the tuple itself -/
theorem evp_slW {tl th : TO} {lo hi : Option Int} (ha : Ev ta σ H (.ref a)) (h : Tp H a xs) (hl : EvO tl σ H lo) (hh : EvO th σ H hi) : EvP (tSl (rSlA K) ta tl th) σ H (fun v H' => ∃ p, v = .ref p ∧ Tp H' p (cutV xs lo hi) ∧ (HT.sIx xs.length 0 lo = 0 ∧ HT.sIx xs.length xs.length hi = xs.length → p = a)) := fun H1 e Q q =>
  ha H1 e _ fun H2 e2 => hl H2 (e.trans e2) _ fun H3 e3 => hh H3 ((e.trans e2).trans e3) _ fun H4 e4 => by
    have hx : Tp H4 a xs := ex_rd (((e.trans e2).trans e3).trans e4) h
    refine ⟨a, xs, rfl, .inl hx, fun z => ?_, fun z p hp => ?_⟩
    · refine q _ _ ((e2.trans e3).trans e4) ⟨a, rfl, ?_, fun _ => rfl⟩
      rw [cut_whole z]
      exact hx
    · exact q _ _ (((e2.trans e3).trans e4).trans (Ex.new hp)) ⟨p, rfl, .inl upd_same, fun z' => absurd z' z⟩
/-- t[c:] + t[:c] -/
theorem evp_turn {tc td : TE} {c : Nat} (ha : Ev ta σ H (.ref a)) (hb : Ev tb σ H (.ref a)) (h : TFV H a xs) (hc : Ev tc σ H (.int (c : Int))) (hd : Ev td σ H (.int (c : Int))) (hl : c ≤ xs.length) (hz : xs.length ≤ 1000) :
    EvP (tOp (rCatF K) (tSl (rSlA K) ta (tPart tc) tNoPart) (tSl (rSlA K) tb tNoPart (tPart td))) σ H (IsTF (xs.drop c ++ xs.take c)) := fun H1 e Q q =>
  evp_slW ha h.tp (eo_some hc) eo_none H1 e _ fun v H2 e2 ⟨p, hv, hp, hpw⟩ => evp_slW hb h.tp eo_none (eo_some hd) H2 (e.trans e2) _ fun v' H3 e3 ⟨p', hv', hp', hpw'⟩ => by
    subst hv hv'
    rw [cut_from (α := V) xs c hl] at hp
    rw [cut_to xs c hl] at hp'
    have hf : TFV H3 a xs := h.ex ((e.trans e2).trans e3)
    refine ⟨p, p', xs.drop c, xs.take c, rfl, rfl, .inl (ex_rd e3 hp), .inl hp', ?_, fun z => ?_, fun z z' => ?_, fun z z' pp o hn ho => ?_⟩
    · rw [List.length_drop, List.length_take]
      have : sizeLine = 16777216 := sizeLine_eq
      omega
    · have hcl : xs.length ≤ c := List.drop_eq_nil_iff.mp z
      have e1 : p' = a := hpw' ⟨HT.sIx_none .., by rw [HT.sIx_nat]; omega⟩
      rw [e1]
      refine q _ _ (e2.trans e3) ⟨a, rfl, ?_⟩
      rw [z, List.nil_append, List.take_of_length_le hcl]
      exact hf
    · have h0 : c = 0 ∨ xs = [] := by
        rcases List.take_eq_nil_iff.mp z' with q | q
        · exact .inl q
        · exact .inr q
      have h0' : c = 0 := by
        rcases h0 with q | q
        · exact q
        · rw [q] at hl; exact Nat.le_zero.mp hl
      subst h0'
      have e1 : p = a := hpw ⟨by rw [HT.sIx_nat]; omega, HT.sIx_none ..⟩
      rw [e1]
      refine q _ _ (e2.trans e3) ⟨a, rfl, ?_⟩
      rw [List.drop_zero, List.take_zero, List.append_nil]
      exact hf
    · exact q _ _ ((e2.trans e3).trans (Ex.new hn)) ⟨pp, rfl, o, upd_same, ho⟩
/-! ### dicts -/
theorem ev_din {α : Type} {enc : α → V} {d : List (Str × α)} {s : Str} (hk : Ev ty σ H (.str s)) (hd : Ev td σ H (.ref a)) (h : H a = some (.dK (dkv enc d))) : Ev (tDIn ty td) σ H (.bl (look d s).isSome) := fun H1 e Q q =>
  hk H1 e _ fun H2 e2 => hd H2 (e.trans e2) _ fun H3 e3 => ⟨a, _, rfl, DGet.k (k := Sum.inr s) (((e.trans e2).trans e3) a _ h), by
    rw [valV_dkv, Option.isSome_map]
    exact q H3 (e2.trans e3)⟩
theorem ev_dnot {α : Type} {enc : α → V} {d : List (Str × α)} {s : Str} (hk : Ev ty σ H (.str s)) (hd : Ev td σ H (.ref a)) (h : H a = some (.dK (dkv enc d))) : Ev (tDNotIn ty td) σ H (.bl (look d s).isNone) := fun H1 e Q q =>
  hk H1 e _ fun H2 e2 => hd H2 (e.trans e2) _ fun H3 e3 => ⟨a, _, rfl, DGet.k (k := Sum.inr s) (((e.trans e2).trans e3) a _ h), by
    rw [valV_dkv, Option.isSome_map]
    have := q H3 (e2.trans e3)
    cases hl : look d s with
    | none => rw [hl] at this; exact this
    | some v => rw [hl] at this; exact this⟩
theorem ev_dget {α : Type} {enc : α → V} {d : List (Str × α)} {s : Str} {v : α} (hd : Ev td σ H (.ref a)) (hk : Ev ty σ H (.str s)) (h : H a = some (.dK (dkv enc d))) (hv : look d s = some v) : Ev (tDGet td ty) σ H (enc v) := fun H1 e Q q =>
  hd H1 e _ fun H2 e2 => hk H2 (e.trans e2) _ fun H3 e3 => by
    have g := DGet.k (k := Sum.inr s) (((e.trans e2).trans e3) a _ h)
    rw [valV_dkv, hv] at g
    exact ⟨a, enc v, rfl, g, q H3 (e2.trans e3)⟩
theorem s_dput {α : Type} {enc : α → V} {d : List (Str × α)} {s : Str} {v : α} (h : H a = some (.dK (dkv enc d))) (hv : Ev tv σ H (enc v)) (hd : Ev td σ H (.ref a)) (hk : Ev ty σ H (.str s)) (hn : look d s = none) (hl : d.length < 100000)
    (k : ∀ H1, Ex H H1 → D.nx σ (upd H1 a (.dK (dkv enc (d ++ [(s, v)]))))) : sDPut td ty tv D σ H := hv H (Ex.refl H) _ fun H1 e1 => hd H1 e1 _ fun H2 e2 => hk H2 (e1.trans e2) _ fun H3 e3 => by
  have g := k H3 ((e1.trans e2).trans e3)
  rw [← putK_dkv v hn] at g
  exact ⟨a, _, rfl, DPut.k (k := Sum.inr s) (((e1.trans e2).trans e3) a _ h) (by rw [dkv_len]; exact sz_lt hl), g⟩
theorem q_dput {α : Type} {enc : α → V} {d : List (Str × α)} {s : Str} {v : α} (h : H a = some (.dK (dkv enc d))) (hv : Ev tv σ H (enc v)) (hd : Ev td σ H (.ref a)) (hk : Ev ty σ H (.str s)) (hn : look d s = none) (hl : d.length < 100000)
    (k : ∀ H1, Ex H H1 → tz D σ (upd H1 a (.dK (dkv enc (d ++ [(s, v)]))))) : tSeq (sDPut td ty tv) tz D σ H := s_dput (D := { D with nx := tz D }) h hv hd hk hn hl k
/-- {k: v} -/
theorem q_disp1 {i : Nat} {s : Str} {v : V} (hk : ∀ H1, Ex H H1 → Ev ty σ H1 (.str s)) (hv : ∀ H1, Ex H H1 → Ev tv σ H1 v) (k : ∀ p H1, H p = none → Ex H H1 → H1 p = some (.dK [((Sum.inr s : Key), v)]) → tz D (σ.set i (some (.ref p))) H1) : tSeq (tAsg (tDisp [(ty, tv)]) (gName i)) tz D σ H := by
  intro p hp
  refine hk (upd H p (.dK [])) (Ex.new hp) _ (Ex.refl _) _ fun H1 e1 => ?_
  refine hv H1 ((Ex.new hp).trans e1) _ (Ex.refl _) _ fun H2 e2 => ?_
  have hd : H2 p = some (.dK []) := e2 p _ (e1 p _ upd_same)
  refine ⟨hd, [((Sum.inr s : Key), v)], rfl, by show 1 ≤ 15; omega, ?_⟩
  exact k p _ hp (Ex.mut (((Ex.new hp).trans e1).trans e2) hp) upd_same
/-! ### texts in lists compared -/
theorem dp_all {K : PySem.W.Frag} {H : Hp} : ∀ ss : List Str, DpAll K H (ss.map V.str) (ss.map PyData.str)
  | [] => .nil
  | s :: ss => .cons (.str s) (dp_all ss)
theorem lay_all : ∀ ss : List Str, (∀ s ∈ ss, PyData.strOk s = true) → PyData.canLayAll0 (ss.map PyData.str) = true
  | [], _ => by simp [PyData.canLayAll0]
  | s :: ss, h => by simp [PyData.canLayAll0, PyData.canLay0, lay_all ss fun y hy => h y (List.mem_cons_of_mem _ hy), h s List.mem_cons_self]
theorem depth_all : ∀ ss : List Str, PyData.depthAll (ss.map PyData.str) ≤ 1
  | [] => by simp [PyData.depthAll]
  | s :: ss => by
    have h := depth_all ss
    simp only [List.map_cons, PyData.depthAll, PyData.depth]
    omega
theorem shaped_l (ss : List Str) (hs : ∀ s ∈ ss, PyData.strOk s = true) : SeqAt.shaped (.list (ss.map PyData.str)) = true := by
  have h := depth_all ss
  show (PyData.canLay0 (.list (ss.map PyData.str)) && decide (PyData.depth (.list (ss.map PyData.str)) ≤ 64)) = true
  rw [Bool.and_eq_true]
  refine ⟨by simp only [PyData.canLay0]; exact lay_all ss hs, decide_eq_true ?_⟩
  simp only [PyData.depth]
  omega
theorem shaped_t (ss : List Str) (hs : ∀ s ∈ ss, PyData.strOk s = true) : SeqAt.shaped (.tuple (ss.map PyData.str)) = true := by
  have h := depth_all ss
  show (PyData.canLay0 (.tuple (ss.map PyData.str)) && decide (PyData.depth (.tuple (ss.map PyData.str)) ≤ 64)) = true
  rw [Bool.and_eq_true]
  refine ⟨by simp only [PyData.canLay0]; exact lay_all ss hs, decide_eq_true ?_⟩
  simp only [PyData.depth]
  omega
/-- l != [], l a list of texts that stands -/
theorem et_neNil {ss : List Str} (ha : Ev ta σ H (.ref a)) (h : H a = some (.lst (ss.map V.str))) (hs : ∀ s ∈ ss, PyData.strOk s = true) : EvT (tTest (tOp (rNeD K) ta (tLst tNil))) σ H (!ss.isEmpty) := fun H1 e Q q =>
  ha H1 e _ fun H2 e2 => ⟨Nat.zero_le _, fun p hp => by
    have h2 : upd H2 p (.lst []) a = some (.lst (ss.map V.str)) := by
      rw [upd_ne (ne_of_none ((e.trans e2) a _ h) hp)]
      exact (e.trans e2) a _ h
    refine ⟨.list (ss.map PyData.str), .list ([].map PyData.str), .lst (sq_of h2) (dp_all ss), .lst (sq_of upd_same) (dp_all []), shaped_l ss hs, shaped_l [] (fun _ z => nomatch z), (!ss.isEmpty), ?_, q _ (e2.trans (Ex.new hp))⟩
    cases ss with
    | nil => simp [PyData.eqv, PyData.eqvAll]
    | cons s ss => simp [PyData.eqv, PyData.eqvAll]⟩
end
section
variable {P : Program} {w : World} {K : PySem.W.Frag} {mg : Str → Option Value} {base : Heap} {tk : Nat → Tok}
/-! ### turned_rota, backwards -/
def sp_turned_rota : Sp := fun vs H Q _ => ∃ (a p q b : Addr) (W : Web) (trs : List (Addr × Road)) (ro : List Str) (c : Nat), vs = [.ref a, .ref b, .int (c : Int)] ∧ WebAt H a W p q trs ∧ WebOk W ∧ TF H b ro ∧ RotaOk W ro ∧ c ≤ ro.length ∧ ∀ d H', Ex H H' → TF H' d (ro.drop c ++ ro.take c) → Q (.ref d) H'
theorem okP_turned_rota (T : Top mg tk) (D : DefAt K mg "turned_rota" s_turned_rota ["web", "rota", "count"]) (c_need_web : Cal P w K mg base 4 "need_web" sp_need_web) (c_need_rota : Cal P w K mg base 3 "need_rota" sp_need_rota) (c_need_count : Cal P w K mg base 3 "need_count" sp_need_count) : CalP P w K mg base 5 "turned_rota" ["web", "rota", "count"] sp_turned_rota := by
  refine calP D sc_turned_rota (fun vs H Q E h => ?_) (fun f cdv A outer s H vs Q E hr h => ?_)
  · obtain ⟨a, p, q, b, W, trs, ro, c, rfl, _⟩ := h
    rfl
  · obtain ⟨a, p, q, b, W, trs, ro, c, rfl, h, ok, hb, rk, hc, k⟩ := h
    refine ⟨_, (pss_cons (ps_expr (pc c_need_web hr (by decide) (by rfl) (pa_cons (pv 0) pa_nil)))
        (pss_cons (ps_expr (pc c_need_rota hr (by decide) (by rfl) (pa_cons (pv 0) (pa_cons (pv 1) pa_nil))))
        (pss_cons (ps_expr (pc c_need_count hr (by decide) (by rfl) (pa_cons (pv 2) (pa_cons pe_int (pa_cons (pe_callB (r := Evl.rLenS K) call_len_seq (by rfl) T.len PySem.boot_len (pa_cons (pv 1) pa_nil)) pa_nil)))))
        (pss_one (ps_ret (pe_op (r := rCatF K) op_catF (pe_slice (r := rSlA K) sl_tupA (pv 1) (po_some (pv 2)) po_none) (pe_slice (r := rSlA K) sl_tupA (pv 1) po_none (po_some (pv 2))))))))), ?_⟩
    have hr14 := ok.r14
    have hlen := rk.len
    have hml : (ro.map V.str).length = ro.length := List.length_map ..
    refine q_drop (ev_callV (ea_cons (ev_var rfl) ea_nil) (spv_need_web h ok)) fun H1 e1 => ?_
    refine q_drop (ev_callV (ea_cons (ev_var rfl) (ea_cons (ev_var rfl) ea_nil)) (spv_need_rota (h.ex e1) ok (ex_rd e1 hb.tp) rk)) fun H2 e2 => ?_
    refine q_drop (ev_callV (ea_cons (ev_var rfl) (ea_cons ev_c (ea_cons (ev_lenT (ev_var rfl) (ex_rd (e1.trans e2) hb.tp)) ea_nil))) fun H' e Q q E => ⟨(c : Int), 0, _, rfl, by omega, by omega, q⟩) fun H3 e3 => ?_
    have e123 := (e1.trans e2).trans e3
    refine s_retP (evp_turn (K := K) (xs := ro.map V.str) (ev_var rfl) (ev_var rfl) (show TFV H3 b (ro.map V.str) from hb.ex e123) (ev_var rfl) (ev_var rfl) (by omega) (by omega)) fun v H4 e4 hv => ?_
    obtain ⟨d, rfl, hd⟩ := hv
    refine k d H4 (e123.trans e4) ?_
    show TFV H4 d _
    rw [List.map_append, List.map_drop, List.map_take]
    exact hd
def sp_backwards : Sp := fun vs H Q _ => ∃ (a p q b : Addr) (W : Web) (trs : List (Addr × Road)) (ro : List Str), vs = [.ref a, .ref b] ∧ WebAt H a W p q trs ∧ WebOk W ∧ Tp H b (ro.map V.str) ∧ RotaOk W ro ∧ ∀ d H', Ex H H' → TF H' d ro.reverse → Q (.ref d) H'
theorem okP_backwards (T : Top mg tk) (D : DefAt K mg "backwards" s_backwards ["web", "rota"]) (c_need_web : Cal P w K mg base 4 "need_web" sp_need_web) (c_need_rota : Cal P w K mg base 3 "need_rota" sp_need_rota) : CalP P w K mg base 5 "backwards" ["web", "rota"] sp_backwards := by
  refine calP D sc_backwards (fun vs H Q E h => ?_) (fun f cdv A outer s H vs Q E hr h => ?_)
  · obtain ⟨a, p, q, b, W, trs, ro, rfl, _⟩ := h
    rfl
  · obtain ⟨a, p, q, b, W, trs, ro, rfl, h, ok, hb, rk, k⟩ := h
    refine ⟨_, (pss_cons (ps_expr (pc c_need_web hr (by decide) (by rfl) (pa_cons (pv 0) pa_nil)))
        (pss_cons (ps_expr (pc c_need_rota hr (by decide) (by rfl) (pa_cons (pv 0) (pa_cons (pv 1) pa_nil))))
        (pss_one (ps_ret (pe_revT (pv 1)))))), ?_⟩
    refine q_drop (ev_callV (ea_cons (ev_var rfl) ea_nil) (spv_need_web h ok)) fun H1 e1 => ?_
    refine q_drop (ev_callV (ea_cons (ev_var rfl) (ea_cons (ev_var rfl) ea_nil)) (spv_need_rota (h.ex e1) ok (ex_rd e1 hb) rk)) fun H2 e2 => ?_
    refine ⟨.ref b, rfl, b, _, rfl, .inl (ex_rd (e1.trans e2) hb), fun d o hd ho => k d _ ((e1.trans e2).trans (Ex.new hd)) ⟨o, ?_, ho⟩⟩
    rw [upd_same, List.map_reverse]
/-! ### steps_from -/
theorem NameOk.strOk {s : Str} (h : NameOk s) : PyData.strOk s = true := by
  have hb : ∀ c ∈ SIG.cps.toList, c < 0x110000 := by decide +kernel
  show s.cps.all (· < 0x110000) = true
  rw [← Array.all_toList, List.all_eq_true]
  exact fun c hc => decide_eq_true (hb c (h.all c hc))
theorem cut_roadN (r : Road) : ¬ (HT.sIx (roadV r).length 0 (some 1) = 0 ∧ HT.sIx (roadV r).length (roadV r).length none = (roadV r).length) := fun z => absurd (show HT.sIx 3 0 (some 1) = 0 from z.1) (by decide)
/-- the ends of the roads are texts that may be laid -/
def EndsOk (trs : List (Addr × Road)) : Prop := ∀ y ∈ trs, PyData.strOk y.2.2.1 = true ∧ PyData.strOk y.2.2.2 = true
theorem EndsOk.uni {trs : List (Addr × Road)} {x : Str} (h : EndsOk trs) (hx : PyData.strOk x = true) : ∀ z ∈ x :: (trs.map (·.2)).flatMap (fun r => [r.2.1, r.2.2]), PyData.strOk z = true := fun z hz => by
  rcases List.mem_cons.mp hz with e | hz
  · rw [e]; exact hx
  · obtain ⟨r, hr, hz⟩ := List.mem_flatMap.mp hz
    obtain ⟨y, hy, rfl⟩ := List.mem_map.mp hr
    rcases List.mem_cons.mp hz with e | hz
    · rw [e]; exact (h y hy).1
    · rw [List.mem_singleton.mp hz]; exact (h y hy).2
def sp_steps_from : Sp := fun vs H Q _ => ∃ (a p q : Addr) (W : Web) (trs : List (Addr × Road)) (x : Str), vs = [.ref a, .str x] ∧ Tp H a [.ref p, .ref q] ∧ RoadsAt H q trs ∧ trs.length ≤ 100 ∧ PyData.strOk x = true ∧ EndsOk trs ∧ ∀ D d H', Ex H H' → H' D = some (.dK (dkv V.int d)) → Steps (trs.map (·.2)) x d → Q (.ref D) H'
/-- the state of the walk -/
def StSt (R : List Road) (x : Str) (H : Hp) (D Lf : Addr) (d : List (Str × Int)) (left : List Str) (ex : Str → Road → Prop) (H' : Hp) : Prop :=
  Ex H H' ∧ H' D = some (.dK (dkv V.int d)) ∧ H' Lf = some (.lst (left.map V.str)) ∧ Bfs R x d left ex
theorem ok_steps_from (T : Top mg tk) (D : DefAt K mg "steps_from" s_steps_from ["web", "place"]) (c_other_end : Cal P w K mg base 1 "other_end" sp_other_end) : Cal P w K mg base 2 "steps_from" sp_steps_from := by
  refine cal D sc_steps_from (fun vs H Q E h => ?_) (fun f cdv A outer s H vs Q E hr h => ?_)
  · obtain ⟨a, p, q, W, trs, x, rfl, _⟩ := h
    rfl
  · obtain ⟨a, p, q, W, trs, x, rfl, hw, hR, hl, hx, hE, k⟩ := h
    have hu := hu_of hr
    refine ⟨_, (pss_cons (ps_set (i := 2) sc_steps_from.nd rfl (.inl rfl) (pe_disp (pps_cons (pv 1) pe_int pps_nil) (by rfl) (by rfl) (fun z => by cases z) (by decide)))
        (pss_cons (ps_set (i := 3) sc_steps_from.nd rfl (.inl rfl) (pe_lst (pa_cons (pv 1) pa_nil)))
        (pss_cons (ps_while PassesOwn.never (pt_cmpR (r := rNeD K) (op_neD hr.units) (pv 3) (pe_lst pa_nil) (nomark _)) (pss_cons (ps_set (i := 4) sc_steps_from.nd rfl (.inl rfl) (pe_bm PySem.F.plainAttrs_list PySem.F.slot_list_pop PySem.F.type_list_pop mt_popAt (pv 3) (pa_cons pe_int pa_nil)))
        (pss_one (ps_for PassesOwn.never rfl (pi_tup (pe_ix (r := rIxT K) ix_tup (pv 0) pe_int (fun _ _ => rfl))) (pg_name (i := 5) sc_steps_from.nd rfl (.inl rfl)) (pss_one (ps_if (PW.pt (pw_and (pt_cmpR (r := rIn K false) op_in_seq (pv 4) (pe_slice (r := rSlA K) sl_tupA (pv 5) (po_some pe_int) po_none) (by rfl)) (pw_and1 (pt_cmp (pc_dnotin hu (pc c_other_end hr (by decide) (by rfl) (pa_cons (pv 5) (pa_cons (pv 4) pa_nil))) (pv 2)))))) (pss_cons (ps_dput hu (pv 2) (pc c_other_end hr (by decide) (by rfl) (pa_cons (pv 5) (pa_cons (pv 4) pa_nil))) (pe_op op_add (pe_dget hu (pv 2) (pv 4) (fun _ _ => rfl)) pe_int) rfl)
        (pss_one (ps_expr (pe_bm PySem.F.plainAttrs_list PySem.F.slot_list_append PySem.F.type_list_append mt_append (pv 3) (pa_cons (pc c_other_end hr (by decide) (by rfl) (pa_cons (pv 5) (pa_cons (pv 4) pa_nil))) pa_nil))))) pss_nil))))))
        (pss_one (ps_ret (pv 2)))))), ?_⟩
    refine q_disp1 (fun _ _ => ev_var rfl) (fun _ _ => ev_c) fun D0 H1 nD e1 hD => ?_
    refine q_asgL (el_lst (ea_cons (ev_var rfl) ea_nil) (by show 1 ≤ 100000; omega)) fun Lf H2 nL e2 hL => ?_
    have nL0 : H Lf = none := fresh_back e1 nL
    have hne : D0 ≠ Lf := fun z => by rw [← z, hD] at nL; cases nL
    have hRl : (trs.map (·.2)).length = trs.length := List.length_map ..
    refine q_while (fun m σ' H' => ∃ d left y4 y5, σ' = [some (.ref a), some (.str x), some (.ref D0), some (.ref Lf), y4, y5] ∧ StSt (trs.map (·.2)) x H D0 Lf d left noEx H' ∧ 2 * (2 * trs.length + 1 - d.length) + left.length ≤ m ∧ m ≤ 1000)
      (2 * (2 * trs.length + 1 - 1) + 1) ⟨[(x, 0)], [x], none, none, rfl, ⟨e1.trans e2, e2 D0 _ hD, hL, Bfs.init _ _⟩, by show 2 * (2 * trs.length + 1 - 1) + 1 ≤ _; omega, by omega⟩ fun m σ' H' hW => ?_
    obtain ⟨d, left, y4, y5, rfl, ⟨e0, hd, hlf, B⟩, hm, hm9⟩ := hW
    have hdl := B.len
    rw [hRl] at hdl
    refine ⟨!left.isEmpty, et_neNil (ev_var rfl) hlf (fun z hz => hE.uni hx z (B.un z (by by_cases q : z ∈ d.map (·.1); exact q; exact absurd (look_none_iff.mpr q) (B.lf z hz)))), fun hb H3 e3 => ?_, fun hb H3 e3 => ?_⟩
    · obtain ⟨here, rest, rfl⟩ : ∃ y r, left = y :: r := by
        cases left with
        | nil => cases hb
        | cons y r => exact ⟨y, r, rfl⟩
      obtain ⟨n, hn⟩ : ∃ n, look d here = some n := by
        cases q : look d here with
        | none => exact absurd q (B.lf here List.mem_cons_self)
        | some n => exact ⟨n, rfl⟩
      have m0 : m ≠ 0 := fun z => by rw [List.length_cons] at hm; omega
      refine ⟨fun σ2 H2 => ∃ d left y4 y5, σ2 = [some (.ref a), some (.str x), some (.ref D0), some (.ref Lf), y4, y5] ∧ StSt (trs.map (·.2)) x H D0 Lf d left noEx H2 ∧ 2 * (2 * trs.length + 1 - d.length) + left.length ≤ m - 1, fun σ2 H2 hN => ?_, ?_⟩
      · obtain ⟨d', left', z4, z5, h1, h2, h3⟩ := hN
        exact ⟨m - 1, by omega, d', left', z4, z5, h1, h2, h3, by omega⟩
      · -- here = left.pop(0)
        refine ⟨.ref Lf, rfl, .inl ⟨rfl, _, sq_of (e3 Lf _ hlf)⟩, Lf, _, 0, 0, .str here, rfl, rfl, e3 Lf _ hlf, by decide, by decide, ?_, rfl, ?_⟩
        · show seqIndex? 0 _ = some 0
          simp [seqIndex?]
        have er : ((here :: rest).map V.str).eraseIdx 0 = rest.map V.str := rfl
        rw [er]
        have e03 : Ex H (upd H3 Lf (.lst (rest.map V.str))) := Ex.mut (e0.trans e3) nL0
        refine s_forTp (K := K) trs (fun y => V.ref y.1) (ev_w1 (ev_var rfl) (ex_rd e03 hw)) (ex_rd e03 hR.1)
          (fun pre σ2 H2 => ∃ d left y5, σ2 = [some (.ref a), some (.str x), some (.ref D0), some (.ref Lf), some (.str here), y5] ∧ StSt (trs.map (·.2)) x H D0 Lf d left (exAt here (pre.map (·.2))) H2 ∧ look d here = some n ∧ 2 * (2 * trs.length + 1 - d.length) + left.length ≤ m - 1)
          (fun H4 e4 => ⟨d, rest, y5, rfl, ⟨e03.trans e4, e4 D0 _ (by rw [upd_ne hne]; exact e3 D0 _ hd), e4 Lf _ upd_same, B.pop⟩, hn, by rw [List.length_cons] at hm; omega⟩)
          (fun pre σ2 H2 ⟨_, _, _, _, z, _⟩ => ex_rd z.1 hR.1) ?_ ?_
        · rintro pre y post σ2 H4 et ⟨d', left', z5, rfl, ⟨e4, hd4, hl4, B4⟩, hn4, hm4⟩
          have hy : y ∈ trs := by rw [et]; exact List.mem_append_right _ List.mem_cons_self
          have hyR : y.2 ∈ trs.map (·.2) := List.mem_map_of_mem hy
          have hyT : Tp H4 y.1 (roadV y.2) := ex_rd e4 (hR.2 y hy)
          have hdl4 := B4.len
          rw [hRl] at hdl4
          have em : (pre ++ [y]).map (·.2) = pre.map (·.2) ++ [y.2] := by rw [List.map_append] <;> rfl
          refine s_if (b := decide (tch here y.2) && (look d' (oend y.2 here)).isNone) (et_and (a := decide (tch here y.2)) (b := (look d' (oend y.2 here)).isNone)
              (et_test (ev_inSl (K := K) (neg := false) (ev_var rfl) (ev_var rfl) hyT (eo_some ev_c) eo_none (cut_road y.2) (cut_roadN y.2))) fun _ => et_B (ev_dnot (enc := V.int) (ev_callV (ea_cons (ev_var rfl) (ea_cons (ev_var rfl) ea_nil)) (spv_other_end hyT)) (ev_var rfl) hd4)) (fun hb H5 e5 => ?_) (fun hb H5 e5 => ?_)
          · rw [Bool.and_eq_true] at hb
            have ht := of_decide_eq_true hb.1
            have hno : look d' (oend y.2 here) = none := Option.isNone_iff_eq_none.mp hb.2
            have B5 := B4.add hyR ht hn4 hno
            have hdl5 := B5.len
            rw [hRl, List.length_append, List.length_singleton] at hdl5
            have hy5 : Tp H5 y.1 (roadV y.2) := ex_rd e5 hyT
            refine q_dput (enc := V.int) (v := n + 1) (e5 D0 _ hd4) (ev_op (ev_dget (enc := V.int) (ev_var rfl) (ev_var rfl) (e5 D0 _ hd4) hn4) ev_c rv_I0) (ev_var rfl) (ev_callV (ea_cons (ev_var rfl) (ea_cons (ev_var rfl) ea_nil)) (spv_other_end hy5)) hno (by omega) fun H6 e6 => ?_
            have e46 : Ex H (upd H6 D0 (.dK (dkv V.int (d' ++ [(oend y.2 here, n + 1)])))) := Ex.mut ((e4.trans e5).trans e6) nD
            refine s_app (K := K) (l := Lf) (xs := left'.map V.str) (by rw [upd_ne hne.symm]; exact e6 Lf _ (e5 Lf _ hl4)) (ev_var rfl) (ev_callV (ea_cons (ev_var rfl) (ea_cons (ev_var rfl) ea_nil)) (spv_other_end (ex_rd e46 (hR.2 y hy)))) (by rw [List.length_map]; omega) fun H7 e7 => ?_
            refine ⟨d' ++ [(oend y.2 here, n + 1)], left' ++ [oend y.2 here], _, rfl, ⟨Ex.mut (e46.trans e7) nL0, ?_, ?_, ?_⟩, ?_, ?_⟩
            · rw [upd_ne hne]; exact e7 D0 _ upd_same
            · rw [upd_same, List.map_append] <;> rfl
            · rw [em]; exact B5
            · rw [look_snoc here hno, if_neg fun z => by rw [← z, hn4] at hno; cases hno]
              exact hn4
            · rw [List.length_append, List.length_append]
              show 2 * (2 * trs.length + 1 - (d'.length + 1)) + (left'.length + 1) ≤ m - 1
              omega
          · refine ⟨d', left', _, rfl, ⟨e4.trans e5, e5 D0 _ hd4, e5 Lf _ hl4, ?_⟩, hn4, hm4⟩
            rw [em]
            refine B4.skip fun ht hno => ?_
            rw [decide_eq_true ht, hno] at hb
            cases hb
        · rintro σ2 H4 ⟨d', left', z5, rfl, ⟨e4, hd4, hl4, B4⟩, hn4, hm4⟩
          exact ⟨d', left', _, _, rfl, ⟨e4, hd4, hl4, B4.all⟩, hm4⟩
    · have hnil : left = [] := by
        cases left with
        | nil => rfl
        | cons y r => cases hb
      subst hnil
      exact s_ret (ev_var rfl) fun H4 e4 => k D0 d H4 ((e0.trans e3).trans e4) (e4 D0 _ (e3 D0 _ hd)) B.steps
end
end RP
/-! part RPd4 -/
/-! first_way, way_places, is_way, ring_in_web, is_ring -/
namespace RP
open PySem PySem.Spec PyProof.Rows L2 Evl
theorem fm_filter {α β : Type} (L : List α) (p : α → Bool) (k : α → β) : L.filterMap (fun y => if p y then some (k y) else none) = (L.filter p).map k := by
  induction L with
  | nil => rfl
  | cons y L ih =>
    by_cases h : p y = true
    · rw [List.filter_cons_of_pos h, List.map_cons, ← ih]
      simp [List.filterMap_cons, h]
    · rw [List.filter_cons_of_neg h, ← ih]
      simp [List.filterMap_cons, h]
section
variable {P : Program} {w : World} {K : PySem.W.Frag} {mg : Str → Option Value} {base : Heap} {tk : Nat → Tok}
/-! ### first_way -/
def sp_first_way : Sp := fun vs H Q _ => ∃ (a p q : Addr) (trs : List (Addr × Road)) (x y : Str), vs = [.ref a, .str x, .str y] ∧ Tp H a [.ref p, .ref q] ∧ RoadsAt H q trs ∧ trs.length ≤ 100 ∧ PyData.strOk y = true ∧ EndsOk trs ∧
  (∀ H', Ex H H' → Q .non H') ∧ (∀ dd rs d H', Ex H H' → TFV H' dd (rs.map fun r : Road => V.str r.1) → DWalk (trs.map (·.2)) d x rs y → Q (.ref dd) H')
theorem ok_first_way (T : Top mg tk) (D : DefAt K mg "first_way" s_first_way ["web", "place", "other"]) (c_steps_from : Cal P w K mg base 2 "steps_from" sp_steps_from) (c_other_end : Cal P w K mg base 1 "other_end" sp_other_end) : Cal P w K mg base 3 "first_way" sp_first_way := by
  refine cal D sc_first_way (fun vs H Q E h => ?_) (fun f cdv A outer s H vs Q E hr h => ?_)
  · obtain ⟨a, p, q, trs, x, y, rfl, _⟩ := h
    rfl
  · obtain ⟨a, p, q, trs, x, y, rfl, hw, hR, hl, hy, hE, k1, k2⟩ := h
    have hu := hu_of hr
    refine ⟨_, (pss_cons (ps_set (i := 3) sc_first_way.nd rfl (.inr rfl) (pc c_steps_from hr (by decide) (by rfl) (pa_cons (pv 0) (pa_cons (pv 2) pa_nil))))
        (pss_cons (ps_if (pt_cmp (pc_dnotin hu (pv 1) (pv 3))) (pss_one (ps_ret pe_non)) pss_nil)
        (pss_cons (ps_set (i := 4) sc_first_way.nd rfl (.inl rfl) (pe_lst pa_nil))
        (pss_cons (ps_set (i := 5) sc_first_way.nd rfl (.inr rfl) (pv 1))
        (pss_cons (ps_while PassesOwn.never (pt_cmpR op_ne (pv 5) (pv 2) (nomark _)) (pss_cons (ps_setLc (g := (gName 7)) (i := 6) (own := [("road", 7)]) rfl sc_first_way.nd rfl rfl (sw_true rfl rfl rfl (by decide +kernel)) (pi_tup (pe_ix (r := rIxT K) ix_tup (pv 0) pe_int (fun _ _ => rfl))) (blkOk_by (N := N_first_way) (sc := defScope s_first_way) (by decide +kernel)) (fun _ _ _ _ _ => (pg_name (i := 7) sc_first_way.nd rfl (.inl rfl))) (fun _ _ _ _ _ => (pts_one (PW.pt (pw_and (pt_cmpR (r := rIn K false) op_in_seq (pv 5) (pe_slice (r := rSlA K) sl_tupA (pv 7) (po_some pe_int) po_none) (by rfl)) (pw_and1 (pt_cmpR op_lt (pe_dget hu (pv 3) (pc c_other_end hr (by decide) (by rfl) (pa_cons (pv 7) (pa_cons (pv 5) pa_nil))) (fun _ _ => rfl)) (pe_dget hu (pv 3) (pv 5) (fun _ _ => rfl)) (nomark _))))))) (fun _ _ _ _ _ => (pv 7)))
        (pss_cons (ps_expr (pe_bm PySem.F.plainAttrs_list PySem.F.slot_list_append PySem.F.type_list_append mt_append (pv 4) (pa_cons (pe_ix (r := rIxT K) ix_tup (pe_ix (r := rIxL K) ix_list (pv 6) pe_int (fun _ _ => rfl)) pe_int (fun _ _ => rfl)) pa_nil)))
        (pss_one (ps_set (i := 5) sc_first_way.nd rfl (.inr rfl) (pc c_other_end hr (by decide) (by rfl) (pa_cons (pe_ix (r := rIxL K) ix_list (pv 6) pe_int (fun _ _ => rfl)) (pa_cons (pv 5) pa_nil))))))))
        (pss_one (ps_ret (pe_callTy (r := rTupS K) call_tupF (by rfl) T.tuple (by decide +kernel) (pa_cons (pv 4) pa_nil))))))))), ?_⟩
    have hRl : (trs.map (·.2)).length = trs.length := List.length_map ..
    -- steps = steps_from(web, other)
    refine q_asgP (P := fun v H' => ∃ D0 d, v = .ref D0 ∧ H' D0 = some (.dK (dkv V.int d)) ∧ Steps (trs.map (·.2)) y d) (evp_call (ea_cons (ev_var rfl) (ea_cons (ev_var rfl) ea_nil)) fun H1 e Q k E => ⟨a, p, q, ⟨[], []⟩, trs, y, rfl, ex_rd e hw, hR.ex e, hl, hy, hE, fun D0 d H2 e2 h1 h2 => k _ H2 e2 ⟨D0, d, rfl, h1, h2⟩⟩) fun v H1 e1 hv => ?_
    obtain ⟨D0, d, rfl, hD, S⟩ := hv
    refine q_when (b := (look d x).isNone) (et_B (ev_dnot (enc := V.int) (ev_var rfl) (ev_var rfl) hD)) (fun _ H2 e2 => s_ret (v := .non) ev_c fun H3 e3 => k1 H3 ((e1.trans e2).trans e3)) fun hx H2 e2 => ?_
    obtain ⟨n0, hn0⟩ : ∃ n, look d x = some n := by
      cases q : look d x with
      | none => rw [q] at hx; cases hx
      | some n => exact ⟨n, rfl⟩
    refine q_asgL (el_lst ea_nil (Nat.zero_le _)) fun F0 H3 nF e3 hF => ?_
    have e03 := (e1.trans e2).trans e3
    have nF0 : H F0 = none := fresh_back (e1.trans e2) nF
    refine q_asg (ev_var rfl) fun H4 e4 => ?_
    refine q_while (fun m σ' H' => ∃ here rs n y6 y7, σ' = [some (.ref a), some (.str x), some (.str y), some (.ref D0), some (.ref F0), some (.str here), y6, y7] ∧ Ex H H' ∧ H' D0 = some (.dK (dkv V.int d)) ∧ H' F0 = some (.lst (rs.map fun r : Road => V.str r.1)) ∧ DWalk (trs.map (·.2)) d x rs here ∧ look d here = some n ∧ n.toNat = m)
      n0.toNat ⟨x, [], n0, none, none, rfl, e03.trans e4, e4 D0 _ (e3 D0 _ (e2 D0 _ hD)), e4 F0 _ hF, .nil hn0, hn0, rfl⟩ fun m σ' H' hW => ?_
    obtain ⟨here, rs, n, y6, y7, rfl, e0, hd, hf, hD', hn, hm⟩ := hW
    have hlen := hD'.len
    rw [hRl] at hlen
    refine ⟨!decide (V.str here = V.str y), et_test (ev_op (ev_var rfl) (ev_var rfl) (rv_ne rfl)), fun hb H5 e5 => ?_, fun hb H5 e5 => ?_⟩
    · have hne : here ≠ y := fun z => by rw [z] at hb; simp at hb
      have e05 := e0.trans e5
      refine ⟨fun σ2 H2 => ∃ here rs n' y6 y7, σ2 = [some (.ref a), some (.str x), some (.str y), some (.ref D0), some (.ref F0), some (.str here), y6, y7] ∧ Ex H H2 ∧ H2 D0 = some (.dK (dkv V.int d)) ∧ H2 F0 = some (.lst (rs.map fun r : Road => V.str r.1)) ∧ DWalk (trs.map (·.2)) d x rs here ∧ look d here = some n' ∧ n'.toNat < m, fun σ2 H2 hN => ?_, ?_⟩
      · obtain ⟨z1, z2, z3, z4, z5, h1, h2, h3, h4, h5, h6, h7⟩ := hN
        exact ⟨_, h7, z1, z2, z3, z4, z5, h1, h2, h3, h4, h5, h6, rfl⟩
      -- nearer
      let nb : Addr × Road → Bool := fun y => decide (tch here y.2) && (match look d (oend y.2 here) with | some m => decide (m < n) | none => false)
      have hnear : ∃ y0 rest, trs.filter nb = y0 :: rest := by
        rcases S.par here n hn with z | ⟨r, hr', ht, hq⟩
        · exact absurd z hne
        · obtain ⟨y0, hy0, rfl⟩ := List.mem_map.mp hr'
          have hb0 : nb y0 = true := by
            show (decide (tch here y0.2) && (match look d (oend y0.2 here) with | some m => decide (m < n) | none => false)) = true
            rw [hq, decide_eq_true ht]
            exact decide_eq_true (by omega)
          have hm0 : y0 ∈ trs.filter nb := List.mem_filter.mpr ⟨hy0, hb0⟩
          cases hc : trs.filter nb with
          | nil => rw [hc] at hm0; exact nomatch hm0
          | cons a b => exact ⟨a, b, rfl⟩
      obtain ⟨y0, rest, hnear⟩ := hnear
      have hy0 : y0 ∈ trs ∧ nb y0 = true := List.mem_filter.mp (by rw [hnear]; exact List.mem_cons_self)
      obtain ⟨hy0m, hy0b⟩ := hy0
      have hb2 : decide (tch here y0.2) = true ∧ (match look d (oend y0.2 here) with | some m => decide (m < n) | none => false) = true := by
        have z : (decide (tch here y0.2) && (match look d (oend y0.2 here) with | some m => decide (m < n) | none => false)) = true := hy0b
        rw [Bool.and_eq_true] at z
        exact z
      have ht0 := of_decide_eq_true hb2.1
      obtain ⟨m0, hm0, hlt⟩ : ∃ m0, look d (oend y0.2 here) = some m0 ∧ m0 < n := by
        have z := hb2.2
        cases q : look d (oend y0.2 here) with
        | none => rw [q] at z; cases z
        | some m => rw [q] at z; exact ⟨m, rfl, of_decide_eq_true z⟩
      have h0 := S.nn _ _ hm0
      refine q_asgL (el_lcT (K := K) trs (fun y => V.ref y.1) (fun y => if nb y then some (V.ref y.1) else none) (ev_w1 (ev_var rfl) (ex_rd e05 hw)) (ex_rd e05 hR.1) (by omega) fun i y hi => ?_) fun N0 H6 nN e6 hN => ?_
      · have hym := List.mem_of_getElem? hi
        have hyT := ex_rd e05 (hR.2 y hym)
        refine StepTo.test (b := nb y) rfl (et_and (a := decide (tch here y.2)) (b := (match look d (oend y.2 here) with | some m => decide (m < n) | none => false)) (et_test (ev_inSl (K := K) (neg := false) (ev_var rfl) (ev_var rfl) hyT (eo_some ev_c) eo_none (cut_road y.2) (cut_roadN y.2))) fun ht => ?_) fun _ => ev_var rfl
        have ht' := of_decide_eq_true ht
        cases hq : look d (oend y.2 here) with
        | none => exact absurd hq (S.cl here (by rw [hn]; exact fun z => nomatch z) _ (List.mem_map_of_mem hym) ht')
        | some m1 => exact et_test (ev_op (ev_dget (enc := V.int) (ev_var rfl) (ev_callV (ea_cons (ev_var rfl) (ea_cons (ev_var rfl) ea_nil)) (spv_other_end hyT)) (e5 D0 _ hd) hq) (ev_dget (enc := V.int) (ev_var rfl) (ev_var rfl) (e5 D0 _ hd) hn) (rv_I0 (g := fun i j => .bl (decide (i < j)))))
      rw [fm_filter, hnear] at hN
      have e06 := e05.trans e6
      refine q_app (K := K) (l := F0) (xs := rs.map fun r : Road => V.str r.1) (e6 F0 _ (e5 F0 _ hf)) (ev_var rfl) (ev_r0 (r := y0.2) (ev_lc' (j := 0) (ev_var rfl) hN rfl) (ex_rd e06 (hR.2 y0 hy0m))) (by rw [List.length_map]; omega) fun H7 e7 => ?_
      have e07 : Ex H (upd H7 F0 (.lst ((rs.map fun r : Road => V.str r.1) ++ [.str y0.2.1]))) := Ex.mut (e06.trans e7) nF0
      have hneN : N0 ≠ F0 := fun z => by
        have := e5 F0 _ hf
        rw [← z, nN] at this
        cases this
      have hneD : D0 ≠ F0 := fun z => by rw [z, hf] at hd; cases hd
      have hN7 : upd H7 F0 (.lst ((rs.map fun r : Road => V.str r.1) ++ [.str y0.2.1])) N0 = some (.lst ((y0 :: rest).map fun y => V.ref y.1)) := by
        rw [upd_ne hneN]
        exact e7 N0 _ hN
      refine s_asg (ev_callV (ea_cons (ev_lc' (j := 0) (ev_var rfl) hN7 rfl) (ea_cons (ev_var rfl) ea_nil)) (spv_other_end (ex_rd e07 (hR.2 y0 hy0m)))) fun H8 e8 => ?_
      refine ⟨oend y0.2 here, rs ++ [y0.2], m0, _, _, rfl, e07.trans e8, e8 D0 _ ?_, e8 F0 _ ?_, hD'.snoc (List.mem_map_of_mem hy0m) ht0 hn hm0 hlt, hm0, by omega⟩
      · rw [upd_ne hneD]
        exact e7 D0 _ (e6 D0 _ (e5 D0 _ hd))
      · rw [upd_same, List.map_append] <;> rfl
    · have heq : here = y := by
        have z : decide (V.str here = V.str y) = true := by
          cases q : decide (V.str here = V.str y) with
          | true => rfl
          | false => rw [q] at hb; cases hb
        exact V.str.inj (of_decide_eq_true z)
      subst heq
      refine s_retP (evp_tupL (K := K) (ev_var rfl) (sq_of (e5 F0 _ hf))) fun v H6 e6 hv => ?_
      obtain ⟨dd, rfl, hdd⟩ := hv
      exact k2 dd rs d H6 ((e0.trans e5).trans e6) hdd hD'
/-! ### way_places -/
def dadr (trs : List (Addr × Road)) : List (Str × Addr) := trs.map fun y => (y.2.1, y.1)
theorem dadr_keys (trs : List (Addr × Road)) : (dadr trs).map (·.1) = (trs.map (·.2)).map (·.1) := by
  rw [dadr, List.map_map, List.map_map] <;> rfl
theorem dadr_look {trs : List (Addr × Road)} {n : Str} (h : n ∈ (trs.map (·.2)).map (·.1)) : ∃ y ∈ trs, look (dadr trs) n = some y.1 ∧ rfind (trs.map (·.2)) n = some y.2 := by
  induction trs with
  | nil => exact nomatch h
  | cons y trs ih =>
    by_cases e : y.2.1 = n
    · refine ⟨y, List.mem_cons_self, look_pos (e := (y.2.1, y.1)) e, ?_⟩
      unfold rfind
      rw [List.map_cons, List.find?_cons_of_pos (by simpa using e)]
    · have h' : n ∈ (trs.map (·.2)).map (·.1) := by
        rw [List.map_cons, List.map_cons] at h
        rcases List.mem_cons.mp h with q | q
        · exact absurd q.symm e
        · exact q
      obtain ⟨y', hy', h1, h2⟩ := ih h'
      refine ⟨y', List.mem_cons_of_mem _ hy', ?_, ?_⟩
      · rw [← h1]
        exact look_neg (e := (y.2.1, y.1)) e
      · rw [← h2]
        unfold rfind
        rw [List.map_cons, List.find?_cons_of_neg (by simpa using e)]
/-- {road[0]: road for road in ..} -/
def Cd (H : Hp) (enc : Addr → V) (dd : List (Str × Addr)) (Dl : Addr) (i : Nat) (H' : Hp) : Prop := H Dl = none ∧ Ex H H' ∧ H' Dl = some (.dK (dkv enc (dd.take i)))
theorem nd_take_none {α : Type} {dd : List (Str × α)} (nd : (dd.map (·.1)).Nodup) {i : Nat} {e : Str × α} (h : dd[i]? = some e) : look (dd.take i) e.1 = none := by
  rw [look_none_iff]
  intro hm
  obtain ⟨e', he', heq⟩ := List.mem_map.mp hm
  obtain ⟨j, hj⟩ := List.mem_iff_getElem?.mp he'
  rw [List.getElem?_take] at hj
  by_cases hji : j < i
  · rw [if_pos hji] at hj
    have h1 : (dd.map (·.1))[j]? = some e.1 := by rw [List.getElem?_map, hj]; exact congrArg some heq
    have h2 : (dd.map (·.1))[i]? = some e.1 := by rw [List.getElem?_map, h] <;> rfl
    have := nodup_ix nd h1 h2
    omega
  · rw [if_neg hji] at hj
    cases hj
def sp_way_places : Sp := fun vs H Q _ => ∃ (a p q b : Addr) (trs : List (Addr × Road)) (x : Str) (ns : List Str), vs = [.ref a, .str x, .ref b] ∧ Tp H a [.ref p, .ref q] ∧ RoadsAt H q trs ∧ trs.length ≤ 100 ∧ ((trs.map (·.2)).map (·.1)).Nodup ∧ Tp H b (ns.map V.str) ∧ ns.length ≤ 1000 ∧ (∀ n ∈ ns, n ∈ (trs.map (·.2)).map (·.1)) ∧
  (wpl (trs.map (·.2)) x ns = none → ∀ H', Ex H H' → Q .non H') ∧ (∀ pl, wpl (trs.map (·.2)) x ns = some pl → ∀ dd H', Ex H H' → TF H' dd pl → Q (.ref dd) H')
theorem ok_way_places (T : Top mg tk) (D : DefAt K mg "way_places" s_way_places ["web", "place", "way"]) (c_other_end : Cal P w K mg base 1 "other_end" sp_other_end) : Cal P w K mg base 2 "way_places" sp_way_places := by
  refine cal D sc_way_places (fun vs H Q E h => ?_) (fun f cdv A outer s H vs Q E hr h => ?_)
  · obtain ⟨a, p, q, b, trs, x, ns, rfl, _⟩ := h
    rfl
  · obtain ⟨a, p, q, b, trs, x, ns, rfl, hw, hR, hl, nd, hb, hns, hsub, k1, k2⟩ := h
    have hu := hu_of hr
    refine ⟨_, (pss_cons (ps_setDc (i := 3) (g := (gName 7)) (own := [("road", 7)]) rfl sc_way_places.nd rfl rfl (swd_true rfl rfl rfl (by decide +kernel)) (pi_tup (pe_ix (r := rIxT K) ix_tup (pv 0) pe_int (fun _ _ => rfl))) (blkOk_by (N := N_way_places) (sc := defScope s_way_places) (by decide +kernel)) (fun _ _ _ _ _ => (pg_name (i := 7) sc_way_places.nd rfl (.inl rfl))) (fun _ _ _ _ _ => pts_nil) (fun _ _ _ _ _ => (pe_ix (r := rIxT K) ix_tup (pv 7) pe_int (fun _ _ => rfl))) (fun _ _ _ _ _ => (pv 7)))
        (pss_cons (ps_set (i := 4) sc_way_places.nd rfl (.inl rfl) (pe_lst pa_nil))
        (pss_cons (ps_set (i := 5) sc_way_places.nd rfl (.inl rfl) (pv 1))
        (pss_cons (ps_for PassesOwn.never rfl (pi_tup (pv 2)) (pg_name (i := 6) sc_way_places.nd rfl (.inl rfl)) (pss_cons (ps_if (pt_cmpR (r := rIn K true) op_notIn_seq (pv 5) (pe_slice (r := rSlA K) sl_tupA (pe_dget hu (pv 3) (pv 6) (fun _ _ => rfl)) (po_some pe_int) po_none) (by rfl)) (pss_one (ps_ret pe_non)) pss_nil)
        (pss_cons (ps_set (i := 5) sc_way_places.nd rfl (.inl rfl) (pc c_other_end hr (by decide) (by rfl) (pa_cons (pe_dget hu (pv 3) (pv 6) (fun _ _ => rfl)) (pa_cons (pv 5) pa_nil))))
        (pss_one (ps_expr (pe_bm PySem.F.plainAttrs_list PySem.F.slot_list_append PySem.F.type_list_append mt_append (pv 4) (pa_cons (pv 5) pa_nil)))))))
        (pss_one (ps_ret (pe_callTy (r := rTupS K) call_tupF (by rfl) T.tuple (by decide +kernel) (pa_cons (pv 4) pa_nil)))))))), ?_⟩
    have nd' : ((dadr trs).map (·.1)).Nodup := by rw [dadr_keys]; exact nd
    -- roads
    refine (ev_w1 (K := K) (H := H) (ev_var rfl) hw) H (Ex.refl _) _ fun H1 e1 => ⟨q, rfl, ⟨_, .inl (ex_rd e1 hR.1)⟩, fun D0 nD => ?_⟩
    refine dc_tup (xs := trs.map fun y => V.ref y.1) (Cd H1 V.ref (dadr trs) D0) ⟨nD, Ex.new nD, upd_same⟩ (fun i H' _ pq => .inl (ex_rd (e1.trans pq.2.1) hR.1)) (fun i v H' hi pq => ?_) fun H2 pq => ?_
    · obtain ⟨y, hy, rfl⟩ := map_get hi
      have hym := List.mem_of_getElem? hy
      have hd : (dadr trs)[i]? = some (y.2.1, y.1) := by rw [dadr, List.getElem?_map, hy] <;> rfl
      refine ⟨rfl, iteT (B := Cd H1 V.ref (dadr trs) D0 (i + 1) H') ?_⟩
      refine (ev_r0 (K := K) (H := H') (ev_var rfl) (ex_rd (e1.trans pq.2.1) (hR.2 y hym))) H' (Ex.refl _) _ fun H3 e3 => ⟨.ref y.1, rfl, _, Sum.inr y.2.1, rfl, e3 D0 _ pq.2.2, ?_, nD, Ex.mut (pq.2.1.trans e3) nD, ?_⟩
      · rw [dkv_len, List.length_take]
        refine sz_lt ?_
        have e9 : (dadr trs).length = trs.length := List.length_map ..
        omega
      · rw [upd_same, tk_succ hd]
        exact congrArg (fun z => some (HO.dK z)) (putK_dkv (enc := V.ref) y.1 (nd_take_none nd' hd))
    obtain ⟨_, e12, hD⟩ := pq
    have etk : (dadr trs).take (trs.map fun y => V.ref y.1).length = dadr trs := by
      rw [List.length_map]
      exact List.take_of_length_le (by rw [dadr, List.length_map]; exact Nat.le_refl _)
    rw [etk] at hD
    have e02 := e1.trans e12
    refine q_asgL (el_lst ea_nil (Nat.zero_le _)) fun F0 H3 nF e3 hF => ?_
    have nF0 : H F0 = none := fresh_back e02 nF
    have hneD : D0 ≠ F0 := fun z => by rw [← z, hD] at nF; cases nF
    refine q_asg (ev_var rfl) fun H4 e4 => ?_
    have e04 := (e02.trans e3).trans e4
    refine q_forTp (K := K) ns V.str (ev_var rfl) (ex_rd e04 hb)
      (fun pre σ2 H2 => ∃ pl y6 y7, σ2 = [some (.ref a), some (.str x), some (.ref b), some (.ref D0), some (.ref F0), some (.str ((x :: pl).getLast (List.cons_ne_nil _ _))), y6, y7] ∧ Ex H H2 ∧ H2 D0 = some (.dK (dkv V.ref (dadr trs))) ∧ H2 F0 = some (.lst (pl.map V.str)) ∧ wpl (trs.map (·.2)) x pre = some pl)
      (fun H5 e5 => ⟨[], none, none, rfl, e04.trans e5, e5 D0 _ (e4 D0 _ (e3 D0 _ hD)), e5 F0 _ (e4 F0 _ hF), rfl⟩)
      (fun pre σ2 H2 ⟨_, _, _, _, z, _⟩ => ex_rd z hb) ?_ ?_
    · rintro pre n post σ2 H5 en ⟨pl, y6, y7, rfl, e5, hd5, hf5, hwp⟩
      have hn : n ∈ (trs.map (·.2)).map (·.1) := hsub n (by rw [en]; exact List.mem_append_right _ List.mem_cons_self)
      obtain ⟨y, hym, hlk, hfd⟩ := dadr_look hn
      have hyT := ex_rd e5 (hR.2 y hym)
      have hpl := wpl_len hwp
      have hprel : pre.length ≤ 1000 := by
        have := congrArg List.length en
        rw [List.length_append] at this
        omega
      generalize hh : (x :: pl).getLast (List.cons_ne_nil _ _) = here at *
      refine q_when (b := !decide (tch here y.2)) (et_test (ev_inSl (K := K) (neg := true) (ev_var rfl) (ev_dget (enc := V.ref) (ev_var rfl) (ev_var rfl) hd5 hlk) hyT (eo_some ev_c) eo_none (cut_road y.2) (cut_roadN y.2))) (fun hb6 H6 e6 => ?_) fun hb6 H6 e6 => ?_
      · refine s_ret (v := .non) ev_c fun H7 e7 => k1 ?_ H7 ((e5.trans e6).trans e7)
        rw [en, wpl_app hwp, hh]
        have ht : ¬ tch here y.2 := fun z => by rw [decide_eq_true z] at hb6; cases hb6
        rw [wpl, hfd]
        simp only [ht, if_false]
        rfl
      · have ht : tch here y.2 := by
          cases z : decide (tch here y.2) with
          | true => exact of_decide_eq_true z
          | false => rw [z] at hb6; cases hb6
        refine q_asg (ev_callV (ea_cons (ev_dget (enc := V.ref) (ev_var rfl) (ev_var rfl) (e6 D0 _ hd5) hlk) (ea_cons (ev_var rfl) ea_nil)) (spv_other_end (ex_rd e6 hyT))) fun H7 e7 => ?_
        refine s_app (K := K) (l := F0) (xs := pl.map V.str) (e7 F0 _ (e6 F0 _ hf5)) (ev_var rfl) (ev_var rfl) (by rw [List.length_map]; omega) fun H8 e8 => ?_
        have hw2 : wpl (trs.map (·.2)) x (pre ++ [n]) = some (pl ++ [oend y.2 here]) := by
          rw [wpl_app hwp, hh, wpl, hfd]
          simp only [ht, if_true]
          rfl
        refine ⟨pl ++ [oend y.2 here], some (.str n), y7, ?_, Ex.mut (((e5.trans e6).trans e7).trans e8) nF0, ?_, ?_, hw2⟩
        · have e9 : (x :: (pl ++ [oend y.2 here])).getLast (List.cons_ne_nil _ _) = oend y.2 here := by
            rw [List.getLast_cons (by simp)]
            exact List.getLast_concat
          rw [e9]
          rfl
        · rw [upd_ne hneD]
          exact e8 D0 _ (e7 D0 _ (e6 D0 _ hd5))
        · rw [upd_same, List.map_append] <;> rfl
    · rintro σ2 H5 ⟨pl, y6, y7, rfl, e5, hd5, hf5, hwp⟩
      refine s_retP (evp_tupL (K := K) (ev_var rfl) (sq_of hf5)) fun v H6 e6 hv => ?_
      obtain ⟨dd, rfl, hdd⟩ := hv
      exact k2 pl hwp dd H6 (e5.trans e6) hdd
end
end RP
/-! part RPd5 -/
/-! is_way, ring_in_web, is_ring, ring_of; falls_of_row, need_ring, lap -/
namespace RP
open PySem PySem.Spec PyProof.Rows L2 Evl
/-! ### pairs; enumerate -/
section
variable {K : PySem.W.Frag} {σ : L2.St} {H H' : Hp} {ta tb te tl : TE} {g : TG} {tu : TS} {tz : TS} {D : Ends} {a : Addr} {xs : List V}
abbrev g2 (K : PySem.W.Frag) (i j : Nat) : TG := gTup K 2 (gCons (gName i) (gCons (gName j) gNil))
abbrev g3 (K : PySem.W.Frag) (i j k : Nat) : TG := gTup K 3 (gCons (gName i) (gCons (gName j) (gCons (gName k) gNil)))
theorem g2_of {i j : Nat} {x y : V} {Q : L2.St → Hp → Prop} (h : Tp H a [x, y]) (q : Q ((σ.set i (some x)).set j (some y)) H) : g2 K i j (.ref a) σ H Q :=
  ⟨a, [x, y], rfl, .inl h, rfl, x, [y], rfl, y, [], rfl, rfl, q⟩
theorem g3_of {i j k : Nat} {x y z : V} {Q : L2.St → Hp → Prop} (h : Tp H a [x, y, z]) (q : Q (((σ.set i (some x)).set j (some y)).set k (some z)) H) : g3 K i j k (.ref a) σ H Q :=
  ⟨a, [x, y, z], rfl, .inl h, rfl, x, [y, z], rfl, y, [z], rfl, z, [], rfl, rfl, q⟩
theorem lc_ite {tt : TT} {vs : List Nat} {H1 : Hp} {Dl : Addr} {Qd : Hp → Prop} (Pv : Nat → Hp → Prop) (h0 : Pv 0 (upd H1 Dl (.lst []))) (hl : ∀ i H, i ≤ xs.length → Pv i H → SqL K H a xs)
    (hs : ∀ i x H, xs[i]? = some x → Pv i H → ∀ T, H T = none → g (.ref T) (wipe σ vs) (upd H T (.tup [.int (i : Nat), x])) fun σ2 H2 => wipe σ2 vs = wipe σ vs ∧ tt σ2 H2 fun b H3 =>
      if b = true then te σ2 H3 fun y H4 => ∃ acc, H4 Dl = some (.lst acc) ∧ acc.length < sizeLine ∧ Pv (i + 1) (upd H4 Dl (.lst (acc ++ [y]))) else Pv (i + 1) H3) (hd : ∀ H, Pv xs.length H → Qd H) :
    ∃ W : Nat → Nat → Hp → Prop, (∃ m, W 0 m (upd H1 Dl (.lst []))) ∧ ∀ i m H, W i m H →
      ((Ite K a).stop i H ∧ Qd H) ∨ ((Ite K a).go i H ∧ ∃ Nx : Hp → Prop, (∀ H', Nx H' → ∃ m', m' < m ∧ W (i + 1) m' H') ∧ ∀ x H', (Ite K a).yld i H x H' → g x (wipe σ vs) H' fun σ2 H2 => wipe σ2 vs = wipe σ vs ∧ tt σ2 H2 fun b H3 =>
        if b = true then te σ2 H3 fun y H4 => ∃ acc, H4 Dl = some (.lst acc) ∧ acc.length < sizeLine ∧ Nx (upd H4 Dl (.lst (acc ++ [y]))) else Nx H3) := by
  refine ⟨fun i m H => m = xs.length - i ∧ i ≤ xs.length ∧ Pv i H, ⟨xs.length, by simp, Nat.zero_le _, h0⟩, ?_⟩
  rintro i m H ⟨rfl, hi, p⟩
  have q := hl i H hi p
  by_cases hlt : i < xs.length
  · refine .inr ⟨⟨xs, xs[i], q, by simp [hlt]⟩, Pv (i + 1), fun H' p' => ⟨xs.length - (i + 1), by omega, rfl, hlt, p'⟩, fun x H' y => ?_⟩
    obtain ⟨T, x', e, hT, e2, y⟩ := y
    subst e e2
    exact hs i x' _ (y xs q) p T hT
  · have e : i = xs.length := by omega
    subst e
    exact .inl ⟨⟨xs, q, Nat.le_refl _⟩, hd H p⟩
/-- [f(i, x) for i, x in enumerate(l)] -/
theorem el_lcE {vs : List Nat} {i0 j0 : Nat} (out : List V) (h : Ev tl σ H (.ref a)) (hx : H a = some (.lst xs)) (hz : xs.length ≤ 40000) (hl : out.length = xs.length) (hw : ∀ x y, wipe (((wipe σ vs).set i0 (some x)).set j0 (some y)) vs = wipe σ vs)
    (hs : ∀ (i : Nat) (x y : V), xs[i]? = some x → out[i]? = some y → Ev te (((wipe σ vs).set i0 (some (.int (i : Nat)))).set j0 (some x)) H y) : EvL (tLc (iEnum K (tCons tl tNil)) (g2 K i0 j0) tYes te vs) σ H out := fun H0 e Q q =>
  h H0 e _ fun H1 e1 => ⟨a, xs, rfl, sq_of ((e.trans e1) a _ hx), fun Dl hD =>
  lc_ite (xs := xs) (fun i H' => H1 Dl = none ∧ Ex H1 H' ∧ H' Dl = some (.lst (out.take i))) ⟨hD, Ex.new hD, upd_same⟩ (fun i H' _ p => sq_of (((e.trans e1).trans p.2.1) a _ hx)) (fun i x H' hi p T hT => by
    obtain ⟨p1, p2, p3⟩ := p
    obtain ⟨y, hy⟩ : ∃ y, out[i]? = some y := ⟨_, List.getElem?_eq_getElem (by rw [hl]; exact (List.getElem?_eq_some_iff.mp hi).1)⟩
    have e3 : Ex H1 (upd H' T (.tup [.int (i : Nat), x])) := p2.trans (Ex.new hT)
    have hne : Dl ≠ T := fun z => by rw [z, hT] at p3; cases p3
    refine g2_of (tp_of upd_same) ⟨hw _ _, iteT (B := H1 Dl = none ∧ Ex H1 (upd H' T (.tup [.int (i : Nat), x])) ∧ upd H' T (.tup [.int (i : Nat), x]) Dl = some (HO.lst (List.take (i + 1) out))) ?_⟩
    refine hs i x y hi hy _ ((e.trans e1).trans e3) _ fun H4 e4 => ⟨out.take i, e4 Dl _ (by rw [upd_ne hne]; exact p3), sz_lt ?_, p1, Ex.mut (e3.trans e4) p1, ?_⟩
    · rw [List.length_take]; omega
    · rw [upd_same, tk_succ hy]) (fun H' p => q Dl H' (fresh_back e1 p.1) (e1.trans p.2.1) (by
    have e2 := p.2.2
    rw [← hl, List.take_length] at e2
    exact e2))⟩
theorem for_ite {tb : TS} (Pv : Nat → L2.St → Hp → Prop) (h0 : Pv 0 σ H) (hl : ∀ i σ H, i ≤ xs.length → Pv i σ H → SqL K H a xs)
    (hs : ∀ i x σ H, xs[i]? = some x → Pv i σ H → ∀ T, H T = none → g (.ref T) σ (upd H T (.tup [.int (i : Nat), x])) fun σ2 H2 => tb { D with nx := Pv (i + 1), ct := Pv (i + 1), bk := D.nx } σ2 H2) (hd : ∀ σ H, Pv xs.length σ H → D.nx σ H) :
    ∃ W : Nat → Nat → L2.St → Hp → Prop, (∃ m, W 0 m σ H) ∧ ∀ i m σ H, W i m σ H →
      ((Ite K a).stop i H ∧ D.nx σ H) ∨ ((Ite K a).go i H ∧ ∃ N : L2.St → Hp → Prop, (∀ σ' H', N σ' H' → ∃ m', m' < m ∧ W (i + 1) m' σ' H') ∧ ∀ x H', (Ite K a).yld i H x H' → g x σ H' fun σ2 H2 => tb { D with nx := N, ct := N, bk := D.nx } σ2 H2) := by
  refine ⟨fun i m σ H => m = xs.length - i ∧ i ≤ xs.length ∧ Pv i σ H, ⟨xs.length, by simp, Nat.zero_le _, h0⟩, ?_⟩
  rintro i m σ H ⟨rfl, hi, p⟩
  have q := hl i σ H hi p
  by_cases hlt : i < xs.length
  · refine .inr ⟨⟨xs, xs[i], q, by simp [hlt]⟩, Pv (i + 1), fun σ' H' p' => ⟨xs.length - (i + 1), by omega, rfl, hlt, p'⟩, fun x H' y => ?_⟩
    obtain ⟨T, x', e, hT, e2, y⟩ := y
    subst e e2
    exact hs i x' σ _ (y xs q) p T hT
  · have e : i = xs.length := by omega
    subst e
    exact .inl ⟨⟨xs, q, Nat.le_refl _⟩, hd σ H p⟩
theorem for_iteT {tb : TS} (Pv : Nat → L2.St → Hp → Prop) (h0 : Pv 0 σ H) (hl : ∀ i σ H, i ≤ xs.length → Pv i σ H → SqT K H a xs)
    (hs : ∀ i x σ H, xs[i]? = some x → Pv i σ H → ∀ T, H T = none → g (.ref T) σ (upd H T (.tup [.int (i : Nat), x])) fun σ2 H2 => tb { D with nx := Pv (i + 1), ct := Pv (i + 1), bk := D.nx } σ2 H2) (hd : ∀ σ H, Pv xs.length σ H → D.nx σ H) :
    ∃ W : Nat → Nat → L2.St → Hp → Prop, (∃ m, W 0 m σ H) ∧ ∀ i m σ H, W i m σ H →
      ((IteT K a).stop i H ∧ D.nx σ H) ∨ ((IteT K a).go i H ∧ ∃ N : L2.St → Hp → Prop, (∀ σ' H', N σ' H' → ∃ m', m' < m ∧ W (i + 1) m' σ' H') ∧ ∀ x H', (IteT K a).yld i H x H' → g x σ H' fun σ2 H2 => tb { D with nx := N, ct := N, bk := D.nx } σ2 H2) := by
  refine ⟨fun i m σ H => m = xs.length - i ∧ i ≤ xs.length ∧ Pv i σ H, ⟨xs.length, by simp, Nat.zero_le _, h0⟩, ?_⟩
  rintro i m σ H ⟨rfl, hi, p⟩
  have q := hl i σ H hi p
  by_cases hlt : i < xs.length
  · refine .inr ⟨⟨xs, xs[i], q, by simp [hlt]⟩, Pv (i + 1), fun σ' H' p' => ⟨xs.length - (i + 1), by omega, rfl, hlt, p'⟩, fun x H' y => ?_⟩
    obtain ⟨T, x', e, hT, e2, y⟩ := y
    subst e e2
    exact hs i x' σ _ (y xs q) p T hT
  · have e : i = xs.length := by omega
    subst e
    exact .inl ⟨⟨xs, q, Nat.le_refl _⟩, hd σ H p⟩
end
theorem evp_tupA {σ : L2.St} {H : Hp} {ta : TA} {PA : List V → Hp → Prop} (h : EvAP ta σ H PA) (m : ∀ vs H H', Ex H H' → PA vs H → PA vs H') (hl : ∀ vs H', PA vs H' → vs.length ≤ 100000) : EvP (tTup ta) σ H (fun v H' => ∃ t vs, v = .ref t ∧ Tp H' t vs ∧ PA vs H') := fun H1 e Q q =>
  h H1 e _ fun vs H2 e2 p2 => ⟨sz_of (hl vs H2 p2), fun p hp => q _ _ (e2.trans (Ex.new hp)) ⟨p, vs, rfl, .inl upd_same, m vs _ _ (Ex.new hp) p2⟩⟩
theorem mono_tupA {PA : List V → Hp → Prop} (m : ∀ vs H H', Ex H H' → PA vs H → PA vs H') : Mono (fun v H' => ∃ t vs, v = .ref t ∧ Tp H' t vs ∧ PA vs H') := fun v H H' e ⟨t, vs, h1, h2, h3⟩ => ⟨t, vs, h1, ex_rd e h2, m vs H H' e h3⟩
theorem mono_nil : ∀ (vs : List V) (H H' : Hp), Ex H H' → vs = [] → vs = [] := fun _ _ _ _ h => h
theorem mono_cons {P1 : V → Hp → Prop} {P2 : List V → Hp → Prop} (m1 : Mono P1) (m2 : ∀ vs H H', Ex H H' → P2 vs H → P2 vs H') : ∀ (vs : List V) (H H' : Hp), Ex H H' → (∃ v r, vs = v :: r ∧ P1 v H ∧ P2 r H) → (∃ v r, vs = v :: r ∧ P1 v H' ∧ P2 r H') := fun _ H H' e ⟨v, r, h1, h2, h3⟩ => ⟨v, r, h1, m1 v H H' e h2, m2 r H H' e h3⟩
theorem len2 {P1 P2 : V → Hp → Prop} (vs : List V) (H' : Hp) (h : ∃ v r, vs = v :: r ∧ P1 v H' ∧ ∃ v2 r2, r = v2 :: r2 ∧ P2 v2 H' ∧ r2 = []) : vs.length ≤ 100000 := by
  obtain ⟨v, r, rfl, _, v2, r2, rfl, _, rfl⟩ := h
  show 2 ≤ 100000
  decide
theorem et_notN {σ : L2.St} {H : Hp} {ta : TE} {v : V} (h : Ev ta σ H v) : EvT (tTest (tOp rNotN ta (tC .non))) σ H (!decide (v = .non)) := et_test (ev_op h ev_c fun H1 _ Q q => ⟨rfl, q H1 (Ex.refl _)⟩)
theorem et_notN0 {σ : L2.St} {H : Hp} {ta : TE} (h : Ev ta σ H .non) : EvT (tTest (tOp rNotN ta (tC .non))) σ H false := et_is (et_notN h) (by simp)
theorem et_notN1 {σ : L2.St} {H : Hp} {ta : TE} {a : Addr} (h : Ev ta σ H (.ref a)) : EvT (tTest (tOp rNotN ta (tC .non))) σ H true := et_is (et_notN h) (by simp)
section
variable {P : Program} {w : World} {K : PySem.W.Frag} {mg : Str → Option Value} {base : Heap} {tk : Nat → Tok}
/-- what way_places gives -/
def WpV (H : Hp) (o : Option (List Str)) (v : V) : Prop := match o with
  | none => v = .non
  | some pl => ∃ d, v = .ref d ∧ TF H d pl
theorem WpV.ex {H H' : Hp} {o : Option (List Str)} {v : V} (e : Ex H H') (h : WpV H o v) : WpV H' o v := by
  cases o with
  | none => exact h
  | some pl =>
    obtain ⟨d, h1, h2⟩ := h
    exact ⟨d, h1, h2.ex e⟩
theorem spp_way_places {a p q b : Addr} {W : Web} {trs : List (Addr × Road)} {x : Str} {ns : List Str} {H : Hp} (h : WebAt H a W p q trs) (ok : WebOk W) (hb : Tp H b (ns.map V.str)) (hl : ns.length ≤ 1000) (hs : ∀ n ∈ ns, n ∈ W.names) :
    SpP sp_way_places [.ref a, .str x, .ref b] H (fun v H' => WpV H' (wpl W.rs x ns) v) := fun H1 e Q k E => by
  have hr14 := ok.r14
  refine ⟨a, p, q, b, trs, x, ns, rfl, ex_rd e h.w, h.rs.ex e, by rw [trs_len h.e]; omega, by rw [h.e]; exact ok.rd, ex_rd e hb, hl, fun n hn => by rw [h.e]; exact hs n hn, fun z H2 e2 => ?_, fun pl z dd H2 e2 hd => ?_⟩
  · rw [h.e] at z
    exact k _ H2 e2 (by rw [z]; rfl)
  · rw [h.e] at z
    exact k _ H2 e2 (by rw [z]; exact ⟨dd, rfl, hd⟩)
/-! ### is_way -/
def sp_is_way : Sp := fun vs H Q _ => ∃ (a p q b : Addr) (W : Web) (trs : List (Addr × Road)) (rg : List Str), vs = [.ref a, .ref b] ∧ WebAt H a W p q trs ∧ WebOk W ∧ Tp H b (rg.map V.str) ∧ rg.length ≤ 1000 ∧ RingOk W.rs W.ps rg ∧ ∀ H', Ex H H' → Q (.bl true) H'
theorem ok_is_way (T : Top mg tk) (D : DefAt K mg "is_way" s_is_way ["web", "thing"]) (c_names_of_roads : Cal P w K mg base 1 "names_of_roads" sp_names_of_roads) (c_way_places : Cal P w K mg base 2 "way_places" sp_way_places) : Cal P w K mg base 3 "is_way" sp_is_way := by
  refine cal D sc_is_way (fun vs H Q E h => ?_) (fun f cdv A outer s H vs Q E hr h => ?_)
  · obtain ⟨a, p, q, b, W, trs, rg, rfl, _⟩ := h
    rfl
  · obtain ⟨a, p, q, b, W, trs, rg, rfl, h, ok, hb, hl, rk, k⟩ := h
    refine ⟨_, (pss_cons (ps_set (i := 2) sc_is_way.nd rfl (.inr rfl) (pc c_names_of_roads hr (by decide) (by rfl) (pa_cons (pv 0) pa_nil)))
        (pss_cons (ps_if (PW.pt (pw_or (pt_not (pt_val (pe_callB (r := rIsi K) call_isi (by rfl) T.isinstance (by decide +kernel) (pa_cons (pv 1) (pa_cons (pe_bltn (v := .ty "tuple") (u := .type "tuple") (by rfl) T.tuple (by decide +kernel) rfl) pa_nil))))) (pw_or1 (pt_not (pt_val (pe_callB (r := rAll K) (cr_all rfl) (by rfl) T.all (by decide +kernel) (pa_cons (pe_lc (g := (gName 3)) (own := [("name", 3)]) rfl sc_is_way.nd (pi_tup (pv 1)) (blkOk_by (N := N_is_way) (sc := defScope s_is_way) (by decide +kernel)) (fun _ _ _ _ _ => (pg_name (i := 3) sc_is_way.nd rfl (.inl rfl))) (fun _ _ _ _ _ => pts_nil) (fun _ _ _ _ _ => (pe_and (pe_callB (r := rIsi K) call_isi (by rfl) T.isinstance (by decide +kernel) (pa_cons (pv 3) (pa_cons (pe_bltn (v := .ty "str") (u := .type "str") (by rfl) T.str (by decide +kernel) rfl) pa_nil))) (pe_one (pe_cmpR (r := rIn K false) op_in_seq (pv 3) (pv 2) (by rfl)))))) pa_nil))))))) (pss_one (ps_ret pe_bl)) pss_nil)
        (pss_one (ps_ret (pe_callB (r := rAny K) (cr_any rfl) (by rfl) T.any (by decide +kernel) (pa_cons (pe_lc (g := (gName 4)) (own := [("place", 4)]) rfl sc_is_way.nd (pi_tup (pe_ix (r := rIxT K) ix_tup (pv 0) pe_int (fun _ _ => rfl))) (blkOk_by (N := N_is_way) (sc := defScope s_is_way) (by decide +kernel)) (fun _ _ _ _ _ => (pg_name (i := 4) sc_is_way.nd rfl (.inl rfl))) (fun _ _ _ _ _ => pts_nil) (fun _ _ _ _ _ => (pe_cmpR op_notN1 (pc c_way_places hr (by decide) (by rfl) (pa_cons (pv 0) (pa_cons (pv 4) (pa_cons (pv 1) pa_nil)))) pe_non (nomark _)))) pa_nil)))))), ?_⟩
    have hr14 := ok.r14
    have hp10 := ok.p10
    refine q_asgL (el_callL (ea_cons (ev_var rfl) ea_nil) (spl_names h (by omega))) fun nd0 H1 nN e1 hN => ?_
    have hall : (rg.map (fun s => decide (s ∈ W.names))).all id = true := all_tt _ _ fun x hx => decide_eq_true (rk.sub x hx)
    refine q_when (b := false) (et_or (a := false) (b := false) (et_not (a := true) (et_B (ev_isTup (ev_var rfl) (ex_rd e1 hb)))) fun _ => et_not (a := true) (et_B (ev_is (ev_all (bs := rg.map fun s => decide (s ∈ W.names)) ?_) (by rw [hall])))) (fun z => Bool.noConfusion z) fun _ H2 e2 => ?_
    · rw [List.map_map]
      refine el_lcTm (K := K) rg V.str _ (ev_var rfl) (ex_rd e1 hb) (by omega) (fun _ => rfl) fun i s hi => ?_
      exact ev_is (ev_andV (a := true) (b := decide (s ∈ W.names)) (ev_isStr (ev_var rfl)) fun _ => ev_inL (ev_var rfl) (ev_var rfl) hN) (by rw [Bool.true_and] <;> rfl)
    · have h2 := h.ex (e1.trans e2)
      obtain ⟨pp, hpp, pl, hpl, _⟩ := rk.run
      have hany : (W.ps.map (fun x => (wpl W.rs x rg).isSome)).any id = true := by
        rw [List.any_eq_true]
        exact ⟨true, List.mem_map.mpr ⟨pp, hpp, by rw [hpl] <;> rfl⟩, rfl⟩
      refine s_ret (v := .bl true) (ev_is (ev_any (bs := W.ps.map fun x => (wpl W.rs x rg).isSome) ?_) (by rw [hany])) fun H3 e3 => k H3 ((e1.trans e2).trans e3)
      rw [List.map_map]
      refine el_lcTm (K := K) W.ps V.str _ (ev_w0 (ev_var rfl) h2.w) h2.ps.tp (by omega) (fun _ => rfl) fun i x hi => ?_
      refine fun H3 e3 Q3 q3 => (evp_call (ea_cons (ev_var rfl) (ea_cons (ev_var rfl) (ea_cons (ev_var rfl) ea_nil))) (spp_way_places (x := x) h2 ok (ex_rd (e1.trans e2) hb) hl rk.sub)) H3 e3 _ fun v H4 e4 hv => ⟨rfl, ?_⟩
      have hq := q3 H4 e4
      cases hw : wpl W.rs x rg with
      | none =>
        rw [hw] at hv
        have e9 : v = .non := hv
        subst e9
        simp only [Function.comp, hw] at hq
        exact hq
      | some pl =>
        rw [hw] at hv
        obtain ⟨d, e9, _⟩ := hv
        subst e9
        simp only [Function.comp, hw] at hq
        exact hq
/-! ### is_ring -/
theorem atI_last {α : Type} {xs : List α} {v : α} (h : xs.getLast? = some v) : atI xs (-1) = some v := by
  have hne : xs ≠ [] := fun z => by rw [z] at h; cases h
  have hp : 0 < xs.length := List.length_pos_iff.mpr hne
  rw [List.getLast?_eq_getElem?] at h
  unfold atI
  have e : ixN xs.length (-1) = some (xs.length - 1) := by
    unfold ixN
    simp
    omega
  rw [e]
  exact h
def sp_is_ring : Sp := fun vs H Q _ => ∃ (a p q b : Addr) (W : Web) (trs : List (Addr × Road)) (rg : List Str), vs = [.ref a, .ref b] ∧ WebAt H a W p q trs ∧ WebOk W ∧ Tp H b (rg.map V.str) ∧ rg.length ≤ 1000 ∧ RingOk W.rs W.ps rg ∧ ∀ H', Ex H H' → Q (.bl true) H'
def goodAt (R : List Road) (rg : List Str) (x : Str) : Prop := ∃ pl, wpl R x rg = some pl ∧ pl.getLast? = some x ∧ pl.Nodup
theorem ok_is_ring (T : Top mg tk) (D : DefAt K mg "is_ring" s_is_ring ["web", "thing"]) (c_is_way : Cal P w K mg base 3 "is_way" sp_is_way) (c_way_places : Cal P w K mg base 2 "way_places" sp_way_places) : Cal P w K mg base 4 "is_ring" sp_is_ring := by
  refine cal D sc_is_ring (fun vs H Q E h => ?_) (fun f cdv A outer s H vs Q E hr h => ?_)
  · obtain ⟨a, p, q, b, W, trs, rg, rfl, _⟩ := h
    rfl
  · obtain ⟨a, p, q, b, W, trs, rg, rfl, h, ok, hb, hl, rk, k⟩ := h
    refine ⟨_, (pss_cons (ps_if (PW.pt (pw_or (pt_not (pt_val (pc c_is_way hr (by decide) (by rfl) (pa_cons (pv 0) (pa_cons (pv 1) pa_nil))))) (pw_or (pt_cmpR op_lt (pe_callB (r := Evl.rLenS K) call_len_seq (by rfl) T.len PySem.boot_len (pa_cons (pv 1) pa_nil)) pe_int (nomark _)) (pw_or1 (pt_cmpR op_ne (pe_lenSetT (by rfl) T.len (by rfl) T.set (pv 1)) (pe_callB (r := Evl.rLenS K) call_len_seq (by rfl) T.len PySem.boot_len (pa_cons (pv 1) pa_nil)) (nomark _)))))) (pss_one (ps_ret pe_bl)) pss_nil)
        (pss_cons (ps_for PassesOwn.never rfl (pi_tup (pe_ix (r := rIxT K) ix_tup (pv 0) pe_int (fun _ _ => rfl))) (pg_name (i := 2) sc_is_ring.nd rfl (.inl rfl)) (pss_cons (ps_set (i := 3) sc_is_ring.nd rfl (.inl rfl) (pc c_way_places hr (by decide) (by rfl) (pa_cons (pv 0) (pa_cons (pv 2) (pa_cons (pv 1) pa_nil)))))
        (pss_one (ps_if (PW.pt (pw_and (pt_cmpR op_notN1 (pv 3) pe_non (nomark _)) (pw_and (pt_cmpR op_eq (pe_ix (r := rIxT K) ix_tup (pv 3) (pe_un un_neg pe_int) (fun _ _ => rfl)) (pv 2) (nomark _)) (pw_and1 (pt_cmpR op_eq (pe_lenSetT (by rfl) T.len (by rfl) T.set (pv 3)) (pe_callB (r := Evl.rLenS K) call_len_seq (by rfl) T.len PySem.boot_len (pa_cons (pv 3) pa_nil)) (nomark _)))))) (pss_one (ps_ret pe_bl)) pss_nil))))
        (pss_one (ps_ret pe_bl)))), ?_⟩
    have h2 := rk.two
    have lm : (rg.map V.str).length = rg.length := List.length_map ..
    refine q_when (b := false) (et_or (a := false) (b := false) (et_not (a := true) (et_B (ev_callV (ea_cons (ev_var rfl) (ea_cons (ev_var rfl) ea_nil)) fun H1 e Q k E => ⟨a, p, q, b, W, trs, rg, rfl, h.ex e, ok, ex_rd e hb, hl, rk, k⟩))) fun _ =>
      et_or (a := false) (b := false) (et_is (et_test (ev_op (ev_lenT (ev_var rfl) hb) ev_c (rv_I0 (g := fun i j => .bl (decide (i < j)))))) (decide_eq_false (by omega))) fun _ =>
      et_is (et_test (ev_op (ev_lenSet (ev_var rfl) hb (by omega)) (ev_lenT (ev_var rfl) hb) (rv_ne rfl))) (by rw [dlist_nodup rk.nd, lm, decide_eq_true rfl]; rfl)) (fun z => Bool.noConfusion z) fun _ H1 e1 => ?_
    have h1 := h.ex e1
    refine q_forTp (K := K) W.ps V.str (ev_w0 (ev_var rfl) h1.w) h1.ps.tp
      (fun pre σ2 H2 => ∃ y2 y3, σ2 = [some (.ref a), some (.ref b), y2, y3] ∧ Ex H H2 ∧ ∀ x ∈ pre, ¬ goodAt W.rs rg x)
      (fun H2 e2 => ⟨none, none, rfl, e1.trans e2, fun x hx => nomatch hx⟩) (fun pre σ2 H2 ⟨_, _, _, z, _⟩ => ex_rd z h.ps.tp) ?_ ?_
    · rintro pre x post σ2 H2 ep ⟨y2, y3, rfl, e2, hno⟩
      refine q_asgP (evp_call (ea_cons (ev_var rfl) (ea_cons (ev_var rfl) (ea_cons (ev_var rfl) ea_nil))) (spp_way_places (x := x) (h.ex e2) ok (ex_rd e2 hb) hl rk.sub)) fun v H3 e3 hv => ?_
      have next : ¬ goodAt W.rs rg x → ∀ H4, Ex H3 H4 → ∃ y2 y3, ([some (.ref a), some (.ref b), some (.str x), some v] : L2.St) = [some (.ref a), some (.ref b), y2, y3] ∧ Ex H H4 ∧ ∀ x' ∈ pre ++ [x], ¬ goodAt W.rs rg x' := fun hb4 H4 e4 =>
        ⟨_, _, rfl, (e2.trans e3).trans e4, fun x' hx' => by
          rcases List.mem_append.mp hx' with z | z
          · exact hno x' z
          · rw [List.mem_singleton.mp z]; exact hb4⟩
      cases hw : wpl W.rs x rg with
      | none =>
        rw [hw] at hv
        have e9 : v = .non := hv
        subst e9
        exact s_when (b := false) (et_and (a := false) (b := false) (et_notN0 (ev_var rfl)) fun z => Bool.noConfusion z) (fun z => Bool.noConfusion z) fun _ => next fun ⟨pl, z, _⟩ => by rw [hw] at z; cases z
      | some pl =>
        rw [hw] at hv
        obtain ⟨d, e9, hd⟩ := hv
        subst e9
        have hlen := wpl_len hw
        obtain ⟨y, hy⟩ : ∃ y, pl.getLast? = some y := by
          cases q : pl.getLast? with
          | none =>
            rw [List.getLast?_eq_none_iff] at q
            rw [q] at hlen
            rw [← hlen] at h2
            exact absurd h2 (by decide)
          | some y => exact ⟨y, rfl⟩
        have hyV : (pl.map V.str).getLast? = some (.str y) := by rw [List.getLast?_map, hy] <;> rfl
        have lp : (pl.map V.str).length = pl.length := List.length_map ..
        refine s_when (b := decide (V.str y = V.str x) && decide (V.int ((dlist pl).length : Nat) = V.int ((pl.map V.str).length : Int))) (et_is (et_and (a := true) (et_notN1 (ev_var rfl)) fun _ =>
          et_and (a := decide (V.str y = V.str x)) (b := decide (V.int ((dlist pl).length : Nat) = V.int ((pl.map V.str).length : Int))) (et_test (ev_op (ev_t (ev_var rfl) hd.tp (ev_un ev_c ru_neg) (atI_last hyV)) (ev_var rfl) (rv_eq rfl))) fun _ =>
          et_test (ev_op (ev_lenSet (ev_var rfl) hd.tp (by omega)) (ev_lenT (ev_var rfl) hd.tp) (rv_eq rfl))) (Bool.true_and _)) (fun _ H4 e4 => ?_) fun hbf => ?_
        · exact s_ret (v := .bl true) ev_c fun H5 e5 => k H5 (((e2.trans e3).trans e4).trans e5)
        · refine next fun ⟨pl', z, zl, zn⟩ => ?_
          rw [hw] at z
          cases z
          rw [hy] at zl
          cases zl
          rw [decide_eq_true rfl, dlist_nodup zn, lp, decide_eq_true rfl] at hbf
          cases hbf
    · rintro σ2 H2 ⟨y2, y3, rfl, e2, hno⟩
      obtain ⟨pp, hpp, hg⟩ := rk.run
      exact absurd hg (hno pp hpp)
/-! ### ring_in_web, ring_of -/
def RingV (W : Web) (v : V) (H : Hp) : Prop := v = .non ∨ ∃ d rg, v = .ref d ∧ TF H d rg ∧ RingOk W.rs W.ps rg ∧ rg.length ≤ 100
def sp_ring_in_web : Sp := fun vs H Q _ => ∃ (a p q : Addr) (W : Web) (trs : List (Addr × Road)), vs = [.ref a] ∧ WebAt H a W p q trs ∧ WebOk W ∧ ∀ v H', Ex H H' → RingV W v H' → Q v H'
theorem web_ends {W : Web} (ok : WebOk W) {trs : List (Addr × Road)} (h : ∀ y ∈ trs, y.2 ∈ W.rs) : EndsOk trs := fun y hy =>
  ⟨(ok.pn _ (ok.rr _ (h y hy)).one).strOk, (ok.pn _ (ok.rr _ (h y hy)).other).strOk⟩
theorem ok_ring_in_web (T : Top mg tk) (D : DefAt K mg "ring_in_web" s_ring_in_web ["web"]) (c_first_way : Cal P w K mg base 3 "first_way" sp_first_way) : Cal P w K mg base 4 "ring_in_web" sp_ring_in_web := by
  refine cal D sc_ring_in_web (fun vs H Q E h => ?_) (fun f cdv A outer s H vs Q E hr h => ?_)
  · obtain ⟨a, p, q, W, trs, rfl, _⟩ := h
    rfl
  · obtain ⟨a, p, q, W, trs, rfl, h, ok, k⟩ := h
    have hu := hu_of hr
    refine ⟨_, (pss_cons (ps_set (i := 1) sc_ring_in_web.nd rfl (.inl rfl) (pe_lst pa_nil))
        (pss_cons (ps_for PassesOwn.never rfl (pi_tup (pe_ix (r := rIxT K) ix_tup (pv 0) pe_int (fun _ _ => rfl))) (pg_name (i := 2) sc_ring_in_web.nd rfl (.inl rfl)) (pss_cons (ps_set (i := 3) sc_ring_in_web.nd rfl (.inl rfl) (pc c_first_way hr (by decide) (by rfl) (pa_cons (pe_tup (pa_cons (pe_ix (r := rIxT K) ix_tup (pv 0) pe_int (fun _ _ => rfl)) (pa_cons (pe_callTy (r := rTupS K) call_tupF (by rfl) T.tuple (by decide +kernel) (pa_cons (pv 1) pa_nil)) pa_nil))) (pa_cons (pe_ix (r := rIxT K) ix_tup (pv 2) pe_int (fun _ _ => rfl)) (pa_cons (pe_ix (r := rIxT K) ix_tup (pv 2) pe_int (fun _ _ => rfl)) pa_nil)))))
        (pss_cons (ps_if (pt_cmpR op_notN1 (pv 3) pe_non (nomark _)) (pss_one (ps_ret (pe_op (r := rCatF K) op_catF (pe_tup (pa_cons (pe_ix (r := rIxT K) ix_tup (pv 2) pe_int (fun _ _ => rfl)) pa_nil)) (pv 3)))) pss_nil)
        (pss_one (ps_expr (pe_bm PySem.F.plainAttrs_list PySem.F.slot_list_append PySem.F.type_list_append mt_append (pv 1) (pa_cons (pv 2) pa_nil)))))))
        (pss_one (ps_ret pe_non)))), ?_⟩
    have hr14 := ok.r14
    have htl := trs_len h.e
    refine q_asgL (el_lst ea_nil (Nat.zero_le _)) fun F0 H1 nF e1 hF => ?_
    have h1 := h.ex e1
    refine q_forTp (K := K) trs (fun y => V.ref y.1) (ev_w1 (ev_var rfl) h1.w) h1.rs.1
      (fun pre σ2 H2 => ∃ y2 y3, σ2 = [some (.ref a), some (.ref F0), y2, y3] ∧ Ex H H2 ∧ H2 F0 = some (.lst (pre.map fun y => V.ref y.1)))
      (fun H2 e2 => ⟨none, none, rfl, e1.trans e2, e2 F0 _ hF⟩) (fun pre σ2 H2 ⟨_, _, _, z, _⟩ => ex_rd z h.rs.1) ?_ ?_
    · rintro pre y post σ2 H2 ep ⟨y2, y3, rfl, e2, hf⟩
      have hy : y ∈ trs := by rw [ep]; exact List.mem_append_right _ List.mem_cons_self
      have hyR := trs_mem h.e hy
      have hsub : ∀ z ∈ pre, z ∈ trs := fun z hz => by rw [ep]; exact List.mem_append_left _ hz
      have hyT := ex_rd e2 (h.rs.2 y hy)
      have h2 := h.ex e2
      have hprel : pre.length ≤ trs.length := by rw [ep, List.length_append]; exact Nat.le_add_right _ _
      refine q_asgP (P := fun v H' => v = .non ∨ ∃ dd rs d, v = .ref dd ∧ TFV H' dd (rs.map fun r : Road => V.str r.1) ∧ DWalk (pre.map (·.2)) d y.2.2.2 rs y.2.2.1)
        (evp_callA (eap_cons (evp_tupA (eap_cons (ev_p (ev_w0 (ev_var rfl) h2.w)) mono_eq (eap_cons (evp_tupL (K := K) (ev_var rfl) (sq_of hf)) mono_tf eap_nil)) (mono_cons mono_eq (mono_cons mono_tf mono_nil)) len2) (mono_tupA (mono_cons mono_eq (mono_cons mono_tf mono_nil)))
          (eap_cons (ev_p (ev_r2 (ev_var rfl) hyT)) mono_eq (eap_cons (ev_p (ev_r1 (ev_var rfl) hyT)) mono_eq eap_nil))) fun vs H3 e3 hvs => ?_) fun v H3 e3 hv => ?_
      · obtain ⟨_, _, rfl, ⟨t, us, rfl, ht, _, _, rfl, rfl, _, _, rfl, ⟨q', rfl, hq'⟩, rfl⟩, _, _, rfl, rfl, _, _, rfl, rfl, rfl⟩ := hvs
        refine fun H4 e4 Q4 q4 E4 => ⟨t, p, q', pre, _, _, rfl, ex_rd e4 ht, ⟨ex_rd e4 hq'.tp, fun z hz => ex_rd ((e2.trans e3).trans e4) (h.rs.2 z (hsub z hz))⟩, by omega, (ok.pn _ (ok.rr _ hyR).one).strOk, web_ends ok fun z hz => trs_mem h.e (hsub z hz), fun H5 e5 => q4 _ H5 e5 (.inl rfl), fun dd rs d H5 e5 h5 h6 => q4 _ H5 e5 (.inr ⟨dd, rs, d, rfl, h5, h6⟩)⟩
      · rcases hv with rfl | ⟨dd, rs, d, rfl, hdd, hW⟩
        · refine q_when (b := false) (et_notN0 (ev_var rfl)) (fun z => Bool.noConfusion z) fun _ H4 e4 => ?_
          refine s_app (K := K) (l := F0) (xs := pre.map fun y => V.ref y.1) (e4 F0 _ (e3 F0 _ hf)) (ev_var rfl) (ev_var rfl) (by rw [List.length_map]; omega) fun H5 e5 => ?_
          refine ⟨_, _, rfl, Ex.mut (((e2.trans e3).trans e4).trans e5) nF, ?_⟩
          rw [upd_same, List.map_append] <;> rfl
        · refine q_when (b := true) (et_notN1 (ev_var rfl)) (fun _ H4 e4 => ?_) fun z => Bool.noConfusion z
          have hno : y.2 ∉ pre.map (·.2) := fun z => by
            have nd := ok.rd
            rw [← h.e, ep, List.map_append, List.map_append, List.nodup_append] at nd
            exact nd.2.2 y.2.1 (List.mem_map_of_mem (f := (·.1)) z) y.2.1 (by rw [List.map_cons, List.map_cons]; exact List.mem_cons_self) rfl
          have hring := ring_of_walk (R := W.rs) (ps := W.ps) ok.rd hyR (fun z hz => by obtain ⟨z', hz', rfl⟩ := List.mem_map.mp hz; exact trs_mem h.e (hsub z' hz')) hno (ok.rr _ hyR).one (ok.rr _ hyR).ne hW
          have hlen := hW.len
          rw [List.length_map] at hlen
          have hrs : rs.map (fun r : Road => V.str r.1) ≠ [] := fun z => by
            have z' := List.map_eq_nil_iff.mp z
            have t2 := hring.two
            rw [z'] at t2
            exact absurd t2 (by show ¬ 2 ≤ 1; decide)
          refine s_retP (P := RingV W) ?_ fun v H5 e5 hv => k v H5 (((e2.trans e3).trans e4).trans e5) hv
          refine fun H5 e5 Q5 q5 => (eu_tup (ea_cons (ev_r0 (r := y.2) (ev_var rfl) (ex_rd (e3.trans e4) hyT)) ea_nil) (by show 1 ≤ 100000; decide)) H5 e5 _ fun t H6 nt e6 ht => ?_
          refine ⟨.ref dd, rfl, t, dd, _, _, rfl, rfl, .inl (.inl ht), .inl (hdd.ex ((e4.trans e5).trans e6)).tp, ?_, (fun z => nomatch z), (fun _ z => absurd z hrs), fun _ _ pp o hn ho => ?_⟩
          · rw [List.length_map, List.length_singleton]
            have : sizeLine = 16777216 := sizeLine_eq
            omega
          · refine q5 _ _ (e6.trans (Ex.new hn)) (.inr ⟨pp, (y.2 :: rs).map (·.1), rfl, ⟨o, ?_, ho⟩, hring, ?_⟩)
            · rw [upd_same, List.map_map] <;> rfl
            · rw [List.length_map, List.length_cons]; omega
    · rintro σ2 H2 ⟨y2, y3, rfl, e2, hf⟩
      exact s_ret (v := .non) ev_c fun H3 e3 => k .non H3 (e2.trans e3) (.inl rfl)
def sp_ring_of : Sp := fun vs H Q _ => ∃ (a p q : Addr) (W : Web) (trs : List (Addr × Road)), vs = [.ref a] ∧ WebAt H a W p q trs ∧ WebOk W ∧ ∀ v H', Ex H H' → RingV W v H' → Q v H'
theorem ok_ring_of (T : Top mg tk) (D : DefAt K mg "ring_of" s_ring_of ["web"]) (c_need_web : Cal P w K mg base 4 "need_web" sp_need_web) (c_ring_in_web : Cal P w K mg base 4 "ring_in_web" sp_ring_in_web) : Cal P w K mg base 5 "ring_of" sp_ring_of := by
  refine cal D sc_ring_of (fun vs H Q E h => ?_) (fun f cdv A outer s H vs Q E hr h => ?_)
  · obtain ⟨a, p, q, W, trs, rfl, _⟩ := h
    rfl
  · obtain ⟨a, p, q, W, trs, rfl, h, ok, k⟩ := h
    refine ⟨_, (pss_cons (ps_expr (pc c_need_web hr (by decide) (by rfl) (pa_cons (pv 0) pa_nil)))
        (pss_one (ps_ret (pc c_ring_in_web hr (by decide) (by rfl) (pa_cons (pv 0) pa_nil))))), ?_⟩
    refine q_drop (ev_callV (ea_cons (ev_var rfl) ea_nil) (spv_need_web h ok)) fun H1 e1 => ?_
    exact s_retP (P := RingV W) (evp_call (ea_cons (ev_var rfl) ea_nil) fun H2 e2 Q2 q2 E => ⟨a, p, q, W, trs, rfl, h.ex (e1.trans e2), ok, fun v H3 e3 hv => q2 v H3 e3 hv⟩) fun v H2 e2 hv => k v H2 (e1.trans e2) hv
/-! ### falls -/
/-- where the next one, in a ring, is less -/
def fallsAt (row : List Int) (i : Nat) : Bool := decide (row.getD ((i + 1) % row.length) 0 < row.getD i 0)
def fallsOf (row : List Int) : List Bool := (List.range row.length).map (fallsAt row)
theorem fallsOf_len (row : List Int) : (fallsOf row).length = row.length := by rw [fallsOf, List.length_map, List.length_range]
def sp_falls_of_row : Sp := fun vs H Q _ => ∃ (a : Addr) (row : List Int), vs = [.ref a] ∧ H a = some (.lst (row.map V.int)) ∧ row.length ≤ 1000 ∧ ∀ d H', H d = none → Ex H H' → H' d = some (.lst ((fallsOf row).map V.bl)) → Q (.ref d) H'
theorem ok_falls_of_row (T : Top mg tk) (D : DefAt K mg "falls_of_row" s_falls_of_row ["row"]) : Cal P w K mg base 1 "falls_of_row" sp_falls_of_row := by
  refine cal D sc_falls_of_row (fun vs H Q E h => ?_) (fun f cdv A outer s H vs Q E hr h => ?_)
  · obtain ⟨a, row, rfl, _⟩ := h
    rfl
  · obtain ⟨a, row, rfl, h, hl, k⟩ := h
    refine ⟨_, (pss_one (ps_ret (pe_lc (g := (gTup K 2 (gCons (gName 1) (gCons (gName 2) gNil)))) (own := [("at", 1), ("rank", 2)]) rfl sc_falls_of_row.nd (pi_enum (by rfl) T.enumerate (pa_cons (pv 0) pa_nil)) (blkOk_by (N := N_falls_of_row) (sc := defScope s_falls_of_row) (by decide +kernel)) (fun _ _ _ _ _ => (pg_tup rfl (pgs_cons (pg_name (i := 1) sc_falls_of_row.nd rfl (.inl rfl)) (pgs_cons (pg_name (i := 2) sc_falls_of_row.nd rfl (.inl rfl)) pgs_nil)))) (fun _ _ _ _ _ => pts_nil) (fun _ _ _ _ _ => (pe_cmpR op_lt (pe_ix (r := rIxL K) ix_list (pv 0) (pe_op op_modN (pe_op op_add (pv 1) pe_int) (pe_callB (r := Evl.rLenS K) call_len_seq (by rfl) T.len PySem.boot_len (pa_cons (pv 0) pa_nil))) (fun _ _ => rfl)) (pv 2) (nomark _)))))), ?_⟩
    have lm : (row.map V.int).length = row.length := List.length_map ..
    refine s_retL (el_lcE (K := K) (i0 := 1) (j0 := 2) ((fallsOf row).map V.bl) (ev_var rfl) h (by omega) (by rw [List.length_map, fallsOf_len, lm]) (fun _ _ => rfl) fun i x y hx hy => ?_) k
    have hi : i < row.length := by
      have := (List.getElem?_eq_some_iff.mp hx).1
      omega
    have hxi : row[i]? = some (row.getD i 0) := by rw [List.getD_eq_getElem?_getD, List.getElem?_eq_getElem hi] <;> rfl
    have ex : x = .int (row.getD i 0) := by
      rw [List.getElem?_map, hxi] at hx
      exact (Option.some.inj hx).symm
    have ey : y = .bl (fallsAt row i) := by
      rw [List.getElem?_map, fallsOf, List.getElem?_map, List.getElem?_range hi] at hy
      exact (Option.some.inj hy).symm
    subst ex ey
    have hm : (i + 1) % row.length < row.length := Nat.mod_lt _ (by omega)
    have hn : (row.map V.int)[(i + 1) % row.length]? = some (.int (row.getD ((i + 1) % row.length) 0)) := by
      rw [List.getElem?_map, List.getD_eq_getElem?_getD, List.getElem?_eq_getElem hm] <;> rfl
    have em : (((i : Nat) : Int) + 1).fmod (((row.map V.int).length : Nat) : Int) = (((i + 1) % row.length : Nat) : Int) := by
      rw [lm, Int.fmod_eq_emod_of_nonneg _ (by omega)]
      norm_cast
    exact ev_op (ev_l (ev_var rfl) h (ev_is (ev_op (ev_op (ev_var rfl) ev_c rv_I0) (ev_len (ev_var rfl) (sq_of h)) (rv_I (by omega))) (by rw [em])) (atI_nat hn)) (ev_var rfl) (rv_I0 (g := fun i j => .bl (decide (i < j))))
/-! ### need_ring, lap -/
def rank (ro : List Str) (n : Str) : Nat := ro.idxOf n
def rowOf (ro rg : List Str) : List Int := rg.map fun n => ((rank ro n : Nat) : Int)
theorem rank_get {ro : List Str} {n : Str} (h : n ∈ ro) : ro[rank ro n]? = some n := by
  have hl : ro.idxOf n < ro.length := List.idxOf_lt_length_iff.mpr h
  rw [rank, List.getElem?_eq_getElem hl, List.getElem_idxOf]
theorem rank_first {ro : List Str} {n : Str} (m : Nat) (h : m < rank ro n) : ro[m]? ≠ some n := fun z => by
  obtain ⟨hm, e⟩ := List.getElem?_eq_some_iff.mp z
  have := List.not_of_lt_findIdx (p := (· == n)) (xs := ro) h
  simp [e] at this
theorem rota_all {W : Web} {ro : List Str} (ok : WebOk W) (rk : RotaOk W ro) : ∀ n ∈ W.names, n ∈ ro := by
  refine nodup_all rk.nd rk.sub ?_
  rw [Web.names, List.length_map, rk.len]
  exact Nat.le_refl _
def sp_need_ring : Sp := fun vs H Q _ => ∃ (a p q b c : Addr) (W : Web) (trs : List (Addr × Road)) (ro rg : List Str), vs = [.ref a, .ref b, .ref c] ∧ WebAt H a W p q trs ∧ WebOk W ∧ TF H b ro ∧ RotaOk W ro ∧ Tp H c (rg.map V.str) ∧ rg.length ≤ 1000 ∧ RingOk W.rs W.ps rg ∧ ∀ d H', H d = none → Ex H H' → H' d = some (.lst ((rowOf ro rg).map V.int)) → Q (.ref d) H'
theorem ok_need_ring (T : Top mg tk) (D : DefAt K mg "need_ring" s_need_ring ["web", "rota", "ring"]) (c_need_web : Cal P w K mg base 4 "need_web" sp_need_web) (c_need_rota : Cal P w K mg base 3 "need_rota" sp_need_rota) (c_is_ring : Cal P w K mg base 4 "is_ring" sp_is_ring) : Cal P w K mg base 5 "need_ring" sp_need_ring := by
  refine cal D sc_need_ring (fun vs H Q E h => ?_) (fun f cdv A outer s H vs Q E hr h => ?_)
  · obtain ⟨a, p, q, b, c, W, trs, ro, rg, rfl, _⟩ := h
    rfl
  · obtain ⟨a, p, q, b, c, W, trs, ro, rg, rfl, h, ok, hb, rk, hc, hl, gk, k⟩ := h
    refine ⟨_, (pss_cons (ps_expr (pc c_need_web hr (by decide) (by rfl) (pa_cons (pv 0) pa_nil)))
        (pss_cons (ps_expr (pc c_need_rota hr (by decide) (by rfl) (pa_cons (pv 0) (pa_cons (pv 1) pa_nil))))
        (pss_cons (ps_if (pt_not (pt_val (pc c_is_ring hr (by decide) (by rfl) (pa_cons (pv 0) (pa_cons (pv 2) pa_nil))))) (pss_one ps_never) pss_nil)
        (pss_one (ps_ret (pe_lc (g := (gName 3)) (own := [("road", 3)]) rfl sc_need_ring.nd (pi_tup (pv 2)) (blkOk_by (N := N_need_ring) (sc := defScope s_need_ring) (by decide +kernel)) (fun _ _ _ _ _ => (pg_name (i := 3) sc_need_ring.nd rfl (.inl rfl))) (fun _ _ _ _ _ => pts_nil) (fun _ _ _ _ _ => (pe_tix (pv 1) (pv 3))))))))), ?_⟩
    refine q_drop (ev_callV (ea_cons (ev_var rfl) ea_nil) (spv_need_web h ok)) fun H1 e1 => ?_
    refine q_drop (ev_callV (ea_cons (ev_var rfl) (ea_cons (ev_var rfl) ea_nil)) (spv_need_rota (h.ex e1) ok (ex_rd e1 hb.tp) rk)) fun H2 e2 => ?_
    have e12 := e1.trans e2
    refine q_need (et_not (a := true) (et_B (ev_callV (ea_cons (ev_var rfl) (ea_cons (ev_var rfl) ea_nil)) fun H3 e3 Q3 q3 E => ⟨a, p, q, c, W, trs, rg, rfl, h.ex (e12.trans e3), ok, ex_rd (e12.trans e3) hc, hl, gk, q3⟩))) fun H3 e3 => ?_
    have e13 := e12.trans e3
    refine s_retL (xs := (rowOf ro rg).map V.int) ?_ fun d H4 n4 e4 h4 => k d H4 (fresh_back e13 n4) (e13.trans e4) h4
    have hlc := el_lcTm (K := K) (σ := [some (.ref a), some (.ref b), some (.ref c), none]) (te := tTix (tVar 1) (tVar 3)) (vs := [3]) (j := 3) rg V.str (fun n => V.int ((rank ro n : Nat) : Int)) (ev_var (i := 2) rfl) (ex_rd e13 hc) (by omega) (fun _ => rfl) fun i n hi H4 e4 Q4 q4 => by
      have hn : n ∈ ro := rota_all ok rk n (gk.sub n (List.mem_of_getElem? hi))
      exact (ev_var rfl) H4 e4 _ fun H5 e5 => ⟨b, ro, rfl, hb.ex ((e13.trans e4).trans e5), (ev_var (i := 3) rfl) H5 (e4.trans e5) _ fun H6 e6 => ⟨n, rank ro n, rfl, hb.ex (((e13.trans e4).trans e5).trans e6), rank_get hn, fun m hm => rank_first m hm, q4 H6 (e5.trans e6)⟩⟩
    rw [rowOf, List.map_map]
    exact hlc
def fallsN (ro rg : List Str) : Int := ((fallsOf (rowOf ro rg)).map b01).sum
def sp_lap : Sp := fun vs H Q _ => ∃ (a p q b c : Addr) (W : Web) (trs : List (Addr × Road)) (ro rg : List Str), vs = [.ref a, .ref b, .ref c] ∧ WebAt H a W p q trs ∧ WebOk W ∧ TF H b ro ∧ RotaOk W ro ∧ Tp H c (rg.map V.str) ∧ rg.length ≤ 1000 ∧ RingOk W.rs W.ps rg ∧ ∀ d H', H d = none → Ex H H' → H' d = some (.tup [.int (fallsN ro rg), .int ((rg.length : Int) - fallsN ro rg)]) → Q (.ref d) H'
theorem ok_lap (T : Top mg tk) (D : DefAt K mg "lap" s_lap ["web", "rota", "ring"]) (c_need_ring : Cal P w K mg base 5 "need_ring" sp_need_ring) (c_falls_of_row : Cal P w K mg base 1 "falls_of_row" sp_falls_of_row) : Cal P w K mg base 6 "lap" sp_lap := by
  refine cal D sc_lap (fun vs H Q E h => ?_) (fun f cdv A outer s H vs Q E hr h => ?_)
  · obtain ⟨a, p, q, b, c, W, trs, ro, rg, rfl, _⟩ := h
    rfl
  · obtain ⟨a, p, q, b, c, W, trs, ro, rg, rfl, h, ok, hb, rk, hc, hl, gk, k⟩ := h
    refine ⟨_, (pss_cons (ps_set (i := 3) sc_lap.nd rfl (.inl rfl) (pe_callB (cr_sumB rfl) (by rfl) T.sum (by decide +kernel) (pa_cons (pc c_falls_of_row hr (by decide) (by rfl) (pa_cons (pc c_need_ring hr (by decide) (by rfl) (pa_cons (pv 0) (pa_cons (pv 1) (pa_cons (pv 2) pa_nil)))) pa_nil)) pa_nil)))
        (pss_one (ps_ret (pe_tup (pa_cons (pv 3) (pa_cons (pe_op op_sub (pe_callB (r := Evl.rLenS K) call_len_seq (by rfl) T.len PySem.boot_len (pa_cons (pv 2) pa_nil)) (pv 3)) pa_nil)))))), ?_⟩
    refine q_asg (v := .int (fallsN ro rg)) ?_ fun H1 e1 => ?_
    · refine fun H1 e1 Q1 q1 => (el_callL (xs := (rowOf ro rg).map V.int) (ea_cons (ev_var rfl) (ea_cons (ev_var rfl) (ea_cons (ev_var rfl) ea_nil))) fun H2 e2 Q2 q2 E => ⟨a, p, q, b, c, W, trs, ro, rg, rfl, h.ex e2, ok, hb.ex e2, rk, ex_rd e2 hc, hl, gk, q2⟩) H1 e1 _ fun d H2 nd e2 hd => ?_
      refine ⟨d, rowOf ro rg, rfl, hd, by rw [rowOf, List.length_map]; exact hl, fun d2 H3 n3 e3 h3 => ⟨d2, fallsOf (rowOf ro rg), rfl, sq_of h3, q1 H3 (e2.trans e3)⟩⟩
    · refine s_retU (eu_tup (ea_cons (ev_var rfl) (ea_cons (ev_op (ev_lenT (ev_var rfl) (ex_rd e1 hc)) (ev_var rfl) rv_I0) ea_nil)) (by show 2 ≤ 100000; decide)) fun d H2 n2 e2 h2 => k d H2 (fresh_back e1 n2) (e1.trans e2) ?_
      rw [h2, List.length_map]
end
end RP
/-! part RPm2 -/
/-! plain: news by days over a tree -/
namespace RP
open PySem PySem.Spec PyProof.Rows L2 Evl
abbrev Mom := Nat × Nat
/-- reached by the road of rank i from a place reached at mp -/
def Nxt (i : Nat) (mp m : Mom) : Prop := m.2 = i + 1 ∧ m.1 = mp.1 + (if i < mp.2 then 1 else 0)
/-- now is not behind the next time of rank i after mp -/
def Wait (now mp : Mom) (i : Nat) : Prop := now.1 < mp.1 + (if i < mp.2 then 1 else 0) ∨ (now.1 = mp.1 + (if i < mp.2 then 1 else 0) ∧ now.2 ≤ i)
structure Sim (R : List Road) (ro : List Str) (x : Str) (f : Str → Option Mom) (now : Mom) : Prop where
  st : f x = some (1, 0)
  past : ∀ y m, f y = some m → m.1 < now.1 ∨ (m.1 = now.1 ∧ m.2 ≤ now.2)
  par : ∀ y m, f y = some m → y ≠ x → ∃ r ∈ R, tch y r ∧ ∃ mp, f (oend r y) = some mp ∧ Nxt (rank ro r.1) mp m
  pend : ∀ p mp r, f p = some mp → r ∈ R → tch p r → f (oend r p) = none → Wait now mp (rank ro r.1)
/-- a road's other end is what is not the one -/
theorem oend_of {r : Road} {p q : Str} (hp : tch p r) (hq : tch q r) (h : q ≠ p) : q = oend r p := by
  rw [tch_iff] at hp hq
  unfold oend
  by_cases e : r.2.1 = p
  · rw [if_pos e]
    rcases hq with z | z
    · exact absurd (z.trans e) h
    · exact z
  · rw [if_neg e]
    rcases hq with z | z
    · exact z
    · rcases hp with w | w
      · exact absurd w.symm e
      · exact absurd (z.trans w.symm) h
section
variable {R : List Road} {ro : List Str} {x : Str} {f : Str → Option Mom} {now : Mom} {day idx : Nat} {r : Road}
theorem rank_inj {ns : List Str} {a b : Str} (ha : a ∈ ro) (h : rank ro a = rank ro b) (hb : b ∈ ro) : a = b := by
  have h1 := rank_get ha
  have h2 := rank_get hb
  rw [h, h2] at h1
  exact (Option.some.inj h1).symm
theorem rank_at (nd : ro.Nodup) {i : Nat} {n : Str} (h : ro[i]? = some n) : rank ro n = i := by
  obtain ⟨hi, e⟩ := List.getElem?_eq_some_iff.mp h
  have hn : n ∈ ro := List.mem_of_getElem? h
  have hl : ro.idxOf n < ro.length := List.idxOf_lt_length_iff.mpr hn
  have e2 := rank_get hn
  obtain ⟨h3, e3⟩ := List.getElem?_eq_some_iff.mp e2
  exact (List.getElem_inj nd).mp (e3.trans e.symm)
theorem road_eq (nd : (R.map (·.1)).Nodup) {a b : Road} (ha : a ∈ R) (hb : b ∈ R) (h : a.1 = b.1) : a = b := by
  have h1 := rfind_mem nd ha
  have h2 := rfind_mem nd hb
  rw [h, h2] at h1
  exact (Option.some.inj h1).symm
theorem Sim.init (hx : f x = some (1, 0)) (hn : ∀ y, y ≠ x → f y = none) : Sim R ro x f (1, 0) where
  st := hx
  past := fun y m h => by
    by_cases e : y = x
    · rw [e, hx] at h
      cases h
      exact .inr ⟨rfl, Nat.le_refl _⟩
    · rw [hn y e] at h; cases h
  par := fun y m h e => by rw [hn y e] at h; cases h
  pend := fun p mp r h _ _ _ => by
    by_cases e : p = x
    · rw [e, hx] at h
      cases h
      refine .inr ⟨?_, Nat.zero_le _⟩
      show 1 = 1 + (if rank ro r.1 < 0 then 1 else 0)
      rw [if_neg (Nat.not_lt_zero _)]
    · rw [hn p e] at h; cases h
/-- a road goes by that finds no new place -/
theorem Sim.skip (S : Sim R ro x f (day, idx)) (hsub : ∀ r ∈ R, r.1 ∈ ro) (nd : (R.map (·.1)).Nodup) (hr : r ∈ R) (hi : rank ro r.1 = idx) (hno : ∀ p, tch p r → f p ≠ none → f (oend r p) ≠ none) : Sim R ro x f (day, idx + 1) :=
  { S with
    past := fun y m h => by
      rcases S.past y m h with z | ⟨z, w⟩
      · exact .inl z
      · exact .inr ⟨z, Nat.le_succ_of_le w⟩
    pend := fun p mp r' h hr' ht ho => by
      rcases S.pend p mp r' h hr' ht ho with z | ⟨z, w⟩
      · exact .inl z
      · refine .inr ⟨z, ?_⟩
        have w' : idx ≤ rank ro r'.1 := w
        by_cases e : rank ro r'.1 = idx
        · have e2 : r' = r := road_eq nd hr' hr (rank_inj (ns := ro) (hsub r' hr') (e.trans hi.symm) (hsub r hr))
          rw [e2] at ht ho
          exact absurd ho (hno p ht (by rw [h]; exact fun z => nomatch z))
        · show idx + 1 ≤ rank ro r'.1
          omega }
/-- a road goes by that finds a new place -/
theorem Sim.add {f' : Str → Option Mom} {p : Str} (S : Sim R ro x f (day, idx)) (hsub : ∀ r ∈ R, r.1 ∈ ro) (nd : (R.map (·.1)).Nodup) (hr : r ∈ R) (hi : rank ro r.1 = idx) (ht : tch p r) (hp : f p ≠ none) (ho : f (oend r p) = none)
    (hf : ∀ y, f' y = if y = oend r p then some (day, idx + 1) else f y) : Sim R ro x f' (day, idx + 1) := by
  have keep : ∀ y m, f y = some m → f' y = some m := fun y m h => by
    rw [hf, if_neg fun z => by rw [z, ho] at h; cases h]
    exact h
  obtain ⟨mp, hmp⟩ : ∃ mp, f p = some mp := by
    cases q : f p with
    | none => exact absurd q hp
    | some m => exact ⟨m, rfl⟩
  refine { st := keep _ _ S.st, past := fun y m h => ?_, par := fun y m h hy => ?_, pend := fun p' mp' r' h hr' ht' ho' => ?_ }
  · rw [hf] at h
    by_cases e : y = oend r p
    · rw [if_pos e] at h
      cases h
      exact .inr ⟨rfl, Nat.le_refl _⟩
    · rw [if_neg e] at h
      rcases S.past y m h with z | ⟨z, w⟩
      · exact .inl z
      · exact .inr ⟨z, Nat.le_succ_of_le w⟩
  · rw [hf] at h
    by_cases e : y = oend r p
    · rw [if_pos e] at h
      cases h
      refine ⟨r, hr, by rw [e]; exact tch_oend ht, mp, by rw [e, oend_oend ht]; exact keep _ _ hmp, by rw [hi], ?_⟩
      rw [hi]
      have h1 := S.pend p mp r hmp hr ht ho
      rw [hi] at h1
      have h2 := S.past p mp hmp
      show day = mp.1 + (if idx < mp.2 then 1 else 0)
      have h1' : day < mp.1 + (if idx < mp.2 then 1 else 0) ∨ (day = mp.1 + (if idx < mp.2 then 1 else 0) ∧ idx ≤ idx) := h1
      have h2' : mp.1 < day ∨ (mp.1 = day ∧ mp.2 ≤ idx) := h2
      by_cases c : idx < mp.2
      · rw [if_pos c] at h1' ⊢
        omega
      · rw [if_neg c] at h1' ⊢
        omega
    · rw [if_neg e] at h
      obtain ⟨r', hr', ht', mp', hq, hN⟩ := S.par y m h hy
      exact ⟨r', hr', ht', mp', keep _ _ hq, hN⟩
  · have ho2 : f (oend r' p') = none := by
      cases q : f (oend r' p') with
      | none => rfl
      | some m => rw [keep _ _ q] at ho'; cases ho'
    rw [hf] at h
    by_cases e : p' = oend r p
    · rw [if_pos e] at h
      cases h
      show day < day + (if rank ro r'.1 < idx + 1 then 1 else 0) ∨ (day = day + (if rank ro r'.1 < idx + 1 then 1 else 0) ∧ idx + 1 ≤ rank ro r'.1)
      by_cases c : rank ro r'.1 < idx + 1
      · rw [if_pos c]; exact .inl (Nat.lt_succ_self _)
      · rw [if_neg c]; exact .inr ⟨rfl, by omega⟩
    · rw [if_neg e] at h
      rcases S.pend p' mp' r' h hr' ht' ho2 with z | ⟨z, w⟩
      · exact .inl z
      · refine .inr ⟨z, ?_⟩
        have w' : idx ≤ rank ro r'.1 := w
        by_cases c : rank ro r'.1 = idx
        · have e2 : r' = r := road_eq nd hr' hr (rank_inj (ns := ro) (hsub r' hr') (c.trans hi.symm) (hsub r hr))
          rw [e2] at ht' ho'
          by_cases e3 : p' = p
          · rw [e3, hf, if_pos rfl] at ho'; cases ho'
          · exact absurd (oend_of ht ht' e3) e
        · show idx + 1 ≤ rank ro r'.1
          omega
/-- the night -/
theorem Sim.night (S : Sim R ro x f (day, ro.length)) (hsub : ∀ r ∈ R, r.1 ∈ ro) : Sim R ro x f (day + 1, 0) :=
  { S with
    past := fun y m h => by
      rcases S.past y m h with z | ⟨z, w⟩
      · exact .inl (Nat.lt_succ_of_lt z)
      · exact .inl (by show m.1 < day + 1; have z' : m.1 = day := z; omega)
    pend := fun p mp r' h hr' ht ho => by
      rcases S.pend p mp r' h hr' ht ho with z | ⟨z, w⟩
      · have z' : day < mp.1 + (if rank ro r'.1 < mp.2 then 1 else 0) := z
        rcases Nat.lt_or_ge (day + 1) (mp.1 + (if rank ro r'.1 < mp.2 then 1 else 0)) with c | c
        · exact .inl c
        · exact .inr ⟨by show day + 1 = _; omega, Nat.zero_le _⟩
      · have hl : rank ro r'.1 < ro.length := List.idxOf_lt_length_iff.mpr (hsub r' hr')
        have w' : ro.length ≤ rank ro r'.1 := w
        omega }
/-! ### walks without turning back -/
def Wk : Str → List Road → Str → Prop
  | p, [], y => p = y
  | p, r :: rs, y => tch p r ∧ Wk (oend r p) rs y
theorem wk_app : ∀ {p y z : Str} {rs ts : List Road}, Wk p rs y → Wk y ts z → Wk p (rs ++ ts) z
  | p, y, z, [], ts, h, h2 => by rw [show p = y from h]; exact h2
  | p, y, z, r :: rs, ts, h, h2 => ⟨h.1, wk_app h.2 h2⟩
theorem wk_rev : ∀ {p y : Str} {rs : List Road}, Wk p rs y → Wk y rs.reverse p
  | p, y, [], h => (show p = y from h).symm
  | p, y, r :: rs, h => by
    rw [List.reverse_cons]
    exact wk_app (wk_rev h.2) ⟨tch_oend h.1, oend_oend h.1⟩
/-- no two alike side by side -/
def Adj {α : Type} (l : List α) : Prop := ∀ a r s b, l = a ++ r :: s :: b → r ≠ s
theorem Adj.rev {α : Type} {l : List α} (h : Adj l) : Adj l.reverse := fun a r s b e => by
  have e2 := congrArg List.reverse e
  rw [List.reverse_reverse, List.reverse_append, List.reverse_cons, List.reverse_cons] at e2
  have := h b.reverse s r a.reverse (by rw [e2]; simp)
  exact fun z => this z.symm
theorem Adj.tail {α : Type} {l : List α} {x : α} (h : Adj (x :: l)) : Adj l := fun a r s b e => h (x :: a) r s b (by rw [e]; rfl)
theorem Adj.head {α : Type} {l : List α} {x y : α} (h : Adj (x :: y :: l)) : x ≠ y := h [] x y l rfl
/-- a walk in R, never by the same road twice running -/
structure NB (R : List Road) (x : Str) (rs : List Road) (y : Str) : Prop where
  wk : Wk x rs y
  sub : ∀ r ∈ rs, r ∈ R
  adj : Adj rs
theorem NB.rev {y : Str} {rs : List Road} (h : NB R x rs y) : NB R y rs.reverse x := ⟨wk_rev h.wk, fun r hr => h.sub r (List.mem_reverse.mp hr), h.adj.rev⟩
/-! ### falls along ranks -/
def fl : List Nat → Nat
  | a :: b :: l => (if b ≤ a then 1 else 0) + fl (b :: l)
  | _ => 0
theorem fl_snoc : ∀ (l : List Nat) (a b : Nat), fl (l ++ [a, b]) = fl (l ++ [a]) + (if b ≤ a then 1 else 0)
  | [], a, b => by simp [fl]
  | [c], a, b => by simp [fl]
  | c :: d :: l, a, b => by
    have ih := fl_snoc (d :: l) a b
    show (if d ≤ c then 1 else 0) + fl (d :: l ++ [a, b]) = (if d ≤ c then 1 else 0) + fl (d :: l ++ [a]) + _
    rw [ih, Nat.add_assoc]
theorem fl_rev : ∀ (l : List Nat), Adj l → l ≠ [] → fl l + fl l.reverse + 1 = l.length
  | [], _, h => absurd rfl h
  | [a], _, _ => rfl
  | a :: b :: l, h, _ => by
    have ih := fl_rev (b :: l) h.tail (List.cons_ne_nil _ _)
    have hne := h.head
    have e : (a :: b :: l).reverse = l.reverse ++ [b, a] := by simp
    have e2 : (b :: l).reverse = l.reverse ++ [b] := by simp
    rw [e, fl_snoc, ← e2]
    show (if b ≤ a then 1 else 0) + fl (b :: l) + (fl (b :: l).reverse + (if a ≤ b then 1 else 0)) + 1 = (b :: l).length + 1
    by_cases c : b ≤ a
    · rw [if_pos c, if_neg (by omega)]; omega
    · rw [if_neg c, if_pos (by omega)]; omega
theorem fl_neg (N : Nat) : ∀ (l : List Nat), Adj l → (∀ a ∈ l, a < N) → l ≠ [] → fl (l.map fun a => N - 1 - a) + fl l + 1 = l.length
  | [], _, _, h => absurd rfl h
  | [a], _, _, _ => rfl
  | a :: b :: l, h, hN, _ => by
    have ih := fl_neg N (b :: l) h.tail (fun c hc => hN c (List.mem_cons_of_mem _ hc)) (List.cons_ne_nil _ _)
    have hne := h.head
    have ha := hN a List.mem_cons_self
    have hb := hN b (List.mem_cons_of_mem _ List.mem_cons_self)
    show (if N - 1 - b ≤ N - 1 - a then 1 else 0) + fl ((b :: l).map fun a => N - 1 - a) + ((if b ≤ a then 1 else 0) + fl (b :: l)) + 1 = (b :: l).length + 1
    by_cases c : b ≤ a
    · rw [if_pos c, if_neg (by omega)]; omega
    · rw [if_neg c, if_pos (by omega)]; omega
/-- the moments along ranks -/
def runT : Mom → List Nat → Mom
  | m, [] => m
  | m, i :: l => runT (m.1 + (if i < m.2 then 1 else 0), i + 1) l
theorem runT_fl : ∀ (l : List Nat) (d a : Nat), (runT (d, a + 1) l).1 = d + fl (a :: l)
  | [], d, a => rfl
  | b :: l, d, a => by
    rw [runT, runT_fl l]
    show d + (if b < a + 1 then 1 else 0) + fl (b :: l) = d + ((if b ≤ a then 1 else 0) + fl (b :: l))
    by_cases c : b ≤ a
    · rw [if_pos c, if_pos (by omega)]; omega
    · rw [if_neg c, if_neg (by omega)]; omega
theorem runT_snd : ∀ (l : List Nat) (m : Mom), l ≠ [] → 0 < (runT m l).2
  | [], m, h => absurd rfl h
  | [a], m, _ => Nat.succ_pos _
  | a :: b :: l, m, _ => runT_snd (b :: l) _ (List.cons_ne_nil _ _)
def dayW (ro : List Str) (rs : List Road) : Nat := if rs = [] then 0 else 1 + fl (rs.map fun r => rank ro r.1)
theorem runT_day (rs : List Road) (h : rs ≠ []) : (runT (1, 0) (rs.map fun r => rank ro r.1)).1 = dayW ro rs := by
  cases rs with
  | nil => exact absurd rfl h
  | cons r rs =>
    rw [List.map_cons, runT]
    show (runT (1 + (if rank ro r.1 < 0 then 1 else 0), rank ro r.1 + 1) _).1 = _
    rw [if_neg (Nat.not_lt_zero _), runT_fl, dayW, if_neg (List.cons_ne_nil _ _), List.map_cons]
/-! ### the tree -/
structure Tree (W : Web) : Prop where
  cnt : W.rs.length + 1 = W.ps.length
  con : ∀ S : Str → Prop, (∀ r ∈ W.rs, S r.2.1 ↔ S r.2.2) → ∀ a ∈ W.ps, ∀ b ∈ W.ps, S a → S b
def Par (R : List Road) (ro : List Str) (f : Str → Option Mom) (r : Road) (y : Str) : Prop := r ∈ R ∧ tch y r ∧ ∃ mp m, f (oend r y) = some mp ∧ f y = some m ∧ Nxt (rank ro r.1) mp m
theorem Par.one {a b : Str} (h : Par R ro f r a) (h2 : Par R ro f r b) : a = b := by
  rcases Classical.em (a = b) with e | e
  · exact e
  · obtain ⟨hr, ta, mp, m, hp, hm, n1, n2⟩ := h
    obtain ⟨_, tb, mp', m', hp', hm', n1', n2'⟩ := h2
    have eb := oend_of ta tb (fun z => e z.symm)
    have ea := oend_of tb ta e
    rw [← eb, hm'] at hp
    rw [← ea, hm] at hp'
    cases hp
    cases hp'
    rw [n1', if_pos (Nat.lt_succ_self _)] at n2
    rw [n1, if_pos (Nat.lt_succ_self _)] at n2'
    omega
theorem Par.only {s : Road} {y : Str} (hsub : ∀ r ∈ R, r.1 ∈ ro) (nd : (R.map (·.1)).Nodup) (h : Par R ro f r y) (h2 : Par R ro f s y) : r = s := by
  obtain ⟨hr, _, mp, m, _, hm, n1, _⟩ := h
  obtain ⟨hs, _, mp', m', _, hm', n1', _⟩ := h2
  rw [hm] at hm'
  cases hm'
  exact road_eq nd hr hs (rank_inj (ns := ro) (hsub r hr) (by omega) (hsub s hs))
end
/-- all found: a road of the tree leads to one of its ends -/
theorem par_all {W : Web} {ro : List Str} {x : Str} {f : Str → Option Mom} {now : Mom} (ok : WebOk W) (t : Tree W) (S : Sim W.rs ro x f now) (hx : x ∈ W.ps) (hall : ∀ y ∈ W.ps, f y ≠ none) : ∀ r ∈ W.rs, ∃ y, Par W.rs ro f r y := by
  have hpar : ∀ y ∈ W.ps.erase x, ∃ r, Par W.rs ro f r y := fun y hy => by
    have hne : y ≠ x := ((List.Nodup.mem_erase_iff ok.pd).mp hy).1
    have hyp : y ∈ W.ps := List.mem_of_mem_erase hy
    obtain ⟨m, hm⟩ : ∃ m, f y = some m := by
      cases q : f y with
      | none => exact absurd q (hall y hyp)
      | some m => exact ⟨m, rfl⟩
    obtain ⟨r, hr, ht, mp, h1, h2⟩ := S.par y m hm hne
    exact ⟨r, hr, ht, mp, m, h1, hm, h2⟩
  classical
  let g : Str → Road := fun y => if h : ∃ r, Par W.rs ro f r y then h.choose else ("", "", "")
  have hg : ∀ y ∈ W.ps.erase x, Par W.rs ro f (g y) y := fun y hy => by
    have h := hpar y hy
    show Par W.rs ro f (if h : ∃ r, Par W.rs ro f r y then h.choose else ("", "", "")) y
    rw [dif_pos h]
    exact h.choose_spec
  have hnd : ∀ l : List Str, l.Nodup → (∀ y ∈ l, y ∈ W.ps.erase x) → (l.map g).Nodup := by
    intro l
    induction l with
    | nil => intro _ _; exact List.nodup_nil
    | cons y l ih =>
      intro nd hs
      rw [List.nodup_cons] at nd
      rw [List.map_cons, List.nodup_cons]
      refine ⟨fun z => ?_, ih nd.2 fun y' hy' => hs y' (List.mem_cons_of_mem _ hy')⟩
      obtain ⟨y', hy', e⟩ := List.mem_map.mp z
      have h1 := hg y (hs y List.mem_cons_self)
      have h2 := hg y' (hs y' (List.mem_cons_of_mem _ hy'))
      rw [e] at h2
      have := Par.one h1 h2
      rw [← this] at hy'
      exact nd.1 hy'
  have h1 := hnd _ (ok.pd.erase x) (fun _ h => h)
  have hlen : (W.ps.erase x).length = W.rs.length := by
    rw [List.length_erase_of_mem hx]
    have := t.cnt
    omega
  intro r hr
  have hmem := nodup_all (l := (W.ps.erase x).map g) (m := W.rs) h1 (fun s hs => by
    obtain ⟨y, hy, rfl⟩ := List.mem_map.mp hs
    exact (hg y hy).1) (by rw [List.length_map, hlen]; exact Nat.le_refl _) r hr
  obtain ⟨y, hy, rfl⟩ := List.mem_map.mp hmem
  exact ⟨y, hg y hy⟩
/-- what days gives for x and y -/
structure DayOk (W : Web) (ro : List Str) (x y : Str) (n : Nat) : Prop where
  ex : ∃ rs, NB W.rs x rs y
  all : ∀ rs, NB W.rs x rs y → n = dayW ro rs
theorem day_ok {W : Web} {ro : List Str} {x y : Str} {f : Str → Option Mom} {now m : Mom} (ok : WebOk W) (t : Tree W) (rk : RotaOk W ro) (S : Sim W.rs ro x f now) (hx : x ∈ W.ps) (hall : ∀ y ∈ W.ps, f y ≠ none) (hy : y ∈ W.ps) (hm : f y = some m) :
    DayOk W ro x y (if y = x then 0 else m.1) := by
  have hsub : ∀ r ∈ W.rs, r.1 ∈ ro := fun r hr => rota_all ok rk _ (List.mem_map_of_mem (f := (·.1)) hr)
  have hpa := par_all ok t S hx hall
  have hx0 : ∀ r, ¬ Par W.rs ro f r x := fun r h => by
    obtain ⟨_, _, mp, m, _, h2, n1, _⟩ := h
    rw [S.st] at h2
    cases h2
    cases n1
  -- all steps lead away
  have down : ∀ (rs : List Road) (p : Str) (mp : Mom) (pr : Option Road), f p = some mp → (pr = none → p = x) → (∀ r0, pr = some r0 → Par W.rs ro f r0 p) → (∀ r rs', rs = r :: rs' → pr ≠ some r) → (∀ r ∈ rs, r ∈ W.rs) → Adj rs → ∀ z, Wk p rs z →
      f z = some (runT mp (rs.map fun r => rank ro r.1)) := by
    intro rs
    induction rs with
    | nil =>
      intro p mp pr hp _ _ _ _ _ z hz
      rw [← show p = z from hz]
      exact hp
    | cons r rs ih =>
      intro p mp pr hp h0 h1 h2 h3 h4 z hz
      have hrR := h3 r List.mem_cons_self
      obtain ⟨y', hy'⟩ := hpa r hrR
      have hne : y' ≠ p := fun e => by
        subst e
        cases pr with
        | none =>
          have := h0 rfl
          subst this
          exact hx0 r hy'
        | some r0 => exact h2 r rs rfl (by rw [Par.only hsub ok.rd (h1 r0 rfl) hy'])
      have ey : y' = oend r p := oend_of hz.1 hy'.2.1 hne
      subst ey
      have hy2 := hy'
      obtain ⟨_, _, mp', m', k1, k2, n1, n2⟩ := hy2
      rw [oend_oend hz.1, hp] at k1
      cases k1
      have em : m' = (mp.1 + (if rank ro r.1 < mp.2 then 1 else 0), rank ro r.1 + 1) := Prod.ext n2 n1
      rw [em] at k2
      rw [List.map_cons, runT]
      refine ih (oend r p) _ (some r) k2 (fun z => nomatch z) (fun r0 e => by cases e; exact hy') (fun r' rs' e => ?_) (fun r' hr' => h3 r' (List.mem_cons_of_mem _ hr')) h4.tail z hz.2
      rw [e] at h4
      exact fun z => h4.head (Option.some.inj z)
  -- a walk to each place
  have walk : ∀ a b y, f y = some (a, b) → ∃ rs, NB W.rs x rs y ∧ ((rs = [] ∧ y = x) ∨ ∃ pre r, rs = pre ++ [r] ∧ Par W.rs ro f r y) := by
    intro a
    induction a using Nat.strongRecOn with
    | ind a iha =>
      intro b
      induction b using Nat.strongRecOn with
      | ind b ihb =>
        intro y hy
        by_cases e : y = x
        · exact ⟨[], ⟨by rw [e]; rfl, (fun r hr => nomatch hr), fun a r s b z => by cases a <;> cases z⟩, .inl ⟨rfl, e⟩⟩
        · obtain ⟨r, hr, ht, mp, hp, hN⟩ := S.par y _ hy e
          have hP : Par W.rs ro f r y := ⟨hr, ht, mp, _, hp, hy, hN⟩
          obtain ⟨n1, n2⟩ := hN
          have n1' : b = rank ro r.1 + 1 := n1
          have n2' : a = mp.1 + (if rank ro r.1 < mp.2 then 1 else 0) := n2
          have hex : ∃ rs, NB W.rs x rs (oend r y) ∧ ((rs = [] ∧ oend r y = x) ∨ ∃ pre r', rs = pre ++ [r'] ∧ Par W.rs ro f r' (oend r y)) := by
            by_cases c : rank ro r.1 < mp.2
            · rw [if_pos c] at n2'
              exact iha mp.1 (by omega) mp.2 _ hp
            · rw [if_neg c] at n2'
              have : mp = (a, mp.2) := Prod.ext n2'.symm rfl
              rw [this] at hp
              exact ihb mp.2 (by omega) _ hp
          obtain ⟨rs, hrs, hl⟩ := hex
          refine ⟨rs ++ [r], ⟨wk_app hrs.wk ⟨tch_oend ht, oend_oend ht⟩, fun s hs => ?_, ?_⟩, .inr ⟨rs, r, rfl, hP⟩⟩
          · rcases List.mem_append.mp hs with z | z
            · exact hrs.sub s z
            · rw [List.mem_singleton.mp z]; exact hr
          · intro a' s u b' e'
            rcases List.eq_nil_or_concat b' with eb | ⟨b2, lst, eb⟩
            · subst eb
              have e2 : rs ++ [r] = (a' ++ [s]) ++ [u] := by rw [e']; simp
              obtain ⟨e3, e4⟩ := List.append_inj' e2 rfl
              have e5 : r = u := by simpa using e4
              rcases hl with ⟨z, _⟩ | ⟨pre, r', z, hP'⟩
              · rw [z] at e3; simp at e3
              · rw [z] at e3
                have e6 := (List.append_inj' e3 rfl).2
                have e7 : r' = s := by simpa using e6
                rw [← e7, ← e5]
                intro z2
                rw [z2] at hP'
                have e8 := Par.one hP hP'
                have nm := (ok.rr r hr).ne
                have q := oend_oend ht
                rw [← e8] at q
                unfold oend at e8
                rw [tch_iff] at ht
                by_cases c : r.2.1 = y
                · rw [if_pos c] at e8; exact nm (c.trans e8)
                · rw [if_neg c] at e8; exact c e8.symm
            · rw [List.concat_eq_append] at eb
              subst eb
              have e2 : rs ++ [r] = (a' ++ s :: u :: b2) ++ [lst] := by rw [e']; simp
              have e3 := (List.append_inj' e2 rfl).1
              exact hrs.adj a' s u b2 e3
  obtain ⟨rs0, hrs0, _⟩ := walk m.1 m.2 y hm
  refine ⟨⟨rs0, hrs0⟩, fun rs hrs => ?_⟩
  have hd := down rs x (1, 0) none S.st (fun _ => rfl) (fun r0 e => nomatch e) (fun r rs' _ e => nomatch e) hrs.sub hrs.adj y hrs.wk
  rw [hm] at hd
  have e := Option.some.inj hd
  by_cases hnil : rs = []
  · subst hnil
    have : x = y := hrs.wk
    rw [if_pos this.symm]
    rfl
  · have hyx : y ≠ x := fun z => by
      rw [z, S.st] at hm
      have e2 := Option.some.inj hm
      rw [← e2] at e
      have h3 := runT_snd (rs.map fun r => rank ro r.1) (1, 0) (by simpa using hnil)
      rw [← e] at h3
      exact absurd h3 (by decide)
    rw [if_neg hyx, e, runT_day rs hnil]
/-! ### what the law asks of the days -/
theorem nodup_rev {α : Type} {l : List α} (h : l.Nodup) : l.reverse.Nodup := List.pairwise_reverse.mpr (h.imp fun h z => h z.symm)
theorem rank_lt {ro : List Str} {n : Str} (h : n ∈ ro) : rank ro n < ro.length := List.idxOf_lt_length_iff.mpr h
theorem rank_rev {ro : List Str} (nd : ro.Nodup) {n : Str} (h : n ∈ ro) : rank ro.reverse n = ro.length - 1 - rank ro n := by
  have hl := rank_lt h
  refine rank_at (nodup_rev nd) ?_
  rw [List.getElem?_reverse (by omega), show ro.length - 1 - (ro.length - 1 - rank ro n) = rank ro n by omega]
  exact rank_get h
theorem adj_ranks {W : Web} {ro : List Str} (ok : WebOk W) (rk : RotaOk W ro) {rs : List Road} (h : Adj rs) (hs : ∀ r ∈ rs, r ∈ W.rs) : Adj (rs.map fun r => rank ro r.1) := by
  intro a i j b e
  obtain ⟨a', t', e1, e2, e3⟩ := List.map_eq_append_iff.mp e
  obtain ⟨r, t2, e4, e5, e6⟩ := List.map_eq_cons_iff.mp e3
  obtain ⟨s, t3, e7, e8, e9⟩ := List.map_eq_cons_iff.mp e6
  subst e4 e7 e1
  have hr : r ∈ W.rs := hs r (by simp)
  have hs' : s ∈ W.rs := hs s (by simp)
  have hne := h a' r s t3 rfl
  intro z
  rw [← e5, ← e8] at z
  exact hne (road_eq ok.rd hr hs' (rank_inj (ns := ro) (rota_all ok rk _ (List.mem_map_of_mem (f := (·.1)) hr)) z (rota_all ok rk _ (List.mem_map_of_mem (f := (·.1)) hs'))))
theorem day_sum {W : Web} {ro : List Str} (ok : WebOk W) (rk : RotaOk W ro) {x y : Str} {n m : Nat} (h1 : DayOk W ro x y n) (h2 : DayOk W ro y x m) {rs : List Road} (hrs : NB W.rs x rs y) : n + m = if rs = [] then 0 else rs.length + 1 := by
  rw [h1.all rs hrs, h2.all rs.reverse hrs.rev]
  unfold dayW
  by_cases e : rs = []
  · rw [if_pos e, if_pos e, e]
    rfl
  · have h := fl_rev _ (adj_ranks ok rk hrs.adj hrs.sub) (by simpa using e)
    rw [List.length_map] at h
    rw [if_neg e, if_neg e, if_neg (by simpa using e), List.map_reverse]
    omega
theorem day_back {W : Web} {ro : List Str} (ok : WebOk W) (rk : RotaOk W ro) {x y : Str} {n m : Nat} (h1 : DayOk W ro.reverse x y n) (h2 : DayOk W ro y x m) : n = m := by
  obtain ⟨rs, hrs⟩ := h1.ex
  rw [h1.all rs hrs, h2.all rs.reverse hrs.rev]
  unfold dayW
  by_cases e : rs = []
  · rw [if_pos e, e]
    rfl
  · have hA := adj_ranks ok rk hrs.adj hrs.sub
    have hne : (rs.map fun r => rank ro r.1) ≠ [] := by simpa using e
    have h := fl_rev _ hA hne
    have hin : ∀ r ∈ rs, r.1 ∈ ro := fun r hr => rota_all ok rk _ (List.mem_map_of_mem (f := (·.1)) (hrs.sub r hr))
    have h3 := fl_neg ro.length _ hA (fun a ha => by
      obtain ⟨r, hr, rfl⟩ := List.mem_map.mp ha
      exact rank_lt (hin r hr)) hne
    have e2 : rs.map (fun r => rank ro.reverse r.1) = (rs.map fun r => rank ro r.1).map fun a => ro.length - 1 - a := by
      rw [List.map_map]
      exact List.map_congr_left fun r hr => rank_rev rk.nd (hin r hr)
    rw [if_neg e, if_neg (by simpa using e), e2, List.map_reverse]
    omega
end RP
/-! part RPd6 -/
/-! ends_by_road, news_places -/
namespace RP
open PySem PySem.Spec PyProof.Rows L2 Evl
/-! ### a dict as a set of texts -/
def kD (S : List Str) : List (Key × V) := S.map fun s => ((Sum.inr s : Key), V.bl true)
def ins (S : List Str) (s : Str) : List Str := if s ∈ S then S else S ++ [s]
theorem kD_len (S : List Str) : (kD S).length = S.length := List.length_map ..
theorem valV_kD (s : Str) : ∀ S : List Str, valV (kD S) (Sum.inr s : Key) = if s ∈ S then some (.bl true) else none
  | [] => rfl
  | y :: S => by
    by_cases e : y = s
    · rw [if_pos (by rw [e]; exact List.mem_cons_self)]
      exact valV_pos (p := ((Sum.inr y : Key), V.bl true)) (by rw [e])
    · have h : valV (kD (y :: S)) (Sum.inr s : Key) = valV (kD S) (Sum.inr s : Key) := valV_neg (p := ((Sum.inr y : Key), V.bl true)) fun z => e (inr_inj.mp z)
      rw [h, valV_kD s S]
      by_cases e2 : s ∈ S
      · rw [if_pos e2, if_pos (List.mem_cons_of_mem _ e2)]
      · rw [if_neg e2, if_neg fun z => (List.mem_cons.mp z).elim (fun w => e w.symm) e2]
theorem putK_kD (S : List Str) (s : Str) : putK (kD S) (Sum.inr s : Key) (.bl true) = kD (ins S s) := by
  unfold ins
  by_cases e : s ∈ S
  · rw [if_pos e]
    unfold putK
    rw [if_pos (by rw [valV_any, valV_kD, if_pos e] <;> rfl)]
    unfold kD
    rw [List.map_map]
    refine List.map_congr_left fun y hy => ?_
    show (if (Sum.inr y : Key) = Sum.inr s then ((Sum.inr y : Key), V.bl true) else ((Sum.inr y : Key), V.bl true)) = _
    rw [ite_self]
  · rw [if_neg e, putK_new _ (by rw [valV_kD, if_neg e]), kD, kD, List.map_append] <;> rfl
theorem ins_mem {S : List Str} {s y : Str} : y ∈ ins S s ↔ y ∈ S ∨ y = s := by
  unfold ins
  by_cases e : s ∈ S
  · rw [if_pos e]
    exact ⟨.inl, fun h => h.elim id fun z => by rw [z]; exact e⟩
  · rw [if_neg e, List.mem_append, List.mem_singleton]
theorem ins_nd {S : List Str} {s : Str} (h : S.Nodup) : (ins S s).Nodup := by
  unfold ins
  by_cases e : s ∈ S
  · rw [if_pos e]; exact h
  · rw [if_neg e, List.nodup_append]
    exact ⟨h, by simp, fun a ha b hb z => by
      have : b = s := by simpa using hb
      rw [z, this] at ha
      exact e ha⟩
theorem ins_len (S : List Str) (s : Str) : S.length ≤ (ins S s).length ∧ (s ∉ S → S.length < (ins S s).length) := by
  unfold ins
  by_cases e : s ∈ S
  · rw [if_pos e]; exact ⟨Nat.le_refl _, fun z => absurd e z⟩
  · rw [if_neg e, List.length_append]
    exact ⟨Nat.le_add_right _ _, fun _ => Nat.lt_succ_self _⟩
section
variable {K : PySem.W.Frag} {σ : L2.St} {H H' : Hp} {ta tb te td ty tv tl : TE} {a : Addr} {xs : List V} {D : Ends} {tz tu : TS} {g : TG}
theorem ev_dinS {S : List Str} {s : Str} (hk : Ev ty σ H (.str s)) (hd : Ev td σ H (.ref a)) (h : H a = some (.dK (kD S))) : Ev (tDIn ty td) σ H (.bl (decide (s ∈ S))) := fun H1 e Q q =>
  hk H1 e _ fun H2 e2 => hd H2 (e.trans e2) _ fun H3 e3 => ⟨a, _, rfl, DGet.k (k := Sum.inr s) (((e.trans e2).trans e3) a _ h), by
    rw [valV_kD]
    have := q H3 (e2.trans e3)
    by_cases c : s ∈ S
    · rw [if_pos c]; rw [decide_eq_true c] at this; exact this
    · rw [if_neg c]; rw [decide_eq_false c] at this; exact this⟩
theorem s_dputS {S : List Str} {s : Str} (h : H a = some (.dK (kD S))) (hd : Ev td σ H (.ref a)) (hk : Ev ty σ H (.str s)) (hl : S.length < 100000)
    (k : ∀ H1, Ex H H1 → D.nx σ (upd H1 a (.dK (kD (ins S s))))) : sDPut td ty (tC (.bl true)) D σ H := hd H (Ex.refl H) _ fun H2 e2 => hk H2 e2 _ fun H3 e3 => by
  have g := k H3 (e2.trans e3)
  rw [← putK_kD] at g
  exact ⟨a, _, rfl, DPut.k (k := Sum.inr s) ((e2.trans e3) a _ h) (by rw [kD_len]; exact sz_lt hl), g⟩
theorem q_dputS {S : List Str} {s : Str} (h : H a = some (.dK (kD S))) (hd : Ev td σ H (.ref a)) (hk : Ev ty σ H (.str s)) (hl : S.length < 100000)
    (k : ∀ H1, Ex H H1 → tz D σ (upd H1 a (.dK (kD (ins S s))))) : tSeq (sDPut td ty (tC (.bl true))) tz D σ H := s_dputS (D := { D with nx := tz D }) h hd hk hl k
/-- a loop over a list that stands, by the part taken -/
theorem s_forLp {α : Type} (L : List α) (enc : α → V) (h : Ev tl σ H (.ref a)) (hx : H a = some (.lst (L.map enc))) (Pv : List α → L2.St → Hp → Prop) (h0 : ∀ H1, Ex H H1 → Pv [] σ H1) (hl : ∀ pre σ' H', Pv pre σ' H' → H' a = some (.lst (L.map enc)))
    (hs : ∀ pre w post σ' H', L = pre ++ w :: post → Pv pre σ' H' → g (enc w) σ' H' fun σ2 H2 => tu { D with nx := Pv (pre ++ [w]), ct := Pv (pre ++ [w]), bk := D.nx } σ2 H2) (hd : ∀ σ' H', Pv L σ' H' → D.nx σ' H') : tFor (iList K tl) g tu D σ H :=
  s_forL h (sq_of hx) (fun i σ' H' => Pv (L.take i) σ' H') (fun H1 e => h0 H1 e) (fun i σ' H' _ p => sq_of (hl _ _ _ p)) (fun i x σ' H' hi p => by
    obtain ⟨w, hw, rfl⟩ := map_get hi
    obtain ⟨post, e⟩ := tk_split hw
    have q := hs (L.take i) w post σ' H' e p
    rw [tk_succ hw]
    exact q) (fun σ' H' p => hd σ' H' (by
    have p' : Pv (L.take (L.map enc).length) σ' H' := p
    rw [List.length_map, List.take_length] at p'
    exact p'))
theorem q_forLp {α : Type} (L : List α) (enc : α → V) (h : Ev tl σ H (.ref a)) (hx : H a = some (.lst (L.map enc))) (Pv : List α → L2.St → Hp → Prop) (h0 : ∀ H1, Ex H H1 → Pv [] σ H1) (hl : ∀ pre σ' H', Pv pre σ' H' → H' a = some (.lst (L.map enc)))
    (hs : ∀ pre w post σ' H', L = pre ++ w :: post → Pv pre σ' H' → g (enc w) σ' H' fun σ2 H2 => tu { D with nx := Pv (pre ++ [w]), ct := Pv (pre ++ [w]), bk := tz D } σ2 H2) (hd : ∀ σ' H', Pv L σ' H' → tz D σ' H') : tSeq (tFor (iList K tl) g tu) tz D σ H :=
  s_forLp (D := { D with nx := tz D }) L enc h hx Pv h0 hl hs hd
/-- [k(w) for row in (t,) for w in row] -/
theorem el_lc2 {α : Type} {i j : Nat} {c b : Addr} {vs vs1 : List Nat} (L : List α) (enc k : α → V) (h : Ev tl σ H (.ref c)) (hc : Tp H c [.ref b]) (hb : Tp H b (L.map enc)) (hz : L.length ≤ 40000)
    (hw : ∀ x, wipe ((wipe σ vs).set i (some x)) vs = wipe σ vs) (hv : ((wipe σ vs).set i (some (.ref b)))[i]? = some (some (.ref b))) (hw1 : ∀ x, wipe ((wipe ((wipe σ vs).set i (some (.ref b))) vs1).set j (some x)) vs1 = wipe ((wipe σ vs).set i (some (.ref b))) vs1)
    (hs : ∀ (n : Nat) (w : α), L[n]? = some w → Ev te ((wipe ((wipe σ vs).set i (some (.ref b))) vs1).set j (some (enc w))) H (k w)) :
    EvL (tLc2 (iTup K tl) (gName i) tYes (iTup K (tVar i)) (gName j) tYes te vs vs1) σ H (L.map k) := fun H0 e Q q => h H0 e _ fun H1 e1 => ⟨c, rfl, ⟨_, .inl (ex_rd (e.trans e1) hc)⟩, fun Dl hD => by
  let W1 : Nat → Hp → Prop := fun n H' => H1 Dl = none ∧ Ex H1 H' ∧ H' Dl = some (.lst ((L.take n).map k))
  refine ⟨fun n m H' => m = 1 - n ∧ n ≤ 1 ∧ W1 (if n = 0 then 0 else L.length) H', ⟨1, rfl, Nat.zero_le _, hD, Ex.new hD, upd_same⟩, ?_⟩
  rintro n m H' ⟨rfl, hn, p⟩
  by_cases h0 : n = 0
  · subst h0
    have hc' : SqT K H' c [.ref b] := .inl (ex_rd ((e.trans e1).trans p.2.1) hc)
    refine .inr ⟨⟨_, _, hc', rfl⟩, W1 L.length, fun H2 p2 => ⟨0, Nat.zero_lt_one, rfl, Nat.le_refl _, p2⟩, fun x H2 y => ?_⟩
    obtain ⟨rfl, y⟩ := y
    have ex := Option.some.inj (y _ hc')
    subst ex
    refine ⟨hw _, iteT (B := W1 L.length H2) ⟨_, hv, b, rfl, ⟨_, .inl (ex_rd ((e.trans e1).trans p.2.1) hb)⟩, ?_⟩⟩
    refine ⟨fun n m H' => m = L.length - n ∧ n ≤ L.length ∧ W1 n H', ⟨L.length, rfl, Nat.zero_le _, p⟩, ?_⟩
    rintro n m H3 ⟨rfl, hn, p3⟩
    have hb' : SqT K H3 b (L.map enc) := .inl (ex_rd ((e.trans e1).trans p3.2.1) hb)
    by_cases hlt : n < L.length
    · have hg : L[n]? = some L[n] := List.getElem?_eq_getElem hlt
      refine .inr ⟨⟨_, enc L[n], hb', by rw [List.getElem?_map, hg] <;> rfl⟩, W1 (n + 1), fun H4 p4 => ⟨L.length - (n + 1), by omega, rfl, hlt, p4⟩, fun x H4 y => ?_⟩
      obtain ⟨rfl, y⟩ := y
      have ex := y _ hb'
      rw [List.getElem?_map, hg] at ex
      have ex := Option.some.inj ex
      subst ex
      refine ⟨hw1 _, iteT (B := W1 (n + 1) H4) ?_⟩
      refine hs n _ hg H4 ((e.trans e1).trans p3.2.1) _ fun H5 e5 => ⟨_, e5 Dl _ p3.2.2, sz_lt ?_, p3.1, Ex.mut (p3.2.1.trans e5) p3.1, ?_⟩
      · rw [List.length_map, List.length_take]; omega
      · rw [upd_same, tk_succ hg, List.map_append] <;> rfl
    · have en : n = L.length := by omega
      subst en
      exact .inl ⟨⟨_, hb', by rw [List.length_map]; exact Nat.le_refl _⟩, p3⟩
  · have e1' : n = 1 := by omega
    subst e1'
    have hc' : SqT K H' c [.ref b] := .inl (ex_rd ((e.trans e1).trans p.2.1) hc)
    refine .inl ⟨⟨_, hc', Nat.le_refl _⟩, q Dl H' (fresh_back e1 p.1) (e1.trans p.2.1) ?_⟩
    have := p.2.2
    rw [if_neg (by decide), List.take_length] at this
    exact this⟩
end
section
variable {P : Program} {w : World} {K : PySem.W.Frag} {mg : Str → Option Value} {base : Heap} {tk : Nat → Tok}
/-! ### ends_by_road -/
/-- road by road the pair of its ends -/
def EndsAt (H : Hp) (D : Addr) (W : Web) (us : List (Addr × Road)) : Prop := us.map (·.2) = W.rs ∧ H D = some (.dK (dkv V.ref (dadr us))) ∧ ∀ y ∈ us, Tp H y.1 [.str y.2.2.1, .str y.2.2.2]
theorem EndsAt.ex {H H' : Hp} {D : Addr} {W : Web} {us : List (Addr × Road)} (e : Ex H H') (h : EndsAt H D W us) : EndsAt H' D W us := ⟨h.1, e D _ h.2.1, fun y hy => ex_rd e (h.2.2 y hy)⟩
def sp_ends_by_road : Sp := fun vs H Q _ => ∃ (a p q : Addr) (W : Web) (trs : List (Addr × Road)), vs = [.ref a] ∧ WebAt H a W p q trs ∧ WebOk W ∧ ∀ D us H', H D = none → Ex H H' → EndsAt H' D W us → Q (.ref D) H'
theorem ok_ends_by_road (T : Top mg tk) (D : DefAt K mg "ends_by_road" s_ends_by_road ["web"]) : Cal P w K mg base 1 "ends_by_road" sp_ends_by_road := by
  refine cal D sc_ends_by_road (fun vs H Q E h => ?_) (fun f cdv A outer s H vs Q E hr h => ?_)
  · obtain ⟨a, p, q, W, trs, rfl, _⟩ := h
    rfl
  · obtain ⟨a, p, q, W, trs, rfl, h, ok, k⟩ := h
    refine ⟨_, (pss_one (ps_ret (pe_dc (g := (gTup K 3 (gCons (gName 1) (gCons (gName 2) (gCons (gName 3) gNil))))) (own := [("name", 1), ("one", 2), ("other", 3)]) rfl sc_ends_by_road.nd (pi_tup (pe_ix (r := rIxT K) ix_tup (pv 0) pe_int (fun _ _ => rfl))) (blkOk_by (N := N_ends_by_road) (sc := defScope s_ends_by_road) (by decide +kernel)) (fun _ _ _ _ _ => (pg_tup rfl (pgs_cons (pg_name (i := 1) sc_ends_by_road.nd rfl (.inl rfl)) (pgs_cons (pg_name (i := 2) sc_ends_by_road.nd rfl (.inl rfl)) (pgs_cons (pg_name (i := 3) sc_ends_by_road.nd rfl (.inl rfl)) pgs_nil))))) (fun _ _ _ _ _ => pts_nil) (fun _ _ _ _ _ => (pv 1)) (fun _ _ _ _ _ => (pe_tup (pa_cons (pv 2) (pa_cons (pv 3) pa_nil))))))), ?_⟩
    have hr14 := ok.r14
    have htl := trs_len h.e
    refine (ev_w1 (K := K) (H := H) (ev_var rfl) h.w) H (Ex.refl _) _ fun H1 e1 => ⟨q, rfl, ⟨_, .inl (ex_rd e1 h.rs.1)⟩, fun D0 nD => ?_⟩
    refine dc_tup (xs := trs.map fun y => V.ref y.1) (fun i H' => H1 D0 = none ∧ Ex H1 H' ∧ ∃ us : List (Addr × Road), us.map (·.2) = W.rs.take i ∧ H' D0 = some (.dK (dkv V.ref (dadr us))) ∧ ∀ y ∈ us, Tp H' y.1 [.str y.2.2.1, .str y.2.2.2])
      ⟨nD, Ex.new nD, [], rfl, upd_same, fun y hy => nomatch hy⟩ (fun i H' _ pq => .inl (ex_rd (e1.trans pq.2.1) h.rs.1)) (fun i v H' hi pq => ?_) fun H2 pq => ?_
    · obtain ⟨y, hy, rfl⟩ := map_get hi
      obtain ⟨p1, p2, us, hu1, hu2, hu3⟩ := pq
      have hym := List.mem_of_getElem? hy
      have hyr : W.rs[i]? = some y.2 := by rw [← h.e, List.getElem?_map, hy] <;> rfl
      refine g3_of (ex_rd (e1.trans p2) (h.rs.2 y hym)) ?_
      refine ⟨rfl, ?_⟩
      unfold tYes
      refine (if_pos rfl).mpr ?_
      refine (ev_var (i := 1) rfl) H' (Ex.refl _) _ fun H3 e3 => ?_
      refine (eu_tup (ea_cons (ev_var rfl) (ea_cons (ev_var rfl) ea_nil)) (by show 2 ≤ 100000; decide)) H3 (Ex.refl _) _ fun t H4 nt e4 ht => ?_
      have hul : us.length = i := by
        have e9 := congrArg List.length hu1
        rw [List.length_map, List.length_take] at e9
        have := (List.getElem?_eq_some_iff.mp hyr).1
        omega
      refine ⟨dkv V.ref (dadr us), Sum.inr y.2.1, rfl, (e3.trans e4) D0 _ hu2, sz_lt ?_, p1, Ex.mut ((p2.trans e3).trans e4) p1, us ++ [(t, y.2)], ?_, ?_, fun z hz => ?_⟩
      · rw [dkv_len, dadr, List.length_map]
        have := (List.getElem?_eq_some_iff.mp hyr).1
        omega
      · rw [List.map_append, hu1, tk_succ hyr] <;> rfl
      · have hno : look (dadr us) y.2.1 = none := by
          rw [look_none_iff, dadr_keys, hu1, List.map_take]
          intro hm
          obtain ⟨j, hj⟩ := List.mem_iff_getElem?.mp hm
          rw [List.getElem?_take] at hj
          by_cases c : j < i
          · rw [if_pos c] at hj
            have := nodup_ix ok.rd hj (show (W.rs.map (·.1))[i]? = some y.2.1 by rw [List.getElem?_map, hyr] <;> rfl)
            omega
          · rw [if_neg c] at hj; cases hj
        rw [upd_same]
        have e9 := putK_dkv (enc := V.ref) t hno
        rw [e9, dadr, dadr, List.map_append] <;> rfl
      · have hne : ∀ b xs, Tp H4 b xs → b ≠ D0 := fun b xs hb z => by
          rw [z] at hb
          have hd4 := (e3.trans e4) D0 _ hu2
          rcases hb with hb | ⟨o, hb⟩ <;> rw [hd4] at hb <;> cases hb
        rcases List.mem_append.mp hz with z | z
        · have h4 := ex_rd (e3.trans e4) (hu3 _ z)
          unfold Tp Rd
          rw [upd_ne (hne _ _ h4)]
          exact h4
        · rw [List.mem_singleton.mp z]
          have h4 : Tp H4 t [.str y.2.2.1, .str y.2.2.2] := .inl ht
          unfold Tp Rd
          rw [upd_ne (hne _ _ h4)]
          exact h4
    · obtain ⟨p1, p2, us, hu1, hu2, hu3⟩ := pq
      refine k D0 us H2 (fresh_back e1 p1) (e1.trans p2) ⟨?_, hu2, hu3⟩
      rw [hu1, List.length_map, htl, List.take_length]
/-! ### news_places -/
def Closed (R : List Road) (S : List Str) : Prop := ∀ r ∈ R, r.2.1 ∈ S ∨ r.2.2 ∈ S → r.2.1 ∈ S ∧ r.2.2 ∈ S
theorem closed_all {W : Web} (ok : WebOk W) (t : Tree W) {S : List Str} {x : Str} (nd : S.Nodup) (sub : ∀ y ∈ S, y ∈ W.ps) (hx : x ∈ S) (h : Closed W.rs S) : S.length = W.ps.length := by
  have hall : ∀ y ∈ W.ps, y ∈ S := fun y hy => t.con (fun z => z ∈ S) (fun r hr => ⟨fun z => (h r hr (.inl z)).2, fun z => (h r hr (.inr z)).1⟩) x (sub x hx) y hy hx
  exact Nat.le_antisymm (nodup_le nd sub) (nodup_le ok.pd hall)
def sp_news_places : Sp := fun vs H Q _ => ∃ (a p q c b : Addr) (W : Web) (trs : List (Addr × Road)) (ro : List Str) (x : Str), vs = [.ref a, .ref c, .str x] ∧ WebAt H a W p q trs ∧ WebOk W ∧ Tree W ∧ Tp H c [.ref b] ∧ Tp H b (ro.map V.str) ∧ RotaOk W ro ∧ x ∈ W.ps ∧
  ∀ D kvs H', Ex H H' → H' D = some (.dK kvs) → kvs.length = W.ps.length → Q (.ref D) H'
theorem ok_news_places (T : Top mg tk) (D : DefAt K mg "news_places" s_news_places ["web", "week", "place"]) (c_ends_by_road : Cal P w K mg base 1 "ends_by_road" sp_ends_by_road) : Cal P w K mg base 2 "news_places" sp_news_places := by
  refine cal D sc_news_places (fun vs H Q E h => ?_) (fun f cdv A outer s H vs Q E hr h => ?_)
  · obtain ⟨a, p, q, c, b, W, trs, ro, x, rfl, _⟩ := h
    rfl
  · obtain ⟨a, p, q, c, b, W, trs, ro, x, rfl, h, ok, t, hc, hb, rk, hx, k⟩ := h
    have hu := hu_of hr
    refine ⟨_, (pss_cons (ps_set (i := 3) sc_news_places.nd rfl (.inr rfl) (pc c_ends_by_road hr (by decide) (by rfl) (pa_cons (pv 0) pa_nil)))
        (pss_cons (ps_setLc2 (wi1 := iTup K (tVar 9)) (g := (gName 9)) (g1 := (gName 10)) (i := 4) (own := [("row", 9), ("road", 10)]) (vs1 := [10]) rfl sc_news_places.nd rfl rfl (sw_true rfl rfl rfl (by decide +kernel)) (pi_tup (pv 1)) (blkOk_by (N := N_news_places) (sc := defScope s_news_places) (by decide +kernel)) (by decide) (fun _ _ _ _ _ => (pg_name (i := 9) sc_news_places.nd rfl (.inl rfl))) (fun _ _ _ _ _ => pts_nil) (fun _ _ _ _ _ => (pi_tup (pv 9))) (fun _ _ _ _ _ => (pg_name (i := 10) sc_news_places.nd rfl (.inl rfl))) (fun _ _ _ _ _ => pts_nil) (fun _ _ _ _ _ => (pe_dget hu (pv 3) (pv 10) (fun _ _ => rfl))))
        (pss_cons (ps_set (i := 5) sc_news_places.nd rfl (.inl rfl) (pe_disp (pps_cons (pv 2) pe_bl pps_nil) (by rfl) (by rfl) (fun z => by cases z) (by decide)))
        (pss_cons (ps_set (i := 6) sc_news_places.nd rfl (.inl rfl) pe_int)
        (pss_cons (ps_while PassesOwn.never (pt_cmpR op_gt (pe_callB (r := rLenD) call_lenD (by rfl) T.len PySem.boot_len (pa_cons (pv 5) pa_nil)) (pv 6) (nomark _)) (pss_cons (ps_set (i := 6) sc_news_places.nd rfl (.inl rfl) (pe_callB (r := rLenD) call_lenD (by rfl) T.len PySem.boot_len (pa_cons (pv 5) pa_nil)))
        (pss_one (ps_for PassesOwn.never rfl (pi_list (pv 4)) (pg_tup rfl (pgs_cons (pg_name (i := 7) sc_news_places.nd rfl (.inl rfl)) (pgs_cons (pg_name (i := 8) sc_news_places.nd rfl (.inl rfl)) pgs_nil))) (pss_one (ps_if (PW.pt (pw_or (pt_cmp (pc_din hu (pv 7) (pv 5))) (pw_or1 (pt_cmp (pc_din hu (pv 8) (pv 5)))))) (pss_cons (ps_dput hu (pv 5) (pv 7) pe_bl rfl)
        (pss_one (ps_dput hu (pv 5) (pv 8) pe_bl rfl))) pss_nil))))))
        (pss_one (ps_ret (pv 5)))))))), ?_⟩
    have hr14 := ok.r14
    have hp10 := ok.p10
    have hrl := rk.len
    refine q_asgP (P := fun v H' => ∃ E0 us, v = .ref E0 ∧ EndsAt H' E0 W us) (evp_call (ea_cons (ev_var rfl) ea_nil) fun H1 e Q k E => ⟨a, p, q, W, trs, rfl, h.ex e, ok, fun D us H' _ e' hE => k _ H' e' ⟨D, us, rfl, hE⟩⟩) fun v H1 e1 hv => ?_
    obtain ⟨E0, us, rfl, hE⟩ := hv
    -- the roads in the order of the rota
    have hro : ∀ n ∈ ro, ∃ u ∈ us, look (dadr us) n = some u.1 ∧ u.2.1 = n := fun n hn => by
      have hn' : n ∈ (us.map (·.2)).map (·.1) := by rw [hE.1]; exact rk.sub n hn
      obtain ⟨u, hu, h1, h2⟩ := dadr_look hn'
      refine ⟨u, hu, h1, ?_⟩
      have := List.find?_some h2
      exact of_decide_eq_true this
    classical
    let gu : Str → Addr × Road := fun n => if z : ∃ u ∈ us, look (dadr us) n = some u.1 ∧ u.2.1 = n then z.choose else (0, ("", "", ""))
    have hgu : ∀ n ∈ ro, gu n ∈ us ∧ look (dadr us) n = some (gu n).1 ∧ (gu n).2.1 = n := fun n hn => by
      have z := hro n hn
      show (if z : ∃ u ∈ us, look (dadr us) n = some u.1 ∧ u.2.1 = n then z.choose else (0, ("", "", ""))) ∈ us ∧ look (dadr us) n = some (if z : ∃ u ∈ us, look (dadr us) n = some u.1 ∧ u.2.1 = n then z.choose else (0, ("", "", ""))).1 ∧ (if z : ∃ u ∈ us, look (dadr us) n = some u.1 ∧ u.2.1 = n then z.choose else (0, ("", "", ""))).2.1 = n
      rw [dif_pos z]
      exact z.choose_spec
    have hcov : ∀ r ∈ W.rs, ∃ n ∈ ro, (gu n).2 = r := fun r hr' => by
      have hn := rota_all ok rk r.1 (List.mem_map_of_mem (f := (·.1)) hr')
      obtain ⟨g1, _, g3⟩ := hgu r.1 hn
      have : (gu r.1).2 ∈ W.rs := by rw [← hE.1]; exact List.mem_map_of_mem g1
      exact ⟨r.1, hn, road_eq ok.rd this hr' g3⟩
    refine q_asgL (el_lc2 (K := K) ro V.str (fun n => V.ref (gu n).1) (ev_var rfl) (ex_rd e1 hc) (ex_rd e1 hb) (by omega) (fun _ => rfl) rfl (fun _ => rfl) fun i n hn => ?_) fun L0 H2 nL e2 hL => ?_
    · exact ev_dget (enc := V.ref) (ev_var rfl) (ev_var rfl) hE.2.1 (hgu n (List.mem_of_getElem? hn)).2.1
    refine q_disp1 (fun _ _ => ev_var rfl) (fun _ _ => ev_c) fun D0 H3 nD e3 hD => ?_
    have e03 := (e1.trans e2).trans e3
    have nD0 : H D0 = none := fresh_back (e1.trans e2) nD
    have nD1 : H1 D0 = none := fresh_back e2 nD
    have hneL : L0 ≠ D0 := fun z => by rw [← z, hL] at nD; cases nD
    refine q_asg ev_c fun H4 e4 => ?_
    have inU : ∀ n ∈ ro, (gu n).2.2.1 ∈ W.ps ∧ (gu n).2.2.2 ∈ W.ps := fun n hn => by
      have : (gu n).2 ∈ W.rs := by rw [← hE.1]; exact List.mem_map_of_mem (hgu n hn).1
      exact ⟨(ok.rr _ this).one, (ok.rr _ this).other⟩
    refine q_while (fun m σ' H' => ∃ S b0 y7 y8, σ' = [some (.ref a), some (.ref c), some (.str x), some (.ref E0), some (.ref L0), some (.ref D0), some (.int ((b0 : Nat) : Int)), y7, y8, none, none] ∧ Ex H1 H' ∧ H' L0 = some (.lst (ro.map fun n => V.ref (gu n).1)) ∧ H' D0 = some (.dK (kD S)) ∧ S.Nodup ∧ (∀ y ∈ S, y ∈ W.ps) ∧ x ∈ S ∧ (b0 < S.length ∨ Closed W.rs S) ∧ m = W.ps.length + 1 - b0)
      (W.ps.length + 1) ⟨[x], 0, none, none, rfl, (e2.trans e3).trans e4, e4 L0 _ (e3 L0 _ hL), e4 D0 _ hD, by simp, fun y hy => by rw [List.mem_singleton.mp hy]; exact hx, List.mem_cons_self, .inl Nat.zero_lt_one, rfl⟩ fun m σ' H' hW => ?_
    obtain ⟨S, b0, y7, y8, rfl, e0, hl0, hd, hnd, hsub, hxS, hor, hm⟩ := hW
    have hSl := nodup_le hnd hsub
    refine ⟨decide (((b0 : Nat) : Int) < ((kD S).length : Int)), et_test (ev_op (ev_lenD (ev_var rfl) hd) (ev_var rfl) (rv_I0 (g := fun i j => .bl (decide (j < i))))), fun hb5 H5 e5 => ?_, fun hb5 H5 e5 => ?_⟩
    · have hlt := of_decide_eq_true hb5
      rw [kD_len] at hlt
      refine ⟨fun σ2 H2 => ∃ S b0 y7 y8, σ2 = [some (.ref a), some (.ref c), some (.str x), some (.ref E0), some (.ref L0), some (.ref D0), some (.int ((b0 : Nat) : Int)), y7, y8, none, none] ∧ Ex H1 H2 ∧ H2 L0 = some (.lst (ro.map fun n => V.ref (gu n).1)) ∧ H2 D0 = some (.dK (kD S)) ∧ S.Nodup ∧ (∀ y ∈ S, y ∈ W.ps) ∧ x ∈ S ∧ (b0 < S.length ∨ Closed W.rs S) ∧ W.ps.length + 1 - b0 < m,
        fun σ2 H2 ⟨S, b0, y7, y8, h1, h2, h3, h4, h5, h6, h7, h8, h9⟩ => ⟨_, h9, S, b0, y7, y8, h1, h2, h3, h4, h5, h6, h7, h8, rfl⟩, ?_⟩
      refine q_asg (v := .int ((S.length : Nat) : Int)) (ev_is (ev_lenD (ev_var rfl) (e5 D0 _ hd)) (by rw [kD_len])) fun H6 e6 => ?_
      refine s_forLp (K := K) ro (fun n => V.ref (gu n).1) (ev_var rfl) (e6 L0 _ (e5 L0 _ hl0))
        (fun pre σ2 H2 => ∃ S' y7 y8, σ2 = [some (.ref a), some (.ref c), some (.str x), some (.ref E0), some (.ref L0), some (.ref D0), some (.int ((S.length : Nat) : Int)), y7, y8, none, none] ∧ Ex H1 H2 ∧ H2 L0 = some (.lst (ro.map fun n => V.ref (gu n).1)) ∧ H2 D0 = some (.dK (kD S')) ∧ S'.Nodup ∧ (∀ y ∈ S', y ∈ W.ps) ∧ x ∈ S' ∧
          (S.length < S'.length ∨ (S' = S ∧ ∀ n ∈ pre, (gu n).2.2.1 ∈ S ∨ (gu n).2.2.2 ∈ S → (gu n).2.2.1 ∈ S ∧ (gu n).2.2.2 ∈ S)))
        (fun H7 e7 => ⟨S, y7, y8, rfl, ((e0.trans e5).trans e6).trans e7, e7 L0 _ (e6 L0 _ (e5 L0 _ hl0)), e7 D0 _ (e6 D0 _ (e5 D0 _ hd)), hnd, hsub, hxS, .inr ⟨rfl, fun n hn => nomatch hn⟩⟩)
        (fun pre σ2 H2 ⟨_, _, _, _, _, z, _⟩ => z) ?_ ?_
      · rintro pre n post σ2 H7 ep ⟨S', z7, z8, rfl, e7, hl7, hd7, hnd7, hsub7, hx7, hor7⟩
        have hn : n ∈ ro := by rw [ep]; exact List.mem_append_right _ List.mem_cons_self
        obtain ⟨g1, g2, g3⟩ := hgu n hn
        have hin := inU n hn
        have hS7 := nodup_le hnd7 hsub7
        refine g2_of (ex_rd e7 (hE.2.2 _ g1)) ?_
        refine s_when (b := decide ((gu n).2.2.1 ∈ S') || decide ((gu n).2.2.2 ∈ S')) (et_or (a := decide ((gu n).2.2.1 ∈ S')) (b := decide ((gu n).2.2.2 ∈ S')) (et_B (ev_dinS (ev_var rfl) (ev_var rfl) hd7)) fun _ => et_B (ev_dinS (ev_var rfl) (ev_var rfl) hd7)) (fun hb8 H8 e8 => ?_) fun hb8 H8 e8 => ?_
        · refine q_dputS (e8 D0 _ hd7) (ev_var rfl) (ev_var rfl) (by omega) fun H9 e9 => ?_
          have hlen1 := ins_len S' (gu n).2.2.1
          have hnd1 := ins_nd (s := (gu n).2.2.1) hnd7
          have hsub1 : ∀ y ∈ ins S' (gu n).2.2.1, y ∈ W.ps := fun y hy => (ins_mem.mp hy).elim (hsub7 y) fun z => by rw [z]; exact hin.1
          have hS8 := nodup_le hnd1 hsub1
          refine s_dputS (S := ins S' (gu n).2.2.1) upd_same (ev_var rfl) (ev_var rfl) (by omega) fun H10 e10 => ?_
          have hlen2 := ins_len (ins S' (gu n).2.2.1) (gu n).2.2.2
          have e19 : Ex H1 (upd H9 D0 (.dK (kD (ins S' (gu n).2.2.1)))) := Ex.mut ((e7.trans e8).trans e9) nD1
          refine ⟨ins (ins S' (gu n).2.2.1) (gu n).2.2.2, _, _, rfl, Ex.mut (e19.trans e10) nD1, ?_, upd_same, ins_nd hnd1, fun y hy => (ins_mem.mp hy).elim (hsub1 y) fun z => by rw [z]; exact hin.2, ins_mem.mpr (.inl (ins_mem.mpr (.inl hx7))), ?_⟩
          · rw [upd_ne hneL]
            exact e10 L0 _ (by rw [upd_ne hneL]; exact e9 L0 _ (e8 L0 _ hl7))
          · rcases hor7 with z | ⟨rfl, z⟩
            · exact .inl (by omega)
            · by_cases c1 : (gu n).2.2.1 ∈ S'
              · have q1 : ins S' (gu n).2.2.1 = S' := by unfold ins; rw [if_pos c1]
                by_cases c2 : (gu n).2.2.2 ∈ S'
                · refine .inr ⟨?_, fun n' hn' => ?_⟩
                  · rw [q1]; unfold ins; rw [if_pos c2]
                  · rcases List.mem_append.mp hn' with w | w
                    · exact z n' w
                    · rw [List.mem_singleton.mp w]; exact fun _ => ⟨c1, c2⟩
                · rw [q1] at hlen2 ⊢
                  exact .inl (hlen2.2 c2)
              · exact .inl (Nat.lt_of_lt_of_le (hlen1.2 c1) hlen2.1)
        · refine ⟨S', _, _, rfl, e7.trans e8, e8 L0 _ hl7, e8 D0 _ hd7, hnd7, hsub7, hx7, ?_⟩
          rcases hor7 with z | ⟨rfl, z⟩
          · exact .inl z
          · refine .inr ⟨rfl, fun n' hn' => ?_⟩
            rcases List.mem_append.mp hn' with w | w
            · exact z n' w
            · rw [List.mem_singleton.mp w]
              intro hh
              rcases hh with hh | hh
              · rw [decide_eq_true hh] at hb8; cases hb8
              · rw [decide_eq_true hh, Bool.or_true] at hb8; cases hb8
      · rintro σ2 H7 ⟨S', z7, z8, rfl, e7, hl7, hd7, hnd7, hsub7, hx7, hor7⟩
        refine ⟨S', S.length, _, _, rfl, e7, hl7, hd7, hnd7, hsub7, hx7, ?_, by omega⟩
        rcases hor7 with z | ⟨rfl, z⟩
        · exact .inl z
        · refine .inr fun r hr' => ?_
          obtain ⟨n, hn, rfl⟩ := hcov r hr'
          exact z n hn
    · have hcl : Closed W.rs S := by
        rcases hor with z | z
        · have : decide (((b0 : Nat) : Int) < ((kD S).length : Int)) = true := decide_eq_true (by rw [kD_len]; omega)
          rw [this] at hb5
          cases hb5
        · exact z
      exact s_ret (ev_var rfl) fun H6 e6 => k D0 (kD S) H6 (((e1.trans e0).trans e5).trans e6) (e6 D0 _ (e5 D0 _ hd)) (by rw [kD_len]; exact closed_all ok t hnd hsub hxS hcl)
end
end RP
/-! part RPd7 -/
/-! arrivals_from, days_from, days -/
namespace RP
open PySem PySem.Spec PyProof.Rows L2 Evl
section
variable {K : PySem.W.Frag} {σ : L2.St} {H H' : Hp} {ta tb te td ty tv tl : TE} {a : Addr} {xs : List V} {D : Ends} {tz tu : TS} {g : TG}
/-- d[k] = a new tuple -/
theorem s_dputU {α : Type} {enc : α → V} {mk : Addr → α} {d : List (Str × α)} {s : Str} (henc : ∀ p, enc (mk p) = .ref p) (h : H a = some (.dK (dkv enc d))) (hv : EvU tv σ H xs) (hd : Ev td σ H (.ref a)) (hk : Ev ty σ H (.str s)) (hn : look d s = none) (hl : d.length < 100000)
    (k : ∀ p H1, H p = none → Ex H H1 → H1 p = some (.tup xs) → D.nx σ (upd H1 a (.dK (dkv enc (d ++ [(s, mk p)]))))) : sDPut td ty tv D σ H := hv H (Ex.refl H) _ fun p H1 np e1 hp => hd H1 e1 _ fun H2 e2 => hk H2 (e1.trans e2) _ fun H3 e3 => by
  have g := k p H3 np ((e1.trans e2).trans e3) ((e2.trans e3) p _ hp)
  rw [← putK_dkv (mk p) hn, henc] at g
  exact ⟨a, _, rfl, DPut.k (k := Sum.inr s) (((e1.trans e2).trans e3) a _ h) (by rw [dkv_len]; exact sz_lt hl), g⟩
theorem q_asgG {v : V} (h : Ev te σ H v) (k : ∀ H1, Ex H H1 → g v σ H1 fun σ2 H2 => tz D σ2 H2) : tSeq (tAsg te g) tz D σ H := h H (Ex.refl H) _ k
/-- (i, s) not in an empty dict -/
theorem et_dnotT {i : Int} {s : Str} {tx ty2 : TE} (h1 : Ev tx σ H (.int i)) (h2 : Ev ty2 σ H (.str s)) (hd : Ev td σ H (.ref a)) (h : H a = some (.dT [])) : Ev (tDNotIn (tTup (tCons tx (tCons ty2 tNil))) td) σ H (.bl true) := fun H1 e Q q =>
  (eu_tup (ea_cons h1 (ea_cons h2 ea_nil)) (by show 2 ≤ 100000; decide)) H1 e _ fun p H2 np e2 hp => hd H2 (e.trans e2) _ fun H3 e3 =>
    ⟨a, _, rfl, DGet.t (k := [Sum.inl i, Sum.inr s]) (((e.trans e2).trans e3) a _ h) (e3 p _ hp), q H3 (e2.trans e3)⟩
/-- {k: v} told by the heap -/
theorem q_forE {α : Type} {tc : TE} (L : List α) (enc : α → V) (h : Ev tc σ H (.ref a)) (hx : Tp H a (L.map enc)) (Pv : List α → L2.St → Hp → Prop) (h0 : ∀ H1, Ex H H1 → Pv [] σ H1) (hl : ∀ pre σ' H', Pv pre σ' H' → Tp H' a (L.map enc))
    (hs : ∀ (pre : List α) w post σ' H', L = pre ++ w :: post → Pv pre σ' H' → ∀ T, H' T = none → g (.ref T) σ' (upd H' T (.tup [.int ((pre.length : Nat) : Int), enc w])) fun σ2 H2 => tu { D with nx := Pv (pre ++ [w]), ct := Pv (pre ++ [w]), bk := tz D } σ2 H2) (hd : ∀ σ' H', Pv L σ' H' → tz D σ' H') :
    tSeq (tFor (iEnumT K (tCons tc tNil)) g tu) tz D σ H := h H (Ex.refl H) _ fun H1 e1 => ⟨a, L.map enc, rfl, .inl (ex_rd e1 hx), for_iteT (D := { D with nx := tz D }) (fun i σ' H' => Pv (L.take i) σ' H') (h0 H1 e1) (fun i σ' H' _ p => .inl (hl _ _ _ p)) (fun i x σ' H' hi p T hT => by
    obtain ⟨w, hw, rfl⟩ := map_get hi
    obtain ⟨post, e⟩ := tk_split hw
    have q := hs (L.take i) w post σ' H' e p T hT
    have hlen : (L.take i).length = i := by
      rw [List.length_take]
      have := (List.getElem?_eq_some_iff.mp hw).1
      omega
    rw [hlen] at q
    rw [tk_succ hw]
    exact q) (fun σ' H' p => hd σ' H' (by
    have p' : Pv (L.take (L.map enc).length) σ' H' := p
    rw [List.length_map, List.take_length] at p'
    exact p'))⟩
end
/-! ### what is found, with its moments -/
abbrev Fd := List (Str × (Addr × Nat × Nat))
def encF : Addr × Nat × Nat → V := fun e => .ref e.1
def fmo (fd : Fd) (y : Str) : Option Mom := (look fd y).map (·.2)
theorem fmo_none {fd : Fd} {y : Str} : fmo fd y = none ↔ look fd y = none := by
  unfold fmo
  cases look fd y <;> simp
def MomsAt (H : Hp) (fd : Fd) : Prop := ∀ e ∈ fd, Tp H e.2.1 [.int ((e.2.2.1 : Nat) : Int), .int ((e.2.2.2 : Nat) : Int)]
theorem MomsAt.ex {H H' : Hp} {fd : Fd} (e : Ex H H') (h : MomsAt H fd) : MomsAt H' fd := fun y hy => ex_rd e (h y hy)
theorem MomsAt.upd {H : Hp} {fd : Fd} {a : Addr} {kvs : List (Key × V)} {o : HO} (ha : H a = some (.dK kvs)) (h : MomsAt H fd) : MomsAt (upd H a o) fd := fun y hy => by
  have h1 := h y hy
  have hne : y.2.1 ≠ a := fun z => by
    rw [z] at h1
    rcases h1 with h1 | ⟨o, h1⟩ <;> rw [ha] at h1 <;> cases h1
  unfold Tp Rd
  rw [upd_ne hne]
  exact h1
def ArrOk (W : Web) (ro : List Str) (x : Str) (fd : Fd) (H : Hp) : Prop := (∃ now, Sim W.rs ro x (fmo fd) now) ∧ (∀ y ∈ W.ps, fmo fd y ≠ none) ∧ MomsAt H fd
section
variable {P : Program} {w : World} {K : PySem.W.Frag} {mg : Str → Option Value} {base : Heap} {tk : Nat → Tok}
def sp_arrivals_from : Sp := fun vs H Q _ => ∃ (a p q c b mo ms : Addr) (W : Web) (trs : List (Addr × Road)) (ro : List Str) (x : Str), vs = [.ref a, .ref c, .str x, .ref mo, .ref ms] ∧ WebAt H a W p q trs ∧ WebOk W ∧ Tree W ∧ Tp H c [.ref b] ∧ Tp H b (ro.map V.str) ∧ RotaOk W ro ∧ x ∈ W.ps ∧ Tp H mo [.int 1, .int 0] ∧ H ms = some (.dT []) ∧
  ∀ d fd H', Ex H H' → H' d = some (.lst (W.ps.map fun y => (match look fd y with | some e => V.ref e.1 | none => .non))) → ArrOk W ro x fd H' → Q (.ref d) H'
theorem ok_arrivals_from (T : Top mg tk) (D : DefAt K mg "arrivals_from" s_arrivals_from ["web", "week", "place", "moment", "missed"]) (c_ends_by_road : Cal P w K mg base 1 "ends_by_road" sp_ends_by_road) (c_news_places : Cal P w K mg base 2 "news_places" sp_news_places) (c_round_of : Cal P w K mg base 1 "round_of" sp_round_of) : Cal P w K mg base 3 "arrivals_from" sp_arrivals_from := by
  refine cal D sc_arrivals_from (fun vs H Q E h => ?_) (fun f cdv A outer s H vs Q E hr h => ?_)
  · obtain ⟨a, p, q, c, b, mo, ms, W, trs, ro, x, rfl, _⟩ := h
    rfl
  · obtain ⟨a, p, q, c, b, mo, ms, W, trs, ro, x, rfl, h, ok, t, hc, hb, rk, hx, hmo, hms, k⟩ := h
    have hu := hu_of hr
    refine ⟨_, (pss_cons (ps_set (i := 5) sc_arrivals_from.nd rfl (.inl rfl) (pc c_ends_by_road hr (by decide) (by rfl) (pa_cons (pv 0) pa_nil)))
        (pss_cons (ps_set (i := 6) sc_arrivals_from.nd rfl (.inl rfl) (pe_callB (r := rLenD) call_lenD (by rfl) T.len PySem.boot_len (pa_cons (pc c_news_places hr (by decide) (by rfl) (pa_cons (pv 0) (pa_cons (pv 1) (pa_cons (pv 2) pa_nil)))) pa_nil)))
        (pss_cons (ps_set (i := 7) sc_arrivals_from.nd rfl (.inr rfl) (pe_disp (pps_cons (pv 2) (pv 3) pps_nil) (by rfl) (by rfl) (fun z => by cases z) (by decide)))
        (pss_cons (ps_asg (pv 3) (pg_tup rfl (pgs_cons (pg_name (i := 8) sc_arrivals_from.nd rfl (.inl rfl)) (pgs_cons (pg_name (i := 9) sc_arrivals_from.nd rfl (.inl rfl)) pgs_nil))))
        (pss_cons (ps_while PassesOwn.never (pt_cmpR op_lt (pe_callB (r := rLenD) call_lenD (by rfl) T.len PySem.boot_len (pa_cons (pv 7) pa_nil)) (pv 6) (nomark _)) (pss_cons (ps_for PassesOwn.never rfl (pi_enumT (by rfl) T.enumerate (pa_cons (pc c_round_of hr (by decide) (by rfl) (pa_cons (pv 1) (pa_cons (pv 8) pa_nil))) pa_nil)) (pg_tup rfl (pgs_cons (pg_name (i := 10) sc_arrivals_from.nd rfl (.inl rfl)) (pgs_cons (pg_name (i := 11) sc_arrivals_from.nd rfl (.inl rfl)) pgs_nil))) (pss_cons (ps_asg (pe_dget hu (pv 5) (pv 11) (fun _ _ => rfl)) (pg_tup rfl (pgs_cons (pg_name (i := 12) sc_arrivals_from.nd rfl (.inl rfl)) (pgs_cons (pg_name (i := 13) sc_arrivals_from.nd rfl (.inl rfl)) pgs_nil))))
        (pss_one (ps_if (PW.pt (pw_and (pt_cmpR op_ge (pv 10) (pv 9) (nomark _)) (pw_and (pt_cmpR op_ne (pe_cmp (pc_din hu (pv 12) (pv 7)) rfl) (pe_cmp (pc_din hu (pv 13) (pv 7)) rfl) (nomark _)) (pw_and1 (pt_cmp (pc_dnotin hu (pe_tup (pa_cons (pv 8) (pa_cons (pv 11) pa_nil))) (pv 4))))))) (pss_one (ps_dput hu (pv 7) (pe_ifExp (pt_cmp (pc_din hu (pv 12) (pv 7))) (pv 13) (pv 12)) (pe_tup (pa_cons (pv 8) (pa_cons (pe_op op_add (pv 10) pe_int) pa_nil))) rfl)) pss_nil))))
        (pss_one (ps_par (i := 8) (j := 9) rfl sc_arrivals_from.nd rfl rfl (by decide) rfl rfl (pa_cons (pe_op op_add (pv 8) pe_int) (pa_cons pe_int pa_nil)) (by rfl)))))
        (pss_one (ps_ret (pe_lc (g := (gName 14)) (own := [("name", 14)]) rfl sc_arrivals_from.nd (pi_tup (pe_ix (r := rIxT K) ix_tup (pv 0) pe_int (fun _ _ => rfl))) (blkOk_by (N := N_arrivals_from) (sc := defScope s_arrivals_from) (by decide +kernel)) (fun _ _ _ _ _ => (pg_name (i := 14) sc_arrivals_from.nd rfl (.inl rfl))) (fun _ _ _ _ _ => pts_nil) (fun _ _ _ _ _ => (pe_dget1 hu (pv 7) (pv 14) ⟨rfl, rfl, rfl, rfl⟩)))))))))), ?_⟩
    have hr14 := ok.r14
    have hp10 := ok.p10
    have hrl := rk.len
    have hsubR : ∀ r ∈ W.rs, r.1 ∈ ro := fun r hr' => rota_all ok rk _ (List.mem_map_of_mem (f := (·.1)) hr')
    refine q_asgP (P := fun v H' => ∃ E0 us, v = .ref E0 ∧ EndsAt H' E0 W us) (evp_call (ea_cons (ev_var rfl) ea_nil) fun H1 e Q k E => ⟨a, p, q, W, trs, rfl, h.ex e, ok, fun D us H' _ e' hE => k _ H' e' ⟨D, us, rfl, hE⟩⟩) fun v H1 e1 hv => ?_
    obtain ⟨E0, us, rfl, hE⟩ := hv
    have hro : ∀ n ∈ ro, ∃ u ∈ us, look (dadr us) n = some u.1 ∧ u.2.1 = n := fun n hn => by
      have hn' : n ∈ (us.map (·.2)).map (·.1) := by rw [hE.1]; exact rk.sub n hn
      obtain ⟨u, hu, h1, h2⟩ := dadr_look hn'
      refine ⟨u, hu, h1, ?_⟩
      have := List.find?_some h2
      exact of_decide_eq_true this
    refine q_asg (v := .int ((W.ps.length : Nat) : Int)) ?_ fun H2 e2 => ?_
    · refine fun H2 e2 Q2 q2 => (evp_call (P := fun v H' => ∃ D kvs, v = .ref D ∧ H' D = some (.dK kvs) ∧ kvs.length = W.ps.length) (ea_cons (ev_var rfl) (ea_cons (ev_var rfl) (ea_cons (ev_var rfl) ea_nil)))
        fun H3 e3 Q3 q3 E => ⟨a, p, q, c, b, W, trs, ro, x, rfl, h.ex (e1.trans e3), ok, t, ex_rd (e1.trans e3) hc, ex_rd (e1.trans e3) hb, rk, hx, fun D kvs H' e' h1 h2 => q3 _ H' e' ⟨D, kvs, rfl, h1, h2⟩⟩) H2 e2 _ fun v H3 e3 hv => ?_
      obtain ⟨N0, kvs, rfl, h1, h2⟩ := hv
      refine ⟨N0, kvs, rfl, h1, ?_⟩
      rw [h2]
      exact q2 H3 e3
    refine q_disp1 (fun _ _ => ev_var rfl) (fun _ _ => ev_var rfl) fun D0 H3 nD e3 hD => ?_
    have e13 := e2.trans e3
    have e03 := e1.trans e13
    have nD1 : H1 D0 = none := fresh_back e2 nD
    refine q_asgG (ev_var (i := 3) rfl) fun H4 e4 => ?_
    refine g2_of (ex_rd (e03.trans e4) hmo) ?_
    let fd0 : Fd := [(x, (mo, 1, 0))]
    have hS0 : Sim W.rs ro x (fmo fd0) (1, 0) := Sim.init (by unfold fmo; rw [look_pos (e := (x, (mo, 1, 0))) rfl]; rfl) fun y hy => by
      unfold fmo
      rw [look_neg (e := (x, (mo, 1, 0))) fun z => hy z.symm]
      rfl
    refine q_while (fun m σ' H' => ∃ (fd : Fd) (day : Nat) (y10 y11 y12 y13 : Option V), σ' = [some (.ref a), some (.ref c), some (.str x), some (.ref mo), some (.ref ms), some (.ref E0), some (.int ((W.ps.length : Nat) : Int)), some (.ref D0), some (.int ((day : Nat) : Int)), some (.int 0), y10, y11, y12, y13, none] ∧ Ex H1 H' ∧ H' D0 = some (.dK (dkv encF fd)) ∧ MomsAt H' fd ∧ (fd.map (·.1)).Nodup ∧ (∀ y ∈ fd.map (·.1), y ∈ W.ps) ∧ Sim W.rs ro x (fmo fd) (day, 0) ∧ m = W.ps.length - fd.length)
      (W.ps.length - 1) ⟨fd0, 1, none, none, none, none, rfl, e13.trans e4, e4 D0 _ hD, fun e he => by rw [List.mem_singleton.mp he]; exact ex_rd (e03.trans e4) hmo, by simp [fd0], fun y hy => by
        have : y = x := by simpa [fd0] using hy
        rw [this]; exact hx, hS0, rfl⟩ fun m σ' H' hW => ?_
    obtain ⟨fd, day, y10, y11, y12, y13, rfl, e0, hd, hmom, hnd, hsub, S, hm⟩ := hW
    have hfl : fd.length ≤ W.ps.length := by
      have := nodup_le hnd hsub
      rw [List.length_map] at this
      exact this
    refine ⟨decide (((dkv encF fd).length : Int) < ((W.ps.length : Nat) : Int)), et_test (ev_op (ev_lenD (ev_var rfl) hd) (ev_var rfl) (rv_I0 (g := fun i j => .bl (decide (i < j))))), fun hb5 H5 e5 => ?_, fun hb5 H5 e5 => ?_⟩
    · have hlt := of_decide_eq_true hb5
      rw [dkv_len] at hlt
      refine ⟨fun σ2 H2 => ∃ (fd : Fd) (day : Nat) (y10 y11 y12 y13 : Option V), σ2 = [some (.ref a), some (.ref c), some (.str x), some (.ref mo), some (.ref ms), some (.ref E0), some (.int ((W.ps.length : Nat) : Int)), some (.ref D0), some (.int ((day : Nat) : Int)), some (.int 0), y10, y11, y12, y13, none] ∧ Ex H1 H2 ∧ H2 D0 = some (.dK (dkv encF fd)) ∧ MomsAt H2 fd ∧ (fd.map (·.1)).Nodup ∧ (∀ y ∈ fd.map (·.1), y ∈ W.ps) ∧ Sim W.rs ro x (fmo fd) (day, 0) ∧ W.ps.length - fd.length < m,
        fun σ2 H2 ⟨fd, day, y10, y11, y12, y13, h1, h2, h3, h4, h5, h6, h7, h8⟩ => ⟨_, h8, fd, day, y10, y11, y12, y13, h1, h2, h3, h4, h5, h6, h7, rfl⟩, ?_⟩
      refine q_forE (K := K) (a := b) ro V.str (ev_callV (ea_cons (ev_var rfl) (ea_cons (ev_var rfl) ea_nil)) fun H6 e6 Q6 q6 E6 => ⟨c, b, _, rfl, ex_rd (((e1.trans e0).trans e5).trans e6) hc, q6⟩) (ex_rd ((e1.trans e0).trans e5) hb)
        (fun pre σ2 H2 => ∃ (fd' : Fd) (y10 y11 y12 y13 : Option V), σ2 = [some (.ref a), some (.ref c), some (.str x), some (.ref mo), some (.ref ms), some (.ref E0), some (.int ((W.ps.length : Nat) : Int)), some (.ref D0), some (.int ((day : Nat) : Int)), some (.int 0), y10, y11, y12, y13, none] ∧ Ex H1 H2 ∧ H2 D0 = some (.dK (dkv encF fd')) ∧ MomsAt H2 fd' ∧ (fd'.map (·.1)).Nodup ∧ (∀ y ∈ fd'.map (·.1), y ∈ W.ps) ∧ Sim W.rs ro x (fmo fd') (day, pre.length) ∧
          (fd.length < fd'.length ∨ (fd' = fd ∧ ∀ r ∈ W.rs, r.1 ∈ pre → ∀ p, tch p r → fmo fd p ≠ none → fmo fd (oend r p) ≠ none)))
        (fun H6 e6 => ⟨fd, y10, y11, y12, y13, rfl, (e0.trans e5).trans e6, e6 D0 _ (e5 D0 _ hd), hmom.ex (e5.trans e6), hnd, hsub, S, .inr ⟨rfl, fun r hr' z => nomatch z⟩⟩)
        (fun pre σ2 H2 ⟨_, _, _, _, _, _, z, _⟩ => ex_rd (e1.trans z) hb) ?_ ?_
      · rintro pre n post σ2 H6 ep ⟨fd', z10, z11, z12, z13, rfl, e6, hd6, hmom6, hnd6, hsub6, S6, hor6⟩ T0 hT0
        have hn : n ∈ ro := by rw [ep]; exact List.mem_append_right _ List.mem_cons_self
        have hri : rank ro n = pre.length := rank_at rk.nd (by rw [ep, List.getElem?_append_right (Nat.le_refl _), Nat.sub_self] <;> rfl)
        obtain ⟨u, g1, g2, g3⟩ := hro n hn
        have hur : u.2 ∈ W.rs := by rw [← hE.1]; exact List.mem_map_of_mem g1
        have hpl : pre.length < ro.length := by rw [ep, List.length_append, List.length_cons]; omega
        have hfl6 : fd'.length ≤ W.ps.length := by
          have := nodup_le hnd6 hsub6
          rw [List.length_map] at this
          exact this
        have hri' : rank ro u.2.1 = pre.length := by rw [g3]; exact hri
        have e7 := e6.trans (Ex.new hT0 (o := .tup [.int ((pre.length : Nat) : Int), .str n]))
        have hd7 : upd H6 T0 (.tup [.int ((pre.length : Nat) : Int), .str n]) D0 = some (.dK (dkv encF fd')) := by
          rw [upd_ne fun z => by rw [← z, hd6] at hT0; cases hT0]
          exact hd6
        have hmom7 := hmom6.ex (Ex.new hT0 (o := .tup [.int ((pre.length : Nat) : Int), .str n]))
        refine g2_of (tp_of upd_same) ?_
        refine q_asgG (ev_dget (enc := V.ref) (ev_var (i := 5) rfl) (ev_var (i := 11) rfl) (e7 E0 _ hE.2.1) g2) fun H8 e8 => ?_
        refine g2_of (ex_rd (e7.trans e8) (hE.2.2 u g1)) ?_
        have hd8 := e8 D0 _ hd7
        have hmom8 := hmom7.ex e8
        have e18 := e7.trans e8
        refine s_if (b := !decide (V.bl (look fd' u.2.2.1).isSome = V.bl (look fd' u.2.2.2).isSome)) (et_is (et_and (a := true) (et_is (et_test (ev_op (ev_var rfl) (ev_var rfl) (rv_I0 (g := fun i j => .bl (decide (j ≤ i)))))) (decide_eq_true (by omega))) fun _ =>
            et_is (et_and (a := !decide (V.bl (look fd' u.2.2.1).isSome = V.bl (look fd' u.2.2.2).isSome)) (b := true) (et_test (ev_op (ev_din (enc := encF) (ev_var rfl) (ev_var rfl) hd8) (ev_din (enc := encF) (ev_var rfl) (ev_var rfl) hd8) (rv_ne rfl))) fun _ =>
              et_B (et_dnotT (ev_var rfl) (ev_var rfl) (ev_var rfl) ((e1.trans e18) ms _ hms))) (Bool.and_true _)) (Bool.true_and _)) (fun hb9 H9 e9 => ?_) (fun hb9 H9 e9 => ?_)
        · -- a new place
          have hx9 : ∃ p0, tch p0 u.2 ∧ look fd' p0 ≠ none ∧ look fd' (oend u.2 p0) = none ∧ (if (look fd' u.2.2.1).isSome = true then u.2.2.2 else u.2.2.1) = oend u.2 p0 := by
            have nm := (ok.rr _ hur).ne
            have o1 : oend u.2 u.2.2.1 = u.2.2.2 := if_pos rfl
            have o2 : oend u.2 u.2.2.2 = u.2.2.1 := if_neg nm
            cases q1 : look fd' u.2.2.1 with
            | none =>
              cases q2 : look fd' u.2.2.2 with
              | none => rw [q1, q2] at hb9; simp at hb9
              | some v => exact ⟨u.2.2.2, tch_iff.mpr (.inr rfl), (by rw [q2]; exact Option.some_ne_none _), by rw [o2, q1], by rw [o2]; rfl⟩
            | some v =>
              cases q2 : look fd' u.2.2.2 with
              | some v => rw [q1, q2] at hb9; simp at hb9
              | none => exact ⟨u.2.2.1, tch_iff.mpr (.inl rfl), (by rw [q1]; exact Option.some_ne_none _), by rw [o1, q2], by rw [o1]; rfl⟩
          obtain ⟨p0, hp1, hp2, hp3, hp4⟩ := hx9
          have hop : oend u.2 p0 ∈ W.ps := by
            have rr := ok.rr _ hur
            unfold oend
            by_cases c : u.2.2.1 = p0
            · rw [if_pos c]; exact rr.other
            · rw [if_neg c]; exact rr.one
          refine s_dputU (enc := encF) (mk := fun p => (p, day, pre.length + 1)) (s := oend u.2 p0) (fun p => rfl) (e9 D0 _ hd8) (eu_tup (ea_cons (ev_var rfl) (ea_cons (ev_op (ev_var rfl) ev_c rv_I0) ea_nil)) (by show 2 ≤ 100000; decide)) (ev_var rfl)
            (ev_if (b := (look fd' u.2.2.1).isSome) (et_B (ev_din (enc := encF) (ev_var rfl) (ev_var rfl) (e9 D0 _ hd8))) (fun z => ev_is (ev_var rfl) (by rw [← hp4, if_pos z])) (fun z => ev_is (ev_var rfl) (by rw [← hp4, if_neg (by rw [z]; exact Bool.false_ne_true)]))) hp3 (by omega) fun pn H10 npn e10 hpn => ?_
          have hd10 := e10 D0 _ (e9 D0 _ hd8)
          refine ⟨fd' ++ [(oend u.2 p0, (pn, day, pre.length + 1))], _, _, _, _, rfl, Ex.mut ((e18.trans e9).trans e10) nD1, upd_same, ?_, ?_, ?_, ?_, ?_⟩
          · refine MomsAt.upd hd10 fun e he => ?_
            rcases List.mem_append.mp he with z | z
            · exact ex_rd (e9.trans e10) (hmom8 e z)
            · rw [List.mem_singleton.mp z]
              exact .inl hpn
          · rw [List.map_append, List.nodup_append]
            exact ⟨hnd6, by simp, fun s hs s' hs' z => by
              have : s' = oend u.2 p0 := by simpa using hs'
              rw [z, this] at hs
              exact look_none_iff.mp hp3 hs⟩
          · intro y hy
            rw [List.map_append] at hy
            rcases List.mem_append.mp hy with z | z
            · exact hsub6 y z
            · have : y = oend u.2 p0 := by simpa using z
              rw [this]; exact hop
          · rw [List.length_append, List.length_singleton]
            refine S6.add hsubR ok.rd hur hri' hp1 (fun z => hp2 (fmo_none.mp z)) (fmo_none.mpr hp3) fun y => ?_
            unfold fmo
            rw [look_snoc y hp3]
            by_cases c : y = oend u.2 p0
            · rw [if_pos c, if_pos c]; rfl
            · rw [if_neg c, if_neg c]
          · refine .inl ?_
            rw [List.length_append, List.length_singleton]
            rcases hor6 with z | ⟨z, _⟩
            · omega
            · rw [z]; omega
        · have hno : ∀ p0, tch p0 u.2 → fmo fd' p0 ≠ none → fmo fd' (oend u.2 p0) ≠ none := fun p0 hp1 hp2 z => by
            have hp2' : look fd' p0 ≠ none := fun w => hp2 (fmo_none.mpr w)
            have z' := fmo_none.mp z
            have nm := (ok.rr _ hur).ne
            have o1 : oend u.2 u.2.2.1 = u.2.2.2 := if_pos rfl
            have o2 : oend u.2 u.2.2.2 = u.2.2.1 := if_neg nm
            rcases tch_iff.mp hp1 with w | w
            · rw [w] at hp2' z'
              rw [o1] at z'
              cases q1 : look fd' u.2.2.1 with
              | none => exact hp2' q1
              | some v => rw [q1, z'] at hb9; simp at hb9
            · rw [w] at hp2' z'
              rw [o2] at z'
              cases q1 : look fd' u.2.2.2 with
              | none => exact hp2' q1
              | some v => rw [q1, z'] at hb9; simp at hb9
          refine ⟨fd', _, _, _, _, rfl, e18.trans e9, e9 D0 _ hd8, hmom8.ex e9, hnd6, hsub6, ?_, ?_⟩
          · rw [List.length_append, List.length_singleton]
            exact S6.skip hsubR ok.rd hur hri' hno
          · rcases hor6 with z | ⟨rfl, z⟩
            · exact .inl z
            · refine .inr ⟨rfl, fun r hr' hrp => ?_⟩
              rcases List.mem_append.mp hrp with w | w
              · exact z r hr' w
              · have e9 : r = u.2 := road_eq ok.rd hr' hur ((List.mem_singleton.mp w).trans g3.symm)
                rw [e9]
                exact hno
      · rintro σ2 H6 ⟨fd', z10, z11, z12, z13, rfl, e6, hd6, hmom6, hnd6, hsub6, S6, hor6⟩
        have hgt : fd.length < fd'.length := by
          rcases hor6 with z | ⟨rfl, z⟩
          · exact z
          · have hall : ∀ y ∈ W.ps, fmo fd' y ≠ none := fun y hy => t.con (fun y => fmo fd' y ≠ none) (fun r hr' => by
              have nm := (ok.rr _ hr').ne
              have o1 : oend r r.2.1 = r.2.2 := if_pos rfl
              have o2 : oend r r.2.2 = r.2.1 := if_neg nm
              constructor
              · intro w
                have := z r hr' (hsubR r hr') r.2.1 (tch_iff.mpr (.inl rfl)) w
                rw [o1] at this
                exact this
              · intro w
                have := z r hr' (hsubR r hr') r.2.2 (tch_iff.mpr (.inr rfl)) w
                rw [o2] at this
                exact this) x hx y hy (by rw [S.st]; exact fun z => nomatch z)
            have h9 := nodup_le (m := fd'.map (·.1)) ok.pd fun y hy => by
              rcases Classical.em (y ∈ fd'.map (·.1)) with w | w
              · exact w
              · exact absurd (fmo_none.mpr (look_none_iff.mpr w)) (hall y hy)
            rw [List.length_map] at h9
            omega
        refine (ea_cons (ev_op (ev_var rfl) ev_c rv_I0) (ea_cons ev_c ea_nil)) H6 (Ex.refl _) _ fun H7 e7 => ⟨_, _, rfl, ?_⟩
        exact ⟨fd', day + 1, _, _, _, _, rfl, e6.trans e7, e7 D0 _ hd6, hmom6.ex e7, hnd6, hsub6, S6.night hsubR, by omega⟩
    · have hall : ∀ y ∈ W.ps, y ∈ fd.map (·.1) := by
        refine nodup_all hnd hsub ?_
        rw [List.length_map]
        have h9 := of_decide_eq_false hb5
        rw [dkv_len] at h9
        omega
      refine s_retL (el_lcTm (K := K) W.ps V.str (fun y => (match look fd y with | some e => V.ref e.1 | none => .non)) (ev_w0 (ev_var rfl) (h.ex ((e1.trans e0).trans e5)).w) (h.ex ((e1.trans e0).trans e5)).ps.tp (by omega) (fun _ => rfl) fun i y hi => ?_) fun d H6 n6 e6 h6 => k d fd H6 (((e1.trans e0).trans e5).trans e6) h6 ⟨⟨_, S⟩, fun y hy z => look_none_iff.mp (fmo_none.mp z) (hall y hy), hmom.ex (e5.trans e6)⟩
      refine fun H6 e6 Q6 q6 => (ev_var (i := 7) rfl) H6 e6 _ fun H7 e7 => ⟨D0, rfl, ?_⟩
      have hd7 := (e6.trans e7) D0 _ (e5 D0 _ hd)
      refine ⟨.inl ⟨_, .inl hd7⟩, ?_⟩
      refine (ev_var (i := 14) rfl) H7 (e6.trans e7) _ fun H8 e8 => ⟨_, DGet.k (k := Sum.inr y) (e8 D0 _ hd7), ?_⟩
      have hq := q6 H8 (e7.trans e8)
      rw [valV_dkv]
      cases hl9 : look fd y with
      | none => simp only [hl9] at hq; exact hq
      | some e => simp only [hl9] at hq; exact hq
end
end RP
/-! part RPd8 -/
/-! days_from, days -/
namespace RP
open PySem PySem.Spec PyProof.Rows L2 Evl
theorem ev_tix {σ : L2.St} {H : Hp} {to te : TE} {a : Addr} {ss : List Str} {z : Str} (ho : Ev to σ H (.ref a)) (h : TF H a ss) (he : Ev te σ H (.str z)) (hz : z ∈ ss) : Ev (tTix to te) σ H (.int ((rank ss z : Nat) : Int)) := fun H1 e Q q =>
  ho H1 e _ fun H2 e2 => ⟨a, ss, rfl, h.ex (e.trans e2), he H2 (e.trans e2) _ fun H3 e3 => ⟨z, rank ss z, rfl, h.ex ((e.trans e2).trans e3), rank_get hz, fun m hm => rank_first m hm, q H3 (e2.trans e3)⟩⟩
section
variable {P : Program} {w : World} {K : PySem.W.Frag} {mg : Str → Option Value} {base : Heap} {tk : Nat → Tok}
def DaysV (W : Web) (ro : List Str) (x : Str) (ns : List Int) : Prop := ns.length = W.ps.length ∧ ∀ (i : Nat) (y : Str), W.ps[i]? = some y → ∃ n : Nat, ns[i]? = some (n : Int) ∧ DayOk W ro x y n
def sp_days_from : Sp := fun vs H Q _ => ∃ (a p q c b : Addr) (W : Web) (trs : List (Addr × Road)) (ro : List Str) (x : Str), vs = [.ref a, .ref c, .str x] ∧ WebAt H a W p q trs ∧ WebOk W ∧ Tree W ∧ Tp H c [.ref b] ∧ Tp H b (ro.map V.str) ∧ RotaOk W ro ∧ x ∈ W.ps ∧
  ∀ d ns H', Ex H H' → H' d = some (.lst (ns.map V.int)) → DaysV W ro x ns → Q (.ref d) H'
theorem ok_days_from (T : Top mg tk) (D : DefAt K mg "days_from" s_days_from ["web", "week", "place"]) (c_arrivals_from : Cal P w K mg base 3 "arrivals_from" sp_arrivals_from) : Cal P w K mg base 4 "days_from" sp_days_from := by
  refine cal D sc_days_from (fun vs H Q E h => ?_) (fun f cdv A outer s H vs Q E hr h => ?_)
  · obtain ⟨a, p, q, c, b, W, trs, ro, x, rfl, _⟩ := h
    rfl
  · obtain ⟨a, p, q, c, b, W, trs, ro, x, rfl, h, ok, t, hc, hb, rk, hx, k⟩ := h
    refine ⟨_, (pss_cons (ps_set (i := 3) sc_days_from.nd rfl (.inl rfl) (pc c_arrivals_from hr (by decide) (by rfl) (pa_cons (pv 0) (pa_cons (pv 1) (pa_cons (pv 2) (pa_cons (pe_tup (pa_cons pe_int (pa_cons pe_int pa_nil))) (pa_cons pe_dnewT pa_nil)))))))
        (pss_cons (ps_setLc (g := (gName 5)) (i := 4) (own := [("moment", 5)]) rfl sc_days_from.nd rfl rfl (sw_true rfl rfl rfl (by decide +kernel)) (pi_list (pv 3)) (blkOk_by (N := N_days_from) (sc := defScope s_days_from) (by decide +kernel)) (fun _ _ _ _ _ => (pg_name (i := 5) sc_days_from.nd rfl (.inl rfl))) (fun _ _ _ _ _ => pts_nil) (fun _ _ _ _ _ => (pe_ifExp (pt_cmpR op_isN (pv 5) pe_non (nomark _)) pe_non (pe_ix (r := rIxT K) ix_tup (pv 5) pe_int (fun _ _ => rfl)))))
        (pss_cons (ps_asg pe_int (pg_sub (pv 4) (pe_tix (pe_ix (r := rIxT K) ix_tup (pv 0) pe_int (fun _ _ => rfl)) (pv 2)) set_list))
        (pss_one (ps_ret (pv 4)))))), ?_⟩
    have hp10 := ok.p10
    refine q_asgP (P := fun v H' => ∃ d fd, v = .ref d ∧ H' d = some (.lst (W.ps.map fun y => (match look fd y with | some e => V.ref e.1 | none => .non))) ∧ ArrOk W ro x fd H') ?_ fun v H1 e1 hv => ?_
    · refine evp_callA (eap_cons (ev_p (ev_var rfl)) mono_eq (eap_cons (ev_p (ev_var rfl)) mono_eq (eap_cons (ev_p (ev_var rfl)) mono_eq (eap_cons (EvU.p (P := IsTp [.int 1, .int 0]) (eu_tup (ea_cons ev_c (ea_cons ev_c ea_nil)) (by show 2 ≤ 100000; decide)) fun p H1 _ e => ⟨p, rfl, .inl e⟩) mono_tp
        (eap_cons (P1 := fun v H' => ∃ m, v = .ref m ∧ H' m = some (.dT [])) (fun H1 e1 Q1 q1 m nm => q1 _ _ (Ex.new nm) ⟨m, rfl, upd_same⟩) (fun v H H' e ⟨m, h1, h2⟩ => ⟨m, h1, e m _ h2⟩) eap_nil))))) fun vs H1 e1 hvs => ?_
      obtain ⟨_, _, rfl, rfl, _, _, rfl, rfl, _, _, rfl, rfl, _, _, rfl, ⟨mo, rfl, hmo⟩, _, _, rfl, ⟨ms, rfl, hms⟩, rfl⟩ := hvs
      exact fun H2 e2 Q2 q2 E => ⟨a, p, q, c, b, mo, ms, W, trs, ro, x, rfl, h.ex (e1.trans e2), ok, t, ex_rd (e1.trans e2) hc, ex_rd (e1.trans e2) hb, rk, hx, ex_rd e2 hmo, e2 ms _ hms, fun d fd H' e' h1 h2 => q2 _ H' e' ⟨d, fd, rfl, h1, h2⟩⟩
    · obtain ⟨d, fd, rfl, hd, ⟨now, S⟩, hall, hmom⟩ := hv
      have hm : ∀ y ∈ W.ps, ∃ e : Addr × Nat × Nat, look fd y = some e ∧ Tp H1 e.1 [.int ((e.2.1 : Nat) : Int), .int ((e.2.2 : Nat) : Int)] ∧ fmo fd y = some e.2 := fun y hy => by
        cases z : look fd y with
        | none => exact absurd (fmo_none.mpr z) (hall y hy)
        | some e => exact ⟨e, rfl, hmom _ (look_some_mem z), by unfold fmo; rw [z] <;> rfl⟩
      let gd : Str → Nat := fun y => match look fd y with | some e => e.2.1 | none => 0
      refine q_asgL (el_lcLs (K := K) W.ps (fun y => (match look fd y with | some e => V.ref e.1 | none => .non)) (fun y => some (V.int ((gd y : Nat) : Int))) (ev_var rfl) hd (by omega) fun i y hi => ?_) fun F0 H2 nF e2 hF => ?_
      · have hy := List.mem_of_getElem? hi
        obtain ⟨e, he, hTe, _⟩ := hm y hy
        simp only [he]
        have hg : gd y = e.2.1 := by show (match look fd y with | some e => e.2.1 | none => 0) = _; rw [he]
        rw [hg]
        refine StepTo.plain rfl (ev_if (b := false) (et_is (et_test (ev_op (ev_var rfl) ev_c fun H1 _ Q q => ⟨rfl, q H1 (Ex.refl _)⟩)) (decide_eq_false fun z => nomatch z)) (fun z => Bool.noConfusion z) fun _ => ev_tc (j := 0) (ev_var rfl) hTe rfl)
      · rw [fm_all] at hF
        have e02 := e1.trans e2
        have h2 := h.ex e02
        have hrl : rank W.ps x < W.ps.length := rank_lt hx
        refine s_setL (l := F0) (xs := W.ps.map fun y => V.int ((gd y : Nat) : Int)) (j := rank W.ps x) (D := _) hF ev_c (ev_var rfl) (ev_tix (ev_w0 (ev_var rfl) h2.w) h2.ps (ev_var rfl) hx) (by rw [List.length_map]; exact hrl) fun H3 e3 => ?_
        have e03 : Ex H (upd H3 F0 (.lst ((W.ps.map fun y => V.int ((gd y : Nat) : Int)).set (rank W.ps x) (.int 0)))) := Ex.mut (e02.trans e3) (fresh_back e1 nF)
        refine s_ret (ev_var rfl) fun H4 e4 => k F0 (((W.ps.map fun y => ((gd y : Nat) : Int)).set (rank W.ps x) 0)) H4 (e03.trans e4) (e4 F0 _ ?_) ⟨?_, fun i y hi => ?_⟩
        · rw [upd_same, List.map_set, List.map_map] <;> rfl
        · rw [List.length_set, List.length_map]
        · have hy := List.mem_of_getElem? hi
          obtain ⟨e, he, hTe, hf⟩ := hm y hy
          have hg : gd y = e.2.1 := by show (match look fd y with | some e => e.2.1 | none => 0) = _; rw [he]
          have hday := day_ok ok t rk S hx hall hy hf
          by_cases c : y = x
          · rw [if_pos c] at hday
            refine ⟨0, ?_, hday⟩
            have hi2 : i = rank W.ps x := by rw [← c]; exact (rank_at ok.pd hi).symm
            rw [hi2, List.getElem?_set_self (by rw [List.length_map]; exact hrl)]
            rfl
          · rw [if_neg c] at hday
            refine ⟨gd y, ?_, by rw [hg]; exact hday⟩
            have hne : rank W.ps x ≠ i := fun z => by
              have := rank_get hx
              rw [z, hi] at this
              exact c (Option.some.inj this)
            rw [List.getElem?_set_ne hne, List.getElem?_map, hi] <;> rfl
def sp_need_two_places : Sp := fun vs H Q _ => ∃ (a p q c b : Addr) (W : Web) (trs : List (Addr × Road)) (ro : List Str) (x y : Str), vs = [.ref a, .ref c, .str x, .str y] ∧ WebAt H a W p q trs ∧ WebOk W ∧ Tp H c [.ref b] ∧ Tp H b (ro.map V.str) ∧ RotaOk W ro ∧ x ∈ W.ps ∧ y ∈ W.ps ∧ ∀ H', Ex H H' → Q .non H'
theorem ok_need_two_places (T : Top mg tk) (D : DefAt K mg "need_two_places" s_need_two_places ["web", "week", "place", "other"]) (c_need_web : Cal P w K mg base 4 "need_web" sp_need_web) (c_need_week : Cal P w K mg base 3 "need_week" sp_need_week) (c_need_place : Cal P w K mg base 2 "need_place" sp_need_place) : Cal P w K mg base 5 "need_two_places" sp_need_two_places := by
  refine cal D sc_need_two_places (fun vs H Q E h => ?_) (fun f cdv A outer s H vs Q E hr h => ?_)
  · obtain ⟨a, p, q, c, b, W, trs, ro, x, y, rfl, _⟩ := h
    rfl
  · obtain ⟨a, p, q, c, b, W, trs, ro, x, y, rfl, h, ok, hc, hb, rk, hx, hy, k⟩ := h
    refine ⟨_, (pss_cons (ps_expr (pc c_need_web hr (by decide) (by rfl) (pa_cons (pv 0) pa_nil)))
        (pss_cons (ps_expr (pc c_need_week hr (by decide) (by rfl) (pa_cons (pv 0) (pa_cons (pv 1) pa_nil))))
        (pss_cons (ps_expr (pc c_need_place hr (by decide) (by rfl) (pa_cons (pv 0) (pa_cons (pv 2) pa_nil))))
        (pss_one (ps_expr (pc c_need_place hr (by decide) (by rfl) (pa_cons (pv 0) (pa_cons (pv 3) pa_nil)))))))), ?_⟩
    refine q_drop (ev_callV (ea_cons (ev_var rfl) ea_nil) (spv_need_web h ok)) fun H1 e1 => ?_
    refine q_drop (ev_callV (ea_cons (ev_var rfl) (ea_cons (ev_var rfl) ea_nil)) fun H2 e2 Q2 q2 E => ⟨a, p, q, c, b, W, trs, ro, rfl, h.ex (e1.trans e2), ok, ex_rd (e1.trans e2) hc, ex_rd (e1.trans e2) hb, rk, q2⟩) fun H2 e2 => ?_
    refine q_drop (ev_callV (ea_cons (ev_var rfl) (ea_cons (ev_var rfl) ea_nil)) fun H3 e3 Q2 q2 E => ⟨a, p, q, W, trs, x, rfl, h.ex ((e1.trans e2).trans e3), hx, q2⟩) fun H3 e3 => ?_
    exact s_drop (ev_callV (ea_cons (ev_var rfl) (ea_cons (ev_var rfl) ea_nil)) fun H4 e4 Q2 q2 E => ⟨a, p, q, W, trs, y, rfl, h.ex (((e1.trans e2).trans e3).trans e4), hy, q2⟩) fun H4 e4 => k H4 (((e1.trans e2).trans e3).trans e4)
def sp_days : Sp := fun vs H Q _ => ∃ (a p q c b : Addr) (W : Web) (trs : List (Addr × Road)) (ro : List Str) (x y : Str), vs = [.ref a, .ref c, .str x, .str y] ∧ WebAt H a W p q trs ∧ WebOk W ∧ Tree W ∧ Tp H c [.ref b] ∧ Tp H b (ro.map V.str) ∧ RotaOk W ro ∧ x ∈ W.ps ∧ y ∈ W.ps ∧
  ∀ (n : Nat) H', Ex H H' → DayOk W ro x y n → Q (.int (n : Int)) H'
theorem ok_days (T : Top mg tk) (D : DefAt K mg "days" s_days ["web", "week", "place", "other"]) (c_need_two_places : Cal P w K mg base 5 "need_two_places" sp_need_two_places) (c_days_from : Cal P w K mg base 4 "days_from" sp_days_from) : Cal P w K mg base 6 "days" sp_days := by
  refine cal D sc_days (fun vs H Q E h => ?_) (fun f cdv A outer s H vs Q E hr h => ?_)
  · obtain ⟨a, p, q, c, b, W, trs, ro, x, y, rfl, _⟩ := h
    rfl
  · obtain ⟨a, p, q, c, b, W, trs, ro, x, y, rfl, h, ok, t, hc, hb, rk, hx, hy, k⟩ := h
    refine ⟨_, (pss_cons (ps_expr (pc c_need_two_places hr (by decide) (by rfl) (pa_cons (pv 0) (pa_cons (pv 1) (pa_cons (pv 2) (pa_cons (pv 3) pa_nil))))))
        (pss_one (ps_ret (pe_ix (r := rIxL K) ix_list (pc c_days_from hr (by decide) (by rfl) (pa_cons (pv 0) (pa_cons (pv 1) (pa_cons (pv 2) pa_nil)))) (pe_tix (pe_ix (r := rIxT K) ix_tup (pv 0) pe_int (fun _ _ => rfl)) (pv 3)) (fun _ _ => rfl))))), ?_⟩
    refine q_drop (ev_callV (ea_cons (ev_var rfl) (ea_cons (ev_var rfl) (ea_cons (ev_var rfl) (ea_cons (ev_var rfl) ea_nil)))) fun H2 e2 Q2 q2 E => ⟨a, p, q, c, b, W, trs, ro, x, y, rfl, h.ex e2, ok, ex_rd e2 hc, ex_rd e2 hb, rk, hx, hy, q2⟩) fun H1 e1 => ?_
    refine s_retP (P := fun v _ => ∃ n : Nat, v = .int (n : Int) ∧ DayOk W ro x y n) ?_ fun v H2 e2 hv => ?_
    · refine fun H2 e2 Q2 q2 => (evp_call (P := fun v H' => ∃ d ns, v = .ref d ∧ H' d = some (.lst (ns.map V.int)) ∧ DaysV W ro x ns) (ea_cons (ev_var rfl) (ea_cons (ev_var rfl) (ea_cons (ev_var rfl) ea_nil)))
        fun H3 e3 Q3 q3 E => ⟨a, p, q, c, b, W, trs, ro, x, rfl, h.ex (e1.trans e3), ok, t, ex_rd (e1.trans e3) hc, ex_rd (e1.trans e3) hb, rk, hx, fun d ns H' e' h1 h2 => q3 _ H' e' ⟨d, ns, rfl, h1, h2⟩⟩) H2 e2 _ fun v H3 e3 hv => ?_
      obtain ⟨d, ns, rfl, h1, h2, h3⟩ := hv
      have w3 := h.ex ((e1.trans e2).trans e3)
      obtain ⟨n, hn, hD⟩ := h3 _ y (rank_get hy)
      refine (ev_tix (ev_w0 (ev_var rfl) w3.w) w3.ps (ev_var rfl) hy) H3 (Ex.refl _) _ fun H4 e4 => ?_
      exact (rv_ixL (K := K) (H := H4) (i := ((rank W.ps y : Nat) : Int)) (v := .int (n : Int)) (sq_of (e4 d _ h1)) (atI_nat (by rw [List.getElem?_map, hn] <;> rfl))) H4 (Ex.refl _) _ fun H5 e5 => q2 _ H5 ((e3.trans e4).trans e5) ⟨n, rfl, hD⟩
    · obtain ⟨n, rfl, hD⟩ := hv
      exact k n H2 (e1.trans e2) hD
end
end RP
/-! part RPf1 -/
/-! the law's feed: draws, choices, shuffles -/
namespace RP
open PySem PySem.Spec PyProof.Rows L2 Evl
/-! ### one step at a time -/
section
variable {σ : L2.St} {H : Hp} {ta tb tc te : TE} {tr tq : TA} {t : TT} {Q : VK} {QA : List V → Hp → Prop} {D : Ends} {tu tw tz : TS} {g : TG} {sp : Sp}
theorem k_op {r : R2} (h : ta σ H fun x H1 => tb σ H1 fun y H2 => r x y H2 Q) : tOp r ta tb σ H Q := h
theorem k_cons (h : te σ H fun x H1 => tr σ H1 fun xs H2 => QA (x :: xs) H2) : tCons te tr σ H QA := h
theorem k_nil (h : QA [] H) : tNil σ H QA := h
theorem k_cb {r : List V → Hp → VK → Prop} (h : tq σ H fun vs H1 => r vs H1 Q) : tCB r tq σ H Q := h
theorem k_call (h : tq σ H fun vs H1 => sp (vs ++ []) H1 Q E0) : tCall sp [] E0 tq σ H Q := h
theorem k_if (h : t σ H fun c H1 => if c = true then ta σ H1 Q else tb σ H1 Q) : tIf t ta tb σ H Q := h
theorem k_ret (h : te σ H D.rt) : tRet te D σ H := h
theorem k_asg {i : Nat} (h : te σ H fun v H1 => D.nx (σ.set i (some v)) H1) : tAsg te (gName i) D σ H := h
theorem k_qasg {i : Nat} (h : te σ H fun v H1 => tz D (σ.set i (some v)) H1) : tSeq (tAsg te (gName i)) tz D σ H := h
theorem k_seq (h : tu { D with nx := tz D } σ H) : tSeq tu tz D σ H := h
theorem k_ifS (h : t σ H fun b H1 => if b = true then tu D σ H1 else tw D σ H1) : tIfS t tu tw D σ H := h
theorem k_tup (h : tq σ H fun xs H1 => xs.length ≤ sizeLine ∧ ∀ p, H1 p = none → Q (.ref p) (upd H1 p (.tup xs))) : tTup tq σ H Q := h
end

theorem k_at {te : TE} {σ : L2.St} {H : Hp} {v : V} {Q : VK} (h : Ev te σ H v) (q : ∀ H2, Ex H H2 → Q v H2) : te σ H Q := h H (Ex.refl H) Q q
theorem k_atL {te : TE} {σ : L2.St} {H : Hp} {xs : List V} {Q : VK} (h : EvL te σ H xs) (q : ∀ p H2, H p = none → Ex H H2 → H2 p = some (.lst xs) → Q (.ref p) H2) : te σ H Q := h H (Ex.refl H) Q q
theorem k_atU {te : TE} {σ : L2.St} {H : Hp} {xs : List V} {Q : VK} (h : EvU te σ H xs) (q : ∀ p H2, H p = none → Ex H H2 → H2 p = some (.tup xs) → Q (.ref p) H2) : te σ H Q := h H (Ex.refl H) Q q
theorem k_atT {t : TT} {σ : L2.St} {H : Hp} {b : Bool} {Q : Bool → Hp → Prop} (h : EvT t σ H b) (q : ∀ H2, Ex H H2 → Q b H2) : t σ H Q := h H (Ex.refl H) Q q
/-! ### all but one address -/
def Ef (f : Addr) (H H' : Hp) : Prop := ∀ a o, a ≠ f → H a = some o → H' a = some o
theorem Ef.refl (f : Addr) (H : Hp) : Ef f H H := fun _ _ _ h => h
theorem Ef.trans {f : Addr} {H H1 H2 : Hp} (a : Ef f H H1) (b : Ef f H1 H2) : Ef f H H2 := fun x o n h => b x o n (a x o n h)
theorem ef_of {f : Addr} {H H' : Hp} (e : Ex H H') : Ef f H H' := fun a o _ h => e a o h
theorem Ef.set {f : Addr} {H H' : Hp} {o : HO} (e : Ef f H H') : Ef f H (upd H' f o) := fun a u n h => by
  rw [upd_ne n]; exact e a u n h
/-- from a heap that has nothing there -/
theorem Ef.ex {f : Addr} {G H H' : Hp} (e : Ef f H H') (h : Ex G H) (n : G f = none) : Ex G H' := fun a o ha => e a o (fun z => by rw [z, n] at ha; cases ha) (h a o ha)
/-! ### the feed -/
def Feed (H : Hp) (f : Addr) (n : Nat) : Prop := ∃ x y z : Int, H f = some (.lst [.int x, .int y, .int z]) ∧ 0 ≤ x ∧ 0 ≤ y ∧ y < 10 ^ 40 ∧ 0 ≤ z ∧ z ≤ (n : Int)
theorem Feed.ex {H H' : Hp} {f : Addr} {n : Nat} (e : Ex H H') (h : Feed H f n) : Feed H' f n := let ⟨x, y, z, h1, h2⟩ := h; ⟨x, y, z, e f _ h1, h2⟩
theorem Feed.le {H : Hp} {f : Addr} {n m : Nat} (h : Feed H f n) (l : n ≤ m) : Feed H f m := let ⟨x, y, z, h1, h2, h3, h4, h5, h6⟩ := h; ⟨x, y, z, h1, h2, h3, h4, h5, by omega⟩
theorem Feed.upd {H : Hp} {f a : Addr} {n : Nat} {o : HO} (h : Feed H f n) (ne : a ≠ f) : Feed (upd H a o) f n := let ⟨x, y, z, h1, h2⟩ := h; ⟨x, y, z, by rw [upd_ne ne.symm]; exact h1, h2⟩
theorem Feed.ne {H : Hp} {f a : Addr} {n : Nat} (h : Feed H f n) (ha : H a = none) : a ≠ f := fun z => by
  obtain ⟨x, y, w, h1, _⟩ := h
  rw [← z, ha] at h1
  cases h1
theorem mod_lo (a : Int) {m : Int} (h : 0 < m) : 0 ≤ a.fmod m ∧ a.fmod m < m := by
  rw [Int.fmod_eq_emod_of_nonneg _ (by omega)]
  exact ⟨Int.emod_nonneg _ (by omega), Int.emod_lt_of_pos _ h⟩
theorem abs_lt {i : Int} {b : Nat} (h0 : 0 ≤ i) (h : i < 2 ^ b) : i.natAbs < 2 ^ b := by
  have e : ((i.natAbs : Nat) : Int) = i := by omega
  have : ((i.natAbs : Nat) : Int) < ((2 ^ b : Nat) : Int) := by
    rw [e]
    push_cast
    exact h
  exact Int.ofNat_lt.mp this
section
variable {P : Program} {w : World} {K : PySem.W.Frag} {mg : Str → Option Value} {base : Heap} {tk : Nat → Tok}
def sp_law_draw : Sp := fun vs H Q _ => ∃ (f : Addr) (m : Int) (n : Nat), vs = [.ref f, .int m] ∧ 1 ≤ m ∧ m ≤ 1000 ∧ Feed H f n ∧ n ≤ 1000000 ∧ ∀ r H', Ef f H H' → Feed H' f (n + 1) → 0 ≤ r → r < m → Q (.int r) H'
theorem ok_law_draw (T : Top mg tk) (D : DefAt K mg "_law_draw" s_law_draw ["_law_feed_here", "_law_many"]) : Cal P w K mg base 1 "_law_draw" sp_law_draw := by
  refine cal D sc_law_draw (fun vs H Q E h => ?_) (fun f cdv A outer s H vs Q E hr h => ?_)
  · obtain ⟨f, m, n, rfl, _⟩ := h
    rfl
  · obtain ⟨f0, m, n, rfl, hm1, hm2, ⟨x, y, z, hf, hx, hy0, hy, hz0, hz⟩, hn, k⟩ := h
    refine ⟨_, (pss_cons (ps_if (pt_cmpR op_gt (pe_ix (r := rIxL K) ix_list (pv 0) pe_int (fun _ _ => rfl)) pe_int (nomark _)) (pss_cons (ps_set (i := 2) sc_law_draw.nd rfl (.inl rfl) (pe_op op_fdivW (pe_ix (r := rIxL K) ix_list (pv 0) pe_int (fun _ _ => rfl)) (pv 1)))
        (pss_cons (ps_set (i := 3) sc_law_draw.nd rfl (.inl rfl) (pe_op op_sub (pe_ix (r := rIxL K) ix_list (pv 0) pe_int (fun _ _ => rfl)) (pe_op op_mul (pv 2) (pv 1))))
        (pss_cons (ps_asg (pv 2) (pg_sub (pv 0) pe_int set_list))
        (pss_one (ps_ret (pv 3)))))) pss_nil)
        (pss_cons (ps_asg (pe_op op_add (pe_ix (r := rIxL K) ix_list (pv 0) pe_int (fun _ _ => rfl)) pe_int) (pg_sub (pv 0) pe_int set_list))
        (pss_cons (ps_set (i := 4) sc_law_draw.nd rfl (.inl rfl) (pe_op op_add (pe_ix (r := rIxL K) ix_list (pv 0) pe_int (fun _ _ => rfl)) (pe_op op_mul pe_int (pe_ix (r := rIxL K) ix_list (pv 0) pe_int (fun _ _ => rfl)))))
        (pss_cons (ps_set (i := 4) sc_law_draw.nd rfl (.inl rfl) (pe_op op_modN (pe_callTy (r := rInt1) call_int1 (by rfl) T.int (by decide +kernel) (pa_cons (pe_op op_add (pe_op op_mulW (pe_op op_mulW (pv 4) (pv 4)) (pv 4)) (pe_op op_mul pe_int (pe_ix (r := rIxL K) ix_list (pv 0) pe_int (fun _ _ => rfl)))) pa_nil)) (pe_op op_add (pe_op op_pow pe_int pe_int) pe_int)))
        (pss_cons (ps_set (i := 4) sc_law_draw.nd rfl (.inl rfl) (pe_op op_modN (pe_callTy (r := rInt1) call_int1 (by rfl) T.int (by decide +kernel) (pa_cons (pe_op op_add (pe_op op_mulW (pv 4) (pv 4)) pe_int) pa_nil)) (pe_op op_add (pe_op op_pow pe_int pe_int) pe_int)))
        (pss_one (ps_ret (pe_op op_modN (pe_callTy (r := rInt1) call_int1 (by rfl) T.int (by decide +kernel) (pa_cons (pe_op op_fdivW (pv 4) (pe_op op_pow pe_int pe_int)) pa_nil)) (pv 1))))))))), ?_⟩
    refine q_when (b := decide (0 < x)) (et_test (ev_op (ev_lc' (j := 0) (ev_var rfl) hf rfl) ev_c (rv_I0 (g := fun i j => .bl (decide (j < i)))))) (fun hb H1 e1 => ?_) fun hb H1 e1 => ?_
    · have h1 := e1 f0 _ hf
      have hmw : CDivW x m := wide_div (b := 10) (by omega) (abs_lt (by omega) (by show m < 1024; omega)) (by decide) (by decide)
      refine q_asg (ev_op (ev_lc' (j := 0) (ev_var rfl) h1 rfl) (ev_var rfl) (rv_I hmw)) fun H2 e2 => ?_
      refine q_asg (ev_op (ev_lc' (j := 0) (ev_var rfl) (e2 f0 _ h1) rfl) (ev_op (ev_var rfl) (ev_var rfl) (rv_I (Or.inr ⟨by omega, by omega⟩))) rv_I0) fun H3 e3 => ?_
      refine q_setL (l := f0) (xs := [.int x, .int y, .int z]) (j := 0) (e3 f0 _ (e2 f0 _ h1)) (ev_var rfl) (ev_var rfl) ev_c (by show 0 < 3; decide) fun H4 e4 => ?_
      have em := Int.emod_add_mul_ediv x m
      have e0 := Int.emod_nonneg x (show m ≠ 0 by omega)
      have el := Int.emod_lt_of_pos x (show 0 < m by omega)
      have ec : x / m * m = m * (x / m) := Int.mul_comm _ _
      refine s_ret (ev_var rfl) fun H5 e5 => k _ H5 (Ef.trans (Ef.set (ef_of (((e1.trans e2).trans e3).trans e4))) (ef_of e5)) ⟨x / m, y, z, e5 f0 _ upd_same, Int.ediv_nonneg hx (by omega), hy0, hy, hz0, by omega⟩ ?_ ?_
      · rw [ec]; omega
      · rw [ec]; omega
    · have h1 := e1 f0 _ hf
      refine q_setL (l := f0) (xs := [.int x, .int y, .int z]) (j := 2) h1 (ev_op (ev_lc' (j := 2) (ev_var rfl) h1 rfl) ev_c rv_I0) (ev_var rfl) ev_c (by show 2 < 3; decide) fun H2 e2 => ?_
      have h2 : upd H2 f0 (.lst (([.int x, .int y, .int z] : List V).set 2 (.int (z + 1)))) f0 = some (.lst [.int x, .int y, .int (z + 1)]) := upd_same
      have ef2 : Ef f0 H (upd H2 f0 (.lst (([.int x, .int y, .int z] : List V).set 2 (.int (z + 1))))) := Ef.set (ef_of (e1.trans e2))
      generalize upd H2 f0 (.lst (([.int x, .int y, .int z] : List V).set 2 (.int (z + 1)))) = H3 at h2 ef2 ⊢
      have ab1 : (y + 6700417 * (z + 1)).natAbs < 2 ^ 134 := abs_lt (by omega) (by omega)
      refine q_asg (v := .int (y + 6700417 * (z + 1))) (ev_op (ev_lc' (j := 1) (ev_var rfl) h2 rfl) (ev_op ev_c (ev_lc' (j := 2) (ev_var rfl) h2 rfl) (rv_I (Or.inl ⟨by decide, by decide⟩))) rv_I0) fun H4 e4 => ?_
      generalize y + 6700417 * (z + 1) = s1 at ab1 ⊢
      have h4 := e4 f0 _ h2
      have hp43 : (0 : Int) < 10 ^ (43 : Int).toNat + 57 := by decide
      refine q_asg (v := .int ((s1 * s1 * s1 + 15485863 * (z + 1)).fmod (10 ^ (43 : Int).toNat + 57))) (ev_op (ev_int1 (ev_op (ev_op (ev_op (ev_var rfl) (ev_var rfl) (rv_I (wide_mul ab1 ab1 (by decide) (by decide) (by decide)))) (ev_var rfl) (rv_I (wide_mul (wide_lt ab1 ab1) ab1 (by decide) (by decide) (by decide)))) (ev_op ev_c (ev_lc' (j := 2) (ev_var rfl) h4 rfl) (rv_I (Or.inl ⟨by decide, by decide⟩))) rv_I0))
        (ev_op (ev_op ev_c ev_c (rv_I ⟨by decide, by decide, by decide⟩)) ev_c rv_I0) (rv_I (by decide))) fun H5 e5 => ?_
      have b2 := mod_lo (s1 * s1 * s1 + 15485863 * (z + 1)) hp43
      have ab2 : ((s1 * s1 * s1 + 15485863 * (z + 1)).fmod (10 ^ (43 : Int).toNat + 57)).natAbs < 2 ^ 144 := abs_lt b2.1 (Int.lt_trans b2.2 (by decide))
      generalize (s1 * s1 * s1 + 15485863 * (z + 1)).fmod (10 ^ (43 : Int).toNat + 57) = s2 at ab2 ⊢
      refine q_asg (v := .int ((s2 * s2 + 32452843).fmod (10 ^ (38 : Int).toNat + 133))) (ev_op (ev_int1 (ev_op (ev_op (ev_var rfl) (ev_var rfl) (rv_I (wide_mul ab2 ab2 (by decide) (by decide) (by decide)))) ev_c rv_I0)) (ev_op (ev_op ev_c ev_c (rv_I ⟨by decide, by decide, by decide⟩)) ev_c rv_I0) (rv_I (by decide))) fun H6 e6 => ?_
      generalize (s2 * s2 + 32452843).fmod (10 ^ (38 : Int).toNat + 133) = s3
      have b9 : CDivW s3 (10 ^ (9 : Int).toNat) := wide_div (b := 31) (by decide) (by decide) (by decide) (by decide)
      refine s_ret (v := .int ((s3 / 10 ^ (9 : Int).toNat).fmod m)) (ev_op (ev_int1 (ev_op (ev_var rfl) (ev_op ev_c ev_c (rv_I ⟨by decide, by decide, by decide⟩)) (rv_I b9))) (ev_var rfl) (rv_I (by omega))) fun H7 e7 => ?_
      have bm := mod_lo (s3 / 10 ^ (9 : Int).toNat) (show 0 < m by omega)
      have e37 := ((e4.trans e5).trans e6).trans e7
      exact k _ H7 (ef2.trans (ef_of e37)) ⟨x, y, z + 1, e37 f0 _ h2, hx, hy0, hy, by omega, by omega⟩ bm.1 bm.2
/-- a draw -/
theorem k_draw {σ : L2.St} {H : Hp} {ta tb : TE} {Q : VK} {f : Addr} {m : Int} {n : Nat} (ha : Ev ta σ H (.ref f)) (hb : Ev tb σ H (.int m)) (h1 : 1 ≤ m) (h2 : m ≤ 1000) (hF : Feed H f n) (hn : n ≤ 1000000)
    (q : ∀ r H', Ef f H H' → Feed H' f (n + 1) → 0 ≤ r → r < m → Q (.int r) H') : tCall sp_law_draw [] E0 (tCons ta (tCons tb tNil)) σ H Q :=
  ha H (Ex.refl H) _ fun H1 e1 => hb H1 e1 _ fun H2 e2 => ⟨f, m, n, rfl, h1, h2, hF.ex (e1.trans e2), hn, fun r H' e hF' => q r H' ((ef_of (e1.trans e2)).trans e) hF'⟩
/-! ### one of a list -/
def sp_law_one : Sp := fun vs H Q _ => ∃ (f l : Addr) (xs : List V) (n : Nat), vs = [.ref f, .ref l] ∧ H l = some (.lst xs) ∧ f ≠ l ∧ 1 ≤ xs.length ∧ xs.length ≤ 1000 ∧ Feed H f n ∧ n ≤ 1000000 ∧ ∀ v H', Ef f H H' → Feed H' f (n + 1) → v ∈ xs → Q v H'
theorem ok_law_one (T : Top mg tk) (D : DefAt K mg "_law_one" s_law_one ["_law_feed_here", "_law_things"]) (c_law_draw : Cal P w K mg base 1 "_law_draw" sp_law_draw) : Cal P w K mg base 2 "_law_one" sp_law_one := by
  refine cal D sc_law_one (fun vs H Q E h => ?_) (fun f cdv A outer s H vs Q E hr h => ?_)
  · obtain ⟨f, l, xs, n, rfl, _⟩ := h
    rfl
  · obtain ⟨f0, l, xs, n, rfl, hl, hne, h1, h2, hF, hn, k⟩ := h
    refine ⟨_, (pss_one (ps_ret (pe_ix (r := rIxL K) ix_list (pv 1) (pc c_law_draw hr (by decide) (by rfl) (pa_cons (pv 0) (pa_cons (pe_callB (r := Evl.rLenS K) call_len_seq (by rfl) T.len PySem.boot_len (pa_cons (pv 1) pa_nil)) pa_nil))) (fun _ _ => rfl)))), ?_⟩
    refine k_ret (k_op (k_at (ev_var rfl) fun H1 e1 => ?_))
    refine k_draw (ev_var rfl) (ev_len (ev_var rfl) (sq_of (e1 l _ hl))) (by omega) (by omega) (hF.ex e1) hn fun r H2 e2 hF2 r0 r1 => ?_
    obtain ⟨j, rfl⟩ := Int.eq_ofNat_of_zero_le r0
    have hj : j < xs.length := by omega
    exact ⟨l, xs, _, xs[j], rfl, rfl, sq_of (e2 l _ (Ne.symm hne) (e1 l _ hl)), atI_nat (List.getElem?_eq_getElem hj), k _ H2 ((ef_of e1).trans e2) hF2 (List.getElem_mem hj)⟩
/-! ### a shuffle -/
def sp_law_mixed : Sp := fun vs H Q _ => ∃ (f l : Addr) (xs : List V) (n : Nat), vs = [.ref f, .ref l] ∧ H l = some (.lst xs) ∧ f ≠ l ∧ xs.length ≤ 1000 ∧ Feed H f n ∧ n ≤ 900000 ∧ ∀ d ys H', Ef f H H' → Feed H' f (n + xs.length) → H d = none → H' d = some (.lst ys) → ys.Perm xs → Q (.ref d) H'
theorem perm_pop {α : Type} : ∀ (l : List α) (j : Nat) (h : j < l.length), (l[j] :: l.eraseIdx j).Perm l
  | x :: l, 0, _ => List.Perm.refl _
  | x :: l, j + 1, h => (List.Perm.swap _ _ _).trans ((perm_pop l j (Nat.lt_of_succ_lt_succ h)).cons x)
theorem k_par {σ : L2.St} {H : Hp} {D : Ends} {i j : Nat} {tq : TA} (h : tq σ H fun vs H1 => ∃ v w, vs = [v, w] ∧ D.nx ((σ.set i (some v)).set j (some w)) H1) : tPar i j tq D σ H := h
theorem k_drop {σ : L2.St} {H : Hp} {D : Ends} {te : TE} (h : te σ H fun _ H1 => D.nx σ H1) : tDrop te D σ H := h
theorem k_bm {σ : L2.St} {H : Hp} {Q : VK} {Ty : String} {r : V → List V → Hp → VK → Prop} {to : TE} {t : TA} (h : to σ H fun x H1 => tyV K Ty x H1 ∧ t σ H1 fun xs H2 => r x xs H2 Q) : tBM K Ty r to t σ H Q := h
theorem Ef.mut {f p : Addr} {H H' : Hp} {o : HO} (e : Ef f H H') (n : H p = none) : Ef f H (upd H' p o) := fun a u na ha => by
  rw [upd_ne fun z => by rw [z, n] at ha; cases ha]
  exact e a u na ha
theorem ok_law_mixed (T : Top mg tk) (D : DefAt K mg "_law_mixed" s_law_mixed ["_law_feed_here", "_law_things"]) (c_law_draw : Cal P w K mg base 1 "_law_draw" sp_law_draw) : Cal P w K mg base 2 "_law_mixed" sp_law_mixed := by
  refine cal D sc_law_mixed (fun vs H Q E h => ?_) (fun f cdv A outer s H vs Q E hr h => ?_)
  · obtain ⟨f, l, xs, n, rfl, _⟩ := h
    rfl
  · obtain ⟨f0, l, xs, n, rfl, hl, hne, h2, hF, hn, k⟩ := h
    refine ⟨_, (pss_cons (ps_par (i := 2) (j := 3) rfl sc_law_mixed.nd rfl rfl (by decide) rfl rfl (pa_cons (pe_callTy (r := Evl.rListS K) call_list_of (by rfl) T.list (by decide +kernel) (pa_cons (pv 1) pa_nil)) (pa_cons (pe_lst pa_nil) pa_nil)) (by rfl))
        (pss_cons (ps_for PassesOwn.never rfl (pi_range1 (by rfl) T.range (pa_cons (pe_callB (r := Evl.rLenS K) call_len_seq (by rfl) T.len PySem.boot_len (pa_cons (pv 1) pa_nil)) pa_nil)) (pg_name (i := 4) sc_law_mixed.nd rfl (.inl rfl)) (pss_one (ps_expr (pe_bm PySem.F.plainAttrs_list PySem.F.slot_list_append PySem.F.type_list_append mt_append (pv 3) (pa_cons (pe_bm PySem.F.plainAttrs_list PySem.F.slot_list_pop PySem.F.type_list_pop mt_popAt (pv 2) (pa_cons (pc c_law_draw hr (by decide) (by rfl) (pa_cons (pv 0) (pa_cons (pe_callB (r := Evl.rLenS K) call_len_seq (by rfl) T.len PySem.boot_len (pa_cons (pv 2) pa_nil)) pa_nil))) pa_nil)) pa_nil)))))
        (pss_one (ps_ret (pv 3))))), ?_⟩
    refine k_seq (k_par (k_cons (k_atL (el_list (ev_var rfl) (sq_of hl)) fun P0 H1 nP e1 hP => k_cons (k_atL (el_lst ea_nil (Nat.zero_le _)) fun G0 H2 nG e2 hG => k_nil ⟨_, _, rfl, ?_⟩))))
    have nG0 : H G0 = none := fresh_back e1 nG
    have hPG : P0 ≠ G0 := fun z => by rw [z, nG] at hP; cases hP
    have e02 := e1.trans e2
    have fP : P0 ≠ f0 := hF.ne nP
    have fG : G0 ≠ f0 := hF.ne nG0
    refine q_forR1 (n := (xs.length : Int)) (ea_cons (ev_len (ev_var rfl) (sq_of (e02 l _ hl))) ea_nil) ⟨by omega, by omega⟩
      (fun i σ2 H3 => ∃ pool got y4, σ2 = [some (.ref f0), some (.ref l), some (.ref P0), some (.ref G0), y4] ∧ Ef f0 H H3 ∧ H3 P0 = some (.lst pool) ∧ H3 G0 = some (.lst got) ∧ (got ++ pool).Perm xs ∧ got.length = i ∧ Feed H3 f0 (n + i))
      (fun H3 e3 => ⟨xs, [], none, rfl, ef_of (e02.trans e3), e3 P0 _ (e2 P0 _ hP), e3 G0 _ hG, List.Perm.refl _, rfl, hF.ex (e02.trans e3)⟩) ?_ ?_
    · rintro i σ2 H3 hi ⟨pool, got, y4, rfl, e3, hp3, hg3, hpm, hgl, hF3⟩
      have hpl : got.length + pool.length = xs.length := by
        have := hpm.length_eq
        rw [List.length_append] at this
        exact this
      refine k_drop (k_bm (k_at (ev_var rfl) fun H4 e4 => ⟨Or.inl ⟨rfl, got, sq_of (e4 G0 _ hg3)⟩, k_cons (k_bm (k_at (ev_var rfl) fun H5 e5 => ⟨Or.inl ⟨rfl, pool, sq_of ((e4.trans e5) P0 _ hp3)⟩, k_cons ?_⟩))⟩))
      refine k_draw (ev_var rfl) (ev_len (ev_var rfl) (sq_of ((e4.trans e5) P0 _ hp3))) (by omega) (by omega) (hF3.ex (e4.trans e5)) (by omega) fun r H6 e6 hF6 r0 r1 => ?_
      obtain ⟨j, rfl⟩ := Int.eq_ofNat_of_zero_le r0
      have hj : j < pool.length := by omega
      have e36 : Ef f0 H3 H6 := (ef_of (e4.trans e5)).trans e6
      have hp6 := e36 P0 _ fP hp3
      have hg6 := e36 G0 _ fG hg3
      refine k_nil ⟨P0, pool, _, j, pool[j], rfl, rfl, hp6, by omega, by omega, ?_, List.getElem?_eq_getElem hj, ?_⟩
      · have hn0 : ¬ ((j : Int) < 0) := by omega
        have hlt : (j : Int) < (pool.length : Int) := by omega
        simp [seqIndex?, hn0, hlt, hj]
      · refine k_nil ⟨G0, got, _, rfl, rfl, by rw [upd_ne hPG.symm]; exact hg6, sz_lt (by omega), ?_⟩
        refine ⟨pool.eraseIdx j, got ++ [pool[j]], _, rfl, ((e3.trans e36).mut nP).mut nG0, by rw [upd_ne hPG, upd_same], upd_same, ?_, by rw [List.length_append, List.length_singleton, hgl], ?_⟩
        · rw [List.append_assoc]
          exact (List.Perm.append_left got (perm_pop pool j hj)).trans hpm
        · exact Feed.upd (Feed.upd hF6 fP) fG
    · rintro σ2 H3 ⟨pool, got, y4, rfl, e3, hp3, hg3, hpm, hgl, hF3⟩
      have hpl : got.length + pool.length = xs.length := by
        have := hpm.length_eq
        rw [List.length_append] at this
        exact this
      have hpn : pool = [] := List.eq_nil_of_length_eq_zero (by omega)
      subst hpn
      rw [List.append_nil] at hpm
      have hF4 : Feed H3 f0 (n + xs.length) := hF3.le (by omega)
      exact s_ret (ev_var rfl) fun H4 e4 => k G0 got H4 (e3.trans (ef_of e4)) (hF4.ex e4) nG0 (e4 G0 _ hg3) hpm
/-- a shuffle called -/
theorem k_mixed {σ : L2.St} {H : Hp} {ta : TE} {tb : TE} {Q : VK} {f l : Addr} {xs : List V} {n : Nat} (ha : Ev ta σ H (.ref f)) (hb : Ev tb σ H (.ref l)) (hl : H l = some (.lst xs)) (hne : f ≠ l) (h2 : xs.length ≤ 1000) (hF : Feed H f n) (hn : n ≤ 900000)
    (q : ∀ d ys H', Ef f H H' → Feed H' f (n + xs.length) → H d = none → H' d = some (.lst ys) → ys.Perm xs → Q (.ref d) H') : tCall sp_law_mixed [] E0 (tCons ta (tCons tb tNil)) σ H Q :=
  ha H (Ex.refl H) _ fun H1 e1 => hb H1 e1 _ fun H2 e2 => ⟨f, l, xs, n, rfl, (e1.trans e2) l _ hl, hne, h2, hF.ex (e1.trans e2), hn, fun d ys H' e hF' hd => q d ys H' ((ef_of (e1.trans e2)).trans e) hF' (fresh_back (e1.trans e2) hd)⟩
theorem k_mixedL {σ : L2.St} {H : Hp} {ta : TE} {tb : TE} {Q : VK} {f : Addr} {xs : List V} {n : Nat} (ha : Ev ta σ H (.ref f)) (hb : EvL tb σ H xs) (h2 : xs.length ≤ 1000) (hF : Feed H f n) (hn : n ≤ 900000)
    (q : ∀ d ys H', Ef f H H' → Feed H' f (n + xs.length) → H d = none → H' d = some (.lst ys) → ys.Perm xs → Q (.ref d) H') : tCall sp_law_mixed [] E0 (tCons ta (tCons tb tNil)) σ H Q :=
  ha H (Ex.refl H) _ fun H1 e1 => hb H1 e1 _ fun l H2 nl e2 hl => ⟨f, l, xs, n, rfl, hl, ((hF.ex e1).ne nl).symm, h2, hF.ex (e1.trans e2), hn, fun d ys H' e hF' hd => q d ys H' ((ef_of (e1.trans e2)).trans e) hF' (fresh_back (e1.trans e2) hd)⟩
end
end RP
/-! part RPf2 -/
/-! the law's names, rotas, fresh names -/
namespace RP
open PySem PySem.Spec PyProof.Rows L2 Evl
theorem perm_map_inv {α β : Type} {enc : α → β} {ys zs : List β} (h : ys.Perm zs) : ∀ L : List α, zs = L.map enc → ∃ L' : List α, L'.Perm L ∧ ys = L'.map enc := by
  induction h with
  | nil => intro L e; exact ⟨L, List.Perm.refl _, e⟩
  | @cons x l1 l2 _ ih =>
    intro L e
    obtain ⟨a, L2, rfl, rfl, e2⟩ := List.map_eq_cons_iff.mp e.symm
    obtain ⟨L1, hp, rfl⟩ := ih L2 e2.symm
    exact ⟨a :: L1, hp.cons a, rfl⟩
  | swap x y l =>
    intro L e
    obtain ⟨a, L2, rfl, rfl, e2⟩ := List.map_eq_cons_iff.mp e.symm
    obtain ⟨b, L3, rfl, rfl, e3⟩ := List.map_eq_cons_iff.mp e2
    exact ⟨b :: a :: L3, List.Perm.swap _ _ _, by rw [← e3]; rfl⟩
  | trans _ _ ih1 ih2 =>
    intro L e
    obtain ⟨L2, p2, e2⟩ := ih2 L e
    obtain ⟨L1, p1, e1⟩ := ih1 L2 e2
    exact ⟨L1, p1.trans p2, e1⟩
/-! ### names -/
def nameB (s : Str) : Bool := decide (s.length ≤ 8) && (match s.cps.toList[0]? with | some c => decide (c ∈ LET.cps.toList) | none => false) && s.cps.toList.all fun c => decide (c ∈ SIG.cps.toList)
theorem nameB_ok {s : Str} (h : nameB s = true) : NameOk s := by
  unfold nameB at h
  rw [Bool.and_eq_true, Bool.and_eq_true] at h
  obtain ⟨⟨h1, h2⟩, h3⟩ := h
  refine ⟨of_decide_eq_true h1, ?_, fun c hc => of_decide_eq_true (List.all_eq_true.mp h3 c hc)⟩
  cases e : s.cps.toList[0]? with
  | none => rw [e] at h2; cases h2
  | some c => rw [e] at h2; exact ⟨c, rfl, of_decide_eq_true h2⟩
def NM : List Str := ["a", "b10", "b9", "zz", "c", "q1w2e3r4", "d", "x", "m0", "road", "k", "e5", "y", "i2"]
theorem nm_ok : ∀ s ∈ NM, NameOk s := by
  have h : NM.all nameB = true := by decide +kernel
  exact fun s hs => nameB_ok (List.all_eq_true.mp h s hs)
theorem nm_nd : NM.Nodup := by decide +kernel
theorem k_sl {r : V → Option Int → Option Int → Hp → VK → Prop} {te : TE} {tl th : TO} {σ : L2.St} {H : Hp} {Q : VK} (h : te σ H fun x H1 => tl σ H1 fun l H2 => th σ H2 fun u H3 => r x l u H3 Q) : tSl r te tl th σ H Q := h
section
variable {P : Program} {w : World} {K : PySem.W.Frag} {mg : Str → Option Value} {base : Heap} {tk : Nat → Tok}
theorem k_oneL {σ : L2.St} {H : Hp} {ta : TE} {tb : TE} {Q : VK} {f : Addr} {xs : List V} {n : Nat} (ha : Ev ta σ H (.ref f)) (hb : EvL tb σ H xs) (h1 : 1 ≤ xs.length) (h2 : xs.length ≤ 1000) (hF : Feed H f n) (hn : n ≤ 1000000)
    (q : ∀ v H', Ef f H H' → Feed H' f (n + 1) → v ∈ xs → Q v H') : tCall sp_law_one [] E0 (tCons ta (tCons tb tNil)) σ H Q :=
  ha H (Ex.refl H) _ fun H1 e1 => hb H1 e1 _ fun l H2 nl e2 hl => ⟨f, l, xs, n, rfl, hl, ((hF.ex e1).ne nl).symm, h1, h2, hF.ex (e1.trans e2), hn, fun v H' e hF' hv => q v H' ((ef_of (e1.trans e2)).trans e) hF' hv⟩
def sp_law_names : Sp := fun vs H Q _ => ∃ (f : Addr) (m n : Nat), vs = [.ref f, .int (m : Int)] ∧ m ≤ 14 ∧ Feed H f n ∧ n ≤ 900000 ∧ ∀ (d : Addr) (ss : List Str) (H' : Hp), Ef f H H' → Feed H' f (n + 14) → H d = none → H' d = some (.lst (ss.map V.str)) → ss.length = m → ss.Nodup → (∀ s ∈ ss, NameOk s) → Q (.ref d) H'
theorem ok_law_names (T : Top mg tk) (D : DefAt K mg "_law_names" s_law_names ["_law_feed_here", "_law_many"]) (c_law_mixed : Cal P w K mg base 2 "_law_mixed" sp_law_mixed) : Cal P w K mg base 3 "_law_names" sp_law_names := by
  refine cal D sc_law_names (fun vs H Q E h => ?_) (fun f cdv A outer s H vs Q E hr h => ?_)
  · obtain ⟨f, m, n, rfl, _⟩ := h
    rfl
  · obtain ⟨f0, m, n, rfl, hm, hF, hn, k⟩ := h
    refine ⟨_, (pss_one (ps_ret (pe_slice (r := rSlL K) sl_list (pc c_law_mixed hr (by decide) (by rfl) (pa_cons (pv 0) (pa_cons (pe_lst (pa_cons pe_str (pa_cons pe_str (pa_cons pe_str (pa_cons pe_str (pa_cons pe_str (pa_cons pe_str (pa_cons pe_str (pa_cons pe_str (pa_cons pe_str (pa_cons pe_str (pa_cons pe_str (pa_cons pe_str (pa_cons pe_str (pa_cons pe_str pa_nil))))))))))))))) pa_nil))) po_none (po_some (pv 1))))), ?_⟩
    refine k_ret (k_sl (k_mixedL (xs := NM.map V.str) (ev_var rfl) (el_lst (ea_cons ev_c (ea_cons ev_c (ea_cons ev_c (ea_cons ev_c (ea_cons ev_c (ea_cons ev_c (ea_cons ev_c (ea_cons ev_c (ea_cons ev_c (ea_cons ev_c (ea_cons ev_c (ea_cons ev_c (ea_cons ev_c (ea_cons ev_c ea_nil)))))))))))))) (by show 14 ≤ 100000; decide)) (by show 14 ≤ 1000; decide) hF hn fun d ys H1 e1 hF1 nd hd hp => ?_))
    obtain ⟨L, hL, rfl⟩ := perm_map_inv hp NM rfl
    have hll := hL.length_eq
    have h14 : NM.length = 14 := rfl
    refine eo_none H1 (Ex.refl _) _ fun H2 e2 => (eo_some (ev_var (v := .int (m : Int)) rfl)) H2 (Ex.refl _) _ fun H3 e3 => ?_
    refine ⟨d, L.map V.str, rfl, sq_of ((e2.trans e3) d _ hd), fun p np => ?_⟩
    have e13 : Ex H1 (upd H3 p (.lst (cutV (L.map V.str) none (some (m : Int))))) := (e2.trans e3).trans (Ex.new np)
    have hnp : H1 p = none := fresh_back (e2.trans e3) np
    have hnp0 : H p = none := by
      cases q : H p with
      | none => rfl
      | some o =>
        by_cases c : p = f0
        · obtain ⟨x, y, z, h1, _⟩ := hF1
          rw [← c, hnp] at h1
          cases h1
        · rw [e1 p o c q] at hnp; cases hnp
    refine k p (L.take m) _ (e1.trans (ef_of e13)) (hF1.ex e13) hnp0 ?_ ?_ ((hL.nodup_iff.mpr nm_nd).sublist (List.take_sublist _ _)) fun s hs => nm_ok s (hL.mem_iff.mp (List.mem_of_mem_take hs))
    · rw [upd_same, cut_to _ m (by rw [List.length_map]; omega), List.map_take]
    · rw [List.length_take]; omega
/-! ### rota -/
def sp_law_rota : Sp := fun vs H Q _ => ∃ (f a p q : Addr) (W : Web) (trs : List (Addr × Road)) (n : Nat), vs = [.ref f, .ref a] ∧ WebAt H a W p q trs ∧ WebOk W ∧ Feed H f n ∧ n ≤ 900000 ∧ ∀ d ro H', Ef f H H' → Feed H' f (n + 14) → TF H' d ro → RotaOk W ro → Q (.ref d) H'
theorem ok_law_rota (T : Top mg tk) (D : DefAt K mg "_law_rota" s_law_rota ["_law_feed_here", "_law_web_here"]) (c_law_mixed : Cal P w K mg base 2 "_law_mixed" sp_law_mixed) : Cal P w K mg base 3 "_law_rota" sp_law_rota := by
  refine cal D sc_law_rota (fun vs H Q E h => ?_) (fun f cdv A outer s H vs Q E hr h => ?_)
  · obtain ⟨f, a, p, q, W, trs, n, rfl, _⟩ := h
    rfl
  · obtain ⟨f0, a, p, q, W, trs, n, rfl, h, ok, hF, hn, k⟩ := h
    refine ⟨_, (pss_one (ps_ret (pe_callTy (r := rTupS K) call_tupF (by rfl) T.tuple (by decide +kernel) (pa_cons (pc c_law_mixed hr (by decide) (by rfl) (pa_cons (pv 0) (pa_cons (pe_lc (g := (gName 2)) (own := [("_law_road", 2)]) rfl sc_law_rota.nd (pi_tup (pe_ix (r := rIxT K) ix_tup (pv 1) pe_int (fun _ _ => rfl))) (blkOk_by (N := N_law_rota) (sc := defScope s_law_rota) (by decide +kernel)) (fun _ _ _ _ _ => (pg_name (i := 2) sc_law_rota.nd rfl (.inl rfl))) (fun _ _ _ _ _ => pts_nil) (fun _ _ _ _ _ => (pe_ix (r := rIxT K) ix_tup (pv 2) pe_int (fun _ _ => rfl)))) pa_nil))) pa_nil)))), ?_⟩
    have hr14 := ok.r14
    have htl := trs_len h.e
    refine k_ret (k_cb (k_cons (k_mixedL (xs := trs.map fun x : Addr × Road => V.str x.2.1) (ev_var rfl) (el_lcTm (K := K) trs (fun x => V.ref x.1) (fun x => V.str x.2.1) (ev_w1 (ev_var rfl) h.w) h.rs.1 (by omega) (fun _ => rfl) fun i x hx => ev_r0 (ev_var rfl) (h.rs.2 x (List.mem_of_getElem? hx))) (by rw [List.length_map]; omega) hF hn fun d ys H1 e1 hF1 nd hd hp => k_nil ?_)))
    have e9 : trs.map (fun x => V.str x.2.1) = W.names.map V.str := by rw [Web.names, ← h.e, List.map_map, List.map_map] <;> rfl
    rw [e9] at hp
    obtain ⟨L, hL, rfl⟩ := perm_map_inv hp W.names rfl
    have hll := hL.length_eq
    rw [Web.names, List.length_map] at hll
    rw [List.length_map] at hF1
    refine ⟨d, L.map V.str, rfl, sq_of hd, fun l o nl ho => k l L _ (e1.trans (ef_of (Ex.new nl))) ((hF1.le (by omega)).ex (Ex.new nl)) ⟨o, upd_same, ho⟩ ⟨hll, hL.nodup_iff.mpr ok.rd, fun s hs => hL.mem_iff.mp hs⟩⟩
/-! ### the feed -/
def sp_law_feed (K : PySem.W.Frag) : Sp := fun vs H Q _ => ∃ (s : Addr) (ns : List Int) (k : Nat), vs = [.ref s, .int (k : Int)] ∧ SqL K H s (ns.map V.int) ∧ ns.length ≤ 1000 ∧ k ≤ 10 ∧ ∀ f H', H f = none → Ex H H' → Feed H' f 0 → Q (.ref f) H'
theorem ok_law_feed (T : Top mg tk) (D : DefAt K mg "_law_feed" s_law_feed ["_law_script", "_law_k"]) : Cal P w K mg base 1 "_law_feed" (sp_law_feed K) := by
  refine cal D sc_law_feed (fun vs H Q E h => ?_) (fun f cdv A outer s H vs Q E hr h => ?_)
  · obtain ⟨s, ns, k, rfl, _⟩ := h
    rfl
  · obtain ⟨s0, ns, kk, rfl, hs, hl, hk, k⟩ := h
    refine ⟨_, (pss_cons (ps_set (i := 2) sc_law_feed.nd rfl (.inl rfl) (pe_op op_add (pe_op op_mul pe_int (pv 1)) (pe_callB (cr_sum rfl) (by rfl) T.sum (by decide +kernel) (pa_cons (pe_slice (r := rSlL K) sl_list (pv 0) po_none (po_some pe_int)) pa_nil))))
        (pss_cons (ps_if (pt_cmpR op_lt (pv 1) (pe_callB (r := Evl.rLenS K) call_len_seq (by rfl) T.len PySem.boot_len (pa_cons (pv 0) pa_nil)) (nomark _)) (pss_one (ps_set (i := 2) sc_law_feed.nd rfl (.inl rfl) (pe_ix (r := rIxL K) ix_list (pv 0) (pv 1) (fun _ _ => rfl)))) pss_nil)
        (pss_one (ps_ret (pe_lst (pa_cons (pe_callB (r := Evl.rMax2) (call_max2 rfl) (by rfl) T.max (by decide +kernel) (pa_cons pe_int (pa_cons (pe_op op_sub (pv 2) (pe_op op_pow pe_int pe_int)) pa_nil))) (pa_cons (pe_op op_modN (pe_callTy (r := rInt1) call_int1 (by rfl) T.int (by decide +kernel) (pa_cons (pe_op op_add (pe_op op_mul (pv 2) pe_int) (pe_op op_mul pe_int (pv 1))) pa_nil)) (pe_op op_add (pe_op op_pow pe_int pe_int) pe_int)) (pa_cons pe_int pa_nil)))))))), ?_⟩
    have hml : (ns.map V.int).length = ns.length := List.length_map ..
    have tail : ∀ (c : Int) (H1 : Hp), Ex H H1 → ∀ D : Ends, D.rt = Q → tRet (tLst (tCons (tCB Evl.rMax2 (tCons (tC (.int 0)) (tCons (tOp (rI0 fun i j => .int (i - j)) (tVar 2) (tOp (rI CPow fun i j => .int (i ^ j.toNat)) (tC (.int 10)) (tC (.int 18)))) tNil))) (tCons (tOp (rI (fun _ j => j ≠ 0) fun i j => .int (i.fmod j)) (tCB rInt1 (tCons (tOp (rI0 fun i j => .int (i + j)) (tOp (rI CMul fun i j => .int (i * j)) (tVar 2) (tC (.int 19))) (tOp (rI CMul fun i j => .int (i * j)) (tC (.int 7)) (tVar 1))) tNil)) (tOp (rI0 fun i j => .int (i + j)) (tOp (rI CPow fun i j => .int (i ^ j.toNat)) (tC (.int 10)) (tC (.int 39))) (tC (.int 23)))) (tCons (tC (.int 0)) tNil)))) D [some (.ref s0), some (.int (kk : Int)), some (.int c)] H1 := by
      intro c H1 e1 D hD
      have hp39 : (0 : Int) < 10 ^ (39 : Int).toNat + 23 := by decide
      have b := mod_lo (c * 19 + 7 * (kk : Int)) hp39
      refine s_retL (el_lst (ea_cons (ev_max2 ev_c (ev_op (ev_var rfl) (ev_op ev_c ev_c (rv_I ⟨by decide, by decide, by decide⟩)) rv_I0)) (ea_cons (ev_op (ev_int1 (ev_op (ev_op (ev_var rfl) ev_c (rv_I (Or.inr ⟨by decide, by decide⟩))) (ev_op ev_c (ev_var rfl) (rv_I (Or.inl ⟨by decide, by decide⟩))) rv_I0)) (ev_op (ev_op ev_c ev_c (rv_I ⟨by decide, by decide, by decide⟩)) ev_c rv_I0) (rv_I (by decide))) (ea_cons ev_c ea_nil))) (by show 3 ≤ 100000; decide)) fun f H2 nf e2 hf => ?_
      rw [hD]
      refine k f H2 (fresh_back e1 nf) (e1.trans e2) ⟨_, _, 0, hf, ?_, b.1, Int.lt_trans b.2 (by decide), Int.le_refl _, Int.le_refl _⟩
      split <;> omega
    have hsum : ∃ c0 : Int, Ev (tOp (rI0 fun i j => .int (i + j)) (tOp (rI CMul fun i j => .int (i * j)) (tC (.int 977)) (tVar 1)) (tCB (rSum K) (tCons (tSl (rSlL K) (tVar 0) tNoPart (tPart (tC (.int 1)))) tNil))) [some (.ref s0), some (.int (kk : Int)), none] H (.int c0) := by
      refine ⟨977 * (kk : Int) + (ns.take 1).sum, ev_op (ev_op ev_c (ev_var rfl) (rv_I (Or.inl ⟨by decide, by decide⟩))) (fun H1 e Q q => (el_sl (K := K) (ev_var (i := 0) rfl) eo_none (eo_some ev_c) hs) H1 e _ fun p H2 np e2 hp => ⟨p, ns.take 1, rfl, sq_of ?_, q H2 e2⟩) rv_I0⟩
      rw [hp]
      have : cutV (ns.map V.int) none (some 1) = (ns.take 1).map V.int := by
        unfold cutV
        rw [show (some (1 : Int)) = some ((1 : Nat) : Int) from rfl, HT.sIx_nat, HT.sIx_none]
        cases ns with
        | nil => rfl
        | cons a as =>
          have : min 1 ((a :: as).map V.int).length = 1 := by
            rw [List.length_map, List.length_cons]; omega
          rw [this]
          rfl
      rw [this]
    obtain ⟨c0, hc0⟩ := hsum
    refine q_asg hc0 fun H1 e1 => ?_
    refine q_if (b := decide ((kk : Int) < ((ns.map V.int).length : Int))) (et_test (ev_op (ev_var rfl) (ev_len (ev_var rfl) (ex_l e1 hs)) (rv_I0 (g := fun i j => .bl (decide (i < j)))))) (fun hb H2 e2 => ?_) fun hb H2 e2 => ?_
    · have hlt := of_decide_eq_true hb
      rw [hml] at hlt
      have hkn : kk < ns.length := by omega
      refine s_asg (ev_sl (ev_var rfl) (ex_l (e1.trans e2) hs) (ev_var rfl) (atI_nat (v := .int ns[kk]) (by rw [List.getElem?_map, List.getElem?_eq_getElem hkn] <;> rfl))) fun H3 e3 => ?_
      exact tail _ H3 ((e1.trans e2).trans e3) _ rfl
    · exact tail _ H2 (e1.trans e2) _ rfl
end
end RP
/-! part RPf3 -/
/-! the law's fresh names -/
namespace RP
open PySem PySem.Spec PyProof.Rows L2 Evl
theorem k_lc {wi : TI} {g : TG} {tt : TT} {te : TE} {vs : List Nat} {σ : L2.St} {H : Hp} {Q : VK} (h : wi σ H fun J H1 => ∀ D, H1 D = none → ∃ W : Nat → Nat → Hp → Prop, (∃ m, W 0 m (upd H1 D (.lst []))) ∧ ∀ i m H, W i m H →
  (J.stop i H ∧ Q (.ref D) H) ∨ (J.go i H ∧ ∃ Nx : Hp → Prop, (∀ H', Nx H' → ∃ m', m' < m ∧ W (i + 1) m' H') ∧ ∀ x H', J.yld i H x H' → g x (wipe σ vs) H' fun σ2 H2 => wipe σ2 vs = wipe σ vs ∧ tt σ2 H2 fun b H3 =>
    if b = true then te σ2 H3 fun y H4 => ∃ acc, H4 D = some (.lst acc) ∧ acc.length < sizeLine ∧ Nx (upd H4 D (.lst (acc ++ [y]))) else Nx H3)) : tLc wi g tt te vs σ H Q := h
theorem k_rng1 {ta : TA} {σ : L2.St} {H : Hp} {R : It → Hp → Prop} (h : ta σ H fun vs H1 => ∃ j : Int, vs = [.int j] ∧ -(2 ^ 62) ≤ j ∧ j < 2 ^ 62 ∧ R (Itr 0 j.toNat) H1) : iRng1 ta σ H R := h
theorem k_for {wi : TI} {g : TG} {tb : TS} {D : Ends} {σ : L2.St} {H : Hp} (h : wi σ H fun J H1 => ∃ W : Nat → Nat → L2.St → Hp → Prop, (∃ m, W 0 m σ H1) ∧ ∀ i m σ H, W i m σ H →
  (J.stop i H ∧ D.nx σ H) ∨ (J.go i H ∧ ∃ N : L2.St → Hp → Prop, (∀ σ' H', N σ' H' → ∃ m', m' < m ∧ W (i + 1) m' σ' H') ∧ ∀ x H', J.yld i H x H' → g x σ H' fun σ2 H2 => tb { D with nx := N, ct := N, bk := D.nx } σ2 H2)) : tFor wi g tb D σ H := h
theorem k_lst {tq : TA} {σ : L2.St} {H : Hp} {Q : VK} (h : tq σ H fun xs H1 => xs.length ≤ sizeLine ∧ ∀ p, H1 p = none → Q (.ref p) (upd H1 p (.lst xs))) : tLst tq σ H Q := h
theorem k_m1 {r : V → List V → Hp → VK → Prop} {to te : TE} {σ : L2.St} {H : Hp} {Q : VK} (h : to σ H fun x H1 => (∃ a, x = .str a) ∧ te σ H1 fun y H2 => r x [y] H2 Q) : tM1 r to te σ H Q := h
theorem k_yes {σ : L2.St} {H : Hp} {A B : Prop} {Q : Bool → Hp → Prop} (e : Q true H = (if true = true then A else B)) (h : A) : tYes σ H Q := by
  show Q true H
  rw [e]
  exact (if_pos rfl).mpr h
/-! ### joined signs -/
theorem joinL_nil : ∀ L : List (List Nat), TL.joinL [] L = L.flatten
  | [] => rfl
  | [p] => by simp [TL.joinL]
  | p :: q :: r => by
    show p ++ ([] ++ TL.joinL [] (q :: r)) = _
    rw [joinL_nil (q :: r)]
    simp
theorem sgn_flat : ∀ cs : List Nat, ((cs.map fun c => (⟨#[c]⟩ : Str)).map TL.tl).flatten = cs
  | [] => rfl
  | c :: cs => by
    rw [List.map_cons, List.map_cons, List.flatten_cons, sgn_flat cs] <;> rfl
theorem join_sgn (cs : List Nat) : (Txt.join "" (cs.map fun c => (⟨#[c]⟩ : Str))).cps.toList = cs := by
  have h := TL.tl_join "" (cs.map fun c => (⟨#[c]⟩ : Str))
  rw [← TL.join_eq] at h
  have e : TL.tl ("" : Str) = [] := rfl
  rw [e, joinL_nil, sgn_flat] at h
  exact h
/-- a word of the law: the letter of its place ends it -/
structure Wd (i : Nat) (s : Str) : Prop where
  nm : NameOk s
  last : s.cps.toList.getLast? = LET.cps.toList[i]?
theorem let_sig : ∀ c ∈ LET.cps.toList, c ∈ SIG.cps.toList := by decide +kernel
theorem let_nd : LET.cps.toList.Nodup := by decide +kernel
theorem let_len : LET.cps.toList.length = 26 := by decide +kernel
theorem sig_len : SIG.cps.toList.length = 36 := by decide +kernel
theorem wd_of {i : Nat} {c : Nat} {F S : List Nat} (hc : LET.cps.toList[i]? = some c) (hF : ∀ x ∈ F, x ∈ LET.cps.toList) (hS : ∀ x ∈ S, x ∈ SIG.cps.toList) (hl : S.length ≤ 6) (hF1 : F.length ≤ 1) (hFS : S ≠ [] → F ≠ []) :
    Wd i (Txt.join "" ((F ++ S ++ [c]).map fun c => (⟨#[c]⟩ : Str))) := by
  have h := join_sgn (F ++ S ++ [c])
  generalize Txt.join "" ((F ++ S ++ [c]).map fun c => (⟨#[c]⟩ : Str)) = w at h
  refine ⟨⟨?_, ?_, ?_⟩, ?_⟩
  · have : w.length = w.cps.toList.length := Array.length_toList.symm
    rw [this, h, List.length_append, List.length_append, List.length_singleton]
    omega
  · rw [h]
    cases F with
    | nil =>
      cases S with
      | nil => exact ⟨c, rfl, List.mem_of_getElem? hc⟩
      | cons a S => exact absurd rfl (hFS (List.cons_ne_nil _ _))
    | cons a F => exact ⟨a, rfl, hF a List.mem_cons_self⟩
  · rw [h]
    intro x hx
    rcases List.mem_append.mp hx with hx | hx
    · rcases List.mem_append.mp hx with hx | hx
      · exact let_sig x (hF x hx)
      · exact hS x hx
    · rw [List.mem_singleton.mp hx]; exact let_sig c (List.mem_of_getElem? hc)
  · rw [h, hc, List.getLast?_append]
    rfl
theorem wd_nd : ∀ {ss : List Str}, ss.length ≤ 26 → (∀ (i : Nat) (s : Str), ss[i]? = some s → Wd i s) → ss.Nodup := by
  intro ss hl h
  refine List.pairwise_iff_getElem.mpr fun i j hi hj hij e => ?_
  have h1 := (h i _ (List.getElem?_eq_getElem hi)).last
  have h2 := (h j _ (List.getElem?_eq_getElem hj)).last
  rw [e, h2] at h1
  have l26 := let_len
  have hj26 : j < LET.cps.toList.length := by omega
  have hi26 : i < LET.cps.toList.length := by omega
  rw [List.getElem?_eq_getElem hj26, List.getElem?_eq_getElem hi26] at h1
  have := (List.getElem_inj let_nd).mp (Option.some.inj h1)
  omega
section
variable {P : Program} {w : World} {K : PySem.W.Frag} {mg : Str → Option Value} {base : Heap} {tk : Nat → Tok}
/-- a sign of a written text, drawn -/
theorem k_sgn {σ : L2.St} {H : Hp} {ta tb tx : TE} {Q : VK} {f : Addr} {s : Str} {n : Nat} {m : Int} (hx : Ev tx σ H (.str s)) (ha : Ev ta σ H (.ref f)) (hb : Ev tb σ H (.int m)) (hm : (s.cps.toList.length : Int) = m) (h1 : 1 ≤ m) (h2 : m ≤ 1000) (hF : Feed H f n) (hn : n ≤ 1000000)
    (q : ∀ c H', Ef f H H' → Feed H' f (n + 1) → c ∈ s.cps.toList → Q (.str ⟨#[c]⟩) H') : tOp rIxS tx (tCall sp_law_draw [] E0 (tCons ta (tCons tb tNil))) σ H Q :=
  k_op (k_at hx fun H1 e1 => k_draw (ha.mono e1) (hb.mono e1) h1 h2 (hF.ex e1) hn fun r H2 e2 hF2 r0 r1 => by
    obtain ⟨j, rfl⟩ := Int.eq_ofNat_of_zero_le r0
    have hj : j < s.cps.toList.length := by omega
    have hle : s.length = s.cps.toList.length := Array.length_toList.symm
    exact ⟨s, _, s.cps.toList[j], rfl, rfl, sz_of (by omega), atI_nat (List.getElem?_eq_getElem hj), q _ H2 ((ef_of e1).trans e2) hF2 (List.getElem_mem hj)⟩)
def sgV (cs : List Nat) : List V := cs.map fun c => V.str ⟨#[c]⟩
def sp_law_fresh : Sp := fun vs H Q _ => ∃ (f : Addr) (m n : Nat), vs = [.ref f, .int (m : Int)] ∧ m ≤ 14 ∧ Feed H f n ∧ n ≤ 800000 ∧ ∀ (d : Addr) (ss : List Str) (H' : Hp), Ef f H H' → Feed H' f (n + 8 * m) → H d = none → H' d = some (.lst (ss.map V.str)) → ss.length = m → ss.Nodup → (∀ s ∈ ss, NameOk s) → Q (.ref d) H'
theorem ok_law_fresh (T : Top mg tk) (D : DefAt K mg "_law_fresh" s_law_fresh ["_law_feed_here", "_law_many"]) (c_law_draw : Cal P w K mg base 1 "_law_draw" sp_law_draw) (c_law_one : Cal P w K mg base 2 "_law_one" sp_law_one) : Cal P w K mg base 3 "_law_fresh" sp_law_fresh := by
  refine cal D sc_law_fresh (fun vs H Q E h => ?_) (fun f cdv A outer s H vs Q E hr h => ?_)
  · obtain ⟨f, m, n, rfl, _⟩ := h
    rfl
  · obtain ⟨f0, m, n, rfl, hm, hF, hn, k⟩ := h
    refine ⟨_, (pss_cons (ps_par (i := 2) (j := 3) rfl sc_law_fresh.nd rfl rfl (by decide) rfl rfl (pa_cons pe_str (pa_cons (pe_lst pa_nil) pa_nil)) (by rfl))
        (pss_cons (ps_for PassesOwn.never rfl (pi_range1 (by rfl) T.range (pa_cons (pv 1) pa_nil)) (pg_name (i := 4) sc_law_fresh.nd rfl (.inl rfl)) (pss_cons (ps_setLc (g := (gName 7)) (i := 5) (own := [("_law_turn", 7)]) rfl sc_law_fresh.nd rfl rfl (sw_true rfl rfl rfl (by decide +kernel)) (pi_range1 (by rfl) T.range (pa_cons (pc c_law_one hr (by decide) (by rfl) (pa_cons (pv 0) (pa_cons (pe_lst (pa_cons pe_int (pa_cons pe_int (pa_cons pe_int (pa_cons pe_int pa_nil))))) pa_nil))) pa_nil)) (blkOk_by (N := N_law_fresh) (sc := defScope s_law_fresh) (by decide +kernel)) (fun _ _ _ _ _ => (pg_name (i := 7) sc_law_fresh.nd rfl (.inl rfl))) (fun _ _ _ _ _ => pts_nil) (fun _ _ _ _ _ => (pe_ix ix_str pe_str (pc c_law_draw hr (by decide) (by rfl) (pa_cons (pv 0) (pa_cons pe_int pa_nil))) (fun _ _ => rfl))))
        (pss_cons (ps_set (i := 6) sc_law_fresh.nd rfl (.inl rfl) (pe_ifExp (pt_cmpR (r := rNeD K) (op_neD hr.units) (pv 5) (pe_lst pa_nil) (nomark _)) (pe_lst (pa_cons (pe_ix ix_str (pv 2) (pc c_law_draw hr (by decide) (by rfl) (pa_cons (pv 0) (pa_cons pe_int pa_nil))) (fun _ _ => rfl)) pa_nil)) (pe_lst pa_nil)))
        (pss_one (ps_expr (pe_bm PySem.F.plainAttrs_list PySem.F.slot_list_append PySem.F.type_list_append mt_append (pv 3) (pa_cons (pe_join pe_str (pe_op op_cat (pe_op op_cat (pv 6) (pv 5)) (pe_lst (pa_cons (pe_ix ix_str (pv 2) (pv 4) (fun _ _ => rfl)) pa_nil)))) pa_nil)))))))
        (pss_one (ps_ret (pv 3))))), ?_⟩
    refine k_seq (k_par (k_cons (k_at ev_c fun H1 e1 => k_cons (k_atL (el_lst ea_nil (Nat.zero_le _)) fun G0 H2 nG e2 hG => k_nil ⟨_, _, rfl, ?_⟩))))
    have e02 := e1.trans e2
    have nG0 : H G0 = none := fresh_back e1 nG
    have fG : G0 ≠ f0 := hF.ne nG0
    refine q_forR1 (n := (m : Int)) (ea_cons (ev_var rfl) ea_nil) ⟨by omega, by omega⟩
      (fun i σ2 H3 => ∃ (ss : List Str) (y4 y5 y6 : Option V), σ2 = [some (.ref f0), some (.int (m : Int)), some (.str LET), some (.ref G0), y4, y5, y6, none] ∧ Ef f0 H H3 ∧ H3 G0 = some (.lst (ss.map V.str)) ∧ ss.length = i ∧ (∀ (j : Nat) (s : Str), ss[j]? = some s → Wd j s) ∧ Feed H3 f0 (n + 8 * i))
      (fun H3 e3 => ⟨[], none, none, none, rfl, ef_of (e02.trans e3), e3 G0 _ hG, rfl, fun j s z => by simp at z, hF.ex (e02.trans e3)⟩) ?_ ?_
    · rintro i σ2 H3 hi ⟨ss, y4, y5, y6, rfl, e3, hg3, hsl, hwd, hF3⟩
      have hi14 : i < m := by omega
      -- signs
      refine k_qasg (k_lc (k_rng1 (k_cons (k_oneL (xs := [.int 0, .int 1, .int 3, .int 6]) (ev_var rfl) (el_lst (ea_cons ev_c (ea_cons ev_c (ea_cons ev_c (ea_cons ev_c ea_nil)))) (by show 4 ≤ 100000; decide)) (by show 1 ≤ 4; decide) (by show 4 ≤ 1000; decide) hF3 (by omega) fun v H4 e4 hF4 hv => k_nil ?_))))
      have hv2 : ∃ q : Nat, v = .int (q : Int) ∧ q ≤ 6 := by
        simp only [List.mem_cons, List.not_mem_nil, or_false] at hv
        rcases hv with rfl | rfl | rfl | rfl
        · exact ⟨0, rfl, by decide⟩
        · exact ⟨1, rfl, by decide⟩
        · exact ⟨3, rfl, by decide⟩
        · exact ⟨6, rfl, by decide⟩
      obtain ⟨q6, rfl, hq6⟩ := hv2
      refine ⟨_, rfl, by omega, by omega, fun S0 nS => ?_⟩
      have hg4 := e4 G0 _ fG hg3
      have hSG : S0 ≠ G0 := fun z => by rw [z, hg4] at nS; cases nS
      have fS : S0 ≠ f0 := hF4.ne nS
      refine lc_range (lo := 0) (n := (q6 : Int).toNat) (fun t H5 => ∃ cs : List Nat, Ef f0 H4 H5 ∧ H5 S0 = some (.lst (sgV cs)) ∧ cs.length = t ∧ (∀ c ∈ cs, c ∈ SIG.cps.toList) ∧ Feed H5 f0 (n + 8 * i + 1 + t))
        ⟨[], (Ef.refl _ _).mut nS, upd_same, rfl, (fun c z => nomatch z), Feed.upd hF4 fS⟩ (fun t H5 ht hP => ?_) fun H5 hP => ?_
      · obtain ⟨cs, e5, hs5, hcl, hcs, hF5⟩ := hP
        refine ⟨rfl, ?_⟩
        unfold tYes
        refine (if_pos rfl).mpr ?_
        refine k_sgn (s := SIG) (m := 36) ev_c (ev_var rfl) ev_c (by rw [sig_len]; rfl) (by decide) (by decide) hF5 (by omega) fun c H6 e6 hF6 hc => ?_
        refine ⟨sgV cs, e6 S0 _ fS hs5, sz_lt (by rw [sgV, List.length_map]; omega), cs ++ [c], (e5.trans e6).mut nS, ?_, by rw [List.length_append, List.length_singleton, hcl], fun x hx => ?_, Feed.upd (hF6.le (by omega)) fS⟩
        · rw [upd_same, sgV, sgV, List.map_append] <;> rfl
        · rcases List.mem_append.mp hx with z | z
          · exact hcs x z
          · rw [List.mem_singleton.mp z]; exact hc
      · obtain ⟨cs, e5, hs5, hcl, hcs, hF5⟩ := hP
        have hcl6 : cs.length ≤ 6 := by omega
        have hFa : Feed H5 f0 (n + 8 * i + 7) := hF5.le (by omega)
        -- first
        have hg5 := e5 G0 _ fG hg4
        have hstr : ∀ c ∈ cs, PyData.strOk (⟨#[c]⟩ : Str) = true := fun c hc => by
          have hb : ∀ c ∈ SIG.cps.toList, PyData.strOk (⟨#[c]⟩ : Str) = true := by decide +kernel
          exact hb c (hcs c hc)
        have hsg : sgV cs = (cs.map fun c => (⟨#[c]⟩ : Str)).map V.str := by rw [sgV, List.map_map] <;> rfl
        rw [hsg] at hs5
        refine k_qasg (k_if (k_atT (et_neNil (ev_var rfl) hs5 (fun z hz => by
          obtain ⟨c, hc, rfl⟩ := List.mem_map.mp hz
          exact hstr c hc)) fun H6 e6 => ?_))
        have key : ∀ (F : List Nat) (F0 : Addr) (H7 : Hp), F.length ≤ 1 → (∀ x ∈ F, x ∈ LET.cps.toList) → (cs ≠ [] → F ≠ []) → Ef f0 H5 H7 → H5 F0 = none → H7 F0 = some (.lst (sgV F)) → Feed H7 f0 (n + 8 * i + 8) → ∀ (D : Ends), (D.nx = fun σ2 H3 => ∃ (ss : List Str) (y4 y5 y6 : Option V), σ2 = [some (.ref f0), some (.int (m : Int)), some (.str LET), some (.ref G0), y4, y5, y6, none] ∧ Ef f0 H H3 ∧ H3 G0 = some (.lst (ss.map V.str)) ∧ ss.length = i + 1 ∧ (∀ (j : Nat) (s : Str), ss[j]? = some s → Wd j s) ∧ Feed H3 f0 (n + 8 * (i + 1))) →
            tDrop (tBM K "list" rAppend (tVar 3) (tCons (tM1 (fun x xs H Q => ∃ a p, ∃ ys : List Str, x = .str a ∧ xs = [.ref p] ∧ (SqL K H p (ys.map V.str) ∨ SqT K H p (ys.map V.str)) ∧ (ys.map (·.length)).sum + ys.length * a.length ≤ 16777216 ∧ Q (.str (Txt.join a ys)) H) (tC (.str "")) (tOp rCat (tOp rCat (tVar 6) (tVar 5)) (tLst (tCons (tOp rIxS (tVar 2) (tVar 4)) tNil)))) tNil)) D
              [some (.ref f0), some (.int (m : Int)), some (.str LET), some (.ref G0), some (.int (i : Int)), some (.ref S0), some (.ref F0), none] H7 := by
          intro F F0 H7 hF1 hFL hFS e7 nF hf7 hF7 D hD
          have hs7 := e7 S0 _ fS hs5
          have hg7 := e7 G0 _ fG hg5
          have l26 := let_len
          obtain ⟨c, hc⟩ : ∃ c, LET.cps.toList[i]? = some c := ⟨_, List.getElem?_eq_getElem (by omega)⟩
          refine k_drop (k_bm (k_at (ev_var rfl) fun H8 e8 => ⟨Or.inl ⟨rfl, ss.map V.str, sq_of (e8 G0 _ hg7)⟩, k_cons (k_m1 (k_at ev_c fun H9 e9 => ⟨⟨_, rfl⟩, k_op (k_op (k_at (ev_var rfl) fun H10 e10 => k_at (ev_var rfl) fun H11 e11 => ?_))⟩))⟩))
          have e711 := ((e8.trans e9).trans e10).trans e11
          refine ⟨F0, S0, sgV F, _, rfl, rfl, e711 F0 _ hf7, e711 S0 _ hs7, ?_, fun p1 n1 => ?_⟩
          · refine sz_of ?_
            rw [sgV, List.length_map, List.length_map, List.length_map]; omega
          · refine k_atL (el_lst (ea_cons (ev_op (ev_var rfl) (ev_var rfl) (rv_ixS (w := LET) (by decide) (atI_nat hc))) ea_nil) (by show 1 ≤ 100000; decide)) fun p2 H12 n2 e12 h12 => ?_
            have e712 := (e711.trans (Ex.new n1)).trans e12
            refine ⟨p1, p2, _, _, rfl, rfl, e12 p1 _ upd_same, h12, ?_, fun p3 n3 => ?_⟩
            · refine sz_of ?_
              rw [List.length_append, sgV, List.length_map, List.length_map, List.length_map, List.length_singleton]; omega
            · refine ⟨"", p3, (F ++ cs ++ [c]).map fun c => (⟨#[c]⟩ : Str), rfl, rfl, .inl (sq_of ?_), ?_, ?_⟩
              · rw [upd_same, sgV]
                simp [List.map_append]
              · have hsum : ∀ L : List Nat, ((L.map fun c => (⟨#[c]⟩ : Str)).map (·.length)).sum = L.length := by
                  intro L
                  induction L with
                  | nil => rfl
                  | cons a L ih =>
                    rw [List.map_cons, List.map_cons, List.sum_cons, ih, List.length_cons]
                    show 1 + L.length = L.length + 1
                    omega
                rw [hsum, List.length_append, List.length_append, List.length_singleton, show ("" : Str).length = 0 from rfl]
                omega
              · refine k_nil ⟨G0, ss.map V.str, _, rfl, rfl, ?_, sz_lt (by rw [List.length_map]; omega), ?_⟩
                · exact (e712.trans (Ex.new n3)) G0 _ hg7
                · rw [hD]
                  have e713 := e712.trans (Ex.new n3 (o := .lst ((sgV F ++ (cs.map fun c => (⟨#[c]⟩ : Str)).map V.str) ++ [V.str ⟨#[c]⟩])))
                  refine ⟨ss ++ [Txt.join "" ((F ++ cs ++ [c]).map fun c => (⟨#[c]⟩ : Str))], _, _, _, rfl, (((e3.trans e4).trans (e5.trans e7)).trans (ef_of e713)).mut nG0, by rw [upd_same, List.map_append (f := V.str)] <;> rfl, by rw [List.length_append, List.length_singleton, hsl], fun j s hj => ?_, Feed.upd ((hF7.ex e713).le (by omega)) fG⟩
                  by_cases hjl : j < ss.length
                  · rw [List.getElem?_append_left hjl] at hj
                    exact hwd j s hj
                  · have hje : j = ss.length := by
                      have := (List.getElem?_eq_some_iff.mp hj).1
                      rw [List.length_append, List.length_singleton] at this
                      omega
                    rw [hje, List.getElem?_append_right (Nat.le_refl _), Nat.sub_self] at hj
                    have hs9 : s = Txt.join "" ((F ++ cs ++ [c]).map fun c => (⟨#[c]⟩ : Str)) := (Option.some.inj hj).symm
                    rw [hs9, hje, hsl]
                    exact wd_of hc hFL hcs hcl6 hF1 hFS
        by_cases hcn : cs = []
        · subst hcn
          refine (if_neg (by decide)).mpr ?_
          refine k_atL (el_lst ea_nil (Nat.zero_le _)) fun F0 H7 nF e7 hF7 => ?_
          exact key [] F0 H7 (Nat.zero_le _) (fun x z => nomatch z) (fun z => absurd rfl z) (ef_of (e6.trans e7)) (fresh_back e6 nF) hF7 ((hFa.ex (e6.trans e7)).le (by omega)) _ rfl
        · have hne : (!(cs.map fun c => (⟨#[c]⟩ : Str)).isEmpty) = true := by
            cases cs with
            | nil => exact absurd rfl hcn
            | cons a b => rfl
          refine (if_pos hne).mpr ?_
          refine k_lst (k_cons (k_sgn (s := LET) (m := 26) (ev_var rfl) (ev_var rfl) ev_c (by rw [let_len]; rfl) (by decide) (by decide) (hFa.ex e6) (by omega) fun c H7 e7 hF7 hc => k_nil ⟨sz_of (by show 1 ≤ 100000; decide), fun F0 nF => ?_⟩))
          have nF5 : H5 F0 = none := by
            cases q : H5 F0 with
            | none => rfl
            | some o =>
              by_cases z : F0 = f0
              · exact absurd z (hF7.ne nF)
              · rw [e7 F0 o z (e6 F0 _ q)] at nF; cases nF
          exact key [c] F0 _ (Nat.le_refl _) (fun x z => by rw [List.mem_singleton.mp z]; exact hc) (fun _ => List.cons_ne_nil _ _) (((ef_of e6).trans e7).trans (ef_of (Ex.new nF))) nF5 upd_same (hF7.ex (Ex.new nF)) _ rfl
    · rintro σ2 H3 ⟨ss, y4, y5, y6, rfl, e3, hg3, hsl, hwd, hF3⟩
      have hm2 : ss.length = m := by omega
      have hnd := wd_nd (by omega) hwd
      exact s_ret (ev_var rfl) fun H4 e4 => k G0 ss H4 (e3.trans (ef_of e4)) ((hF3.ex e4).le (by omega)) nG0 (e4 G0 _ hg3) hm2 hnd fun s hs => by
        obtain ⟨j, hj⟩ := List.mem_iff_getElem?.mp hs
        exact (hwd j s hj).nm
end
end RP
/-! part RPf4 -/
/-! the law's webs -/
namespace RP
open PySem PySem.Spec PyProof.Rows L2 Evl
theorem freshF {f p : Addr} {n : Nat} {H H' : Hp} (e : Ef f H H') (hF : Feed H' f n) (h : H' p = none) : H p = none := by
  cases q : H p with
  | none => rfl
  | some o => rw [e p o (hF.ne h) q] at h; cases h
theorem Tp.ef {f a : Addr} {n : Nat} {H H' : Hp} {xs : List V} (h : Tp H a xs) (e : Ef f H H') (hF : Feed H f n) : Tp H' a xs := by
  have hne : a ≠ f := fun z => by
    obtain ⟨x, y, w, h1, _⟩ := hF
    rw [z] at h
    rcases h with h | ⟨o, h⟩ <;> rw [h1] at h <;> cases h
  rcases h with h | ⟨o, h⟩
  · exact .inl (e a _ hne h)
  · exact .inr ⟨o, e a _ hne h⟩
theorem Tp.updL {a l : Addr} {H : Hp} {xs ys : List V} {o : HO} (h : Tp H a xs) (hl : H l = some (.lst ys)) : Tp (upd H l o) a xs := by
  have hne : a ≠ l := fun z => by
    rw [z] at h
    rcases h with h | ⟨o, h⟩ <;> rw [hl] at h <;> cases h
  unfold Tp Rd
  rw [upd_ne hne]
  exact h
abbrev Tie := Addr × Str × Str
structure TieIn (S : List Str) (H : Hp) (t : Tie) : Prop where
  at_ : Tp H t.1 [.str t.2.1, .str t.2.2]
  one : t.2.1 ∈ S
  other : t.2.2 ∈ S
  ne : t.2.1 ≠ t.2.2
def Ties (S : List Str) (H : Hp) (ts : List Tie) : Prop := ∀ t ∈ ts, TieIn S H t
theorem Ties.ef {S : List Str} {f : Addr} {n : Nat} {H H' : Hp} {ts : List Tie} (h : Ties S H ts) (e : Ef f H H') (hF : Feed H f n) : Ties S H' ts := fun t ht => let q := h t ht; ⟨q.at_.ef e hF, q.one, q.other, q.ne⟩
theorem Ties.updL {S : List Str} {l : Addr} {H : Hp} {ys : List V} {o : HO} {ts : List Tie} (h : Ties S H ts) (hl : H l = some (.lst ys)) : Ties S (upd H l o) ts := fun t ht => let q := h t ht; ⟨q.at_.updL hl, q.one, q.other, q.ne⟩
theorem Ties.snoc {S : List Str} {H : Hp} {ts : List Tie} {t : Tie} (h : Ties S H ts) (ht : TieIn S H t) : Ties S H (ts ++ [t]) := fun u hu => by
  rcases List.mem_append.mp hu with z | z
  · exact h u z
  · rw [List.mem_singleton.mp z]; exact ht
abbrev tiesV (ts : List Tie) : List V := ts.map fun t => V.ref t.1
theorem k_or {t u : TT} {σ : L2.St} {H : Hp} {Q : Bool → Hp → Prop} (h : t σ H fun b H1 => if b = true then Q true H1 else u σ H1 Q) : tOr t u σ H Q := h
theorem k_and {t u : TT} {σ : L2.St} {H : Hp} {Q : Bool → Hp → Prop} (h : t σ H fun b H1 => if b = true then u σ H1 Q else Q false H1) : tAnd t u σ H Q := h
theorem k_tst {te : TE} {σ : L2.St} {H : Hp} {Q : Bool → Hp → Prop} (h : te σ H fun x H1 => ∃ b, x = .bl b ∧ Q b H1) : tTest te σ H Q := h
theorem get_ne {ss : List Str} (nd : ss.Nodup) {i j : Nat} (hi : i < ss.length) (hj : j < ss.length) (h : i ≠ j) : ss[i] ≠ ss[j] := fun e => h ((List.getElem_inj nd).mp e)
theorem k_by {te : TE} {σ : L2.St} {H : Hp} {Q : VK} (P : V → Hp → Prop) (h : ∀ Q' : VK, (∀ v H', P v H' → Q' v H') → te σ H Q') (k : ∀ v H', P v H' → Q v H') : te σ H Q := h Q k
theorem k_list {K : PySem.W.Frag} {tl : TE} {σ : L2.St} {H : Hp} {R : It → Hp → Prop} (h : tl σ H fun x H1 => ∃ a, x = .ref a ∧ (∃ xs, SqL K H1 a xs) ∧ R (Itl K a) H1) : iList K tl σ H R := h
theorem k_zip {K : PySem.W.Frag} {ta : TA} {σ : L2.St} {H : Hp} {R : It → Hp → Prop} (h : ta σ H fun vs H1 => ∃ a b xs ys, vs = [.ref a, .ref b] ∧ SqL K H1 a xs ∧ SqL K H1 b ys ∧ R (Itz K a b) H1) : iZip K ta σ H R := h
/-- another one than o -/
theorem oth {o r mn : Nat} (ho : o < mn) (hr : r + 1 < mn) : ∃ j : Nat, ((o : Int) + 1 + (r : Int)).fmod (mn : Int) = (j : Int) ∧ j < mn ∧ j ≠ o := by
  refine ⟨(o + 1 + r) % mn, ?_, Nat.mod_lt _ (by omega), ?_⟩
  · rw [Int.fmod_eq_emod_of_nonneg _ (by omega)]
    norm_cast
  · by_cases c : o + 1 + r < mn
    · rw [Nat.mod_eq_of_lt c]; omega
    · rw [Nat.mod_eq_sub_mod (by omega), Nat.mod_eq_of_lt (by omega)]; omega
/-! ### zip of two lists in a comprehension -/
theorem lc_itz {K : PySem.W.Frag} {a b : Addr} {xs ys : List V} {g : TG} {tt : TT} {te : TE} {vs : List Nat} {σ : L2.St} {H1 : Hp} {Dl : Addr} {Qd : Hp → Prop} (hlen : xs.length = ys.length) (Pv : Nat → Hp → Prop) (h0 : Pv 0 (upd H1 Dl (.lst []))) (hl : ∀ i H, Pv i H → SqL K H a xs ∧ SqL K H b ys)
    (hs : ∀ i x y H, xs[i]? = some x → ys[i]? = some y → Pv i H → ∀ T, H T = none → g (.ref T) (wipe σ vs) (upd H T (.tup [x, y])) fun σ2 H2 => wipe σ2 vs = wipe σ vs ∧ tt σ2 H2 fun b H3 =>
      if b = true then te σ2 H3 fun y H4 => ∃ acc, H4 Dl = some (.lst acc) ∧ acc.length < sizeLine ∧ Pv (i + 1) (upd H4 Dl (.lst (acc ++ [y]))) else Pv (i + 1) H3) (hd : ∀ H, Pv xs.length H → Qd H) :
    ∃ W : Nat → Nat → Hp → Prop, (∃ m, W 0 m (upd H1 Dl (.lst []))) ∧ ∀ i m H, W i m H →
      ((Itz K a b).stop i H ∧ Qd H) ∨ ((Itz K a b).go i H ∧ ∃ Nx : Hp → Prop, (∀ H', Nx H' → ∃ m', m' < m ∧ W (i + 1) m' H') ∧ ∀ x H', (Itz K a b).yld i H x H' → g x (wipe σ vs) H' fun σ2 H2 => wipe σ2 vs = wipe σ vs ∧ tt σ2 H2 fun b H3 =>
        if b = true then te σ2 H3 fun y H4 => ∃ acc, H4 Dl = some (.lst acc) ∧ acc.length < sizeLine ∧ Nx (upd H4 Dl (.lst (acc ++ [y]))) else Nx H3) := by
  refine ⟨fun i m H => m = xs.length - i ∧ i ≤ xs.length ∧ Pv i H, ⟨xs.length, by simp, Nat.zero_le _, h0⟩, ?_⟩
  rintro i m H ⟨rfl, hi, p⟩
  obtain ⟨q1, q2⟩ := hl i H p
  by_cases hlt : i < xs.length
  · refine .inr ⟨⟨xs, ys, xs[i], ys[i]'(by omega), q1, q2, List.getElem?_eq_getElem hlt, List.getElem?_eq_getElem (by omega)⟩, Pv (i + 1), fun H' p' => ⟨xs.length - (i + 1), by omega, rfl, hlt, p'⟩, fun x H' y => ?_⟩
    obtain ⟨T, x', y', e, hT, e2, h1, h2⟩ := y
    subst e e2
    exact hs i x' y' _ (h1 xs q1) (h2 ys q2) p T hT
  · have e : i = xs.length := by omega
    subst e
    exact .inl ⟨⟨xs, ys, q1, q2, .inl (Nat.le_refl _)⟩, hd H p⟩
theorem zipWith_fst {α β : Type} : ∀ (l : List α) (m : List β), l.length ≤ m.length → List.zipWith (fun n (t : β) => n) l m = l
  | [], _, _ => by simp
  | a :: l, [], h => by simp at h
  | a :: l, b :: m, h => by
    rw [List.zipWith_cons_cons, zipWith_fst l m (Nat.le_of_succ_le_succ h)]
/-! ### a web from its parts -/
theorem webOk_of {ps ss ns : List Str} {rs : List Road} (hp : ps.Perm ss) (h1 : 1 ≤ ss.length) (h10 : ss.length ≤ 10) (hn : ∀ s ∈ ss, NameOk s) (nd : ss.Nodup) (h14 : rs.length ≤ 14) (hm : (rs.map (·.1)).Perm ns) (nn : ns.Nodup) (hk : ∀ s ∈ ns, NameOk s) (hr : ∀ r ∈ rs, r.2.1 ∈ ss ∧ r.2.2 ∈ ss ∧ r.2.1 ≠ r.2.2) : WebOk ⟨ps, rs⟩ where
  p1 := by show 1 ≤ ps.length; rw [hp.length_eq]; exact h1
  p10 := by show ps.length ≤ 10; rw [hp.length_eq]; exact h10
  pn := fun p h => hn p (hp.mem_iff.mp h)
  pd := hp.nodup_iff.mpr nd
  r14 := h14
  rr := fun r h => ⟨hk _ (hm.mem_iff.mp (List.mem_map_of_mem (f := (·.1)) h)), hp.mem_iff.mpr (hr r h).1, hp.mem_iff.mpr (hr r h).2.1, (hr r h).2.2⟩
  rd := hm.nodup_iff.mpr nn
section
variable {P : Program} {w : World} {K : PySem.W.Frag} {mg : Str → Option Value} {base : Heap} {tk : Nat → Tok}
theorem k_namesN {σ : L2.St} {H : Hp} {ta tb : TE} {Q : VK} {f : Addr} {n m : Nat} (ha : Ev ta σ H (.ref f)) (hb : Ev tb σ H (.int (m : Int))) (hm : m ≤ 14) (hF : Feed H f n) (hn : n ≤ 900000)
    (q : ∀ (d : Addr) (ss : List Str) (H' : Hp), Ef f H H' → Feed H' f (n + 14) → H d = none → H' d = some (.lst (ss.map V.str)) → ss.length = m → ss.Nodup → (∀ s ∈ ss, NameOk s) → Q (.ref d) H') : tCall sp_law_names [] E0 (tCons ta (tCons tb tNil)) σ H Q :=
  ha H (Ex.refl H) _ fun H1 e1 => hb H1 e1 _ fun H2 e2 => ⟨f, m, n, rfl, hm, hF.ex (e1.trans e2), hn, fun d ss H' e hF' hd => q d ss H' ((ef_of (e1.trans e2)).trans e) hF' (fresh_back (e1.trans e2) hd)⟩
def sp_law_web : Sp := fun vs H Q _ => ∃ (f : Addr) (way : Str) (n : Nat), vs = [.ref f, .str way] ∧ Feed H f n ∧ n ≤ 500000 ∧ ∀ a p q W trs H', Ef f H H' → Feed H' f (n + 1000) → WebAt H' a W p q trs → WebOk W → Q (.ref a) H'
theorem ok_law_web (T : Top mg tk) (D : DefAt K mg "_law_web" s_law_web ["_law_feed_here", "_law_way"]) (c_law_draw : Cal P w K mg base 1 "_law_draw" sp_law_draw) (c_law_one : Cal P w K mg base 2 "_law_one" sp_law_one) (c_law_mixed : Cal P w K mg base 2 "_law_mixed" sp_law_mixed) (c_law_names : Cal P w K mg base 3 "_law_names" sp_law_names) : Cal P w K mg base 4 "_law_web" sp_law_web := by
  refine cal D sc_law_web (fun vs H Q E h => ?_) (fun f cdv A outer s H vs Q E hr h => ?_)
  · obtain ⟨f, way, n, rfl, _⟩ := h
    rfl
  · obtain ⟨f0, way, n, rfl, hF, hn, k⟩ := h
    refine ⟨_, (pss_cons (ps_par (i := 2) (j := 3) rfl sc_law_web.nd rfl rfl (by decide) rfl rfl (pa_cons (pc c_law_one hr (by decide) (by rfl) (pa_cons (pv 0) (pa_cons (pe_lst (pa_cons pe_int (pa_cons pe_int (pa_cons pe_int (pa_cons pe_int (pa_cons pe_int (pa_cons pe_int (pa_cons pe_int (pa_cons pe_int (pa_cons pe_int (pa_cons pe_int (pa_cons pe_int (pa_cons pe_int pa_nil))))))))))))) pa_nil))) (pa_cons (pc c_law_draw hr (by decide) (by rfl) (pa_cons (pv 0) (pa_cons pe_int pa_nil))) pa_nil)) (by rfl))
        (pss_cons (ps_par (i := 4) (j := 5) rfl sc_law_web.nd rfl rfl (by decide) rfl rfl (pa_cons (pc c_law_names hr (by decide) (by rfl) (pa_cons (pv 0) (pa_cons (pv 2) pa_nil))) (pa_cons (pe_lst pa_nil) pa_nil)) (by rfl))
        (pss_cons (ps_for PassesOwn.never rfl (pi_range2 (by rfl) T.range (pa_cons pe_int (pa_cons (pv 2) pa_nil))) (pg_name (i := 6) sc_law_web.nd rfl (.inl rfl)) (pss_cons (ps_set (i := 7) sc_law_web.nd rfl (.inl rfl) (pe_ifExp (pt_cmpR op_eq (pv 3) pe_int (nomark _)) (pe_op op_sub (pv 6) pe_int) (pe_ifExp (pt_cmpR op_eq (pv 3) pe_int (nomark _)) pe_int (pc c_law_draw hr (by decide) (by rfl) (pa_cons (pv 0) (pa_cons (pv 6) pa_nil))))))
        (pss_one (ps_if (PW.pt (pw_or (pt_cmpR op_ne (pv 1) pe_str (nomark _)) (pw_or1 (pt_cmpR op_gt (pc c_law_draw hr (by decide) (by rfl) (pa_cons (pv 0) (pa_cons pe_int pa_nil))) pe_int (nomark _))))) (pss_one (ps_expr (pe_bm PySem.F.plainAttrs_list PySem.F.slot_list_append PySem.F.type_list_append mt_append (pv 5) (pa_cons (pe_tup (pa_cons (pe_ix (r := rIxL K) ix_list (pv 4) (pv 6) (fun _ _ => rfl)) (pa_cons (pe_ix (r := rIxL K) ix_list (pv 4) (pv 7) (fun _ _ => rfl)) pa_nil))) pa_nil)))) pss_nil))))
        (pss_cons (ps_for PassesOwn.never rfl (pi_range1 (by rfl) T.range (pa_cons (pe_ifExp (PW.pt (pw_and (pt_cmpR op_ne (pv 1) pe_str (nomark _)) (pw_and1 (pt_cmpR op_gt (pv 2) pe_int (nomark _))))) (pc c_law_draw hr (by decide) (by rfl) (pa_cons (pv 0) (pa_cons pe_int pa_nil))) pe_int) pa_nil)) (pg_name (i := 8) sc_law_web.nd rfl (.inl rfl)) (pss_cons (ps_set (i := 9) sc_law_web.nd rfl (.inl rfl) (pc c_law_draw hr (by decide) (by rfl) (pa_cons (pv 0) (pa_cons (pv 2) pa_nil))))
        (pss_one (ps_expr (pe_bm PySem.F.plainAttrs_list PySem.F.slot_list_append PySem.F.type_list_append mt_append (pv 5) (pa_cons (pe_tup (pa_cons (pe_ix (r := rIxL K) ix_list (pv 4) (pv 9) (fun _ _ => rfl)) (pa_cons (pe_ix (r := rIxL K) ix_list (pv 4) (pe_op op_modN (pe_callTy (r := rInt1) call_int1 (by rfl) T.int (by decide +kernel) (pa_cons (pe_op op_add (pe_op op_add (pv 9) pe_int) (pc c_law_draw hr (by decide) (by rfl) (pa_cons (pv 0) (pa_cons (pe_op op_sub (pv 2) pe_int) pa_nil)))) pa_nil)) (pv 2)) (fun _ _ => rfl)) pa_nil))) pa_nil))))))
        (pss_cons (ps_setLc (g := (gName 11)) (i := 5) (own := [("_law_tie", 11)]) rfl sc_law_web.nd rfl rfl (sw_true rfl rfl rfl (by decide +kernel)) (pi_list (pc c_law_mixed hr (by decide) (by rfl) (pa_cons (pv 0) (pa_cons (pv 5) pa_nil)))) (blkOk_by (N := N_law_web) (sc := defScope s_law_web) (by decide +kernel)) (fun _ _ _ _ _ => (pg_name (i := 11) sc_law_web.nd rfl (.inl rfl))) (fun _ _ _ _ _ => pts_nil) (fun _ _ _ _ _ => (pe_ifExp (pt_cmpR op_eq (pc c_law_draw hr (by decide) (by rfl) (pa_cons (pv 0) (pa_cons pe_int pa_nil))) pe_int (nomark _)) (pe_tup (pa_cons (pe_ix (r := rIxT K) ix_tup (pv 11) pe_int (fun _ _ => rfl)) (pa_cons (pe_ix (r := rIxT K) ix_tup (pv 11) pe_int (fun _ _ => rfl)) pa_nil))) (pv 11))))
        (pss_cons (ps_set (i := 10) sc_law_web.nd rfl (.inl rfl) (pc c_law_names hr (by decide) (by rfl) (pa_cons (pv 0) (pa_cons (pe_callB (r := Evl.rLenS K) call_len_seq (by rfl) T.len PySem.boot_len (pa_cons (pv 5) pa_nil)) pa_nil))))
        (pss_one (ps_ret (pe_tup (pa_cons (pe_callTy (r := rTupS K) call_tupF (by rfl) T.tuple (by decide +kernel) (pa_cons (pc c_law_mixed hr (by decide) (by rfl) (pa_cons (pv 0) (pa_cons (pv 4) pa_nil))) pa_nil)) (pa_cons (pe_callTy (r := rTupS K) call_tupF (by rfl) T.tuple (by decide +kernel) (pa_cons (pe_lc (g := (gTup K 2 (gCons (gName 12) (gCons (gName 11) gNil)))) (own := [("_law_road", 12), ("_law_tie", 11)]) rfl sc_law_web.nd (pi_zip (by rfl) T.zip (pa_cons (pv 10) (pa_cons (pv 5) pa_nil))) (blkOk_by (N := N_law_web) (sc := defScope s_law_web) (by decide +kernel)) (fun _ _ _ _ _ => (pg_tup rfl (pgs_cons (pg_name (i := 12) sc_law_web.nd rfl (.inl rfl)) (pgs_cons (pg_name (i := 11) sc_law_web.nd rfl (.inl rfl)) pgs_nil)))) (fun _ _ _ _ _ => pts_nil) (fun _ _ _ _ _ => (pe_op (r := rCatF K) op_catF (pe_tup (pa_cons (pv 12) pa_nil)) (pv 11)))) pa_nil)) pa_nil))))))))))), ?_⟩
    refine k_seq (k_par (k_cons (k_oneL (xs := [.int 1, .int 2, .int 3, .int 3, .int 4, .int 4, .int 5, .int 5, .int 6, .int 6, .int 7, .int 8]) (ev_var rfl) (el_lst (ea_cons ev_c (ea_cons ev_c (ea_cons ev_c (ea_cons ev_c (ea_cons ev_c (ea_cons ev_c (ea_cons ev_c (ea_cons ev_c (ea_cons ev_c (ea_cons ev_c (ea_cons ev_c (ea_cons ev_c ea_nil)))))))))))) (by show 12 ≤ 100000; decide)) (by show 1 ≤ 12; decide) (by show 12 ≤ 1000; decide) hF (by omega) fun v H1 e1 hF1 hv => ?_)))
    have hv2 : ∃ mn : Nat, v = .int (mn : Int) ∧ 1 ≤ mn ∧ mn ≤ 8 := by
      simp only [List.mem_cons, List.not_mem_nil, or_false] at hv
      rcases hv with rfl | rfl | rfl | rfl | rfl | rfl | rfl | rfl | rfl | rfl | rfl | rfl
      · exact ⟨1, rfl, by decide, by decide⟩
      · exact ⟨2, rfl, by decide, by decide⟩
      · exact ⟨3, rfl, by decide, by decide⟩
      · exact ⟨3, rfl, by decide, by decide⟩
      · exact ⟨4, rfl, by decide, by decide⟩
      · exact ⟨4, rfl, by decide, by decide⟩
      · exact ⟨5, rfl, by decide, by decide⟩
      · exact ⟨5, rfl, by decide, by decide⟩
      · exact ⟨6, rfl, by decide, by decide⟩
      · exact ⟨6, rfl, by decide, by decide⟩
      · exact ⟨7, rfl, by decide, by decide⟩
      · exact ⟨8, rfl, by decide, by decide⟩
    obtain ⟨mn, rfl, hm1, hm8⟩ := hv2
    refine k_cons (k_draw (m := 4) (ev_var rfl) ev_c (by decide) (by decide) hF1 (by omega) fun sh H2 e2 hF2 _ _ => k_nil ⟨_, _, rfl, ?_⟩)
    refine k_seq (k_par (k_cons (k_namesN (m := mn) (ev_var rfl) (ev_var rfl) (by omega) hF2 (by omega) fun d ss H3 e3 hF3 nd hd hsl hsn hsk => k_cons (k_atL (el_lst ea_nil (Nat.zero_le _)) fun T0 H4 nT e4 hT => k_nil ⟨_, _, rfl, ?_⟩))))
    have ef3 := (e1.trans e2).trans e3
    have nT0 : H T0 = none := freshF ef3 hF3 nT
    have fT : T0 ≠ f0 := hF3.ne nT
    have hd4 := e4 d _ hd
    have hdT : d ≠ T0 := fun z => by rw [← z, hd] at nT; cases nT
    have fd : d ≠ f0 := fun z => by
      obtain ⟨x, y, w, h1, _⟩ := hF2
      rw [← z, nd] at h1
      cases h1
    have hF4 : Feed H4 f0 (n + 16) := (hF3.ex e4).le (by omega)
    have ef4 := ef3.trans (ef_of e4)
    -- the ties of the tree
    refine q_forR2 (lo := 1) (n := (mn : Int)) (ea_cons ev_c (ea_cons (ev_var rfl) ea_nil)) ⟨by decide, by decide, by omega, by omega⟩
      (fun i σ2 H5 => ∃ (ts : List Tie) (y6 y7 : Option V), σ2 = [some (.ref f0), some (.str way), some (.int (mn : Int)), some (.int sh), some (.ref d), some (.ref T0), y6, y7, none, none, none, none, none] ∧ Ef f0 H H5 ∧ H5 d = some (.lst (ss.map V.str)) ∧ H5 T0 = some (.lst (tiesV ts)) ∧ Ties ss H5 ts ∧ ts.length ≤ i ∧ Feed H5 f0 (n + 16 + 2 * i))
      (fun H5 e5 => ⟨[], none, none, rfl, ef4.trans (ef_of e5), e5 d _ hd4, e5 T0 _ hT, (fun t ht => nomatch ht), Nat.zero_le _, hF4.ex e5⟩) ?_ ?_
    · rintro i σ2 H5 hi ⟨ts, y6, y7, rfl, e5, hd5, hT5, hts, htl, hF5⟩
      have hi2 : 1 + i < mn := by omega
      have keyb : ∀ (b : Int) (H6 : Hp), Ef f0 H5 H6 → Feed H6 f0 (n + 16 + 2 * i + 1) → 0 ≤ b → b ≤ (i : Int) → ∀ (D : Ends), (D.nx = fun σ2 H5 => ∃ (ts : List Tie) (y6 y7 : Option V), σ2 = [some (.ref f0), some (.str way), some (.int (mn : Int)), some (.int sh), some (.ref d), some (.ref T0), y6, y7, none, none, none, none, none] ∧ Ef f0 H H5 ∧ H5 d = some (.lst (ss.map V.str)) ∧ H5 T0 = some (.lst (tiesV ts)) ∧ Ties ss H5 ts ∧ ts.length ≤ i + 1 ∧ Feed H5 f0 (n + 16 + 2 * (i + 1))) →
          tIfS (tOr (tTest (tOp rNe (tVar 1) (tC (.str "any")))) (tTest (tOp (rI0 fun i j => .bl (decide (j < i))) (tCall sp_law_draw [] E0 (tCons (tVar 0) (tCons (tC (.int 6)) tNil))) (tC (.int 0)))))
            (tDrop (tBM K "list" rAppend (tVar 5) (tCons (tTup (tCons (tOp (rIxL K) (tVar 4) (tVar 6)) (tCons (tOp (rIxL K) (tVar 4) (tVar 7)) tNil))) tNil))) tNext D
            [some (.ref f0), some (.str way), some (.int (mn : Int)), some (.int sh), some (.ref d), some (.ref T0), some (.int (1 + (i : Int))), some (.int b), none, none, none, none, none] H6 := by
        intro b H6 e6 hF6 hb0 hbi D hD
        have hd6 := e6 d _ fd hd5
        have hT6 := e6 T0 _ fT hT5
        have hts6 := hts.ef e6 hF5
        -- both answers
        have yes : ∀ H7, Ef f0 H6 H7 → Feed H7 f0 (n + 16 + 2 * i + 2) → tDrop (tBM K "list" rAppend (tVar 5) (tCons (tTup (tCons (tOp (rIxL K) (tVar 4) (tVar 6)) (tCons (tOp (rIxL K) (tVar 4) (tVar 7)) tNil))) tNil)) D
            [some (.ref f0), some (.str way), some (.int (mn : Int)), some (.int sh), some (.ref d), some (.ref T0), some (.int (1 + (i : Int))), some (.int b), none, none, none, none, none] H7 := by
          intro H7 e7 hF7
          have hd7 := e7 d _ fd hd6
          have hT7 := e7 T0 _ fT hT6
          have hts7 := hts6.ef e7 hF6
          obtain ⟨bn, rfl⟩ := Int.eq_ofNat_of_zero_le hb0
          have hi3 : 1 + i < ss.length := by omega
          have hb3 : bn < ss.length := by omega
          refine s_appU (K := K) (l := T0) (xs := tiesV ts) (ys := [.str ss[1 + i], .str ss[bn]]) hT7 (ev_var rfl) (eu_tup (ea_cons (ev_l (ev_var rfl) hd7 (ev_is (v := .int ((1 + i : Nat) : Int)) (ev_var (by show some (some (V.int (1 + (i : Int)))) = _; push_cast; rfl)) rfl) (atI_nat (by rw [List.getElem?_map, List.getElem?_eq_getElem hi3] <;> rfl))) (ea_cons (ev_l (ev_var rfl) hd7 (ev_var rfl) (atI_nat (by rw [List.getElem?_map, List.getElem?_eq_getElem hb3] <;> rfl))) ea_nil)) (by show 2 ≤ 100000; decide)) (by rw [List.length_map]; omega) fun tp H8 np e8 hp => ?_
          rw [hD]
          have hT8 := e8 T0 _ hT7
          refine ⟨ts ++ [(tp, ss[1 + i], ss[bn])], _, _, rfl, (((e5.trans e6).trans e7).trans (ef_of e8)).mut nT0, by rw [upd_ne hdT]; exact e8 d _ hd7, by rw [upd_same, tiesV, tiesV, List.map_append] <;> rfl, Ties.updL ((hts7.ef (ef_of e8) hF7).snoc ⟨.inl hp, List.getElem_mem hi3, List.getElem_mem hb3, get_ne hsn hi3 hb3 (by omega)⟩) hT8, by rw [List.length_append, List.length_singleton]; omega, Feed.upd ((hF7.ex e8).le (by omega)) fT⟩
        have no : ∀ H7, Ef f0 H6 H7 → Feed H7 f0 (n + 16 + 2 * i + 2) → D.nx [some (.ref f0), some (.str way), some (.int (mn : Int)), some (.int sh), some (.ref d), some (.ref T0), some (.int (1 + (i : Int))), some (.int b), none, none, none, none, none] H7 := by
          intro H7 e7 hF7
          rw [hD]
          exact ⟨ts, _, _, rfl, (e5.trans e6).trans e7, e7 d _ fd hd6, e7 T0 _ fT hT6, hts6.ef e7 hF6, by omega, hF7.le (by omega)⟩
        refine k_ifS (k_or (k_atT (et_test (ev_op (ev_var rfl) ev_c (rv_ne (x := .str way) (y := .str "any") rfl))) fun H7 e7 => ?_))
        by_cases hw : (!decide (V.str way = V.str "any")) = true
        · rw [hw]
          exact (if_pos rfl).mpr ((if_pos rfl).mpr (yes H7 (ef_of e7) ((hF6.ex e7).le (by omega))))
        · refine (if_neg hw).mpr ?_
          refine k_tst (k_op (k_draw (m := 6) (ev_var rfl) ev_c (by decide) (by decide) (hF6.ex e7) (by omega) fun r H8 e8 hF8 _ _ => k_at ev_c fun H9 e9 => ⟨r, 0, rfl, rfl, _, rfl, ?_⟩))
          have e69 := ((ef_of e7).trans e8).trans (ef_of e9)
          by_cases hc : decide ((0 : Int) < r) = true
          · exact (if_pos hc).mpr (yes H9 e69 (hF8.ex e9))
          · exact (if_neg hc).mpr (no H9 e69 (hF8.ex e9))
      refine k_qasg (k_if (k_atT (et_test (ev_op (ev_var rfl) ev_c (rv_eq (x := .int sh) (y := .int 0) rfl))) fun H6 e6 => ?_))
      by_cases h0 : decide (V.int sh = V.int 0) = true
      · refine (if_pos h0).mpr (k_at (ev_op (ev_var rfl) ev_c rv_I0) fun H7 e7 => ?_)
        exact keyb _ H7 (ef_of (e6.trans e7)) ((hF5.ex (e6.trans e7)).le (by omega)) (by omega) (by omega) _ rfl
      · refine (if_neg h0).mpr (k_if (k_atT (et_test (ev_op (ev_var rfl) ev_c (rv_eq (x := .int sh) (y := .int 1) rfl))) fun H7 e7 => ?_))
        by_cases h1 : decide (V.int sh = V.int 1) = true
        · refine (if_pos h1).mpr (k_at ev_c fun H8 e8 => ?_)
          exact keyb _ H8 (ef_of ((e6.trans e7).trans e8)) ((hF5.ex ((e6.trans e7).trans e8)).le (by omega)) (Int.le_refl _) (by omega) _ rfl
        · refine (if_neg h1).mpr (k_draw (m := 1 + (i : Int)) (ev_var rfl) (ev_var rfl) (by omega) (by omega) (hF5.ex (e6.trans e7)) (by omega) fun r H8 e8 hF8 r0 r1 => ?_)
          exact keyb r H8 ((ef_of (e6.trans e7)).trans e8) hF8 r0 (by omega) _ rfl
    rintro σ2 H5 ⟨ts, y6, y7, rfl, e5, hd5, hT5, hts, htl, hF5⟩
    have htl7 : ts.length ≤ 7 := by omega
    have hF5' : Feed H5 f0 (n + 30) := hF5.le (by omega)
    -- more ties
    refine k_seq (k_for (k_rng1 (k_cons (k_by (fun v H' => ∃ c : Nat, v = .int (c : Int) ∧ c ≤ 3 ∧ (0 < c → 2 ≤ mn) ∧ Ef f0 H5 H' ∧ Feed H' f0 (n + 31)) (fun Q' q' => ?_) fun v H6 hv => ?_))))
    · refine k_if (k_and (k_atT (et_test (ev_op (ev_var rfl) ev_c (rv_ne (x := .str way) (y := .str "tree") rfl))) fun H6 e6 => ?_))
      by_cases hw : (!decide (V.str way = V.str "tree")) = true
      · refine (if_pos hw).mpr (k_atT (et_test (ev_op (ev_var rfl) ev_c (rv_I0 (g := fun i j => .bl (decide (j < i)))))) fun H7 e7 => ?_)
        by_cases hc : decide ((1 : Int) < (mn : Int)) = true
        · refine (if_pos hc).mpr (k_draw (m := 4) (ev_var rfl) ev_c (by decide) (by decide) (hF5'.ex (e6.trans e7)) (by omega) fun r H8 e8 hF8 r0 r1 => ?_)
          obtain ⟨c, rfl⟩ := Int.eq_ofNat_of_zero_le r0
          have := of_decide_eq_true hc
          exact q' _ H8 ⟨c, rfl, by omega, fun _ => by omega, (ef_of (e6.trans e7)).trans e8, hF8⟩
        · exact (if_neg hc).mpr (k_at ev_c fun H8 e8 => q' _ H8 ⟨0, rfl, Nat.zero_le _, fun z => absurd z (Nat.lt_irrefl _), ef_of ((e6.trans e7).trans e8), (hF5'.ex ((e6.trans e7).trans e8)).le (by omega)⟩)
      · refine (if_neg hw).mpr ((if_neg (by decide)).mpr (k_at ev_c fun H8 e8 => q' _ H8 ⟨0, rfl, Nat.zero_le _, fun z => absurd z (Nat.lt_irrefl _), ef_of (e6.trans e8), (hF5'.ex (e6.trans e8)).le (by omega)⟩))
    obtain ⟨c, rfl, hc3, hcm, e6, hF6⟩ := hv
    refine k_nil ⟨_, rfl, by omega, by omega, ?_⟩
    refine for_range (lo := 0) (n := (c : Int).toNat) (fun i σ2 H7 => ∃ (ts : List Tie) (y6 y7 y8 y9 : Option V), σ2 = [some (.ref f0), some (.str way), some (.int (mn : Int)), some (.int sh), some (.ref d), some (.ref T0), y6, y7, y8, y9, none, none, none] ∧ Ef f0 H H7 ∧ H7 d = some (.lst (ss.map V.str)) ∧ H7 T0 = some (.lst (tiesV ts)) ∧ Ties ss H7 ts ∧ ts.length ≤ 7 + i ∧ Feed H7 f0 (n + 31 + 2 * i))
      ⟨ts, y6, y7, none, none, rfl, e5.trans e6, e6 d _ fd hd5, e6 T0 _ fT hT5, hts.ef e6 hF5, htl7, hF6⟩ ?_ ?_
    · rintro i σ2 H7 hi ⟨ts, y6, y7, y8, y9, rfl, e7, hd7, hT7, hts7, htl7, hF7⟩
      have hm2 := hcm (by omega)
      refine k_qasg (k_draw (m := (mn : Int)) (ev_var rfl) (ev_var rfl) (by omega) (by omega) hF7 (by omega) fun o H8 e8 hF8 o0 o1 => ?_)
      obtain ⟨on, rfl⟩ := Int.eq_ofNat_of_zero_le o0
      have hd8 := e8 d _ fd hd7
      have hT8 := e8 T0 _ fT hT7
      have hts8 := hts7.ef e8 hF7
      have ho : on < ss.length := by omega
      refine k_drop (k_bm (k_at (ev_var rfl) fun H9 e9 => ⟨Or.inl ⟨rfl, tiesV ts, sq_of (e9 T0 _ hT8)⟩, k_cons (k_tup (k_cons (k_at (ev_l (ev_var rfl) (e9 d _ hd8) (ev_var rfl) (atI_nat (v := .str ss[on]) (by rw [List.getElem?_map, List.getElem?_eq_getElem ho] <;> rfl))) fun H10 e10 => k_cons (k_op (k_at (ev_var rfl) fun H11 e11 => k_op (k_cb (k_cons (k_op (k_at (ev_op (ev_var rfl) ev_c rv_I0) fun H12 e12 => ?_)))))))))⟩))
      have e812 := ((e9.trans e10).trans e11).trans e12
      refine k_draw (m := (mn : Int) - 1) (ev_var rfl) (ev_op (ev_var rfl) ev_c rv_I0) (by omega) (by omega) (hF8.ex e812) (by omega) fun r H13 e13 hF13 r0 r1 => ?_
      obtain ⟨rn, rfl⟩ := Int.eq_ofNat_of_zero_le r0
      obtain ⟨j, hj1, hj2, hj3⟩ := oth (o := on) (r := rn) (mn := mn) (by omega) (by omega)
      have hj : j < ss.length := by omega
      have ef813 := (ef_of e812).trans e13
      refine ⟨_, _, rfl, rfl, k_nil (.inl ⟨_, rfl, k_at (ev_var rfl) fun H14 e14 => ⟨_, _, rfl, rfl, by omega, ?_⟩⟩)⟩
      have ef814 := ef813.trans (ef_of e14)
      have hF14 := hF13.ex e14
      have hd14 := ef814 d _ fd hd8
      have hT14 := ef814 T0 _ fT hT8
      have hts14 := hts8.ef ef814 hF8
      refine ⟨d, ss.map V.str, _, .str ss[j], rfl, congrArg V.int hj1, sq_of hd14, atI_nat (by rw [List.getElem?_map, List.getElem?_eq_getElem hj] <;> rfl), ?_⟩
      refine k_nil ⟨sz_of (by show 2 ≤ 100000; decide), fun tp np => k_nil ⟨T0, tiesV ts, _, rfl, rfl, Ex.new np T0 _ hT14, sz_lt (by rw [List.length_map]; omega), ?_⟩⟩
      have e15 : Ex H14 (upd H14 tp (.tup [.str ss[on], .str ss[j]])) := Ex.new np
      refine ⟨ts ++ [(tp, ss[on], ss[j])], _, _, _, _, rfl, (((e7.trans e8).trans ef814).trans (ef_of e15)).mut nT0, by rw [upd_ne hdT]; exact e15 d _ hd14, by rw [upd_same, tiesV, tiesV, List.map_append] <;> rfl, Ties.updL ((hts14.ef (ef_of e15) hF14).snoc ⟨.inl upd_same, List.getElem_mem ho, List.getElem_mem hj, get_ne hsn ho hj (Ne.symm hj3)⟩) (e15 T0 _ hT14), by rw [List.length_append, List.length_singleton]; omega, Feed.upd ((hF14.ex e15).le (by omega)) fT⟩
    rintro σ2 H7 ⟨ts, y6, y7, y8, y9, rfl, e7, hd7, hT7, hts7, htl7, hF7⟩
    have htl10 : ts.length ≤ 10 := by omega
    have hF7' : Feed H7 f0 (n + 37) := hF7.le (by omega)
    have hlm : (tiesV ts).length = ts.length := List.length_map ..
    -- turned about, some of them
    refine k_qasg (k_lc (k_list (k_mixed (ev_var rfl) (ev_var rfl) hT7 fT.symm (by omega) hF7' (by omega) fun T1 ys H8 e8 hF8 nT1 hT1 hp => ?_)))
    obtain ⟨ts', hts', rfl⟩ := perm_map_inv (enc := fun t : Tie => V.ref t.1) hp ts rfl
    have hl8 := hts'.length_eq
    have hd8 := e8 d _ fd hd7
    have htsA := hts7.ef e8 hF7
    have hts8 : Ties ss H8 ts' := fun t ht => htsA t (hts'.mem_iff.mp ht)
    rw [hlm] at hF8
    have hF8' : Feed H8 f0 (n + 47) := hF8.le (by omega)
    have fT1 : T1 ≠ f0 := hF7.ne nT1
    refine ⟨T1, rfl, ⟨_, sq_of hT1⟩, fun D1 nD1 => ?_⟩
    have fD1 : D1 ≠ f0 := hF8.ne nD1
    refine lc_list (xs := ts'.map fun t : Tie => V.ref t.1) (fun i H9 => ∃ ts2 : List Tie, Ef f0 H8 H9 ∧ H9 D1 = some (.lst (tiesV ts2)) ∧ Ties ss H9 ts2 ∧ ts2.length = i ∧ Feed H9 f0 (n + 47 + i))
      ⟨[], (Ef.refl _ _).mut nD1, upd_same, (fun t z => nomatch z), rfl, Feed.upd hF8' fD1⟩ (fun i H9 _ hP => sq_of (hP.choose_spec.1 T1 _ fT1 hT1)) (fun i v H9 hi hP => ?_) fun H9 hP => ?_
    · obtain ⟨t, ht, rfl⟩ := map_get hi
      obtain ⟨ts2, e9, hD9, hts9, hl9, hF9⟩ := hP
      have hti : i < ts'.length := (List.getElem?_eq_some_iff.mp ht).1
      have hmem := List.mem_of_getElem? ht
      refine ⟨rfl, ?_⟩
      unfold tYes
      refine (if_pos rfl).mpr ?_
      refine k_by (fun v H' => ∃ t2 : Tie, v = .ref t2.1 ∧ TieIn ss H' t2 ∧ Ef f0 H9 H' ∧ Feed H' f0 (n + 47 + i + 1)) (fun Q' q' => ?_) fun v H10 hv => ?_
      · refine k_if (k_tst (k_op (k_draw (m := 2) (ev_var rfl) ev_c (by decide) (by decide) hF9 (by omega) fun r H10 e10 hF10 _ _ => k_at ev_c fun H11 e11 => ⟨rfl, decide (V.int r = V.int 0), rfl, ?_⟩)))
        have e811 := (e9.trans e10).trans (ef_of e11)
        have hT := hts8.ef e811 hF8 t hmem
        by_cases hc : decide (V.int r = V.int 0) = true
        · refine (if_pos hc).mpr (k_atU (eu_tup (ea_cons (ev_tc (j := 1) (ev_var rfl) hT.at_ rfl) (ea_cons (ev_tc (j := 0) (ev_var rfl) hT.at_ rfl) ea_nil)) (by show 2 ≤ 100000; decide)) fun tp H12 np e12 hp12 => ?_)
          exact q' _ H12 ⟨(tp, t.2.2, t.2.1), rfl, ⟨.inl hp12, hT.other, hT.one, Ne.symm hT.ne⟩, (e10.trans (ef_of e11)).trans (ef_of e12), hF10.ex (e11.trans e12)⟩
        · refine (if_neg hc).mpr (k_at (ev_var rfl) fun H12 e12 => ?_)
          exact q' _ H12 ⟨t, rfl, ⟨ex_rd e12 hT.at_, hT.one, hT.other, hT.ne⟩, (e10.trans (ef_of e11)).trans (ef_of e12), hF10.ex (e11.trans e12)⟩
      · obtain ⟨t2, rfl, hT2, e10, hF10⟩ := hv
        have hD10 := e10 D1 _ fD1 hD9
        refine ⟨tiesV ts2, hD10, sz_lt (by rw [List.length_map]; omega), ts2 ++ [t2], (e9.trans e10).mut nD1, by rw [upd_same, tiesV, tiesV, List.map_append] <;> rfl, Ties.updL ((hts9.ef e10 hF9).snoc hT2) hD10, by rw [List.length_append, List.length_singleton, hl9], Feed.upd (hF10.le (by omega)) fD1⟩
    obtain ⟨ts2, e9, hD9, hts9, hl9, hF9⟩ := hP
    have hll : (ts'.map fun t : Tie => V.ref t.1).length = ts'.length := List.length_map ..
    rw [hll] at hl9 hF9
    have hF9' : Feed H9 f0 (n + 57) := hF9.le (by omega)
    have hd9 := e9 d _ fd hd8
    have hlm2 : (tiesV ts2).length = ts2.length := List.length_map ..
    -- names of the roads
    refine k_qasg (k_namesN (m := ts2.length) (ev_var rfl) (ev_is (ev_len (ev_var rfl) (sq_of hD9)) (by rw [hlm2])) (by omega) hF9' (by omega) fun dn ns H10 e10 hF10 nn0 hn10 hnl hnn hnk => ?_)
    have hd10 := e10 d _ fd hd9
    have hD10 := e10 D1 _ fD1 hD9
    have hts10 := hts9.ef e10 hF9
    -- the web
    refine k_ret (k_tup (k_cons (k_cb (k_cons (k_mixed (ev_var rfl) (ev_var rfl) hd10 fd.symm (by rw [List.length_map]; omega) hF10 (by omega) fun d2 ys2 H11 e11 hF11 nd2 hd2 hp2 => k_nil ?_)))))
    obtain ⟨ps, hps, rfl⟩ := perm_map_inv hp2 ss rfl
    have hlss : (ss.map V.str).length = ss.length := List.length_map ..
    rw [hlss] at hF11
    have hF11' : Feed H11 f0 (n + 79) := hF11.le (by omega)
    refine ⟨d2, ps.map V.str, rfl, sq_of hd2, fun pA oA npA hoA => ?_⟩
    have e12 : Ex H11 (upd H11 pA (.frz oA (.tup (ps.map V.str)))) := Ex.new npA
    have hpA : TF (upd H11 pA (.frz oA (.tup (ps.map V.str)))) pA ps := ⟨oA, upd_same, hoA⟩
    have ef12 := e11.trans (ef_of e12)
    have hF12 := hF11'.ex e12
    generalize upd H11 pA (.frz oA (.tup (ps.map V.str))) = H12 at e12 hpA ef12 hF12 ⊢
    have hn12 : H12 dn = some (.lst (ns.map V.str)) := by
      have fdn : dn ≠ f0 := hF9.ne nn0
      exact ef12 dn _ fdn hn10
    have hD12 := ef12 D1 _ fD1 hD10
    have hts12 := hts10.ef ef12 hF10
    refine k_cons (k_cb (k_cons (k_lc (k_zip (k_cons (k_at (ev_var rfl) fun H13 e13 => k_cons (k_at (ev_var rfl) fun H14 e14 => k_nil ⟨dn, D1, ns.map V.str, tiesV ts2, rfl, sq_of ((e13.trans e14) dn _ hn12), sq_of ((e13.trans e14) D1 _ hD12), fun D2 nD2 => ?_⟩)))))))
    have e124 := e13.trans e14
    have hzl : (ns.map V.str).length = (tiesV ts2).length := by rw [List.length_map, hlm2, hnl]
    let Z : List Road := List.zipWith (fun n (t : Tie) => (n, t.2.1, t.2.2)) ns ts2
    have hZl : Z.length = ts2.length := by
      show (List.zipWith _ _ _).length = _
      rw [List.length_zipWith, hnl, Nat.min_self]
    refine lc_itz (K := K) (a := dn) (b := D1) hzl (fun i H15 => ∃ trs : List (Addr × Road), H14 D2 = none ∧ Ex H14 H15 ∧ H15 D2 = some (.lst (trs.map fun x => V.ref x.1)) ∧ (∀ x ∈ trs, Tp H15 x.1 (roadV x.2)) ∧ trs.map (·.2) = Z.take i)
      ⟨[], nD2, Ex.new nD2, upd_same, (fun x z => nomatch z), rfl⟩ (fun i H15 hP => ⟨sq_of ((e124.trans hP.choose_spec.2.1) dn _ hn12), sq_of ((e124.trans hP.choose_spec.2.1) D1 _ hD12)⟩) (fun i x y H15 hx hy hP T2 nT2 => ?_) fun H15 hP => ?_
    · obtain ⟨nm, hnm, rfl⟩ := map_get hx
      obtain ⟨t, ht, rfl⟩ := map_get hy
      obtain ⟨trs, nD, e15, hD15, htr, hZ⟩ := hP
      have e16 : Ex H14 (upd H15 T2 (.tup [.str nm, .ref t.1])) := e15.trans (Ex.new nT2)
      have hTt : Tp (upd H15 T2 (.tup [.str nm, .ref t.1])) t.1 [.str t.2.1, .str t.2.2] := ex_rd (e124.trans e16) (hts12 t (List.mem_of_getElem? ht)).at_
      have hD16 : upd H15 T2 (.tup [.str nm, .ref t.1]) D2 = some (.lst (trs.map fun x => V.ref x.1)) := Ex.new nT2 D2 _ hD15
      have htr16 : ∀ x ∈ trs, Tp (upd H15 T2 (.tup [.str nm, .ref t.1])) x.1 (roadV x.2) := fun x hx => ex_rd (Ex.new nT2) (htr x hx)
      refine g2_of (tp_of upd_same) ⟨rfl, ?_⟩
      generalize upd H15 T2 (.tup [.str nm, .ref t.1]) = H16 at e16 hTt hD16 htr16 ⊢
      unfold tYes
      refine (if_pos rfl).mpr ?_
      refine k_op (k_atU (eu_tup (ea_cons (ev_var rfl) ea_nil) (by show 1 ≤ 100000; decide)) fun tp H17 np e17 hp17 => k_at (ev_var rfl) fun H18 e18 => ?_)
      have hti : i < ts2.length := (List.getElem?_eq_some_iff.mp ht).1
      have hZi : Z[i]? = some (nm, t.2.1, t.2.2) := by
        show (List.zipWith _ _ _)[i]? = _
        rw [List.getElem?_zipWith, hnm, ht]
      have htl : trs.length = i := by
        have := congrArg List.length hZ
        rw [List.length_map, List.length_take] at this
        omega
      refine ⟨tp, t.1, _, _, rfl, rfl, .inl (.inl (e18 tp _ hp17)), .inl (ex_rd (e17.trans e18) hTt), by show 1 + 2 ≤ sizeLine; exact sz_of (by decide), (fun z => nomatch z), (fun _ z => nomatch z), fun _ _ pr o npr ho => ?_⟩
      have e19 := ((e16.trans e17).trans e18).trans (Ex.new npr (o := .frz o (.tup ([.str nm] ++ [.str t.2.1, .str t.2.2]))))
      have e1619 := (e17.trans e18).trans (Ex.new npr (o := .frz o (.tup ([.str nm] ++ [.str t.2.1, .str t.2.2]))))
      refine ⟨_, e1619 D2 _ hD16, sz_lt (by rw [List.length_map]; omega), trs ++ [(pr, (nm, t.2.1, t.2.2))], nD, Ex.mut e19 nD, by rw [upd_same, List.map_append] <;> rfl, fun x hx => Tp.updL ?_ (e1619 D2 _ hD16), by rw [List.map_append, hZ, tk_succ hZi] <;> rfl⟩
      rcases List.mem_append.mp hx with z | z
      · exact ex_rd e1619 (htr16 x z)
      · rw [List.mem_singleton.mp z]
        exact .inr ⟨o, upd_same⟩
    · obtain ⟨trs, nD, e15, hD15, htr, hZ⟩ := hP
      have hZ' : trs.map (·.2) = Z := by
        rw [hZ, List.length_map, List.take_of_length_le (by omega)]
      refine k_nil ⟨D2, _, rfl, sq_of hD15, fun pB oB npB hoB => k_nil ⟨sz_of (by show 2 ≤ 100000; decide), fun pW npW => ?_⟩⟩
      have e1517 : Ex H15 (upd (upd H15 pB (.frz oB (.tup (trs.map fun x => V.ref x.1)))) pW (.tup [.ref pA, .ref pB])) := (Ex.new npB).trans (Ex.new npW)
      have eall : Ex H12 (upd (upd H15 pB (.frz oB (.tup (trs.map fun x => V.ref x.1)))) pW (.tup [.ref pA, .ref pB])) := (e124.trans e15).trans e1517
      have hB : Tp (upd (upd H15 pB (.frz oB (.tup (trs.map fun x => V.ref x.1)))) pW (.tup [.ref pA, .ref pB])) pB (trs.map fun x => V.ref x.1) := .inr ⟨oB, Ex.new npW pB _ upd_same⟩
      have hlZ : trs.length ≤ 10 := by
        have := congrArg List.length hZ'
        rw [List.length_map] at this
        omega
      refine k pW pA pB ⟨ps, Z⟩ trs _ (((((e7.trans e8).trans e9).trans e10).trans ef12).trans (ef_of eall)) ((hF12.ex eall).le (by omega)) ⟨.inl upd_same, hpA.ex eall, ⟨hB, fun x hx => ex_rd e1517 (htr x hx)⟩, hZ'⟩ ?_
      · refine webOk_of hps (by omega) (by omega) hsk hsn (by omega) (ns := ns) ?_ hnn hnk fun r hr' => ?_
        · have : Z.map (·.1) = ns := by
            show (List.zipWith _ _ _).map _ = _
            rw [List.map_zipWith]
            exact zipWith_fst ns ts2 (by omega)
          rw [this]
        · obtain ⟨i, hi⟩ := List.mem_iff_getElem?.mp hr'
          have hi' : (List.zipWith (fun n (t : Tie) => ((n, t.2.1, t.2.2) : Road)) ns ts2)[i]? = some r := hi
          rw [List.getElem?_zipWith] at hi'
          cases h1 : ns[i]? with
          | none => rw [h1] at hi'; cases hi'
          | some nm =>
            cases h2 : ts2[i]? with
            | none => rw [h1, h2] at hi'; cases hi'
            | some t =>
              rw [h1, h2] at hi'
              have hr2 : r = (nm, t.2.1, t.2.2) := (Option.some.inj hi').symm
              have hT := hts12 t (List.mem_of_getElem? h2)
              rw [hr2]
              exact ⟨hT.one, hT.other, hT.ne⟩
end
end RP
/-! part RPf5 -/
/-! the law's wide webs -/
namespace RP
open PySem PySem.Spec PyProof.Rows L2 Evl
structure RdIn (S : List Str) (H : Hp) (x : Addr × Road) : Prop where
  at_ : Tp H x.1 (roadV x.2)
  one : x.2.2.1 ∈ S
  other : x.2.2.2 ∈ S
  ne : x.2.2.1 ≠ x.2.2.2
def Rds (S : List Str) (H : Hp) (ts : List (Addr × Road)) : Prop := ∀ t ∈ ts, RdIn S H t
theorem Rds.ef {S : List Str} {f : Addr} {n : Nat} {H H' : Hp} {ts : List (Addr × Road)} (h : Rds S H ts) (e : Ef f H H') (hF : Feed H f n) : Rds S H' ts := fun t ht => let q := h t ht; ⟨q.at_.ef e hF, q.one, q.other, q.ne⟩
theorem Rds.updL {S : List Str} {l : Addr} {H : Hp} {ys : List V} {o : HO} {ts : List (Addr × Road)} (h : Rds S H ts) (hl : H l = some (.lst ys)) : Rds S (upd H l o) ts := fun t ht => let q := h t ht; ⟨q.at_.updL hl, q.one, q.other, q.ne⟩
theorem Rds.snoc {S : List Str} {H : Hp} {ts : List (Addr × Road)} {t : Addr × Road} (h : Rds S H ts) (ht : RdIn S H t) : Rds S H (ts ++ [t]) := fun u hu => by
  rcases List.mem_append.mp hu with z | z
  · exact h u z
  · rw [List.mem_singleton.mp z]; exact ht
abbrev rdsV (ts : List (Addr × Road)) : List V := ts.map fun t => V.ref t.1
section
variable {P : Program} {w : World} {K : PySem.W.Frag} {mg : Str → Option Value} {base : Heap} {tk : Nat → Tok}
theorem k_forE {K : PySem.W.Frag} {tl : TE} {g : TG} {tb : TS} {D : Ends} {σ : L2.St} {H : Hp} (h : tl σ H fun x H1 => ∃ a xs, [x] = [V.ref a] ∧ SqL K H1 a xs ∧ ∃ W : Nat → Nat → L2.St → Hp → Prop, (∃ m, W 0 m σ H1) ∧ ∀ i m σ H, W i m σ H →
  ((Ite K a).stop i H ∧ D.nx σ H) ∨ ((Ite K a).go i H ∧ ∃ N : L2.St → Hp → Prop, (∀ σ' H', N σ' H' → ∃ m', m' < m ∧ W (i + 1) m' σ' H') ∧ ∀ x H', (Ite K a).yld i H x H' → g x σ H' fun σ2 H2 => tb { D with nx := N, ct := N, bk := D.nx } σ2 H2)) : tFor (iEnum K (tCons tl tNil)) g tb D σ H := h
def sp_law_wide_web : Sp := fun vs H Q _ => ∃ (f : Addr) (n : Nat), vs = [.ref f] ∧ Feed H f n ∧ n ≤ 500000 ∧ ∀ a p q W trs H', Ef f H H' → Feed H' f (n + 1000) → WebAt H' a W p q trs → WebOk W → Q (.ref a) H'
theorem ok_law_wide_web (T : Top mg tk) (D : DefAt K mg "_law_wide_web" s_law_wide_web ["_law_feed_here"]) (c_law_draw : Cal P w K mg base 1 "_law_draw" sp_law_draw) (c_law_one : Cal P w K mg base 2 "_law_one" sp_law_one) (c_law_mixed : Cal P w K mg base 2 "_law_mixed" sp_law_mixed) (c_law_fresh : Cal P w K mg base 3 "_law_fresh" sp_law_fresh) : Cal P w K mg base 4 "_law_wide_web" sp_law_wide_web := by
  refine cal D sc_law_wide_web (fun vs H Q E h => ?_) (fun f cdv A outer s H vs Q E hr h => ?_)
  · obtain ⟨f, n, rfl, _⟩ := h
    rfl
  · obtain ⟨f0, n, rfl, hF, hn, k⟩ := h
    refine ⟨_, (pss_cons (ps_set (i := 1) sc_law_wide_web.nd rfl (.inl rfl) (pc c_law_fresh hr (by decide) (by rfl) (pa_cons (pv 0) (pa_cons (pc c_law_one hr (by decide) (by rfl) (pa_cons (pv 0) (pa_cons (pe_lst (pa_cons pe_int (pa_cons pe_int (pa_cons pe_int (pa_cons pe_int (pa_cons pe_int (pa_cons pe_int (pa_cons pe_int pa_nil)))))))) pa_nil))) pa_nil))))
        (pss_cons (ps_set (i := 2) sc_law_wide_web.nd rfl (.inl rfl) (pc c_law_fresh hr (by decide) (by rfl) (pa_cons (pv 0) (pa_cons (pe_ifExp (pt_cmpR op_gt (pe_callB (r := Evl.rLenS K) call_len_seq (by rfl) T.len PySem.boot_len (pa_cons (pv 1) pa_nil)) pe_int (nomark _)) (pc c_law_one hr (by decide) (by rfl) (pa_cons (pv 0) (pa_cons (pe_lst (pa_cons pe_int (pa_cons pe_int (pa_cons pe_int (pa_cons pe_int (pa_cons pe_int (pa_cons pe_int pa_nil))))))) pa_nil))) pe_int) pa_nil))))
        (pss_cons (ps_set (i := 3) sc_law_wide_web.nd rfl (.inl rfl) (pe_lst pa_nil))
        (pss_cons (ps_for PassesOwn.never rfl (pi_enum (by rfl) T.enumerate (pa_cons (pv 2) pa_nil)) (pg_tup rfl (pgs_cons (pg_name (i := 4) sc_law_wide_web.nd rfl (.inl rfl)) (pgs_cons (pg_name (i := 5) sc_law_wide_web.nd rfl (.inl rfl)) pgs_nil))) (pss_cons (ps_set (i := 6) sc_law_wide_web.nd rfl (.inl rfl) (pe_ifExp (PW.pt (pw_and (pt_cmpR op_lt (pv 4) (pe_callB (r := Evl.rLenS K) call_len_seq (by rfl) T.len PySem.boot_len (pa_cons (pv 1) pa_nil)) (nomark _)) (pw_and1 (pt_cmpR op_gt (pc c_law_draw hr (by decide) (by rfl) (pa_cons (pv 0) (pa_cons pe_int pa_nil))) pe_int (nomark _))))) (pv 4) (pc c_law_draw hr (by decide) (by rfl) (pa_cons (pv 0) (pa_cons (pe_callB (r := Evl.rLenS K) call_len_seq (by rfl) T.len PySem.boot_len (pa_cons (pv 1) pa_nil)) pa_nil)))))
        (pss_cons (ps_set (i := 7) sc_law_wide_web.nd rfl (.inl rfl) (pe_op op_modN (pe_callTy (r := rInt1) call_int1 (by rfl) T.int (by decide +kernel) (pa_cons (pe_op op_add (pe_op op_add (pv 6) pe_int) (pc c_law_draw hr (by decide) (by rfl) (pa_cons (pv 0) (pa_cons (pe_op op_sub (pe_callB (r := Evl.rLenS K) call_len_seq (by rfl) T.len PySem.boot_len (pa_cons (pv 1) pa_nil)) pe_int) pa_nil)))) pa_nil)) (pe_callB (r := Evl.rLenS K) call_len_seq (by rfl) T.len PySem.boot_len (pa_cons (pv 1) pa_nil))))
        (pss_one (ps_expr (pe_bm PySem.F.plainAttrs_list PySem.F.slot_list_append PySem.F.type_list_append mt_append (pv 3) (pa_cons (pe_tup (pa_cons (pv 5) (pa_cons (pe_ix (r := rIxL K) ix_list (pv 1) (pv 6) (fun _ _ => rfl)) (pa_cons (pe_ix (r := rIxL K) ix_list (pv 1) (pv 7) (fun _ _ => rfl)) pa_nil)))) pa_nil)))))))
        (pss_one (ps_ret (pe_tup (pa_cons (pe_callTy (r := rTupS K) call_tupF (by rfl) T.tuple (by decide +kernel) (pa_cons (pc c_law_mixed hr (by decide) (by rfl) (pa_cons (pv 0) (pa_cons (pv 1) pa_nil))) pa_nil)) (pa_cons (pe_callTy (r := rTupS K) call_tupF (by rfl) T.tuple (by decide +kernel) (pa_cons (pc c_law_mixed hr (by decide) (by rfl) (pa_cons (pv 0) (pa_cons (pv 3) pa_nil))) pa_nil)) pa_nil))))))))), ?_⟩
    refine k_qasg (k_call (k_cons (k_at (ev_var rfl) fun H1 e1 => k_cons (k_oneL (xs := [.int 1, .int 2, .int 3, .int 5, .int 8, .int 10, .int 10]) (ev_var rfl) (el_lst (ea_cons ev_c (ea_cons ev_c (ea_cons ev_c (ea_cons ev_c (ea_cons ev_c (ea_cons ev_c (ea_cons ev_c ea_nil))))))) (by show 7 ≤ 100000; decide)) (by show 1 ≤ 7; decide) (by show 7 ≤ 1000; decide) (hF.ex e1) (by omega) fun v H2 e2 hF2 hv => k_nil ?_))))
    have hv2 : ∃ mn : Nat, v = .int (mn : Int) ∧ 1 ≤ mn ∧ mn ≤ 10 := by
      simp only [List.mem_cons, List.not_mem_nil, or_false] at hv
      rcases hv with rfl | rfl | rfl | rfl | rfl | rfl | rfl
      · exact ⟨1, rfl, by decide, by decide⟩
      · exact ⟨2, rfl, by decide, by decide⟩
      · exact ⟨3, rfl, by decide, by decide⟩
      · exact ⟨5, rfl, by decide, by decide⟩
      · exact ⟨8, rfl, by decide, by decide⟩
      · exact ⟨10, rfl, by decide, by decide⟩
      · exact ⟨10, rfl, by decide, by decide⟩
    obtain ⟨mn, rfl, hm1, hm10⟩ := hv2
    refine ⟨f0, mn, n + 1, rfl, by omega, hF2, by omega, fun d ss H3 e3 hF3 nd hd hsl hsn hsk => ?_⟩
    have fd : d ≠ f0 := hF2.ne nd
    have hF3' : Feed H3 f0 (n + 81) := hF3.le (by omega)
    have ef3 := ((ef_of (f := f0) e1).trans e2).trans e3
    have hlm : (ss.map V.str).length = ss.length := List.length_map ..
    -- names
    refine k_qasg (k_call (k_cons (k_at (ev_var rfl) fun H4 e4 => k_cons (k_by (fun v H' => ∃ c : Nat, v = .int (c : Int) ∧ c ≤ 14 ∧ (0 < c → 2 ≤ mn) ∧ Ef f0 H4 H' ∧ Feed H' f0 (n + 82)) (fun Q' q' => ?_) fun v H5 hv => k_nil ?_))))
    · have hd4 := e4 d _ hd
      have hF4 := hF3'.ex e4
      refine k_if (k_atT (et_test (ev_op (ev_len (ev_var rfl) (sq_of hd4)) ev_c (rv_I0 (g := fun i j => .bl (decide (j < i)))))) fun H5 e5 => ?_)
      by_cases hc : decide ((1 : Int) < ((ss.map V.str).length : Int)) = true
      · have hc' := of_decide_eq_true hc
        refine (if_pos hc).mpr (k_oneL (xs := [.int 0, .int 3, .int 7, .int 12, .int 14, .int 14]) (ev_var rfl) (el_lst (ea_cons ev_c (ea_cons ev_c (ea_cons ev_c (ea_cons ev_c (ea_cons ev_c (ea_cons ev_c ea_nil)))))) (by show 6 ≤ 100000; decide)) (by show 1 ≤ 6; decide) (by show 6 ≤ 1000; decide) (hF4.ex e5) (by omega) fun v H6 e6 hF6 hv => ?_)
        have hv2 : ∃ c : Nat, v = .int (c : Int) ∧ c ≤ 14 := by
          simp only [List.mem_cons, List.not_mem_nil, or_false] at hv
          rcases hv with rfl | rfl | rfl | rfl | rfl | rfl
          · exact ⟨0, rfl, by decide⟩
          · exact ⟨3, rfl, by decide⟩
          · exact ⟨7, rfl, by decide⟩
          · exact ⟨12, rfl, by decide⟩
          · exact ⟨14, rfl, by decide⟩
          · exact ⟨14, rfl, by decide⟩
        obtain ⟨c, rfl, hc14⟩ := hv2
        exact q' _ H6 ⟨c, rfl, hc14, fun _ => by omega, (ef_of e5).trans e6, hF6⟩
      · exact (if_neg hc).mpr (k_at ev_c fun H6 e6 => q' _ H6 ⟨0, rfl, by decide, fun z => absurd z (Nat.lt_irrefl _), ef_of (e5.trans e6), (hF4.ex (e5.trans e6)).le (by omega)⟩)
    obtain ⟨c, rfl, hc14, hcm, e5, hF5⟩ := hv
    refine ⟨f0, c, n + 82, rfl, hc14, hF5, by omega, fun dn ns H6 e6 hF6 nn hdn hnl hnn hnk => ?_⟩
    have fdn : dn ≠ f0 := hF5.ne nn
    have hF6' : Feed H6 f0 (n + 194) := hF6.le (by omega)
    have hd6 := e6 d _ fd (e5 d _ fd (e4 d _ hd))
    have ef6 := ((ef3.trans (ef_of e4)).trans e5).trans e6
    -- roads
    refine q_asgL (el_lst ea_nil (Nat.zero_le _)) fun T0 H7 nT e7 hT => ?_
    have nT0 : H T0 = none := freshF ef6 hF6 nT
    have fT : T0 ≠ f0 := hF6.ne nT
    have hd7 := e7 d _ hd6
    have hn7 := e7 dn _ hdn
    have hdT : d ≠ T0 := fun z => by rw [← z, hd6] at nT; cases nT
    have hnT : dn ≠ T0 := fun z => by rw [← z, hdn] at nT; cases nT
    have hF7 := hF6'.ex e7
    have ef7 := ef6.trans (ef_of e7)
    refine k_seq (k_forE (k_at (ev_var rfl) fun H8 e8 => ⟨dn, ns.map V.str, rfl, sq_of (e8 dn _ hn7), ?_⟩))
    refine for_ite (K := K) (a := dn) (xs := ns.map V.str) (fun i σ2 H9 => ∃ (ts : List (Addr × Road)) (y4 y5 y6 y7 : Option V), σ2 = [some (.ref f0), some (.ref d), some (.ref dn), some (.ref T0), y4, y5, y6, y7] ∧ Ef f0 H H9 ∧ H9 d = some (.lst (ss.map V.str)) ∧ H9 dn = some (.lst (ns.map V.str)) ∧ H9 T0 = some (.lst (rdsV ts)) ∧ Rds ss H9 ts ∧ ts.map (fun t => t.2.1) = ns.take i ∧ Feed H9 f0 (n + 194 + 3 * i))
      ⟨[], none, none, none, none, rfl, ef7.trans (ef_of e8), e8 d _ hd7, e8 dn _ hn7, e8 T0 _ hT, (fun t z => nomatch z), rfl, hF7.ex e8⟩ (fun i σ2 H9 _ ⟨_, _, _, _, _, _, _, _, z, _⟩ => sq_of z) ?_ ?_
    · rintro i v σ2 H9 hi ⟨ts, y4, y5, y6, y7, rfl, e9, hd9, hn9, hT9, hts, htn, hF9⟩ Tp0 nTp
      obtain ⟨nm, hnm, rfl⟩ := map_get hi
      have hic : i < c := by
        have := (List.getElem?_eq_some_iff.mp hnm).1
        omega
      have hm2 := hcm (by omega)
      have htl : ts.length = i := by
        have := congrArg List.length htn
        rw [List.length_map, List.length_take] at this
        omega
      have e10 : Ex H9 (upd H9 Tp0 (.tup [.int (i : Nat), .str nm])) := Ex.new nTp
      have hF10 := hF9.ex e10
      have hd10 := e10 d _ hd9
      have hn10 := e10 dn _ hn9
      have hT10 := e10 T0 _ hT9
      have hts10 := hts.ef (ef_of e10) hF9
      refine g2_of (tp_of upd_same) ?_
      have ef10 := e9.trans (ef_of e10)
      generalize upd H9 Tp0 (.tup [.int (i : Nat), .str nm]) = H10 at e10 hF10 hd10 hn10 hT10 hts10 ef10 ⊢
      refine k_qasg (k_by (fun v H' => ∃ o : Nat, v = .int (o : Int) ∧ o < ss.length ∧ Ef f0 H10 H' ∧ Feed H' f0 (n + 194 + 3 * i + 2)) (fun Q' q' => ?_) fun v H11 hv => ?_)
      · have dr : ∀ H12, Ef f0 H10 H12 → Feed H12 f0 (n + 194 + 3 * i + 1) → tCall sp_law_draw [] E0 (tCons (tVar 0) (tCons (tCB (Evl.rLenS K) (tCons (tVar 1) tNil)) tNil)) [some (.ref f0), some (.ref d), some (.ref dn), some (.ref T0), some (.int (i : Nat)), some (.str nm), y6, y7] H12 Q' := fun H12 e12 hF12 => by
          refine k_draw (m := ((ss.map V.str).length : Int)) (ev_var rfl) (ev_len (ev_var rfl) (sq_of (e12 d _ fd hd10))) (by omega) (by omega) hF12 (by omega) fun r H13 e13 hF13 r0 r1 => ?_
          obtain ⟨o, rfl⟩ := Int.eq_ofNat_of_zero_le r0
          exact q' _ H13 ⟨o, rfl, by omega, e12.trans e13, hF13⟩
        refine k_if (k_and (k_atT (et_test (ev_op (ev_var rfl) (ev_len (ev_var rfl) (sq_of hd10)) (rv_I0 (g := fun i j => .bl (decide (i < j)))))) fun H11 e11 => ?_))
        by_cases hc : decide ((i : Int) < ((ss.map V.str).length : Int)) = true
        · have hc' := of_decide_eq_true hc
          refine (if_pos hc).mpr (k_tst (k_op (k_draw (m := 3) (ev_var rfl) ev_c (by decide) (by decide) (hF10.ex e11) (by omega) fun r H12 e12 hF12 _ _ => k_at ev_c fun H13 e13 => ⟨r, 0, rfl, rfl, _, rfl, ?_⟩)))
          have e1013 := ((ef_of e11).trans e12).trans (ef_of e13)
          by_cases hq : decide ((0 : Int) < r) = true
          · exact (if_pos hq).mpr (k_at (ev_var rfl) fun H14 e14 => q' _ H14 ⟨i, rfl, by omega, e1013.trans (ef_of e14), (hF12.ex (e13.trans e14)).le (by omega)⟩)
          · exact (if_neg hq).mpr (dr H13 e1013 (hF12.ex e13))
        · exact (if_neg hc).mpr ((if_neg (by decide)).mpr (dr H11 (ef_of e11) ((hF10.ex e11).le (by omega))))
      obtain ⟨o, rfl, ho, e11, hF11⟩ := hv
      have hd11 := e11 d _ fd hd10
      have hn11 := e11 dn _ fdn hn10
      have hT11 := e11 T0 _ fT hT10
      have hts11 := hts10.ef e11 hF10
      refine k_qasg (k_by (fun v H' => ∃ j : Nat, v = .int (j : Int) ∧ j < ss.length ∧ j ≠ o ∧ Ef f0 H11 H' ∧ Feed H' f0 (n + 194 + 3 * i + 3)) (fun Q' q' => ?_) fun v H12 hv => ?_)
      · refine k_op (k_cb (k_cons (k_op (k_at (ev_op (ev_var rfl) ev_c rv_I0) fun H12 e12 => k_draw (m := ((ss.map V.str).length : Int) - 1) (ev_var rfl) (ev_op (ev_len (ev_var rfl) (sq_of (e12 d _ hd11))) ev_c rv_I0) (by omega) (by omega) (hF11.ex e12) (by omega) fun r H13 e13 hF13 r0 r1 => ?_))))
        obtain ⟨rn, rfl⟩ := Int.eq_ofNat_of_zero_le r0
        obtain ⟨j, hj1, hj2, hj3⟩ := oth (o := o) (r := rn) (mn := ss.length) ho (by omega)
        have e1113 := (ef_of e12).trans e13
        refine ⟨_, _, rfl, rfl, k_nil (.inl ⟨_, rfl, k_at (ev_len (ev_var rfl) (sq_of (e1113 d _ fd hd11))) fun H14 e14 => ⟨_, _, rfl, rfl, by omega, ?_⟩⟩)⟩
        refine q' _ H14 ⟨j, ?_, hj2, hj3, e1113.trans (ef_of e14), hF13.ex e14⟩
        rw [hlm]
        exact congrArg V.int hj1
      obtain ⟨j, rfl, hj, hjo, e12, hF12⟩ := hv
      have hd12 := e12 d _ fd hd11
      have hn12 := e12 dn _ fdn hn11
      have hT12 := e12 T0 _ fT hT11
      have hts12 := hts11.ef e12 hF11
      refine s_appU (K := K) (l := T0) (xs := rdsV ts) (ys := [.str nm, .str ss[o], .str ss[j]]) hT12 (ev_var rfl) (eu_tup (ea_cons (ev_var rfl) (ea_cons (ev_l (ev_var rfl) hd12 (ev_var rfl) (atI_nat (by rw [List.getElem?_map, List.getElem?_eq_getElem ho] <;> rfl))) (ea_cons (ev_l (ev_var rfl) hd12 (ev_var rfl) (atI_nat (by rw [List.getElem?_map, List.getElem?_eq_getElem hj] <;> rfl))) ea_nil))) (by show 3 ≤ 100000; decide)) (by rw [List.length_map]; omega) fun tp H13 np e13 hp => ?_
      refine ⟨ts ++ [(tp, (nm, ss[o], ss[j]))], _, _, _, _, rfl, (((ef10.trans e11).trans e12).trans (ef_of e13)).mut nT0, by rw [upd_ne hdT]; exact e13 d _ hd12, by rw [upd_ne hnT]; exact e13 dn _ hn12, by rw [upd_same, rdsV, rdsV, List.map_append] <;> rfl, Rds.updL ((hts12.ef (ef_of e13) hF12).snoc ⟨.inl hp, List.getElem_mem ho, List.getElem_mem hj, get_ne hsn ho hj (Ne.symm hjo)⟩) (e13 T0 _ hT12), by rw [List.map_append, htn, tk_succ hnm] <;> rfl, Feed.upd ((hF12.ex e13).le (by omega)) fT⟩
    rintro σ2 H9 ⟨ts, y4, y5, y6, y7, rfl, e9, hd9, hn9, hT9, hts, htn, hF9⟩
    have hln : (ns.map V.str).length = ns.length := List.length_map ..
    rw [hln] at hF9 htn
    rw [List.take_length] at htn
    have htl : ts.length = ns.length := by
      have := congrArg List.length htn
      rw [List.length_map] at this
      exact this
    have hF9' : Feed H9 f0 (n + 236) := hF9.le (by omega)
    refine k_ret (k_tup (k_cons (k_cb (k_cons (k_mixed (ev_var rfl) (ev_var rfl) hd9 fd.symm (by omega) hF9' (by omega) fun d2 ys2 H11 e11 hF11 nd2 hd2 hp2 => k_nil ?_)))))
    obtain ⟨ps, hps, rfl⟩ := perm_map_inv hp2 ss rfl
    rw [hlm] at hF11
    have hF11' : Feed H11 f0 (n + 246) := hF11.le (by omega)
    refine ⟨d2, ps.map V.str, rfl, sq_of hd2, fun pA oA npA hoA => ?_⟩
    have e12 : Ex H11 (upd H11 pA (.frz oA (.tup (ps.map V.str)))) := Ex.new npA
    have hpA : TF (upd H11 pA (.frz oA (.tup (ps.map V.str)))) pA ps := ⟨oA, upd_same, hoA⟩
    have ef12 := e11.trans (ef_of e12)
    have hF12 := hF11'.ex e12
    generalize upd H11 pA (.frz oA (.tup (ps.map V.str))) = H12 at e12 hpA ef12 hF12 ⊢
    have hT12 := ef12 T0 _ fT hT9
    have hts12 := hts.ef ef12 hF9
    refine k_cons (k_cb (k_cons (k_mixed (ev_var rfl) (ev_var rfl) hT12 fT.symm (by rw [List.length_map]; omega) hF12 (by omega) fun d3 ys3 H13 e13 hF13 nd3 hd3 hp3 => k_nil ?_)))
    obtain ⟨ts', hts', rfl⟩ := perm_map_inv (enc := fun t : Addr × Road => V.ref t.1) hp3 ts rfl
    have hl' := hts'.length_eq
    have hts13 : Rds ss H13 ts' := fun t ht => hts12.ef e13 hF12 t (hts'.mem_iff.mp ht)
    have hpA13 : TF H13 pA ps := by
      obtain ⟨o, h1, h2⟩ := hpA
      refine ⟨o, e13 pA _ (fun z => ?_) h1, h2⟩
      obtain ⟨x, y, w, h3, _⟩ := hF12
      rw [z, h3] at h1
      cases h1
    refine ⟨d3, _, rfl, sq_of hd3, fun pB oB npB hoB => k_nil ⟨sz_of (by show 2 ≤ 100000; decide), fun pW npW => ?_⟩⟩
    have e1317 : Ex H13 (upd (upd H13 pB (.frz oB (.tup (ts'.map fun t : Addr × Road => V.ref t.1)))) pW (.tup [.ref pA, .ref pB])) := (Ex.new npB).trans (Ex.new npW)
    have hB : Tp (upd (upd H13 pB (.frz oB (.tup (ts'.map fun t : Addr × Road => V.ref t.1)))) pW (.tup [.ref pA, .ref pB])) pB (ts'.map fun x => V.ref x.1) := .inr ⟨oB, Ex.new npW pB _ upd_same⟩
    rw [List.length_map] at hF13
    refine k pW pA pB ⟨ps, ts'.map (·.2)⟩ ts' _ (((e9.trans ef12).trans e13).trans (ef_of e1317)) ((hF13.ex e1317).le (by omega)) ⟨.inl upd_same, hpA13.ex e1317, ⟨hB, fun x hx => ex_rd e1317 (hts13 x hx).at_⟩, rfl⟩ ?_
    refine webOk_of hps (by omega) (by omega) hsk hsn (by rw [List.length_map]; omega) (ns := ns) ?_ hnn hnk fun r hr' => ?_
    · rw [List.map_map, ← htn]
      exact hts'.map _
    · obtain ⟨t, ht, rfl⟩ := List.mem_map.mp hr'
      have hT := hts13 t ht
      exact ⟨hT.one, hT.other, hT.ne⟩
end
end RP
/-! part RPg1 -/
/-! the law's looks at trees and days -/
namespace RP
open PySem PySem.Spec PyProof.Rows L2 Evl
theorem k_atP {te : TE} {σ : L2.St} {H : Hp} {P : V → Hp → Prop} {Q : VK} (h : EvP te σ H P) (q : ∀ v H2, Ex H H2 → P v H2 → Q v H2) : te σ H Q := h H (Ex.refl H) Q q
def Reach (W : Web) (x y : Str) : Prop := ∀ S : Str → Prop, (∀ r ∈ W.rs, S r.2.1 ↔ S r.2.2) → S x → S y
structure Got (W : Web) (x : Str) (d : List (Str × Int)) : Prop where
  nd : (d.map (·.1)).Nodup
  sub : ∀ y ∈ d.map (·.1), y ∈ W.ps
  rc : ∀ y ∈ d.map (·.1), Reach W x y
theorem tree_of {W : Web} {x : Str} {d : List (Str × Int)} (ok : WebOk W) (g : Got W x d) (hl : d.length = W.ps.length) (hx : x ∈ W.ps) (hc : W.rs.length + 1 = W.ps.length) : Tree W := by
  have hall : ∀ y ∈ W.ps, y ∈ d.map (·.1) := nodup_all g.nd g.sub (by rw [List.length_map, hl]; exact Nat.le_refl _)
  refine ⟨hc, fun S hS a ha b hb sa => ?_⟩
  rcases Classical.em (S x) with sx | sx
  · exact g.rc b (hall b hb) S hS sx
  · exact absurd sa (g.rc a (hall a ha) (fun z => ¬ S z) (fun r hr => not_congr (hS r hr)) sx)
section
variable {P : Program} {w : World} {K : PySem.W.Frag} {mg : Str → Option Value} {base : Heap} {tk : Nat → Tok}
def sp_law_steps : Sp := fun vs H Q _ => ∃ (a p q : Addr) (W : Web) (trs : List (Addr × Road)) (x : Str), vs = [.ref a, .str x] ∧ WebAt H a W p q trs ∧ WebOk W ∧ x ∈ W.ps ∧ ∀ D d H', Ex H H' → H' D = some (.dK (dkv V.int d)) → Got W x d → Q (.ref D) H'
theorem ok_law_steps (T : Top mg tk) (D : DefAt K mg "_law_steps" s_law_steps ["_law_web_here", "_law_place"]) : Cal P w K mg base 1 "_law_steps" sp_law_steps := by
  refine cal D sc_law_steps (fun vs H Q E h => ?_) (fun f cdv A outer s H vs Q E hr h => ?_)
  · obtain ⟨a, p, q, W, trs, x, rfl, _⟩ := h
    rfl
  · obtain ⟨a, p, q, W, trs, x, rfl, h, ok, hx, k⟩ := h
    have hu := hu_of hr
    refine ⟨_, (pss_cons (ps_set (i := 2) sc_law_steps.nd rfl (.inl rfl) (pe_disp (pps_cons (pv 1) pe_int pps_nil) (by rfl) (by rfl) (fun z => by cases z) (by decide)))
        (pss_cons (ps_for PassesOwn.never rfl (pi_range1 (by rfl) T.range (pa_cons (pe_callB (r := Evl.rLenS K) call_len_seq (by rfl) T.len PySem.boot_len (pa_cons (pe_ix (r := rIxT K) ix_tup (pv 0) pe_int (fun _ _ => rfl)) pa_nil)) pa_nil)) (pg_name (i := 3) sc_law_steps.nd rfl (.inl rfl)) (pss_one (ps_for PassesOwn.never rfl (pi_tup (pe_ix (r := rIxT K) ix_tup (pv 0) pe_int (fun _ _ => rfl))) (pg_tup rfl (pgs_cons (pg_name (i := 4) sc_law_steps.nd rfl (.inl rfl)) (pgs_cons (pg_name (i := 5) sc_law_steps.nd rfl (.inl rfl)) (pgs_cons (pg_name (i := 6) sc_law_steps.nd rfl (.inl rfl)) pgs_nil)))) (pss_one (ps_for PassesOwn.never rfl (pi_list (pe_lst (pa_cons (pe_tup (pa_cons (pv 5) (pa_cons (pv 6) pa_nil))) (pa_cons (pe_tup (pa_cons (pv 6) (pa_cons (pv 5) pa_nil))) pa_nil)))) (pg_tup rfl (pgs_cons (pg_name (i := 7) sc_law_steps.nd rfl (.inl rfl)) (pgs_cons (pg_name (i := 8) sc_law_steps.nd rfl (.inl rfl)) pgs_nil))) (pss_one (ps_if (PW.pt (pw_and (pt_cmpR op_eq (pe_dget1 hu (pv 2) (pv 7) ⟨rfl, rfl, rfl, rfl⟩) (pv 3) (nomark _)) (pw_and1 (pt_cmp (pc_dnotin hu (pv 8) (pv 2)))))) (pss_one (ps_dput hu (pv 2) (pv 8) (pe_op op_add (pv 3) pe_int) rfl)) pss_nil)))))))
        (pss_one (ps_ret (pv 2))))), ?_⟩
    have hp10 := ok.p10
    have lp : (W.ps.map V.str).length = W.ps.length := List.length_map ..
    refine q_disp1 (fun _ _ => ev_var rfl) (fun _ _ => ev_c) fun D0 H1 nD e1 hD => ?_
    have hG0 : Got W x [(x, 0)] := ⟨by simp, fun y hy => by
      have : y = x := by simpa using hy
      rw [this]; exact hx, fun y hy => by
      have : y = x := by simpa using hy
      rw [this]; exact fun S _ z => z⟩
    let Pst : L2.St → Hp → Prop := fun σ2 H2 => ∃ (d : List (Str × Int)) (y3 y4 y5 y6 y7 y8 : Option V), σ2 = [some (.ref a), some (.str x), some (.ref D0), y3, y4, y5, y6, y7, y8] ∧ Ex H H2 ∧ H2 D0 = some (.dK (dkv V.int d)) ∧ Got W x d
    refine q_forR1 (n := (W.ps.length : Int)) (ea_cons (ev_is (ev_lenT (ev_w0 (ev_var rfl) (h.ex e1).w) (h.ex e1).ps.tp) (by rw [lp])) ea_nil) ⟨by omega, by omega⟩ (fun _ => Pst)
      (fun H2 e2 => ⟨[(x, 0)], none, none, none, none, none, none, rfl, e1.trans e2, e2 D0 _ hD, hG0⟩) ?_ ?_
    · rintro i σ2 H2 hi ⟨d, y3, y4, y5, y6, y7, y8, rfl, e2, hd, hG⟩
      let Pin : L2.St → Hp → Prop := fun σ2 H2 => ∃ (d : List (Str × Int)) (y4 y5 y6 y7 y8 : Option V), σ2 = [some (.ref a), some (.str x), some (.ref D0), some (.int (i : Int)), y4, y5, y6, y7, y8] ∧ Ex H H2 ∧ H2 D0 = some (.dK (dkv V.int d)) ∧ Got W x d
      refine s_forTp (K := K) trs (fun y => V.ref y.1) (ev_w1 (ev_var rfl) (h.ex e2).w) (h.ex e2).rs.1 (fun _ => Pin)
        (fun H3 e3 => ⟨d, y4, y5, y6, y7, y8, rfl, e2.trans e3, e3 D0 _ hd, hG⟩) (fun pre σ2 H3 ⟨_, _, _, _, _, _, _, z, _⟩ => ex_rd z h.rs.1) ?_ ?_
      · rintro pre y post σ3 H3 ep ⟨d, y4, y5, y6, y7, y8, rfl, e3, hd3, hG3⟩
        have hy : y ∈ trs := by rw [ep]; exact List.mem_append_right _ List.mem_cons_self
        have hyR := trs_mem h.e hy
        refine g3_of (ex_rd e3 (h.rs.2 y hy)) ?_
        refine k_for (k_list (k_lst (k_cons (k_atU (eu_tup (ea_cons (ev_var rfl) (ea_cons (ev_var rfl) ea_nil)) (by show 2 ≤ 100000; decide)) fun p1 H4 n1 e4 h1 => k_cons (k_atU (eu_tup (ea_cons (ev_var rfl) (ea_cons (ev_var rfl) ea_nil)) (by show 2 ≤ 100000; decide)) fun p2 H5 n2 e5 h2 => k_nil ⟨sz_of (by show 2 ≤ 100000; decide), fun L0 nL => ?_⟩)))))
        have e35 : Ex H3 (upd H5 L0 (.lst [.ref p1, .ref p2])) := (e4.trans e5).trans (Ex.new nL)
        have hp1 : Tp (upd H5 L0 (.lst [.ref p1, .ref p2])) p1 [.str y.2.2.1, .str y.2.2.2] := .inl ((e5.trans (Ex.new nL)) p1 _ h1)
        have hp2 : Tp (upd H5 L0 (.lst [.ref p1, .ref p2])) p2 [.str y.2.2.2, .str y.2.2.1] := .inl (Ex.new nL p2 _ h2)
        have hL : upd H5 L0 (.lst [.ref p1, .ref p2]) L0 = some (.lst [.ref p1, .ref p2]) := upd_same
        have nL3 : H3 L0 = none := fresh_back (e4.trans e5) nL
        have hLD : L0 ≠ D0 := fun z => by rw [z, hd3] at nL3; cases nL3
        generalize upd H5 L0 (.lst [.ref p1, .ref p2]) = H6 at e35 hp1 hp2 hL
        refine ⟨L0, rfl, ⟨_, sq_of hL⟩, for_list (K := K) (a := L0) (xs := [.ref p1, .ref p2]) (fun j σ2 H7 => ∃ (d : List (Str × Int)) (y7 y8 : Option V), σ2 = [some (.ref a), some (.str x), some (.ref D0), some (.int (i : Int)), some (.str y.2.1), some (.str y.2.2.1), some (.str y.2.2.2), y7, y8] ∧ Ex H H7 ∧ H7 L0 = some (.lst [.ref p1, .ref p2]) ∧ Tp H7 p1 [.str y.2.2.1, .str y.2.2.2] ∧ Tp H7 p2 [.str y.2.2.2, .str y.2.2.1] ∧ H7 D0 = some (.dK (dkv V.int d)) ∧ Got W x d)
          ⟨d, _, _, rfl, e3.trans e35, hL, hp1, hp2, e35 D0 _ hd3, hG3⟩ (fun j σ2 H7 _ ⟨_, _, _, _, _, z, _⟩ => sq_of z) ?_ ?_⟩
        · rintro j v σ4 H7 hj ⟨d, y7, y8, rfl, e7, hL7, hp17, hp27, hd7, hG7⟩
          have hcase : ∃ (pt : Addr) (u w : Str), v = .ref pt ∧ Tp H7 pt [.str u, .str w] ∧ u ∈ W.ps ∧ w ∈ W.ps ∧ (Reach W x u → Reach W x w) := by
            have rr := ok.rr _ hyR
            match j, hj with
            | 0, hj => exact ⟨p1, _, _, (Option.some.inj hj).symm, hp17, rr.one, rr.other, fun z S hS sx => (hS _ hyR).mp (z S hS sx)⟩
            | 1, hj => exact ⟨p2, _, _, (Option.some.inj hj).symm, hp27, rr.other, rr.one, fun z S hS sx => (hS _ hyR).mpr (z S hS sx)⟩
          obtain ⟨pt, u, w, rfl, hpt, hu1, hw1, hrw⟩ := hcase
          refine g2_of hpt ?_
          have evg : Ev (tDGet1 (tVar 2) (tVar 7)) [some (.ref a), some (.str x), some (.ref D0), some (.int (i : Int)), some (.str y.2.1), some (.str y.2.2.1), some (.str y.2.2.2), some (.str u), some (.str w)] H7 (((look d u).map V.int).getD .non) := fun H8 e8 Q8 q8 =>
            (ev_var (i := 2) rfl) H8 e8 _ fun H9 e9 => ⟨D0, rfl, .inl ⟨_, .inl ((e8.trans e9) D0 _ hd7)⟩, (ev_var (i := 7) rfl) H9 (e8.trans e9) _ fun H10 e10 => ⟨_, DGet.k (k := Sum.inr u) (((e8.trans e9).trans e10) D0 _ hd7), by rw [valV_dkv]; exact q8 H10 (e9.trans e10)⟩⟩
          have hsc : scal (((look d u).map V.int).getD .non) (.int (i : Int)) = true := by cases look d u <;> rfl
          have dk7 : d.length ≤ 10 := by
            have := nodup_le hG7.nd hG7.sub
            rw [List.length_map] at this
            omega
          refine s_if (b := decide (((look d u).map V.int).getD .non = V.int (i : Int)) && (look d w).isNone) (et_and (a := decide (((look d u).map V.int).getD .non = V.int (i : Int))) (b := (look d w).isNone) (et_test (ev_op evg (ev_var rfl) (rv_eq hsc))) fun _ => et_B (ev_dnot (enc := V.int) (ev_var rfl) (ev_var rfl) hd7)) (fun hb H8 e8 => ?_) fun hb H8 e8 => ?_
          · rw [Bool.and_eq_true] at hb
            have hno : look d w = none := Option.isNone_iff_eq_none.mp hb.2
            have hu2 : u ∈ d.map (·.1) := by
              rcases Classical.em (u ∈ d.map (·.1)) with z | z
              · exact z
              · have h9 := of_decide_eq_true hb.1
                rw [look_none_iff.mpr z] at h9
                cases h9
            refine s_dput (enc := V.int) (v := (i : Int) + 1) (e8 D0 _ hd7) (ev_op (ev_var rfl) ev_c rv_I0) (ev_var rfl) (ev_var rfl) hno (by omega) fun H9 e9 => ?_
            have hne : ∀ b xs, Tp H9 b xs → b ≠ D0 := fun b xs hb z => by
              rw [z] at hb
              have hd9 := (e8.trans e9) D0 _ hd7
              rcases hb with hb | ⟨o, hb⟩ <;> rw [hd9] at hb <;> cases hb
            have tpU : ∀ b xs, Tp H9 b xs → Tp (upd H9 D0 (.dK (dkv V.int (d ++ [(w, (i : Int) + 1)])))) b xs := fun b xs hb => by
              unfold Tp Rd
              rw [upd_ne (hne b xs hb)]
              exact hb
            refine ⟨d ++ [(w, (i : Int) + 1)], _, _, rfl, Ex.mut ((e7.trans e8).trans e9) nD, by rw [upd_ne hLD]; exact (e8.trans e9) L0 _ hL7, tpU _ _ (ex_rd (e8.trans e9) hp17), tpU _ _ (ex_rd (e8.trans e9) hp27), upd_same, ?_, fun z hz => ?_, fun z hz => ?_⟩
            · rw [List.map_append, List.nodup_append]
              exact ⟨hG7.nd, by simp, fun s hs s' hs' z => by
                have : s' = w := by simpa using hs'
                rw [z, this] at hs
                exact look_none_iff.mp hno hs⟩
            · rw [List.map_append] at hz
              rcases List.mem_append.mp hz with z1 | z1
              · exact hG7.sub z z1
              · have : z = w := by simpa using z1
                rw [this]; exact hw1
            · rw [List.map_append] at hz
              rcases List.mem_append.mp hz with z1 | z1
              · exact hG7.rc z z1
              · have : z = w := by simpa using z1
                rw [this]; exact hrw (hG7.rc u hu2)
          · exact ⟨d, _, _, rfl, e7.trans e8, e8 L0 _ hL7, ex_rd e8 hp17, ex_rd e8 hp27, e8 D0 _ hd7, hG7⟩
        · rintro σ4 H7 ⟨d, y7, y8, rfl, e7, hL7, hp17, hp27, hd7, hG7⟩
          exact ⟨d, _, _, _, _, _, rfl, e7, hd7, hG7⟩
      · rintro σ3 H3 ⟨d, y4, y5, y6, y7, y8, rfl, e3, hd3, hG3⟩
        exact ⟨d, _, _, _, _, _, _, rfl, e3, hd3, hG3⟩
    · rintro σ2 H2 ⟨d, y3, y4, y5, y6, y7, y8, rfl, e2, hd, hG⟩
      exact s_ret (ev_var rfl) fun H3 e3 => k D0 d H3 (e2.trans e3) (e3 D0 _ hd) hG
def sp_law_is_tree : Sp := fun vs H Q _ => ∃ (a p q : Addr) (W : Web) (trs : List (Addr × Road)), vs = [.ref a] ∧ WebAt H a W p q trs ∧ WebOk W ∧ ∀ b H', Ex H H' → (b = true → Tree W) → Q (.bl b) H'
theorem ok_law_is_tree (T : Top mg tk) (D : DefAt K mg "_law_is_tree" s_law_is_tree ["_law_web_here"]) (c_law_steps : Cal P w K mg base 1 "_law_steps" sp_law_steps) : Cal P w K mg base 2 "_law_is_tree" sp_law_is_tree := by
  refine cal D sc_law_is_tree (fun vs H Q E h => ?_) (fun f cdv A outer s H vs Q E hr h => ?_)
  · obtain ⟨a, p, q, W, trs, rfl, _⟩ := h
    rfl
  · obtain ⟨a, p, q, W, trs, rfl, h, ok, k⟩ := h
    refine ⟨_, (pss_one (ps_ret (pe_and (pe_cmpR op_eq (pe_callB (r := rLenD) call_lenD (by rfl) T.len PySem.boot_len (pa_cons (pc c_law_steps hr (by decide) (by rfl) (pa_cons (pv 0) (pa_cons (pe_ix (r := rIxT K) ix_tup (pe_ix (r := rIxT K) ix_tup (pv 0) pe_int (fun _ _ => rfl)) pe_int (fun _ _ => rfl)) pa_nil))) pa_nil)) (pe_callB (r := Evl.rLenS K) call_len_seq (by rfl) T.len PySem.boot_len (pa_cons (pe_ix (r := rIxT K) ix_tup (pv 0) pe_int (fun _ _ => rfl)) pa_nil)) (nomark _)) (pe_one (pe_cmpR op_eq (pe_callB (r := Evl.rLenS K) call_len_seq (by rfl) T.len PySem.boot_len (pa_cons (pe_ix (r := rIxT K) ix_tup (pv 0) pe_int (fun _ _ => rfl)) pa_nil)) (pe_op op_sub (pe_callB (r := Evl.rLenS K) call_len_seq (by rfl) T.len PySem.boot_len (pa_cons (pe_ix (r := rIxT K) ix_tup (pv 0) pe_int (fun _ _ => rfl)) pa_nil)) pe_int) (nomark _)))))), ?_⟩
    have lp : (W.ps.map V.str).length = W.ps.length := List.length_map ..
    have lr : (trs.map fun x => V.ref x.1).length = W.rs.length := by rw [List.length_map, trs_len h.e]
    have hp1 := ok.p1
    obtain ⟨x, hx0⟩ : ∃ x, W.ps[0]? = some x := ⟨_, List.getElem?_eq_getElem (by omega)⟩
    have hx := List.mem_of_getElem? hx0
    have hxV : (W.ps.map V.str)[0]? = some (.str x) := by rw [List.getElem?_map, hx0] <;> rfl
    refine s_retP (P := fun v _ => ∃ b, v = .bl b ∧ (b = true → Tree W)) (fun H1 e1 Q1 q1 => ?_) fun v H1 e1 hv => ?_
    · have h1 := h.ex e1
      refine k_op (k_cb (k_cons (k_atP (evp_call (P := fun v H' => ∃ D0 d, v = .ref D0 ∧ H' D0 = some (.dK (dkv V.int d)) ∧ Got W x d) (ea_cons (ev_var rfl) (ea_cons (ev_t (ev_w0 (ev_var rfl) h1.w) h1.ps.tp ev_c (atI_nat (j := 0) hxV)) ea_nil)) fun H2 e2 Q2 q2 E => ⟨a, p, q, W, trs, x, rfl, h1.ex e2, ok, hx, fun D0 d H3 e3 z1 z2 => q2 _ H3 e3 ⟨D0, d, rfl, z1, z2⟩⟩) fun v H2 e2 hv => ?_)))
      obtain ⟨D0, d, rfl, hD, hG⟩ := hv
      refine k_nil ⟨D0, _, rfl, hD, ?_⟩
      have h2 := h1.ex e2
      refine k_at (ev_is (ev_lenT (ev_w0 (ev_var rfl) h2.w) h2.ps.tp) (by rw [lp])) fun H3 e3 => ?_
      refine ⟨rfl, decide (V.int ((dkv V.int d).length : Int) = V.int (W.ps.length : Int)), rfl, ?_⟩
      by_cases hc : decide (V.int ((dkv V.int d).length : Int) = V.int (W.ps.length : Int)) = true
      · refine (if_pos hc).mpr ?_
        have h3 := h2.ex e3
        have hl : d.length = W.ps.length := by
          have := V.int.inj (of_decide_eq_true hc)
          rw [dkv_len] at this
          omega
        refine (ev_op (ev_is (ev_lenT (ev_w1 (ev_var rfl) h3.w) h3.rs.1) (by rw [lr])) (ev_op (ev_is (ev_lenT (ev_w0 (ev_var rfl) h3.w) h3.ps.tp) (by rw [lp])) ev_c rv_I0) (rv_eq rfl)) H3 (Ex.refl _) _ fun H4 e4 => q1 _ H4 ((e2.trans e3).trans e4) ⟨_, rfl, fun hb => ?_⟩
        have := V.int.inj (of_decide_eq_true hb)
        exact tree_of ok hG hl hx (by omega)
      · refine (if_neg hc).mpr (q1 _ H3 (e2.trans e3) ⟨_, rfl, fun z => Bool.noConfusion z⟩)
    · obtain ⟨b, rfl, hb⟩ := hv
      exact k b H1 e1 hb
/-! ### the days of the law -/
theorem evp_days {σ : L2.St} {H : Hp} {ta tr tx ty : TE} {a p q b : Addr} {W : Web} {trs : List (Addr × Road)} {ro : List Str} {x y : Str} (ha : Ev ta σ H (.ref a)) (hb' : Ev tr σ H (.ref b)) (hx' : Ev tx σ H (.str x)) (hy' : Ev ty σ H (.str y)) (h : WebAt H a W p q trs) (ok : WebOk W) (t : Tree W) (hb : Tp H b (ro.map V.str)) (rk : RotaOk W ro) (hx : x ∈ W.ps) (hy : y ∈ W.ps) :
    EvP (tCall sp_days [] E0 (tCons ta (tCons (tTup (tCons tr tNil)) (tCons tx (tCons ty tNil))))) σ H (fun v _ => ∃ n : Nat, v = .int (n : Int) ∧ DayOk W ro x y n) := by
  refine evp_callA (eap_cons (ev_p ha) mono_eq (eap_cons (EvU.p (P := IsTp [.ref b]) (eu_tup (ea_cons hb' ea_nil) (by show 1 ≤ 100000; decide)) fun p H1 _ e => ⟨p, rfl, .inl e⟩) mono_tp (eap_cons (ev_p hx') mono_eq (eap_cons (ev_p hy') mono_eq eap_nil)))) fun vs H1 e1 hvs => ?_
  obtain ⟨_, _, rfl, rfl, _, _, rfl, ⟨c, rfl, hc⟩, _, _, rfl, rfl, _, _, rfl, rfl, rfl⟩ := hvs
  exact fun H2 e2 Q2 q2 E => ⟨a, p, q, c, b, W, trs, ro, x, y, rfl, h.ex (e1.trans e2), ok, t, ex_rd e2 hc, ex_rd (e1.trans e2) hb, rk, hx, hy, fun n H' e' hn => q2 _ H' e' ⟨n, rfl, hn⟩⟩
theorem rota_rev {W : Web} {ro : List Str} (rk : RotaOk W ro) : RotaOk W ro.reverse := ⟨by rw [List.length_reverse]; exact rk.len, nodup_rev rk.nd, fun n hn => rk.sub n (List.mem_reverse.mp hn)⟩
def sp_law_days_right : Sp := fun vs H Q _ => ∃ (a p q b t bk : Addr) (W : Web) (trs : List (Addr × Road)) (ro tu : List Str), vs = [.ref a, .ref b, .ref t, .ref bk] ∧ WebAt H a W p q trs ∧ WebOk W ∧ Tree W ∧ Tp H b (ro.map V.str) ∧ RotaOk W ro ∧ Tp H t (tu.map V.str) ∧ RotaOk W tu ∧ Tp H bk (ro.reverse.map V.str) ∧ ∀ H', Ex H H' → Q (.bl true) H'
theorem ok_law_days_right (T : Top mg tk) (D : DefAt K mg "_law_days_right" s_law_days_right ["_law_web_here", "_law_rota_here", "_law_turned", "_law_back"]) (c_days : Cal P w K mg base 6 "days" sp_days) : Cal P w K mg base 7 "_law_days_right" sp_law_days_right := by
  refine cal D sc_law_days_right (fun vs H Q E h => ?_) (fun f cdv A outer s H vs Q E hr h => ?_)
  · obtain ⟨a, p, q, b, t, bk, W, trs, ro, tu, rfl, _⟩ := h
    rfl
  · obtain ⟨a, p, q, b, t, bk, W, trs, ro, tu, rfl, h, ok, tr, hb, rk, ht, tuk, hbk, k⟩ := h
    refine ⟨_, (pss_cons (ps_for PassesOwn.never rfl (pi_tup (pe_ix (r := rIxT K) ix_tup (pv 0) pe_int (fun _ _ => rfl))) (pg_name (i := 4) sc_law_days_right.nd rfl (.inl rfl)) (pss_one (ps_for PassesOwn.never rfl (pi_tup (pe_ix (r := rIxT K) ix_tup (pv 0) pe_int (fun _ _ => rfl))) (pg_name (i := 5) sc_law_days_right.nd rfl (.inl rfl)) (pss_cons (ps_par (i := 6) (j := 7) rfl sc_law_days_right.nd rfl rfl (by decide) rfl rfl (pa_cons (pc c_days hr (by decide) (by rfl) (pa_cons (pv 0) (pa_cons (pe_tup (pa_cons (pv 1) pa_nil)) (pa_cons (pv 4) (pa_cons (pv 5) pa_nil))))) (pa_cons (pc c_days hr (by decide) (by rfl) (pa_cons (pv 0) (pa_cons (pe_tup (pa_cons (pv 1) pa_nil)) (pa_cons (pv 5) (pa_cons (pv 4) pa_nil))))) pa_nil)) (by rfl))
        (pss_cons (ps_if (pt_cmpR op_ne (pc c_days hr (by decide) (by rfl) (pa_cons (pv 0) (pa_cons (pe_tup (pa_cons (pv 3) pa_nil)) (pa_cons (pv 4) (pa_cons (pv 5) pa_nil))))) (pv 7) (nomark _)) (pss_one (ps_ret pe_bl)) pss_nil)
        (pss_one (ps_if (pt_cmpR op_ne (pe_op op_add (pc c_days hr (by decide) (by rfl) (pa_cons (pv 0) (pa_cons (pe_tup (pa_cons (pv 2) pa_nil)) (pa_cons (pv 4) (pa_cons (pv 5) pa_nil))))) (pc c_days hr (by decide) (by rfl) (pa_cons (pv 0) (pa_cons (pe_tup (pa_cons (pv 2) pa_nil)) (pa_cons (pv 5) (pa_cons (pv 4) pa_nil)))))) (pe_op op_add (pv 6) (pv 7)) (nomark _)) (pss_one (ps_ret pe_bl)) pss_nil)))))))
        (pss_one (ps_ret pe_bl))), ?_⟩
    have rkr := rota_rev rk
    refine q_forTp (K := K) W.ps V.str (ev_w0 (ev_var rfl) h.w) h.ps.tp (fun _ σ2 H2 => ∃ (y4 y5 y6 y7 : Option V), σ2 = [some (.ref a), some (.ref b), some (.ref t), some (.ref bk), y4, y5, y6, y7] ∧ Ex H H2)
      (fun H1 e1 => ⟨none, none, none, none, rfl, e1⟩) (fun pre σ2 H2 ⟨_, _, _, _, _, z⟩ => ex_rd z h.ps.tp) ?_ ?_
    · rintro pre x post σ2 H2 ep ⟨y4, y5, y6, y7, rfl, e2⟩
      have hx : x ∈ W.ps := by rw [ep]; exact List.mem_append_right _ List.mem_cons_self
      refine s_forTp (K := K) W.ps V.str (ev_w0 (ev_var rfl) (h.ex e2).w) (h.ex e2).ps.tp (fun _ σ2 H2 => ∃ (y5 y6 y7 : Option V), σ2 = [some (.ref a), some (.ref b), some (.ref t), some (.ref bk), some (.str x), y5, y6, y7] ∧ Ex H H2)
        (fun H1 e1 => ⟨y5, y6, y7, rfl, e2.trans e1⟩) (fun pre σ2 H2 ⟨_, _, _, _, z⟩ => ex_rd z h.ps.tp) ?_ ?_
      · rintro pre2 y post2 σ3 H3 ep2 ⟨y5, y6, y7, rfl, e3⟩
        have hy : y ∈ W.ps := by rw [ep2]; exact List.mem_append_right _ List.mem_cons_self
        refine k_seq (k_par (k_cons (k_atP (evp_days (ev_var rfl) (ev_var rfl) (ev_var rfl) (ev_var rfl) (h.ex e3) ok tr (ex_rd e3 hb) rk hx hy) fun v H4 e4 hv => ?_)))
        obtain ⟨n1, rfl, d1⟩ := hv
        refine k_cons (k_atP (evp_days (ev_var rfl) (ev_var rfl) (ev_var rfl) (ev_var rfl) (h.ex (e3.trans e4)) ok tr (ex_rd (e3.trans e4) hb) rk hy hx) fun v H5 e5 hv => ?_)
        obtain ⟨n2, rfl, d2⟩ := hv
        refine k_nil ⟨_, _, rfl, ?_⟩
        have e35 := (e3.trans e4).trans e5
        refine k_seq (k_ifS (k_tst (k_op (k_atP (evp_days (ev_var rfl) (ev_var rfl) (ev_var rfl) (ev_var rfl) (h.ex e35) ok tr (ex_rd e35 hbk) rkr hx hy) fun v H6 e6 hv => ?_))))
        obtain ⟨n3, rfl, d3⟩ := hv
        have e36 := e35.trans e6
        refine k_at (ev_var rfl) fun H7 e7 => ⟨rfl, _, rfl, ?_⟩
        have en3 := day_back ok rk d3 d2
        refine (if_neg (by rw [en3]; simp)).mpr ?_
        have e37 := e36.trans e7
        refine k_ifS (k_tst (k_op (k_op (k_atP (evp_days (ev_var rfl) (ev_var rfl) (ev_var rfl) (ev_var rfl) (h.ex e37) ok tr (ex_rd e37 ht) tuk hx hy) fun v H8 e8 hv => ?_))))
        obtain ⟨n4, rfl, d4⟩ := hv
        have e38 := e37.trans e8
        refine k_atP (evp_days (ev_var rfl) (ev_var rfl) (ev_var rfl) (ev_var rfl) (h.ex e38) ok tr (ex_rd e38 ht) tuk hy hx) fun v H9 e9 hv => ?_
        obtain ⟨n5, rfl, d5⟩ := hv
        refine ⟨_, _, rfl, rfl, k_at (ev_op (ev_var rfl) (ev_var rfl) rv_I0) fun H10 e10 => ⟨rfl, _, rfl, ?_⟩⟩
        obtain ⟨rs, hrs⟩ := d1.ex
        have s1 := day_sum ok rk d1 d2 hrs
        have s2 := day_sum ok tuk d4 d5 hrs
        refine (if_neg ?_).mpr ⟨_, _, _, rfl, (e38.trans e9).trans e10⟩
        have : ((n4 : Int) + (n5 : Int)) = ((n1 : Int) + (n2 : Int)) := by omega
        show ¬ (!decide (V.int ((n4 : Int) + (n5 : Int)) = V.int ((n1 : Int) + (n2 : Int)))) = true
        rw [this]
        simp
      · rintro σ3 H3 ⟨y5, y6, y7, rfl, e3⟩
        exact ⟨_, _, _, _, rfl, e3⟩
    · rintro σ2 H2 ⟨y4, y5, y6, y7, rfl, e2⟩
      exact s_ret (v := .bl true) ev_c fun H3 e3 => k H3 (e2.trans e3)
end
end RP
/-! part RPm3 -/
/-! plain: falls along a ring; what is shown -/
namespace RP
open PySem PySem.Spec PyProof.Rows L2 Evl
def sm (f : Nat → Int) : Nat → Int
  | 0 => 0
  | n + 1 => sm f n + f n
theorem sm_congr {f g : Nat → Int} : ∀ n, (∀ i, i < n → f i = g i) → sm f n = sm g n
  | 0, _ => rfl
  | n + 1, h => by
    show sm f n + f n = sm g n + g n
    rw [sm_congr n fun i hi => h i (Nat.lt_succ_of_lt hi), h n (Nat.lt_succ_self n)]
theorem sm_add (f g : Nat → Int) : ∀ n, sm (fun i => f i + g i) n = sm f n + sm g n
  | 0 => rfl
  | n + 1 => by
    show sm (fun i => f i + g i) n + (f n + g n) = sm f n + f n + (sm g n + g n)
    rw [sm_add f g n]; omega
theorem sm_sub (f g : Nat → Int) : ∀ n, sm (fun i => f i - g i) n = sm f n - sm g n
  | 0 => rfl
  | n + 1 => by
    show sm (fun i => f i - g i) n + (f n - g n) = sm f n + f n - (sm g n + g n)
    rw [sm_sub f g n]; omega
theorem sm_one : ∀ n, sm (fun _ => 1) n = (n : Int)
  | 0 => rfl
  | n + 1 => by
    show sm (fun _ => 1) n + 1 = _
    rw [sm_one n]; push_cast; rfl
theorem sm_shift (f : Nat → Int) : ∀ n, sm (fun i => f (i + 1)) n + f 0 = sm f (n + 1)
  | 0 => by show 0 + f 0 = 0 + f 0; rfl
  | n + 1 => by
    have h := sm_shift f n
    show sm (fun i => f (i + 1)) n + f (n + 1) + f 0 = sm f (n + 1) + f (n + 1)
    omega
/-- turned by one: the same sum -/
theorem sm_cyc (f : Nat → Int) (m : Nat) : sm (fun i => f ((i + 1) % m)) m = sm f m := by
  cases m with
  | zero => rfl
  | succ k =>
    show sm (fun i => f ((i + 1) % (k + 1))) k + f ((k + 1) % (k + 1)) = _
    rw [Nat.mod_self, sm_congr (g := fun i => f (i + 1)) k fun i hi => by rw [Nat.mod_eq_of_lt (by omega)]]
    exact sm_shift f k
theorem sm_range (f : Nat → Int) : ∀ n, ((List.range n).map f).sum = sm f n
  | 0 => rfl
  | n + 1 => by
    rw [List.range_succ, List.map_append, List.sum_append, sm_range f n]
    show sm f n + (f n + 0) = _
    rw [Int.add_zero]
    rfl
theorem sm_nn {f : Nat → Int} : ∀ n, (∀ i, i < n → 0 ≤ f i ∧ f i ≤ 1) → 0 ≤ sm f n ∧ sm f n ≤ (n : Int)
  | 0, _ => ⟨Int.le_refl _, Int.le_refl _⟩
  | n + 1, h => by
    have h1 := sm_nn n fun i hi => h i (Nat.lt_succ_of_lt hi)
    have h2 := h n (Nat.lt_succ_self n)
    constructor
    · show 0 ≤ sm f n + f n; omega
    · show sm f n + f n ≤ ((n + 1 : Nat) : Int); omega
/-! ### ranks on a ring -/
def rk (ro rg : List Str) (i : Nat) : Int := (rowOf ro rg).getD i 0
theorem fallsN_sm (ro rg : List Str) : fallsN ro rg = sm (fun i => if rk ro rg ((i + 1) % rg.length) < rk ro rg i then 1 else 0) rg.length := by
  have hl : (rowOf ro rg).length = rg.length := by rw [rowOf, List.length_map]
  unfold fallsN fallsOf
  rw [List.map_map, hl, ← sm_range]
  congr 1
  refine List.map_congr_left fun i _ => ?_
  show b01 (fallsAt (rowOf ro rg) i) = _
  unfold b01 fallsAt rk
  rw [hl]
  by_cases c : (rowOf ro rg).getD ((i + 1) % rg.length) 0 < (rowOf ro rg).getD i 0
  · rw [if_pos c, if_pos (decide_eq_true c)]
  · rw [if_neg c, if_neg (by rw [decide_eq_false c]; exact Bool.false_ne_true)]
theorem rk_get {ro rg : List Str} {i : Nat} (h : i < rg.length) : rk ro rg i = ((rank ro rg[i] : Nat) : Int) := by
  unfold rk rowOf
  rw [List.getD_eq_getElem?_getD, List.getElem?_map, List.getElem?_eq_getElem h] <;> rfl
theorem fallsN_bd (ro rg : List Str) : 0 ≤ fallsN ro rg ∧ fallsN ro rg ≤ (rg.length : Int) := by
  rw [fallsN_sm]
  exact sm_nn _ fun i _ => by split <;> omega
theorem rank_turn {ro : List Str} (nd : ro.Nodup) {c : Nat} (hc : c ≤ ro.length) {n : Str} (hn : n ∈ ro) : rank (ro.drop c ++ ro.take c) n = if rank ro n < c then rank ro n + (ro.length - c) else rank ro n - c := by
  have hl := rank_lt hn
  have hg := rank_get hn
  have nd2 : (ro.drop c ++ ro.take c).Nodup := by
    have : (ro.drop c ++ ro.take c).Perm ro := List.perm_append_comm.trans (by rw [List.take_append_drop])
    exact this.nodup_iff.mpr nd
  refine rank_at nd2 ?_
  by_cases h : rank ro n < c
  · rw [if_pos h, List.getElem?_append_right (by rw [List.length_drop]; omega), List.length_drop, Nat.add_sub_cancel, List.getElem?_take, if_pos h]
    exact hg
  · rw [if_neg h, List.getElem?_append_left (by rw [List.length_drop]; omega), List.getElem?_drop, show c + (rank ro n - c) = rank ro n by omega]
    exact hg
theorem falls_turn {ro rg : List Str} (nd : ro.Nodup) {c : Nat} (hc : c ≤ ro.length) (hs : ∀ n ∈ rg, n ∈ ro) : fallsN (ro.drop c ++ ro.take c) rg = fallsN ro rg := by
  rw [fallsN_sm, fallsN_sm]
  let h : Nat → Int := fun i => if rk ro rg i < (c : Int) then 1 else 0
  have key : ∀ i, i < rg.length → (if rk (ro.drop c ++ ro.take c) rg ((i + 1) % rg.length) < rk (ro.drop c ++ ro.take c) rg i then (1 : Int) else 0) = ((if rk ro rg ((i + 1) % rg.length) < rk ro rg i then (1 : Int) else 0) + (h i - h ((i + 1) % rg.length))) := by
    intro i hi
    have hj : (i + 1) % rg.length < rg.length := Nat.mod_lt _ (by omega)
    generalize (i + 1) % rg.length = j at hj
    have a1 := hs _ (List.getElem_mem hi)
    have b1 := hs _ (List.getElem_mem hj)
    show _ = _ + ((if rk ro rg i < (c : Int) then (1 : Int) else 0) - (if rk ro rg j < (c : Int) then (1 : Int) else 0))
    rw [rk_get hi, rk_get hj, rk_get hi, rk_get hj, rank_turn nd hc a1, rank_turn nd hc b1]
    have la := rank_lt a1
    have lb := rank_lt b1
    generalize rank ro rg[i] = a at la
    generalize rank ro rg[j] = b at lb
    by_cases ca : a < c <;> by_cases cb : b < c <;> by_cases cc : b < a
    all_goals
      simp only [ca, cb, if_true, if_false]
      split <;> split <;> (first | (split <;> split <;> omega) | (split <;> omega) | omega)
  rw [sm_congr _ key, sm_add, sm_sub, sm_cyc h]
  omega
theorem falls_back {ro rg : List Str} (nd : ro.Nodup) (hs : ∀ n ∈ rg, n ∈ ro) (nr : rg.Nodup) (h2 : 2 ≤ rg.length) : fallsN ro.reverse rg = (rg.length : Int) - fallsN ro rg := by
  rw [fallsN_sm, fallsN_sm]
  have key : ∀ i, i < rg.length → (if rk ro.reverse rg ((i + 1) % rg.length) < rk ro.reverse rg i then (1 : Int) else 0) = ((fun _ => (1 : Int)) i - (if rk ro rg ((i + 1) % rg.length) < rk ro rg i then (1 : Int) else 0)) := by
    intro i hi
    have hj : (i + 1) % rg.length < rg.length := Nat.mod_lt _ (by omega)
    have hne : (i + 1) % rg.length ≠ i := by
      by_cases c : i + 1 < rg.length
      · rw [Nat.mod_eq_of_lt c]; omega
      · have : i + 1 = rg.length := by omega
        rw [this, Nat.mod_self]; omega
    generalize (i + 1) % rg.length = j at hj hne
    have a1 := hs _ (List.getElem_mem hi)
    have b1 := hs _ (List.getElem_mem hj)
    rw [rk_get hi, rk_get hj, rk_get hi, rk_get hj, rank_rev nd a1, rank_rev nd b1]
    have la := rank_lt a1
    have lb := rank_lt b1
    have hd : rank ro rg[i] ≠ rank ro rg[j] := fun z => hne ((List.getElem_inj nr).mp (rank_inj (ns := ro) a1 z b1)).symm
    generalize rank ro rg[i] = a at la hd
    generalize rank ro rg[j] = b at lb hd
    show _ = (1 : Int) - _
    by_cases cc : b < a
    · rw [if_pos (by omega : ((b : Nat) : Int) < (a : Int)), if_neg (by omega)]; omega
    · rw [if_neg (by omega : ¬ ((b : Nat) : Int) < (a : Int)), if_pos (by omega)]; omega
  rw [sm_congr _ key, sm_sub, sm_one]
/-! ### a rota turned -/
theorem turn_ok {W : Web} {ro : List Str} {c : Nat} (rk' : RotaOk W ro) : RotaOk W (ro.drop c ++ ro.take c) := by
  have hp : (ro.drop c ++ ro.take c).Perm ro := List.perm_append_comm.trans (by rw [List.take_append_drop])
  exact ⟨hp.length_eq.trans rk'.len, hp.nodup_iff.mpr rk'.nd, fun n hn => rk'.sub n (hp.mem_iff.mp hn)⟩
theorem turn_get {ro : List Str} {c i : Nat} (hc : c ≤ ro.length) (hi : i < ro.length) : (ro.drop c ++ ro.take c)[i]? = ro[(i + c) % ro.length]? := by
  by_cases h : i < ro.length - c
  · rw [List.getElem?_append_left (by rw [List.length_drop]; exact h), List.getElem?_drop, Nat.mod_eq_of_lt (by omega), Nat.add_comm]
  · have e : (i + c) % ro.length = i + c - ro.length := by
      rw [Nat.mod_eq_sub_mod (by omega), Nat.mod_eq_of_lt (by omega)]
    rw [List.getElem?_append_right (by rw [List.length_drop]; omega), List.length_drop, List.getElem?_take, if_pos (by omega), e, show i - (ro.length - c) = i + c - ro.length by omega]
theorem turn_turn {ro : List Str} {c : Nat} (hc : c ≤ ro.length) : (ro.drop c ++ ro.take c).drop (ro.length - c) ++ (ro.drop c ++ ro.take c).take (ro.length - c) = ro := by
  have hl : (ro.drop c).length = ro.length - c := List.length_drop ..
  rw [← hl, List.drop_left, List.take_left, List.take_append_drop]
/-! ### what is shown -/
abbrev dT (ss : List Str) : PyData := .tuple (ss.map PyData.str)
theorem show_all : ∀ ss : List Str, PyData.showableAll (ss.map PyData.str) = true
  | [] => rfl
  | s :: ss => by
    show (PyData.showable (.str s) && PyData.showableAll (ss.map PyData.str)) = true
    rw [show_all ss]; rfl
theorem nodict_all : ∀ ss : List Str, PyData.hasDictAll (ss.map PyData.str) = false
  | [] => rfl
  | s :: ss => by
    show (PyData.hasDict (.str s) || PyData.hasDictAll (ss.map PyData.str)) = false
    rw [nodict_all ss]; rfl
theorem short_all : ∀ ss : List Str, PyData.intsShortAll 13 (ss.map PyData.str) = true
  | [] => rfl
  | s :: ss => by
    show (PyData.intsShort 13 (.str s) && PyData.intsShortAll 13 (ss.map PyData.str)) = true
    rw [short_all ss]; rfl
theorem weight_all : ∀ ss : List Str, (∀ s ∈ ss, s.length ≤ 8) → PyData.weightAll (ss.map PyData.str) ≤ 9 * ss.length
  | [], _ => Nat.le_refl _
  | s :: ss, h => by
    have ih := weight_all ss fun y hy => h y (List.mem_cons_of_mem _ hy)
    have h8 := h s List.mem_cons_self
    show PyData.weight (.str s) + 1 + PyData.weightAll (ss.map PyData.str) ≤ 9 * (ss.length + 1)
    have : PyData.weight (.str s) = s.length := rfl
    omega
structure Shows (d : PyData) : Prop where
  s : d.showable = true
  n : d.hasDict = false
  z : d.depth ≤ 32
  l : d.shown.length ≤ sizeLine
theorem shows_t {ss : List Str} (hn : ∀ s ∈ ss, NameOk s) (hl : ss.length ≤ 14) : Shows (dT ss) := by
  have hd := depth_all ss
  have hw := weight_all ss fun s hs => (hn s hs).le
  have hD : (dT ss).depth ≤ 2 := by
    simp only [dT, PyData.depth]
    omega
  refine ⟨show_all ss, nodict_all ss, by omega, ?_⟩
  have h := shown_le13 (d := dT ss) ?_ (short_all ss)
  · have : sizeLine = 16777216 := sizeLine_eq
    omega
  · show (PyData.canLay0 (dT ss) && decide (PyData.depth (dT ss) ≤ 64) && decide (PyData.weight (dT ss) ≤ 2 ^ 20)) = true
    rw [Bool.and_eq_true, Bool.and_eq_true]
    refine ⟨⟨lay_all ss fun s hs => (hn s hs).strOk, decide_eq_true (by omega)⟩, decide_eq_true ?_⟩
    show PyData.weightAll (ss.map PyData.str) ≤ 2 ^ 20
    have : (2 : Nat) ^ 20 = 1048576 := by decide
    omega
def d2 (i j : Int) : PyData := .tuple [.int i, .int j]
theorem shows_2 {i j : Int} (hi : 0 ≤ i ∧ i ≤ 14) (hj : 0 ≤ j ∧ j ≤ 14) : Shows (d2 i j) := by
  obtain ⟨a, rfl⟩ := Int.eq_ofNat_of_zero_le hi.1
  obtain ⟨b, rfl⟩ := Int.eq_ofNat_of_zero_le hj.1
  have ha : a < 15 := by omega
  have hb : b < 15 := by omega
  have h : ∀ a b : Fin 15, (PyData.showable (d2 (a.val : Int) (b.val : Int)) && !PyData.hasDict (d2 (a.val : Int) (b.val : Int)) && decide (PyData.depth (d2 (a.val : Int) (b.val : Int)) ≤ 32) && decide ((PyData.shown (d2 (a.val : Int) (b.val : Int))).length ≤ 1000)) = true := by decide +kernel
  have q := h ⟨a, ha⟩ ⟨b, hb⟩
  rw [Bool.and_eq_true, Bool.and_eq_true, Bool.and_eq_true] at q
  refine ⟨q.1.1.1, ?_, of_decide_eq_true q.1.2, sz_of (Nat.le_trans (of_decide_eq_true q.2) (by decide))⟩
  have := q.1.1.2
  simpa using this
end RP
/-! part RPg2 -/
/-! the law's def -/
namespace RP
open PySem PySem.Spec PyProof.Rows L2 Evl
theorem TF.ef {f a : Addr} {n : Nat} {H H' : Hp} {ss : List Str} (h : TF H a ss) (e : Ef f H H') (hF : Feed H f n) : TF H' a ss := by
  obtain ⟨o, h1, h2⟩ := h
  refine ⟨o, e a _ (fun z => ?_) h1, h2⟩
  obtain ⟨x, y, w, h3, _⟩ := hF
  rw [z, h3] at h1
  cases h1
theorem WebAt.ef {f a p q : Addr} {n : Nat} {H H' : Hp} {W : Web} {trs : List (Addr × Road)} (h : WebAt H a W p q trs) (e : Ef f H H') (hF : Feed H f n) : WebAt H' a W p q trs :=
  ⟨h.w.ef e hF, TF.ef h.ps e hF, ⟨h.rs.1.ef e hF, fun x hx => (h.rs.2 x hx).ef e hF⟩, h.e⟩
theorem RingV.ex {W : Web} {v : V} {H H' : Hp} (e : Ex H H') (h : RingV W v H) : RingV W v H' := by
  rcases h with h | ⟨d, rg, h1, h2, h3, h4⟩
  · exact .inl h
  · exact .inr ⟨d, rg, h1, h2.ex e, h3, h4⟩
theorem RingV.ef {f : Addr} {n : Nat} {W : Web} {v : V} {H H' : Hp} (h : RingV W v H) (e : Ef f H H') (hF : Feed H f n) : RingV W v H' := by
  rcases h with h | ⟨d, rg, h1, h2, h3, h4⟩
  · exact .inl h
  · exact .inr ⟨d, rg, h1, TF.ef h2 e hF, h3, h4⟩
theorem ring14 {W : Web} {rg : List Str} (ok : WebOk W) (rk : RingOk W.rs W.ps rg) : rg.length ≤ 14 := by
  have h := nodup_le rk.nd rk.sub
  rw [List.length_map] at h
  exact Nat.le_trans h ok.r14
theorem k_asgG {te : TE} {g : TG} {σ : L2.St} {H : Hp} {D : Ends} (h : te σ H fun v H1 => g v σ H1 D.nx) : tAsg te g D σ H := h
section
variable {K : PySem.W.Frag} {σ : L2.St} {H : Hp} {te : TE} {a : Addr} {xs : List V}
/-- repr of what is told by its data -/
theorem ev_repr {d : PyData} (h : EvP te σ H (fun v H' => ∃ a, v = .ref a ∧ Dp K H' (.ref a) d)) (hs : Shows d) : Ev (tCB (rReprD K) (tCons te tNil)) σ H (.str d.shown) := fun H1 e Q q =>
  h H1 e _ fun v H2 e2 hv => by
    obtain ⟨a, rfl, hd⟩ := hv
    exact ⟨a, d, rfl, hd, hs.s, hs.n, hs.z, hs.l, q H2 e2⟩
theorem evp_rev (h : Ev te σ H (.ref a)) (hx : Tp H a xs) : EvP (tRevT K te) σ H (IsTp xs.reverse) := fun H1 e Q q =>
  h H1 e _ fun H2 e2 => ⟨a, xs, rfl, .inl (ex_rd (e.trans e2) hx), fun p o np _ => q _ _ (e2.trans (Ex.new np)) ⟨p, rfl, .inr ⟨o, upd_same⟩⟩⟩
theorem dp_t {ss : List Str} (h : Tp H a (ss.map V.str)) : Dp K H (.ref a) (dT ss) := .tup (.inl h) (dp_all ss)
theorem dp_2 {i j : Int} (h : Tp H a [.int i, .int j]) : Dp K H (.ref a) (d2 i j) := .tup (.inl h) (.cons (.int i) (.cons (.int j) .nil))
theorem EvP.imp {P P' : V → Hp → Prop} (h : EvP te σ H P) (i : ∀ v H', P v H' → P' v H') : EvP te σ H P' := fun H1 e Q q => h H1 e Q fun v H2 e2 p => q v H2 e2 (i v H2 p)
theorem ev_reprT {ss : List Str} (h : EvP te σ H (IsTp (ss.map V.str))) (hs : Shows (dT ss)) : Ev (tCB (rReprD K) (tCons te tNil)) σ H (.str (dT ss).shown) := ev_repr (h.imp fun v H' ⟨p, e, hp⟩ => ⟨p, e, dp_t hp⟩) hs
theorem ev_reprV {ss : List Str} (h : Ev te σ H (.ref a)) (ht : Tp H a (ss.map V.str)) (hs : Shows (dT ss)) : Ev (tCB (rReprD K) (tCons te tNil)) σ H (.str (dT ss).shown) := ev_reprT (Ev.p h fun H1 e => ⟨a, rfl, ex_rd e ht⟩) hs
theorem ev_repr2 {i j : Int} (h : EvP te σ H (IsTp [.int i, .int j])) (hs : Shows (d2 i j)) : Ev (tCB (rReprD K) (tCons te tNil)) σ H (.str (d2 i j).shown) := ev_repr (h.imp fun v H' ⟨p, e, hp⟩ => ⟨p, e, dp_2 hp⟩) hs
end
/-- the falls of the ring, where there is one -/
def FalV (W : Web) (ro : List Str) (rv v : V) (H : Hp) : Prop := (rv = .non ∧ v = .non) ∨ ∃ d rg a8, rv = .ref d ∧ TF H d rg ∧ RingOk W.rs W.ps rg ∧ v = .ref a8 ∧ Tp H a8 [.int (fallsN ro rg), .int ((rg.length : Int) - fallsN ro rg)]
theorem FalV.ex {W : Web} {ro : List Str} {rv v : V} {H H' : Hp} (e : Ex H H') (h : FalV W ro rv v H) : FalV W ro rv v H' := by
  rcases h with h | ⟨d, rg, a8, h1, h2, h3, h4, h5⟩
  · exact .inl h
  · exact .inr ⟨d, rg, a8, h1, h2.ex e, h3, h4, ex_rd e h5⟩
theorem et_yes {σ : L2.St} {H : Hp} : EvT tYes σ H true := fun H1 _ Q q => q H1 (Ex.refl _)
theorem shows_lap {W : Web} {ro rg : List Str} (ok : WebOk W) (gk : RingOk W.rs W.ps rg) : Shows (d2 (fallsN ro rg) ((rg.length : Int) - fallsN ro rg)) ∧ Shows (d2 ((rg.length : Int) - fallsN ro rg) (fallsN ro rg)) := by
  have b := fallsN_bd ro rg
  have l := ring14 ok gk
  exact ⟨shows_2 ⟨by omega, by omega⟩ ⟨by omega, by omega⟩, shows_2 ⟨by omega, by omega⟩ ⟨by omega, by omega⟩⟩
theorem given_all (n : Nat) (v : Nat → V) : given n (fun _ => true) v = (List.range n).map v := by
  unfold given
  rw [List.filter_eq_self.mpr fun _ _ => rfl]
section
variable {P : Program} {w : World} {K : PySem.W.Frag} {mg : Str → Option Value} {base : Heap} {tk : Nat → Tok}
theorem spp_backwards {a p q b : Addr} {W : Web} {trs : List (Addr × Road)} {ro : List Str} {H : Hp} (h : WebAt H a W p q trs) (ok : WebOk W) (hb : Tp H b (ro.map V.str)) (rk : RotaOk W ro) : SpP sp_backwards [.ref a, .ref b] H (fun v H' => ∃ d, v = .ref d ∧ TF H' d ro.reverse) := fun H1 e Q k E =>
  ⟨a, p, q, b, W, trs, ro, rfl, h.ex e, ok, ex_rd e hb, rk, fun d H' e' hd => k _ H' e' ⟨d, rfl, hd⟩⟩
theorem spp_turned {a p q b : Addr} {W : Web} {trs : List (Addr × Road)} {ro : List Str} {c : Nat} {H : Hp} (h : WebAt H a W p q trs) (ok : WebOk W) (hb : TF H b ro) (rk : RotaOk W ro) (hc : c ≤ ro.length) : SpP sp_turned_rota [.ref a, .ref b, .int (c : Int)] H (fun v H' => ∃ d, v = .ref d ∧ TF H' d (ro.drop c ++ ro.take c)) := fun H1 e Q k E =>
  ⟨a, p, q, b, W, trs, ro, c, rfl, h.ex e, ok, hb.ex e, rk, hc, fun d H' e' hd => k _ H' e' ⟨d, rfl, hd⟩⟩
theorem spp_lap {a p q b c : Addr} {W : Web} {trs : List (Addr × Road)} {ro rg : List Str} {H : Hp} (h : WebAt H a W p q trs) (ok : WebOk W) (hb : TF H b ro) (rk : RotaOk W ro) (hc : Tp H c (rg.map V.str)) (gk : RingOk W.rs W.ps rg) : SpP sp_lap [.ref a, .ref b, .ref c] H (IsTp [.int (fallsN ro rg), .int ((rg.length : Int) - fallsN ro rg)]) := fun H1 e Q k E =>
  ⟨a, p, q, b, c, W, trs, ro, rg, rfl, h.ex e, ok, hb.ex e, rk, ex_rd e hc, Nat.le_trans (ring14 ok gk) (by decide), gk, fun d H' _ e' hd => k _ H' e' ⟨d, rfl, .inl hd⟩⟩
def sp_law (K : PySem.W.Frag) : Sp := fun vs H Q _ => ∃ (s : Addr) (ns : List Int), vs = [.ref s] ∧ SqL K H s (ns.map V.int) ∧ ns.length ≤ 1000 ∧ ∀ H', Ex H H' → Q (.bl true) H'
theorem body_law (T : Top mg tk) (c_law_feed : Cal P w K mg base 1 "_law_feed" (sp_law_feed K)) (c_law_draw : Cal P w K mg base 1 "_law_draw" sp_law_draw) (c_law_wide_web : Cal P w K mg base 4 "_law_wide_web" sp_law_wide_web) (c_law_web : Cal P w K mg base 4 "_law_web" sp_law_web)
    (c_law_one : Cal P w K mg base 2 "_law_one" sp_law_one) (c_law_rota : Cal P w K mg base 3 "_law_rota" sp_law_rota) (c_ring_of : Cal P w K mg base 5 "ring_of" sp_ring_of) (c_backwards : Cal P w K mg base 5 "backwards" sp_backwards) (c_lap : Cal P w K mg base 6 "lap" sp_lap) (c_turned_rota : Cal P w K mg base 5 "turned_rota" sp_turned_rota)
    (c_law_is_tree : Cal P w K mg base 2 "_law_is_tree" sp_law_is_tree) (c_law_days_right : Cal P w K mg base 7 "_law_days_right" sp_law_days_right) {gV1 gV2 : List V → List V → List V} (kc_backwards : CalK P w K mg base 5 "backwards" ["rota", "web"] gV1 sp_backwards) (hg1 : ∀ r v, gV1 [] [r, v] = [v, r])
    (kc_turned_rota : CalK P w K mg base 5 "turned_rota" ["count", "rota", "web"] gV2 sp_turned_rota) (hg2 : ∀ c r v, gV2 [] [c, r, v] = [v, r, c])
    (f : Addr) (cdv : Value) (A : Around) (outer : List Env) (s : Shared) (H : Hp) (vs : List V) (Q : VK) (E : XK) (hr : Room 7 (A.deeper (envOfC "law" (defScope s_law) s.heap.objs.size f cdv))) (hG : A.guards = some []) (h : sp_law K vs H Q E) :
      ∃ t, PSs (cxOf CX0 P w K mg base N_law "law" (defScope s_law) f cdv A outer s H E).nox (defBody s_law) t ∧ t { nx := fun _ H' => Q .non H', rt := Q } (start N_law vs) H := by
  obtain ⟨s0, ns, rfl, hs, hl, k⟩ := h
  have hu := hu_of hr
  have hgd : (A.deeper (envOfC "law" (defScope s_law) s.heap.objs.size f cdv)).guards = some [] := hG
  refine ⟨_, (pss_cons (ps_for PassesOwn.never rfl (pi_range1 (by rfl) T.range (pa_cons pe_int pa_nil)) (pg_name (i := 1) sc_law.nd rfl (.inl rfl)) (pss_cons (ps_set (i := 2) sc_law.nd rfl (.inl rfl) (pc c_law_feed hr (by decide) (by rfl) (pa_cons (pv 0) (pa_cons (pv 1) pa_nil))))
        (pss_cons (ps_set (i := 3) sc_law.nd rfl (.inl rfl) (pe_ifExp (pt_cmpR op_eq (pc c_law_draw hr (by decide) (by rfl) (pa_cons (pv 2) (pa_cons pe_int pa_nil))) pe_int (nomark _)) (pc c_law_wide_web hr (by decide) (by rfl) (pa_cons (pv 2) pa_nil)) (pc c_law_web hr (by decide) (by rfl) (pa_cons (pv 2) (pa_cons (pc c_law_one hr (by decide) (by rfl) (pa_cons (pv 2) (pa_cons (pe_lst (pa_cons pe_str (pa_cons pe_str (pa_cons pe_str (pa_cons pe_str pa_nil))))) pa_nil))) pa_nil)))))
        (pss_cons (ps_asg (pe_tup (pa_cons (pc c_law_rota hr (by decide) (by rfl) (pa_cons (pv 2) (pa_cons (pv 3) pa_nil))) (pa_cons (pc c_ring_of hr (by decide) (by rfl) (pa_cons (pv 3) pa_nil)) pa_nil))) (pg_tup rfl (pgs_cons (pg_name (i := 4) sc_law.nd rfl (.inr rfl)) (pgs_cons (pg_name (i := 5) sc_law.nd rfl (.inl rfl)) pgs_nil))))
        (pss_cons (ps_asg (pe_tup (pa_cons (pc c_backwards hr (by decide) (by rfl) (pa_cons (pv 3) (pa_cons (pv 4) pa_nil))) (pa_cons (pe_callB (r := Evl.rLenS K) call_len_seq (by rfl) T.len PySem.boot_len (pa_cons (pe_ix (r := rIxT K) ix_tup (pv 3) pe_int (fun _ _ => rfl)) pa_nil)) pa_nil))) (pg_tup rfl (pgs_cons (pg_name (i := 6) sc_law.nd rfl (.inl rfl)) (pgs_cons (pg_name (i := 7) sc_law.nd rfl (.inr rfl)) pgs_nil))))
        (pss_cons (ps_if (PW.pt (pw_or (pt_cmpR op_ne (pe_callB (cr_reprD hr hgd) (by rfl) T.repr (by decide +kernel) (pa_cons (pv 6) pa_nil)) (pe_callB (cr_reprD hr hgd) (by rfl) T.repr (by decide +kernel) (pa_cons (pe_revT (pv 4)) pa_nil)) (nomark _)) (pw_or1 (pt_cmpR op_ne (pe_callB (cr_reprD hr hgd) (by rfl) T.repr (by decide +kernel) (pa_cons (pck0 kc_backwards hr (by decide) (by rfl) (pk_cons (pv 6) (pk_cons (pv 3) pk_nil))) pa_nil)) (pe_callB (cr_reprD hr hgd) (by rfl) T.repr (by decide +kernel) (pa_cons (pv 4) pa_nil)) (nomark _))))) (pss_one (ps_ret pe_bl)) pss_nil)
        (pss_cons (ps_set (i := 8) sc_law.nd rfl (.inl rfl) (pe_ifExp (pt_cmpR op_notN1 (pv 5) pe_non (nomark _)) (pc c_lap hr (by decide) (by rfl) (pa_cons (pv 3) (pa_cons (pv 4) (pa_cons (pv 5) pa_nil)))) pe_non))
        (pss_cons (ps_for PassesOwn.never rfl (pi_range1 (by rfl) T.range (pa_cons (pe_op op_add (pv 7) pe_int) pa_nil)) (pg_name (i := 9) sc_law.nd rfl (.inr rfl)) (pss_cons (ps_set (i := 10) sc_law.nd rfl (.inl rfl) (pc c_turned_rota hr (by decide) (by rfl) (pa_cons (pv 3) (pa_cons (pv 4) (pa_cons (pv 9) pa_nil)))))
        (pss_cons (ps_if (pt_cmpR op_ne (pe_callB (cr_reprD hr hgd) (by rfl) T.repr (by decide +kernel) (pa_cons (pv 10) pa_nil)) (pe_callB (cr_reprD hr hgd) (by rfl) T.repr (by decide +kernel) (pa_cons (pe_callTy (r := rTupS K) call_tupF (by rfl) T.tuple (by decide +kernel) (pa_cons (pe_lc (g := (gName 12)) (own := [("_law_at", 12)]) rfl sc_law.nd (pi_range1 (by rfl) T.range (pa_cons (pv 7) pa_nil)) (blkOk_by (N := N_law) (sc := defScope s_law) (by decide +kernel)) (fun _ _ _ _ _ => (pg_name (i := 12) sc_law.nd rfl (.inl rfl))) (fun _ _ _ _ _ => pts_nil) (fun _ _ _ _ _ => (pe_ix (r := rIxT K) ix_tup (pv 4) (pe_op op_modN (pe_callTy (r := rInt1) call_int1 (by rfl) T.int (by decide +kernel) (pa_cons (pe_op op_add (pv 12) (pv 9)) pa_nil)) (pv 7)) (fun _ _ => rfl)))) pa_nil)) pa_nil)) (nomark _)) (pss_one (ps_ret pe_bl)) pss_nil)
        (pss_cons (ps_if (pt_cmpR (r := rNeD K) (op_neD hr.units) (pck0 kc_turned_rota hr (by decide) (by rfl) (pk_cons (pe_op op_sub (pv 7) (pv 9)) (pk_cons (pv 10) (pk_cons (pv 3) pk_nil)))) (pv 4) (nomark _)) (pss_one (ps_ret pe_bl)) pss_nil)
        (pss_one (ps_if (PW.pt (pw_and (pt_cmpR op_notN1 (pv 5) pe_non (nomark _)) (pw_and1 (pt_cmpR op_ne (pe_callB (cr_reprD hr hgd) (by rfl) T.repr (by decide +kernel) (pa_cons (pc c_lap hr (by decide) (by rfl) (pa_cons (pv 3) (pa_cons (pv 10) (pa_cons (pv 5) pa_nil)))) pa_nil)) (pe_callB (cr_reprD hr hgd) (by rfl) T.repr (by decide +kernel) (pa_cons (pv 8) pa_nil)) (nomark _))))) (pss_one (ps_ret pe_bl)) pss_nil))))))
        (pss_cons (ps_if (PW.pt (pw_and (pt_cmpR op_notN1 (pv 5) pe_non (nomark _)) (pw_and1 (pt_cmpR op_ne (pe_callB (cr_reprD hr hgd) (by rfl) T.repr (by decide +kernel) (pa_cons (pc c_lap hr (by decide) (by rfl) (pa_cons (pv 3) (pa_cons (pv 6) (pa_cons (pv 5) pa_nil)))) pa_nil)) (pe_callB (cr_reprD hr hgd) (by rfl) T.repr (by decide +kernel) (pa_cons (pe_revT (pv 8)) pa_nil)) (nomark _))))) (pss_one (ps_ret pe_bl)) pss_nil)
        (pss_cons (ps_set (i := 11) sc_law.nd rfl (.inl rfl) (pc c_turned_rota hr (by decide) (by rfl) (pa_cons (pv 3) (pa_cons (pv 4) (pa_cons (pc c_law_draw hr (by decide) (by rfl) (pa_cons (pv 2) (pa_cons (pe_op op_add (pv 7) pe_int) pa_nil))) pa_nil)))))
        (pss_one (ps_if (PW.pt (pw_and (pt_val (pc c_law_is_tree hr (by decide) (by rfl) (pa_cons (pv 3) pa_nil))) (pw_and1 (pt_not (pt_val (pc c_law_days_right hr (by decide) (by rfl) (pa_cons (pv 3) (pa_cons (pv 4) (pa_cons (pv 11) (pa_cons (pv 6) pa_nil)))))))))) (pss_one (ps_ret pe_bl)) pss_nil))))))))))))
        (pss_one (ps_ret pe_bl))), ?_⟩
  refine q_forR1 (n := 3) (ea_cons ev_c ea_nil) ⟨by decide, by decide⟩ (fun i σ2 H2 => ∃ (y1 y2 y3 y4 y5 y6 y7 y8 y9 y10 y11 : Option V), σ2 = [some (.ref s0), y1, y2, y3, y4, y5, y6, y7, y8, y9, y10, y11, none] ∧ Ex H H2)
    (fun H1 e1 => ⟨none, none, none, none, none, none, none, none, none, none, none, rfl, e1⟩) ?_ ?_
  · rintro i σ2 H2 hi ⟨y1, y2, y3, y4, y5, y6, y7, y8, y9, y10, y11, rfl, e2⟩
    -- the feed
    refine q_asgP (P := fun v H' => ∃ f0, v = .ref f0 ∧ H2 f0 = none ∧ Feed H' f0 0) (evp_call (ea_cons (ev_var rfl) (ea_cons (ev_var (v := .int (i : Int)) rfl) ea_nil)) fun H3 e3 Q3 q3 E3 => ⟨s0, ns, i, rfl, ex_l (e2.trans e3) hs, hl, by omega, fun f0 H6 n6 e6 hF => q3 _ H6 e6 ⟨f0, rfl, fresh_back e3 n6, hF⟩⟩) fun v H3 e3 hv => ?_
    obtain ⟨f0, rfl, n2, hF3⟩ := hv
    have nf : H f0 = none := fresh_back e2 n2
    have e03 := e2.trans e3
    -- the web
    refine k_qasg (k_by (fun v H' => ∃ a p q W trs, v = .ref a ∧ WebAt H' a W p q trs ∧ WebOk W ∧ Ef f0 H3 H' ∧ Feed H' f0 1100) (fun Q' q' => ?_) fun v H4 hv => ?_)
    · refine k_if (k_tst (k_op (k_draw (m := 4) (ev_var rfl) ev_c (by decide) (by decide) hF3 (by omega) fun r H4 e4 hF4 _ _ => k_at ev_c fun H5 e5 => ⟨rfl, decide (V.int r = V.int 0), rfl, ?_⟩)))
      have e35 := e4.trans (ef_of e5)
      have hF5 := hF4.ex e5
      by_cases hc : decide (V.int r = V.int 0) = true
      · refine (if_pos hc).mpr (k_call (k_cons (k_at (ev_var rfl) fun H6 e6 => k_nil ⟨f0, 1, rfl, hF5.ex e6, by decide, fun a p q W trs H7 e7 hF7 hW ok => ?_⟩)))
        exact q' _ H7 ⟨a, p, q, W, trs, rfl, hW, ok, (e35.trans (ef_of e6)).trans e7, hF7.le (by decide)⟩
      · refine (if_neg hc).mpr (k_call (k_cons (k_at (ev_var rfl) fun H6 e6 => k_cons (k_oneL (xs := [.str "tree", .str "tree", .str "whole", .str "any"]) (ev_var rfl) (el_lst (ea_cons ev_c (ea_cons ev_c (ea_cons ev_c (ea_cons ev_c ea_nil)))) (by show 4 ≤ 100000; decide)) (by show 1 ≤ 4; decide) (by show 4 ≤ 1000; decide) (hF5.ex e6) (by decide) fun v H7 e7 hF7 hv => k_nil ?_))))
        have hv2 : ∃ way : Str, v = .str way := by
          simp only [List.mem_cons, List.not_mem_nil, or_false] at hv
          rcases hv with rfl | rfl | rfl | rfl <;> exact ⟨_, rfl⟩
        obtain ⟨way, rfl⟩ := hv2
        exact ⟨f0, way, 2, rfl, hF7, by decide, fun a p q W trs H8 e8 hF8 hW ok => q' _ H8 ⟨a, p, q, W, trs, rfl, hW, ok, ((e35.trans (ef_of e6)).trans e7).trans e8, hF8.le (by decide)⟩⟩
    obtain ⟨a, p, q, W, trs, rfl, hW4, ok, e34, hF4⟩ := hv
    have hr14 := ok.r14
    -- rota, ring
    refine k_seq (k_asgG (k_tup (k_cons (k_call (k_cons (k_at (ev_var rfl) fun H5 e5 => k_cons (k_at (ev_var rfl) fun H6 e6 => k_nil ⟨f0, a, p, q, W, trs, 1100, rfl, hW4.ex (e5.trans e6), ok, hF4.ex (e5.trans e6), by decide, fun b ro H7 e7 hF7 hb7 rk => ?_⟩)))))))
    have hF6 := hF4.ex (e5.trans e6)
    have hW7 := (hW4.ex (e5.trans e6)).ef e7 hF6
    refine k_cons (k_atP (evp_call (P := fun v H' => RingV W v H') (ea_cons (ev_var rfl) ea_nil) fun H8 e8 Q8 q8 E8 => ⟨a, p, q, W, trs, rfl, hW7.ex e8, ok, fun v H' e' hv => q8 v H' e' hv⟩) fun rv H8 e8 hrv => k_nil ⟨sz_of (by show 2 ≤ 100000; decide), fun t9 n9 => g2_of (tp_of upd_same) ?_⟩)
    have e48 : Ef f0 H3 (upd H8 t9 (.tup [.ref b, rv])) := ((e34.trans (ef_of (e5.trans e6))).trans e7).trans (ef_of (e8.trans (Ex.new n9)))
    have e79 : Ex H7 (upd H8 t9 (.tup [.ref b, rv])) := e8.trans (Ex.new n9)
    have hW9 := hW7.ex e79
    have hb9 := hb7.ex e79
    have hrv9 := hrv.ex (Ex.new n9 (o := .tup [.ref b, rv]))
    have hF9 := hF7.ex e79
    generalize upd H8 t9 (.tup [.ref b, rv]) = H9 at e48 e79 hW9 hb9 hrv9 hF9 ⊢
    have htl := trs_len hW9.e
    have hrl := rk.len
    have lr : (trs.map fun x => V.ref x.1).length = W.rs.length := by rw [List.length_map, htl]
    -- back, many
    refine k_seq (k_asgG (k_tup (k_cons (k_atP (evp_call (ea_cons (ev_var rfl) (ea_cons (ev_var rfl) ea_nil)) (spp_backwards hW9 ok hb9.tp rk)) fun v H10 e10 hv => ?_))))
    obtain ⟨bk, rfl, hbk10⟩ := hv
    refine k_cons (k_at (ev_is (ev_lenT (ev_w1 (ev_var rfl) (hW9.ex e10).w) (hW9.ex e10).rs.1) (by rw [lr])) fun H11 e11 => k_nil ⟨sz_of (by show 2 ≤ 100000; decide), fun t12 n12 => g2_of (tp_of upd_same) ?_⟩)
    have e912 : Ex H9 (upd H11 t12 (.tup [.ref bk, .int ((W.rs.length : Nat) : Int)])) := (e10.trans e11).trans (Ex.new n12)
    have hbk12 := hbk10.ex (e11.trans (Ex.new n12 (o := .tup [.ref bk, .int ((W.rs.length : Nat) : Int)])))
    have hW12 := hW9.ex e912
    have hb12 := hb9.ex e912
    have hrv12 := hrv9.ex e912
    have hF12 := hF9.ex e912
    have e312 := e48.trans (ef_of e912)
    generalize upd H11 t12 (.tup [.ref bk, .int ((W.rs.length : Nat) : Int)]) = H12 at e912 hbk12 hW12 hb12 hrv12 hF12 e312 ⊢
    have rkb := rota_rev rk
    have hall : ∀ n ∈ ro, NameOk n := fun n hn => by
      obtain ⟨r, hr', rfl⟩ := List.mem_map.mp (rk.sub n hn)
      exact (ok.rr r hr').nm
    have hl14 : ro.length ≤ 14 := by omega
    have sh_ro : Shows (dT ro) := shows_t hall hl14
    have sh_bk : Shows (dT ro.reverse) := shows_t (fun n hn => hall n (List.mem_reverse.mp hn)) (by rw [List.length_reverse]; exact hl14)
    -- the first look
    refine q_when (b := false) (et_or (a := false) (b := false) (et_is (et_test (ev_op (ev_reprV (ev_var rfl) hbk12.tp sh_bk) (ev_reprT (ss := ro.reverse) (by rw [List.map_reverse]; exact evp_rev (ev_var rfl) hb12.tp) sh_bk) (rv_ne rfl))) (by simp)) fun _ =>
      et_is (et_test (ev_op (ev_reprT (ss := ro) (te := tCallK sp_backwards gV1 E0 tNil (tCons (tVar 6) (tCons (tVar 3) tNil))) (fun H13 e13 Q13 q13 => k_nil ((ev_var (i := 6) rfl) H13 e13 _ fun H14 e14 => (ev_var (i := 3) rfl) H14 (e13.trans e14) _ fun H15 e15 => ?_)) sh_ro) (ev_reprV (ev_var rfl) hb12.tp sh_ro) (rv_ne rfl))) (by simp)) (fun z => Bool.noConfusion z) fun _ H13 e13 => ?_
    · show sp_backwards (gV1 [] [.ref bk, .ref a]) H15 Q13 E0
      rw [hg1]
      have e1215 := (e13.trans e14).trans e15
      refine spp_backwards hW12 ok hbk12.tp rkb H15 e1215 Q13 (fun v H16 e16 hv => q13 v H16 ((e14.trans e15).trans e16) ?_) E0
      obtain ⟨d, rfl, hd⟩ := hv
      rw [List.reverse_reverse] at hd
      exact ⟨d, rfl, hd.tp⟩
    have hW13 := hW12.ex e13
    have hb13 := hb12.ex e13
    have hrv13 := hrv12.ex e13
    have hbk13 := hbk12.ex e13
    -- with a ring or without
    have hnr : ∀ n ∈ ro, n ∈ W.names := rk.sub
    refine k_qasg (k_by (fun v H' => FalV W ro rv v H' ∧ Ex H13 H') (fun Q' q' => ?_) fun v8 H14 hv => ?_)
    · rcases hrv13 with rfl | ⟨d, rg, rfl, hd, gk, _⟩
      · refine k_if (k_atT (et_notN0 (ev_var rfl)) fun H14 e14 => ?_)
        exact (if_neg (by decide)).mpr (k_at ev_c fun H15 e15 => q' _ H15 ⟨.inl ⟨rfl, rfl⟩, e14.trans e15⟩)
      · refine k_if (k_atT (et_notN1 (ev_var rfl)) fun H14 e14 => ?_)
        refine (if_pos rfl).mpr (k_atP (evp_call (ea_cons (ev_var rfl) (ea_cons (ev_var rfl) (ea_cons (ev_var rfl) ea_nil))) (spp_lap (hW13.ex e14) ok (hb13.ex e14) rk (hd.ex e14).tp gk)) fun v H15 e15 hv => ?_)
        obtain ⟨a8, rfl, h8⟩ := hv
        exact q' _ H15 ⟨.inr ⟨d, rg, a8, rfl, hd.ex (e14.trans e15), gk, rfl, h8⟩, e14.trans e15⟩
    obtain ⟨hFV, e14⟩ := hv
    have hW14 := hW13.ex e14
    have hb14 := hb13.ex e14
    have hbk14 := hbk13.ex e14
    have hF14 := hF12.ex (e13.trans e14)
    -- turn by turn
    refine q_forR1 (n := ((W.rs.length : Nat) : Int) + 1) (ea_cons (ev_op (ev_var rfl) ev_c rv_I0) ea_nil) ⟨by omega, by omega⟩
      (fun _ σ2 H15 => ∃ (y9 y10 : Option V), σ2 = [some (.ref s0), some (.int (i : Int)), some (.ref f0), some (.ref a), some (.ref b), some rv, some (.ref bk), some (.int ((W.rs.length : Nat) : Int)), some v8, y9, y10, y11, none] ∧ Ex H14 H15)
      (fun H15 e15 => ⟨y9, y10, rfl, e15⟩) ?_ ?_
    · rintro c σ3 H15 hc ⟨y9, y10, rfl, e15⟩
      have hcl : c ≤ ro.length := by omega
      have hW15 := hW14.ex e15
      have hb15 := hb14.ex e15
      refine q_asgP (evp_call (ea_cons (ev_var rfl) (ea_cons (ev_var rfl) (ea_cons (ev_var rfl) ea_nil))) (spp_turned (c := c) hW15 ok hb15 rk hcl)) fun v H16 e16 hv => ?_
      obtain ⟨td, rfl, htd⟩ := hv
      have tk' : RotaOk W (ro.drop c ++ ro.take c) := turn_ok rk
      have htl2 : (ro.drop c ++ ro.take c).length = ro.length := tk'.len.trans rk.len.symm
      have hall2 : ∀ n ∈ ro.drop c ++ ro.take c, NameOk n := fun n hn => by
        rcases List.mem_append.mp hn with z | z
        · exact hall n (List.mem_of_mem_drop z)
        · exact hall n (List.mem_of_mem_take z)
      have sh_t : Shows (dT (ro.drop c ++ ro.take c)) := shows_t hall2 (by omega)
      have hb16 := hb15.ex e16
      have hW16 := hW15.ex e16
      refine q_when (b := false) (et_is (et_test (ev_op (ev_reprV (ev_var rfl) htd.tp sh_t) (ev_reprT (ss := ro.drop c ++ ro.take c) (EvP.imp (evp_tup (K := K) (xs := (ro.drop c ++ ro.take c).map V.str) ?_) fun v H' ⟨p, e, hp⟩ => ⟨p, e, hp.tp⟩) sh_t) (rv_ne rfl))) (by simp)) (fun z => Bool.noConfusion z) fun _ H17 e17 => ?_
      · have hg : given ((W.rs.length : Nat) : Int).toNat (fun _ => true) (fun j => V.str ((ro.drop c ++ ro.take c).getD j "")) = (ro.drop c ++ ro.take c).map V.str := by
          rw [given_all, show ((W.rs.length : Nat) : Int).toNat = (ro.drop c ++ ro.take c).length by omega]
          refine List.ext_getElem? fun j => ?_
          rw [List.getElem?_map, List.getElem?_map]
          by_cases hj : j < (ro.drop c ++ ro.take c).length
          · rw [List.getElem?_range hj, List.getElem?_eq_getElem hj]
            show some (V.str ((ro.drop c ++ ro.take c).getD j "")) = some (V.str _)
            rw [List.getD_eq_getElem?_getD, List.getElem?_eq_getElem hj] <;> rfl
          · rw [List.getElem?_eq_none (by rw [List.length_range]; omega), List.getElem?_eq_none (by omega)] <;> rfl
        rw [← hg]
        refine el_lcR1 (n := ((W.rs.length : Nat) : Int)) (fun _ => true) (fun j => V.str ((ro.drop c ++ ro.take c).getD j "")) (ea_cons (ev_var rfl) ea_nil) ⟨by omega, by omega⟩ (fun _ => rfl) (fun _ _ _ _ => et_yes) fun j H18 e18 hj _ => ?_
        have hjn : j < ro.length := by omega
        have hmod : (j + c) % ro.length < ro.length := Nat.mod_lt _ (by omega)
        have hget := turn_get (ro := ro) (c := c) (i := j) hcl hjn
        rw [List.getElem?_eq_getElem hmod] at hget
        have em : ((j : Int) + (c : Int)).fmod ((W.rs.length : Nat) : Int) = (((j + c) % ro.length : Nat) : Int) := by
          rw [Int.fmod_eq_emod_of_nonneg _ (by omega), ← hrl]
          norm_cast
        refine ev_t (ev_var rfl) (hb16.ex e18).tp (ev_is (ev_op (ev_int1 (ev_op (ev_var rfl) (ev_var rfl) rv_I0)) (ev_var rfl) (rv_I (by omega))) (congrArg V.int em)) (atI_nat ?_)
        rw [List.getElem?_map, List.getElem?_eq_getElem hmod, List.getD_eq_getElem?_getD, hget] <;> rfl
      have htd17 := htd.ex e17
      have hb17 := hb16.ex e17
      have hW17 := hW16.ex e17
      -- turned on to the start
      refine q_when (b := false) (et_test (fun H18 e18 Q18 q18 => k_op (k_nil ((ev_op (ev_var (i := 7) (v := .int ((W.rs.length : Nat) : Int)) rfl) (ev_var (i := 9) (v := .int (c : Int)) rfl) rv_I0) H18 e18 _ fun H19 e19 => (ev_var (i := 10) (v := .ref td) rfl) H19 (e18.trans e19) _ fun H20 e20 => (ev_var (i := 3) (v := .ref a) rfl) H20 ((e18.trans e19).trans e20) _ fun H21 e21 => ?_)))) (fun z => Bool.noConfusion z) fun _ H18 e18 => ?_
      · have e1721 := ((e18.trans e19).trans e20).trans e21
        refine k_nil ?_
        change sp_turned_rota (gV2 [] [.int (((W.rs.length : Nat) : Int) - (c : Int)), .ref td, .ref a]) H21 _ E0
        rw [hg2]
        have ec : ((W.rs.length : Nat) : Int) - (c : Int) = ((ro.length - c : Nat) : Int) := by omega
        rw [ec]
        refine spp_turned (c := ro.length - c) hW17 ok htd17 tk' (by omega) H21 e1721 _ (fun v H22 e22 hv => ?_) E0
        obtain ⟨d9, rfl, hd9⟩ := hv
        rw [turn_turn hcl] at hd9
        refine k_at (ev_var rfl) fun H23 e23 => ⟨dT ro, dT ro, dp_t (ex_rd e23 hd9.tp), dp_t (hb17.ex ((e1721.trans e22).trans e23)).tp, shaped_t ro fun s hs => (hall s hs).strOk, shaped_t ro fun s hs => (hall s hs).strOk, ?_⟩
        have hq : PyData.eqv (dT ro) (dT ro) = true := PySem.SeqAt.eqv_refl _ (lay_all ro fun s hs => (hall s hs).strOk)
        rw [hq]
        exact q18 H23 ((((e19.trans e20).trans e21).trans e22).trans e23)
      have e1418 := ((e15.trans e16).trans e17).trans e18
      have hFV18 := hFV.ex e1418
      have htd18 := htd17.ex e18
      have hW18 := hW17.ex e18
      refine s_when (b := false) ?_ (fun z => Bool.noConfusion z) fun _ H19 e19 => ⟨_, _, rfl, e1418.trans e19⟩
      rcases hFV18 with ⟨rfl, rfl⟩ | ⟨d, rg, a8, rfl, hd, gk, rfl, h8⟩
      · exact et_and (a := false) (b := false) (et_notN0 (ev_var rfl)) fun z => Bool.noConfusion z
      · have hsub : ∀ n ∈ rg, n ∈ ro := fun n hn => rota_all ok rk n (gk.sub n hn)
        have hft := falls_turn (rg := rg) rk.nd hcl hsub
        have sh := (shows_lap (ro := ro) ok gk).1
        have hlap := spp_lap hW18 ok htd18 tk' hd.tp gk
        rw [hft] at hlap
        exact et_is (et_and (a := true) (b := false) (et_notN1 (ev_var rfl)) fun _ => et_is (et_test (ev_op (ev_repr2 (evp_call (ea_cons (ev_var rfl) (ea_cons (ev_var rfl) (ea_cons (ev_var rfl) ea_nil))) hlap) sh) (ev_repr2 (Ev.p (ev_var rfl) fun H1 e => ⟨a8, rfl, ex_rd e h8⟩) sh) (rv_ne rfl))) (by simp)) rfl
    · rintro σ3 H15 ⟨z9, z10, rfl, e15⟩
      have hFV15 := hFV.ex e15
      have hW15 := hW14.ex e15
      have hb15 := hb14.ex e15
      have hbk15 := hbk14.ex e15
      -- the ring run backwards
      refine q_when (b := false) ?_ (fun z => Bool.noConfusion z) fun _ H16 e16 => ?_
      · rcases hFV15 with ⟨rfl, rfl⟩ | ⟨d, rg, a8, rfl, hd, gk, rfl, h8⟩
        · exact et_and (a := false) (b := false) (et_notN0 (ev_var rfl)) fun z => Bool.noConfusion z
        · have hsub : ∀ n ∈ rg, n ∈ ro := fun n hn => rota_all ok rk n (gk.sub n hn)
          have hfb := falls_back (rg := rg) rk.nd hsub gk.nd gk.two
          have sh := (shows_lap (ro := ro) ok gk).2
          have hlap := spp_lap hW15 ok hbk15 rkb hd.tp gk
          rw [hfb, show (rg.length : Int) - ((rg.length : Int) - fallsN ro rg) = fallsN ro rg by omega] at hlap
          exact et_is (et_and (a := true) (b := false) (et_notN1 (ev_var rfl)) fun _ => et_is (et_test (ev_op (ev_repr2 (evp_call (ea_cons (ev_var rfl) (ea_cons (ev_var rfl) (ea_cons (ev_var rfl) ea_nil))) hlap) sh) (ev_repr2 (evp_rev (xs := [.int (fallsN ro rg), .int ((rg.length : Int) - fallsN ro rg)]) (ev_var rfl) h8) sh) (rv_ne rfl))) (by simp)) rfl
      have hF16 := hF14.ex (e15.trans e16)
      have hW16 := hW15.ex e16
      have hb16 := hb15.ex e16
      have hbk16 := hbk15.ex e16
      -- a turn drawn
      refine k_qasg (k_call (k_cons (k_at (ev_var rfl) fun H17 e17 => k_cons (k_at (ev_var rfl) fun H18 e18 => k_cons (k_draw (m := ((W.rs.length : Nat) : Int) + 1) (ev_var rfl) (ev_op (ev_var rfl) ev_c rv_I0) (by omega) (by omega) (hF16.ex (e17.trans e18)) (by decide) fun r H19 e19 hF19 r0 r1 => k_nil ?_)))))
      obtain ⟨c, rfl⟩ := Int.eq_ofNat_of_zero_le r0
      have hcl : c ≤ ro.length := by omega
      have hF18 := hF16.ex (e17.trans e18)
      have hW19 := (hW16.ex (e17.trans e18)).ef e19 hF18
      have hb19 := (hb16.ex (e17.trans e18)).ef e19 hF18
      have hbk19 := (hbk16.ex (e17.trans e18)).ef e19 hF18
      refine spp_turned (c := c) hW19 ok hb19 rk hcl H19 (Ex.refl _) _ (fun v H20 e20 hv => ?_) E0
      obtain ⟨td, rfl, htd⟩ := hv
      have tk' : RotaOk W (ro.drop c ++ ro.take c) := turn_ok rk
      have hW20 := hW19.ex e20
      have ef320 : Ef f0 H3 H20 := (((e312.trans (ef_of (((e13.trans e14).trans e15).trans e16))).trans (ef_of (e17.trans e18))).trans e19).trans (ef_of e20)
      have e020 : Ex H H20 := ef320.ex e03 nf
      -- trees
      refine k_ifS (k_and ?_)
      refine k_by (te := tCall sp_law_is_tree [] E0 (tCons (tVar 3) tNil)) (fun v H' => ∃ bb, v = .bl bb ∧ (bb = true → Tree W) ∧ Ex H20 H') (fun Q' q' => k_atP (evp_call (P := fun v _ => ∃ bb, v = .bl bb ∧ (bb = true → Tree W)) (ea_cons (ev_var rfl) ea_nil) fun H21 e21 Q21 q21 E21 => ⟨a, p, q, W, trs, rfl, hW20.ex e21, ok, fun bb H22 e22 hb => q21 _ H22 e22 ⟨bb, rfl, hb⟩⟩) fun v H21 e21 hv => ?_) fun v H21 hv => ?_
      · obtain ⟨bb, rfl, hbb⟩ := hv
        exact q' _ H21 ⟨bb, rfl, hbb, e21⟩
      · obtain ⟨bb, rfl, hbb, e21⟩ := hv
        refine ⟨bb, rfl, ?_⟩
        have done : ∀ H22, Ex H20 H22 → ∃ (y1 y2 y3 y4 y5 y6 y7 y8 y9 y10 y11 : Option V), ([some (.ref s0), some (.int (i : Int)), some (.ref f0), some (.ref a), some (.ref b), some rv, some (.ref bk), some (.int ((W.rs.length : Nat) : Int)), some v8, z9, z10, some (.ref td), none] : L2.St) = [some (.ref s0), y1, y2, y3, y4, y5, y6, y7, y8, y9, y10, y11, none] ∧ Ex H H22 := fun H22 e22 => ⟨_, _, _, _, _, _, _, _, _, _, _, rfl, e020.trans e22⟩
        cases bb with
        | false => exact (if_neg (by decide)).mpr ((if_neg (by decide)).mpr (done H21 e21))
        | true =>
          refine (if_pos rfl).mpr ?_
          have tr := hbb rfl
          refine k_atT (et_not (a := true) (et_B (ev_callV (ea_cons (ev_var rfl) (ea_cons (ev_var rfl) (ea_cons (ev_var rfl) (ea_cons (ev_var rfl) ea_nil)))) fun H22 e22 Q22 q22 E22 => ⟨a, p, q, b, td, bk, W, trs, ro, ro.drop c ++ ro.take c, rfl, (hW20.ex e21).ex e22, ok, tr, ((hb19.ex e20).ex (e21.trans e22)).tp, rk, (htd.ex (e21.trans e22)).tp, tk', ((hbk19.ex e20).ex (e21.trans e22)).tp, q22⟩))) fun H22 e22 => ?_
          exact (if_neg (by decide)).mpr (done H22 (e21.trans e22))
  · rintro σ2 H2 ⟨y1, y2, y3, y4, y5, y6, y7, y8, y9, y10, y11, rfl, e2⟩
    exact s_ret (v := .bl true) ev_c fun H3 e3 => k H3 (e2.trans e3)
end
end RP
/-! part RPz1 -/
/-! calls by keywords; the law called at the top, its guards known -/
namespace RP
open PySem PySem.Spec PyProof.Rows L2 Evl
/-! ### keywords in another order -/
def kv2 : List V → List V → List V
  | [], [r, w] => [w, r]
  | _, _ => []
def ku2 : List Value → List Value → List Value
  | [], [r, w] => [w, r]
  | _, _ => []
def kv3 : List V → List V → List V
  | [], [c, r, w] => [w, r, c]
  | _, _ => []
def ku3 : List Value → List Value → List Value
  | [], [c, r, w] => [w, r, c]
  | _, _ => []
theorem kr2 {vs zs : List V} {us ws : List Value} (h : Vals vs us) (h2 : Vals zs ws) : Vals (kv2 vs zs) (ku2 us ws) := by
  cases h with
  | cons => exact .nil
  | nil =>
    cases h2 with
    | nil => exact .nil
    | cons a h =>
      cases h with
      | nil => exact .nil
      | cons b h =>
        cases h with
        | nil => exact .cons b (.cons a .nil)
        | cons => exact .nil
theorem kr3 {vs zs : List V} {us ws : List Value} (h : Vals vs us) (h2 : Vals zs ws) : Vals (kv3 vs zs) (ku3 us ws) := by
  cases h with
  | cons => exact .nil
  | nil =>
    cases h2 with
    | nil => exact .nil
    | cons a h =>
      cases h with
      | nil => exact .nil
      | cons b h =>
        cases h with
        | nil => exact .nil
        | cons c h =>
          cases h with
          | nil => exact .cons c (.cons b (.cons a .nil))
          | cons => exact .nil
section
variable {P : Program} {w : World} {K : PySem.W.Frag} {mg : Str → Option Value} {base : Heap}
theorem calK_of {x : Str} {st : Stmt} {ps ks : List Str} {k : Nat} {sp : Sp} {g : List Value → List Value → List Value} {gV : List V → List V → List V} (c : CalP P w K mg base k x ps sp) (D : DefAt K mg x st ps)
    (hb : ∀ (kV doc pm : Value) (an : Option Addr) (cdv ct : Value) (us ws : List Value), (g us ws).length = ps.length → bindArgs (PySem.W.fnOf x x (defArgs st) (defBody st) (defScope st) .none kV doc pm an cdv ct) ⟨us, ks.zip ws⟩ = pure (ps.zip (g us ws)))
    (hr : ∀ {vs : List V} {us : List Value} {zs : List V} {ws : List Value}, Vals vs us → Vals zs ws → Vals (gV vs zs) (g us ws)) : CalK P w K mg base k x ks gV sp := by
  obtain ⟨f, fd, F, hm, hk, _, oc, od, osl, lk⟩ := c.ex
  obtain ⟨f2, fd2, F2, hm2, _⟩ := D.ex
  rw [hm] at hm2
  cases hm2
  obtain ⟨oc2, od2, kV, doc, pm, an, cdv, ct, osl2, efd, lk2, _⟩ := F2.ex
  rw [lk] at lk2
  cases lk2
  refine ⟨f, fd, ps, g, F, hm, hk, ⟨fun s us ws _ hl => .of_eq ?_, hr⟩⟩
  rw [efd]
  exact hb kV doc pm an cdv ct us ws hl
/-! ### a def called where the guards are known -/
structure FnG (P : Program) (w : World) (K : PySem.W.Frag) (mg : Str → Option Value) (base : Heap) (Ar : Around) (f : Addr) (fd : FuncData) (ps : List Str) (sp : Sp) : Prop where
  go : ∀ (s : Shared) (H : Hp) (args : Args) (us : List Value) (vs : List V) (Q : VK) (E : XK), Env0 P w K mg base Ar [] s H → BindsTo s fd args (ps.zip us) → Vals vs us → sp vs H Q E →
    codeAny (model P w) Ar (.call (.ref f) args) (CR CX0 [] P w H s Q E) s
theorem fnG_of {Ar : Around} {x : Str} {st : Stmt} {f : Addr} {fd : FuncData} {N ps : List Str} {k : Nat} {sp : Sp} (F : Fun K x x st f fd) (S : FnScope N ps (defScope st)) (hroom : Room (k + 1) Ar) (hlen : ∀ vs H Q E, sp vs H Q E → vs.length = ps.length)
    (hbody : ∀ (cdv : Value) (s : Shared) (H : Hp) (vs : List V) (Q : VK) (E : XK), Room k (Ar.deeper (envOfC x (defScope st) s.heap.objs.size f cdv)) → sp vs H Q E →
      ∃ t, PSs (cxOf CX0 P w K mg base N x (defScope st) f cdv Ar [] s H E).nox (defBody st) t ∧ t { nx := fun _ H' => Q .non H', rt := Q } (start N vs) H) : FnG P w K mg base Ar f fd ps sp := by
  obtain ⟨oc, od, kV, doc, pm, an, cdv, ct, osl, rfl, lkf, hcode⟩ := F.ex
  refine ⟨fun s0 H0 args us vs Q E env00 hbind hvals hsp0 => ?_⟩
  have hlen0 := hlen vs H0 Q E hsp0
  have KIn0 : K.In s0.heap := env00.mod.kin.keeps fun adr ob he => (env00.bs adr ob he).1
  have nolim0 := env00.mod.nolimit.keeps fun adr ob he => (env00.bs adr ob he).1
  have kinds0 : ∀ pr ∈ ps.zip us, (defScope st).names.lookup pr.1 = some .local ∨ ((defScope st).names.lookup pr.1 = some .cell ∧ ((cellsFrom (s0.heap.objs.size + 1) (defScope st).names []).lookup pr.1).isSome = true) := by
    intro pr hpr
    obtain ⟨nme, vl⟩ := pr
    have hin := (List.of_mem_zip hpr).1
    exact (S.par nme hin).elim (fun hloc => Or.inl hloc) fun hcel => Or.inr ⟨hcel, PySem.W.cellsFrom_some _ _ _ (Or.inl hcel)⟩
  refine codeAny_call_function hroom.depth (KIn0 f _ lkf) rfl S.co S.gen rfl (PySem.W.codeRec_of KIn0 hcode) (hbind _ _ _ _ (wpAny_newFunctionEnv_cells S.kind kinds0 fun env henv st1 hin1 => ?_))
  subst henv
  refine ⟨nolim0.keeps hin1.toInCall.keep, codeAny_func ?_⟩
  obtain ⟨tr, htr, hq0⟩ := hbody cdv s0 H0 vs Q E (hroom.deeper _) hsp0
  have Inv0 := inv_start (CX := CX0) (E := E) S hroom.hd env00 hlen0 hvals hin1
  refine wpAny_mono (htr.nox.run [] st1 (start N vs) H0 _ Inv0 hq0) (fun flow s9 h9 => ?_) fun err s9 h9 => h9
  match flow, h9 with
  | .ret u9, ⟨v9, σ9, H9, J9, rv9, q9⟩ => exact ⟨v9, H9, J9.os, J9.bare, J9.base, J9.hok, rv9, q9⟩
  | .next, ⟨σ9, H9, J9, q9⟩ => exact ⟨V.non, H9, J9.os, J9.bare, J9.base, J9.hok, rfl, q9⟩
  | .brk, ⟨_, _, _, q9⟩ => exact q9.elim
  | .cont, ⟨_, _, _, q9⟩ => exact q9.elim
/-- the law called, from a heap in which the script alone may be tracked -/
theorem callG {mb : Str → Option Value} {fa a : Addr} {fd : FuncData} {x : Str} {sp : Sp} {s1 : Shared} {vals : List Value} {ns : List Int} (KIn1 : K.In s1.heap) (nsG : s1.heap.Ns mainGlobals mg) (nsB : s1.heap.Ns builtinsNs mb)
    (hboot : ∀ y : Str, y ≠ "__name__" → mb y = bootBuiltins y) (nolim1 : s1.heap.NoLimit) (gens0 : s1.gens = #[]) (hobj : s1.heap.get? a = some { cls := .type "list", data := .seq vals.toArray }) (hints : IntsAre vals ns) (hsz : ns.length ≤ sizeLine)
    (F : ∀ base : Heap, K.In base → base.Ns mainGlobals mg → FnG P w K mg base callerA fa fd [x] sp) (hbind : ∀ (s : Shared) (u : Value), BindsTo s fd ⟨[u], []⟩ [(x, u)])
    (hsp : ∀ H : Hp, Only H → SqL K H a (ns.map V.int) → sp [.ref a] H (fun v _ => v = .bl true) fun _ _ _ => False) :
    codeAny (model P w) callerA (.call (.ref fa) ⟨[.ref a], []⟩) (fun res s9 => res = .ok (.ret (.bool true)) ∧ OldK s1.heap s9.heap ∧ s9.os = s1.os ∧ AllBare s9.gens) s1 := by
  have hvals := vals_ints hints
  have hlenV := hints.length
  have main : ∀ G : Hp, Only G → SqL K G a (ns.map V.int) → HOk P w G s1.heap → (∀ adr, G adr ≠ none → adr = a ∧ K.lookup a = none) →
      codeAny (model P w) callerA (.call (.ref fa) ⟨[.ref a], []⟩) (fun res s9 => res = .ok (.ret (.bool true)) ∧ OldK s1.heap s9.heap ∧ s9.os = s1.os ∧ AllBare s9.gens) s1 := by
    intro G hOnly hSeq hOk hAt
    have see : ∀ {adr : Addr} {ob : Obj}, s1.heap.get? adr = some ob → G adr = none → (hidT s1.heap G).get? adr = some ob := fun he hn => hidT_get he hn
    have none_or : ∀ adr, adr ≠ a → G adr = none := fun adr hne => Classical.byContradiction fun hh => hne (hAt adr hh).1
    have dictNe : ∀ {adr : Addr} {ob : Obj} {es : Array DictEntry} {ep : Nat}, s1.heap.get? adr = some ob → ob.data = .dict es ep → adr ≠ a := fun {adr ob es ep} he hdat hz => by
      rw [hz, hobj] at he
      cases he
      have hbad : Data.seq vals.toArray _ = Data.dict es ep := hdat
      cases hbad
    have nsKeep : ∀ {adr : Addr} {m : Str → Option Value}, s1.heap.Ns adr m → (hidT s1.heap G).Ns adr m := fun {adr m} hns => by
      obtain ⟨ob, es, ep, h1, h2, h3⟩ := hns
      exact ⟨ob, es, ep, see h1 (none_or adr (dictNe h1 h2)), h2, h3⟩
    have KHid : K.In (hidT s1.heap G) := by
      intro adr ob hlk
      refine see (KIn1 adr ob hlk) (Classical.byContradiction fun hh => ?_)
      obtain ⟨h1, h2⟩ := hAt adr hh
      rw [h1, h2] at hlk
      cases hlk
    have modHid : Mod K mg (hidT s1.heap G) := by
      obtain ⟨mc, hl1, hl2⟩ := nolim1
      exact ⟨KHid, nsKeep nsG, ⟨mb, nsKeep nsB, hboot⟩, mc, nsKeep hl1, hl2⟩
    have envHid : Env0 P w K mg (hidT s1.heap G) callerA [] s1 G :=
      ⟨rfl, modHid, fun adr ob he => of_hidT he, Nat.le_of_eq (hidT_size _ _), trivial, fun adr hh => absurd (show adr ∈ ([] : List Addr) from hh) List.not_mem_nil, hOk, .of_eq gens0⟩
    have ran := (F _ KHid (nsKeep nsG)).go s1 G ⟨[.ref a], []⟩ [.ref a] [.ref a] _ _ envHid (hbind s1 (.ref a)) (.cons rfl .nil) (hsp G hOnly hSeq)
    refine codeAny_mono ran fun res s9 h9 => ?_
    match res, h9 with
    | .error err, h9 => exact (show False from h9).elim
    | .ok .next, h9 => exact (show False from h9).elim
    | .ok .brk, h9 => exact (show False from h9).elim
    | .ok .cont, h9 => exact (show False from h9).elim
    | .ok (.ret u9), ⟨v9, H9, hos, hbare, hun, hOk9, hrel, hq⟩ =>
      have hv9 : v9 = .bl true := hq
      subst hv9
      have hu9 : u9 = Value.bool true := hrel
      subst hu9
      refine ⟨rfl, OldK.of_keep fun adr ob hget => ?_, hos, hbare⟩
      rcases hOnly adr with hno | ⟨o5, xs5, hfz⟩
      · exact hun.keep adr ob hget hno (fun hh => absurd (show adr ∈ ([] : List Addr) from hh) List.not_mem_nil) List.not_mem_nil
      · have later := (hOk9 adr _ (hun.frzs adr o5 _ hfz)).1
        have before := (hOk adr _ hfz).1
        rw [hget] at before
        cases before
        exact later
  rcases Option.eq_none_or_eq_some (K.lookup a) with hno | ⟨ob, hyes⟩
  · let G : Hp := fun adr => if adr = a then some (.frz { cls := .type "list", data := .seq vals.toArray } (.lst (ns.map V.int))) else none
    have Ga : G a = some (.frz { cls := .type "list", data := .seq vals.toArray } (.lst (ns.map V.int))) := if_pos rfl
    have Gn : ∀ adr, adr ≠ a → G adr = none := fun adr hne => if_neg hne
    refine main G (fun adr => ?_) (.inl (.inr ⟨_, Ga⟩)) (fun adr u hz => ?_) fun adr hh => ⟨Classical.byContradiction fun hne => hh (Gn adr hne), hno⟩
    · rcases Classical.em (adr = a) with he | hne
      · exact .inr ⟨_, _, by rw [he]; exact Ga⟩
      · exact .inl (Gn adr hne)
    · rcases Classical.em (adr = a) with he | hne
      · subst he
        rw [Ga] at hz
        cases hz
        exact ⟨hobj, by rw [List.length_map]; exact hsz, vals, _, hvals, hobj⟩
      · rw [Gn adr hne] at hz
        cases hz
  · have hget := KIn1 a ob hyes
    rw [hobj] at hget
    cases hget
    exact main (fun _ => none) (fun _ => Or.inl rfl) (.inr ⟨_, vals.toArray, _, hyes, rfl, rfl, rfl, by rw [List.size_toArray, hlenV]; exact hsz, by simpa using hvals⟩) (fun adr u hz => absurd (show (none : Option HO) = some u from hz) (by simp)) fun adr hh => absurd rfl hh
end
/-- the walk of the law, its guards known -/
theorem walkG {l : PySem.W.OpenLaw} {n : Nat} {q : Program} {loose : List Str} {XP : (Str → Option Value) → Heap → Prop} {YP : World → Heap → Prop} {d : DefRec} {Kf : Params → PySem.W.Frag} {x : Str} (hmost : l.most = some n) (hfit : n ≤ sizeLine) (hnodef : d.params.defaults = [])
    (hY : ∀ (w : World) (h : Heap), YP w h → (Kf w.params).In h)
    (F : ∀ (w : World) (mg : Str → Option Value) (fa : Addr) (h : Heap), (Kf w.params).In h → h.Ns mainGlobals mg → mg d.name = some (.ref fa) →
      ∃ (fd : FuncData) (sp : Sp), (∀ (s : Shared) (u : Value), BindsTo s fd ⟨[u], []⟩ [(x, u)]) ∧ (∀ (H : Hp) (a : Addr) (ns : List Int), ns.length ≤ n → Only H → SqL (Kf w.params) H a (ns.map V.int) → sp [.ref a] H (fun v _ => v = .bl true) fun _ _ _ => False) ∧
        ∀ base : Heap, (Kf w.params).In base → base.Ns mainGlobals mg → FnG l.prog w (Kf w.params) mg base callerA fa fd [x] sp) :
    PySem.W.WalkO q loose XP YP l.row.toRowW d [] (fun f vs => PySem.call f vs) := by
  refine Att.attach_call hmost hnodef fun w sA sB mg mb fa ob pm cdv doc a vals ns Gr Yw _ _ _ hmg hobj hints hlen hgens => ?_
  have KIn1 := hY w _ Yw
  obtain ⟨fd, sp, hbind, hsp, hF⟩ := F w mg fa _ KIn1 Gr.T.g hmg
  exact callG KIn1 Gr.T.g Gr.T.b Gr.T.builtins Gr.T.nolimit hgens hobj hints (Nat.le_trans hlen hfit) hF hbind fun H hO hS => hsp H a ns hlen hO hS
end RP
/-! part RPz2 -/
/-! what the top leaves, gathered; the law's promise -/
namespace RP
open PySem PySem.Spec PyProof.Rows L2 Evl
def DefK (K : PySem.W.Frag) (x : Str) (st : Stmt) : Prop := ∃ (f : Addr) (oc : Value) (od an : Option Addr) (sl : Array (Option Value)) (kV dc pm cd ct : Value), PySem.W.nsIn K mainGlobals x = some (some (.ref f)) ∧ K.lookup f = some ⟨oc, od, .func (PySem.W.fnOf x x (defArgs st) (defBody st) (defScope st) .none kV dc pm an cd ct), sl⟩ ∧ PySem.W.codeIn K cd x = true ∧ PySem.W.keepIn K (.ref f) = true
theorem DefK.mk {K : PySem.W.Frag} {x : Str} {st : Stmt} {f : Addr} {oc : Value} {od an : Option Addr} {sl : Array (Option Value)} {kV dc pm cd ct : Value} (a : PySem.W.nsIn K mainGlobals x = some (some (.ref f))) (l : K.lookup f = some ⟨oc, od, .func (PySem.W.fnOf x x (defArgs st) (defBody st) (defScope st) .none kV dc pm an cd ct), sl⟩) (c : PySem.W.codeIn K cd x = true) (k : PySem.W.keepIn K (.ref f) = true) : DefK K x st :=
  ⟨f, oc, od, an, sl, kV, dc, pm, cd, ct, a, l, c, k⟩
theorem tokS {K : PySem.W.Frag} {x s : Str} {t : Tok} (z : PySem.W.nsIn K mainGlobals x = some (some (.str s t))) : ∃ t : Tok, PySem.W.nsIn K mainGlobals x = some (some (.str s t)) := ⟨t, z⟩
theorem tokI {K : PySem.W.Frag} {x : Str} {s : Int} {t : Tok} (z : PySem.W.nsIn K mainGlobals x = some (some (.int s t))) : ∃ t : Tok, PySem.W.nsIn K mainGlobals x = some (some (.int s t)) := ⟨t, z⟩
theorem defAt_of {K : PySem.W.Frag} {h : Heap} {mg : Str → Option Value} {x : Str} {st : Stmt} {ps : List Str} (X : K.In h) (G : h.Ns mainGlobals mg) (d : DefK K x st)
    (hb : ∀ (kV doc pm : Value) (an : Option Addr) (cdv ct : Value) (us : List Value), us.length = ps.length → bindArgs (PySem.W.fnOf x x (defArgs st) (defBody st) (defScope st) .none kV doc pm an cdv ct) ⟨us, []⟩ = pure (ps.zip us)) : DefAt K mg x st ps := by
  obtain ⟨f, oc, od, an, sl, kV, dc, pm, cd, ct, a, l, c, k⟩ := d
  have F := fun_mk (st := st) l c k
  exact ⟨f, _, F, PySem.W.mg_of X G a, F.binds hb⟩
structure AllK (K : PySem.W.Frag) : Prop where
  d_names_of_roads : DefK K "names_of_roads" s_names_of_roads
  d_other_end : DefK K "other_end" s_other_end
  d_is_integer : DefK K "is_integer" s_is_integer
  d_is_within : DefK K "is_within" s_is_within
  d_is_name : DefK K "is_name" s_is_name
  d_is_row_of : DefK K "is_row_of" s_is_row_of
  d_are_of : DefK K "are_of" s_are_of
  d_need_count : DefK K "need_count" s_need_count
  d_are_names : DefK K "are_names" s_are_names
  d_is_road : DefK K "is_road" s_is_road
  d_is_web_form : DefK K "is_web_form" s_is_web_form
  d_need_web : DefK K "need_web" s_need_web
  d_is_place : DefK K "is_place" s_is_place
  d_need_place : DefK K "need_place" s_need_place
  d_is_rota : DefK K "is_rota" s_is_rota
  d_need_rota : DefK K "need_rota" s_need_rota
  d_is_round : DefK K "is_round" s_is_round
  d_need_week : DefK K "need_week" s_need_week
  d_round_of : DefK K "round_of" s_round_of
  d_turned_rota : DefK K "turned_rota" s_turned_rota
  d_backwards : DefK K "backwards" s_backwards
  d_steps_from : DefK K "steps_from" s_steps_from
  d_first_way : DefK K "first_way" s_first_way
  d_way_places : DefK K "way_places" s_way_places
  d_is_way : DefK K "is_way" s_is_way
  d_is_ring : DefK K "is_ring" s_is_ring
  d_ring_in_web : DefK K "ring_in_web" s_ring_in_web
  d_ring_of : DefK K "ring_of" s_ring_of
  d_falls_of_row : DefK K "falls_of_row" s_falls_of_row
  d_need_ring : DefK K "need_ring" s_need_ring
  d_lap : DefK K "lap" s_lap
  d_ends_by_road : DefK K "ends_by_road" s_ends_by_road
  d_news_places : DefK K "news_places" s_news_places
  d_arrivals_from : DefK K "arrivals_from" s_arrivals_from
  d_days_from : DefK K "days_from" s_days_from
  d_need_two_places : DefK K "need_two_places" s_need_two_places
  d_days : DefK K "days" s_days
  d_law_draw : DefK K "_law_draw" s_law_draw
  d_law_one : DefK K "_law_one" s_law_one
  d_law_mixed : DefK K "_law_mixed" s_law_mixed
  d_law_names : DefK K "_law_names" s_law_names
  d_law_rota : DefK K "_law_rota" s_law_rota
  d_law_feed : DefK K "_law_feed" s_law_feed
  d_law_fresh : DefK K "_law_fresh" s_law_fresh
  d_law_web : DefK K "_law_web" s_law_web
  d_law_wide_web : DefK K "_law_wide_web" s_law_wide_web
  d_law_steps : DefK K "_law_steps" s_law_steps
  d_law_is_tree : DefK K "_law_is_tree" s_law_is_tree
  d_law_days_right : DefK K "_law_days_right" s_law_days_right
  d_law : DefK K "law" s_law
  z_len : PySem.W.nsIn K mainGlobals "len" = some none
  z_range : PySem.W.nsIn K mainGlobals "range" = some none
  z_tuple : PySem.W.nsIn K mainGlobals "tuple" = some none
  z_list : PySem.W.nsIn K mainGlobals "list" = some none
  z_isinstance : PySem.W.nsIn K mainGlobals "isinstance" = some none
  z_str : PySem.W.nsIn K mainGlobals "str" = some none
  z_int : PySem.W.nsIn K mainGlobals "int" = some none
  z_bool : PySem.W.nsIn K mainGlobals "bool" = some none
  z_all : PySem.W.nsIn K mainGlobals "all" = some none
  z_any : PySem.W.nsIn K mainGlobals "any" = some none
  z_set : PySem.W.nsIn K mainGlobals "set" = some none
  z_sum : PySem.W.nsIn K mainGlobals "sum" = some none
  z_max : PySem.W.nsIn K mainGlobals "max" = some none
  z_enumerate : PySem.W.nsIn K mainGlobals "enumerate" = some none
  z_zip : PySem.W.nsIn K mainGlobals "zip" = some none
  z_repr : PySem.W.nsIn K mainGlobals "repr" = some none
  t_LETTERS : ∃ t : Tok, PySem.W.nsIn K mainGlobals "LETTERS" = some (some (.str "abcdefghijklmnopqrstuvwxyz" t))
  t_SIGNS : ∃ t : Tok, PySem.W.nsIn K mainGlobals "SIGNS" = some (some (.str "abcdefghijklmnopqrstuvwxyz0123456789" t))
  t_MOST_SIGNS : ∃ t : Tok, PySem.W.nsIn K mainGlobals "MOST_SIGNS" = some (some (.int 8 t))
  t_MOST_PLACES : ∃ t : Tok, PySem.W.nsIn K mainGlobals "MOST_PLACES" = some (some (.int 10 t))
  t_MOST_ROADS : ∃ t : Tok, PySem.W.nsIn K mainGlobals "MOST_ROADS" = some (some (.int 14 t))
  t_MOST_ROUNDS : ∃ t : Tok, PySem.W.nsIn K mainGlobals "MOST_ROUNDS" = some (some (.int 4 t))
def tk6 (t0 t1 t2 t3 t4 t5 : Tok) : Nat → Tok
  | 0 => t0
  | 1 => t1
  | 2 => t2
  | 3 => t3
  | 4 => t4
  | _ => t5
theorem law_fn {P : Program} {w : World} {K : PySem.W.Frag} {h : Heap} {mg : Str → Option Value} {fa : Addr} (X : K.In h) (G : h.Ns mainGlobals mg) (hfa : mg "law" = some (.ref fa)) (A : AllK K) :
    ∃ (fd : FuncData) (sp : Sp), (∀ (s : Shared) (u : Value), BindsTo s fd ⟨[u], []⟩ [("_law_script", u)]) ∧ (∀ (H : Hp) (a : Addr) (ns : List Int), ns.length ≤ 63 → Only H → SqL K H a (ns.map V.int) → sp [.ref a] H (fun v _ => v = .bl true) fun _ _ _ => False) ∧
      ∀ base : Heap, K.In base → base.Ns mainGlobals mg → FnG P w K mg base callerA fa fd ["_law_script"] sp := by
  obtain ⟨t0, ht0⟩ := A.t_LETTERS
  obtain ⟨t1, ht1⟩ := A.t_SIGNS
  obtain ⟨t2, ht2⟩ := A.t_MOST_SIGNS
  obtain ⟨t3, ht3⟩ := A.t_MOST_PLACES
  obtain ⟨t4, ht4⟩ := A.t_MOST_ROADS
  obtain ⟨t5, ht5⟩ := A.t_MOST_ROUNDS
  have T : Top mg (tk6 t0 t1 t2 t3 t4 t5) := { len := PySem.W.mg_none_of X G A.z_len, range := PySem.W.mg_none_of X G A.z_range, tuple := PySem.W.mg_none_of X G A.z_tuple, list := PySem.W.mg_none_of X G A.z_list, isinstance := PySem.W.mg_none_of X G A.z_isinstance, str := PySem.W.mg_none_of X G A.z_str, int := PySem.W.mg_none_of X G A.z_int, bool := PySem.W.mg_none_of X G A.z_bool, all := PySem.W.mg_none_of X G A.z_all, any := PySem.W.mg_none_of X G A.z_any, set := PySem.W.mg_none_of X G A.z_set, sum := PySem.W.mg_none_of X G A.z_sum, max := PySem.W.mg_none_of X G A.z_max, enumerate := PySem.W.mg_none_of X G A.z_enumerate, zip := PySem.W.mg_none_of X G A.z_zip, repr := PySem.W.mg_none_of X G A.z_repr, g_LETTERS := PySem.W.mg_of X G ht0, g_SIGNS := PySem.W.mg_of X G ht1, g_MOST_SIGNS := PySem.W.mg_of X G ht2, g_MOST_PLACES := PySem.W.mg_of X G ht3, g_MOST_ROADS := PySem.W.mg_of X G ht4, g_MOST_ROUNDS := PySem.W.mg_of X G ht5 }
  have D_names_of_roads : DefAt K mg "names_of_roads" s_names_of_roads ["web"] := defAt_of X G A.d_names_of_roads fun _ _ _ _ _ _ us hl => match us, hl with | [_], _ => rfl
  have D_other_end : DefAt K mg "other_end" s_other_end ["road", "place"] := defAt_of X G A.d_other_end fun _ _ _ _ _ _ us hl => match us, hl with | [_, _], _ => rfl
  have D_is_integer : DefAt K mg "is_integer" s_is_integer ["thing"] := defAt_of X G A.d_is_integer fun _ _ _ _ _ _ us hl => match us, hl with | [_], _ => rfl
  have D_is_within : DefAt K mg "is_within" s_is_within ["thing", "least", "most"] := defAt_of X G A.d_is_within fun _ _ _ _ _ _ us hl => match us, hl with | [_, _, _], _ => rfl
  have D_is_name : DefAt K mg "is_name" s_is_name ["thing"] := defAt_of X G A.d_is_name fun _ _ _ _ _ _ us hl => match us, hl with | [_], _ => rfl
  have D_is_row_of : DefAt K mg "is_row_of" s_is_row_of ["thing", "least", "most"] := defAt_of X G A.d_is_row_of fun _ _ _ _ _ _ us hl => match us, hl with | [_, _, _], _ => rfl
  have D_are_of : DefAt K mg "are_of" s_are_of ["thing", "names"] := defAt_of X G A.d_are_of fun _ _ _ _ _ _ us hl => match us, hl with | [_, _], _ => rfl
  have D_need_count : DefAt K mg "need_count" s_need_count ["count", "least", "most"] := defAt_of X G A.d_need_count fun _ _ _ _ _ _ us hl => match us, hl with | [_, _, _], _ => rfl
  have D_are_names : DefAt K mg "are_names" s_are_names ["thing"] := defAt_of X G A.d_are_names fun _ _ _ _ _ _ us hl => match us, hl with | [_], _ => rfl
  have D_is_road : DefAt K mg "is_road" s_is_road ["thing", "places"] := defAt_of X G A.d_is_road fun _ _ _ _ _ _ us hl => match us, hl with | [_, _], _ => rfl
  have D_is_web_form : DefAt K mg "is_web_form" s_is_web_form ["thing"] := defAt_of X G A.d_is_web_form fun _ _ _ _ _ _ us hl => match us, hl with | [_], _ => rfl
  have D_need_web : DefAt K mg "need_web" s_need_web ["web"] := defAt_of X G A.d_need_web fun _ _ _ _ _ _ us hl => match us, hl with | [_], _ => rfl
  have D_is_place : DefAt K mg "is_place" s_is_place ["web", "thing"] := defAt_of X G A.d_is_place fun _ _ _ _ _ _ us hl => match us, hl with | [_, _], _ => rfl
  have D_need_place : DefAt K mg "need_place" s_need_place ["web", "place"] := defAt_of X G A.d_need_place fun _ _ _ _ _ _ us hl => match us, hl with | [_, _], _ => rfl
  have D_is_rota : DefAt K mg "is_rota" s_is_rota ["web", "thing"] := defAt_of X G A.d_is_rota fun _ _ _ _ _ _ us hl => match us, hl with | [_, _], _ => rfl
  have D_need_rota : DefAt K mg "need_rota" s_need_rota ["web", "rota"] := defAt_of X G A.d_need_rota fun _ _ _ _ _ _ us hl => match us, hl with | [_, _], _ => rfl
  have D_is_round : DefAt K mg "is_round" s_is_round ["web", "thing"] := defAt_of X G A.d_is_round fun _ _ _ _ _ _ us hl => match us, hl with | [_, _], _ => rfl
  have D_need_week : DefAt K mg "need_week" s_need_week ["web", "week"] := defAt_of X G A.d_need_week fun _ _ _ _ _ _ us hl => match us, hl with | [_, _], _ => rfl
  have D_round_of : DefAt K mg "round_of" s_round_of ["week", "day"] := defAt_of X G A.d_round_of fun _ _ _ _ _ _ us hl => match us, hl with | [_, _], _ => rfl
  have D_turned_rota : DefAt K mg "turned_rota" s_turned_rota ["web", "rota", "count"] := defAt_of X G A.d_turned_rota fun _ _ _ _ _ _ us hl => match us, hl with | [_, _, _], _ => rfl
  have D_backwards : DefAt K mg "backwards" s_backwards ["web", "rota"] := defAt_of X G A.d_backwards fun _ _ _ _ _ _ us hl => match us, hl with | [_, _], _ => rfl
  have D_steps_from : DefAt K mg "steps_from" s_steps_from ["web", "place"] := defAt_of X G A.d_steps_from fun _ _ _ _ _ _ us hl => match us, hl with | [_, _], _ => rfl
  have D_first_way : DefAt K mg "first_way" s_first_way ["web", "place", "other"] := defAt_of X G A.d_first_way fun _ _ _ _ _ _ us hl => match us, hl with | [_, _, _], _ => rfl
  have D_way_places : DefAt K mg "way_places" s_way_places ["web", "place", "way"] := defAt_of X G A.d_way_places fun _ _ _ _ _ _ us hl => match us, hl with | [_, _, _], _ => rfl
  have D_is_way : DefAt K mg "is_way" s_is_way ["web", "thing"] := defAt_of X G A.d_is_way fun _ _ _ _ _ _ us hl => match us, hl with | [_, _], _ => rfl
  have D_is_ring : DefAt K mg "is_ring" s_is_ring ["web", "thing"] := defAt_of X G A.d_is_ring fun _ _ _ _ _ _ us hl => match us, hl with | [_, _], _ => rfl
  have D_ring_in_web : DefAt K mg "ring_in_web" s_ring_in_web ["web"] := defAt_of X G A.d_ring_in_web fun _ _ _ _ _ _ us hl => match us, hl with | [_], _ => rfl
  have D_ring_of : DefAt K mg "ring_of" s_ring_of ["web"] := defAt_of X G A.d_ring_of fun _ _ _ _ _ _ us hl => match us, hl with | [_], _ => rfl
  have D_falls_of_row : DefAt K mg "falls_of_row" s_falls_of_row ["row"] := defAt_of X G A.d_falls_of_row fun _ _ _ _ _ _ us hl => match us, hl with | [_], _ => rfl
  have D_need_ring : DefAt K mg "need_ring" s_need_ring ["web", "rota", "ring"] := defAt_of X G A.d_need_ring fun _ _ _ _ _ _ us hl => match us, hl with | [_, _, _], _ => rfl
  have D_lap : DefAt K mg "lap" s_lap ["web", "rota", "ring"] := defAt_of X G A.d_lap fun _ _ _ _ _ _ us hl => match us, hl with | [_, _, _], _ => rfl
  have D_ends_by_road : DefAt K mg "ends_by_road" s_ends_by_road ["web"] := defAt_of X G A.d_ends_by_road fun _ _ _ _ _ _ us hl => match us, hl with | [_], _ => rfl
  have D_news_places : DefAt K mg "news_places" s_news_places ["web", "week", "place"] := defAt_of X G A.d_news_places fun _ _ _ _ _ _ us hl => match us, hl with | [_, _, _], _ => rfl
  have D_arrivals_from : DefAt K mg "arrivals_from" s_arrivals_from ["web", "week", "place", "moment", "missed"] := defAt_of X G A.d_arrivals_from fun _ _ _ _ _ _ us hl => match us, hl with | [_, _, _, _, _], _ => rfl
  have D_days_from : DefAt K mg "days_from" s_days_from ["web", "week", "place"] := defAt_of X G A.d_days_from fun _ _ _ _ _ _ us hl => match us, hl with | [_, _, _], _ => rfl
  have D_need_two_places : DefAt K mg "need_two_places" s_need_two_places ["web", "week", "place", "other"] := defAt_of X G A.d_need_two_places fun _ _ _ _ _ _ us hl => match us, hl with | [_, _, _, _], _ => rfl
  have D_days : DefAt K mg "days" s_days ["web", "week", "place", "other"] := defAt_of X G A.d_days fun _ _ _ _ _ _ us hl => match us, hl with | [_, _, _, _], _ => rfl
  have D_law_draw : DefAt K mg "_law_draw" s_law_draw ["_law_feed_here", "_law_many"] := defAt_of X G A.d_law_draw fun _ _ _ _ _ _ us hl => match us, hl with | [_, _], _ => rfl
  have D_law_one : DefAt K mg "_law_one" s_law_one ["_law_feed_here", "_law_things"] := defAt_of X G A.d_law_one fun _ _ _ _ _ _ us hl => match us, hl with | [_, _], _ => rfl
  have D_law_mixed : DefAt K mg "_law_mixed" s_law_mixed ["_law_feed_here", "_law_things"] := defAt_of X G A.d_law_mixed fun _ _ _ _ _ _ us hl => match us, hl with | [_, _], _ => rfl
  have D_law_names : DefAt K mg "_law_names" s_law_names ["_law_feed_here", "_law_many"] := defAt_of X G A.d_law_names fun _ _ _ _ _ _ us hl => match us, hl with | [_, _], _ => rfl
  have D_law_rota : DefAt K mg "_law_rota" s_law_rota ["_law_feed_here", "_law_web_here"] := defAt_of X G A.d_law_rota fun _ _ _ _ _ _ us hl => match us, hl with | [_, _], _ => rfl
  have D_law_feed : DefAt K mg "_law_feed" s_law_feed ["_law_script", "_law_k"] := defAt_of X G A.d_law_feed fun _ _ _ _ _ _ us hl => match us, hl with | [_, _], _ => rfl
  have D_law_fresh : DefAt K mg "_law_fresh" s_law_fresh ["_law_feed_here", "_law_many"] := defAt_of X G A.d_law_fresh fun _ _ _ _ _ _ us hl => match us, hl with | [_, _], _ => rfl
  have D_law_web : DefAt K mg "_law_web" s_law_web ["_law_feed_here", "_law_way"] := defAt_of X G A.d_law_web fun _ _ _ _ _ _ us hl => match us, hl with | [_, _], _ => rfl
  have D_law_wide_web : DefAt K mg "_law_wide_web" s_law_wide_web ["_law_feed_here"] := defAt_of X G A.d_law_wide_web fun _ _ _ _ _ _ us hl => match us, hl with | [_], _ => rfl
  have D_law_steps : DefAt K mg "_law_steps" s_law_steps ["_law_web_here", "_law_place"] := defAt_of X G A.d_law_steps fun _ _ _ _ _ _ us hl => match us, hl with | [_, _], _ => rfl
  have D_law_is_tree : DefAt K mg "_law_is_tree" s_law_is_tree ["_law_web_here"] := defAt_of X G A.d_law_is_tree fun _ _ _ _ _ _ us hl => match us, hl with | [_], _ => rfl
  have D_law_days_right : DefAt K mg "_law_days_right" s_law_days_right ["_law_web_here", "_law_rota_here", "_law_turned", "_law_back"] := defAt_of X G A.d_law_days_right fun _ _ _ _ _ _ us hl => match us, hl with | [_, _, _, _], _ => rfl
  have D_law : DefAt K mg "law" s_law ["_law_script"] := defAt_of X G A.d_law fun _ _ _ _ _ _ us hl => match us, hl with | [_], _ => rfl
  obtain ⟨f, fd, F, hm, _⟩ := D_law.ex
  rw [hfa] at hm
  cases hm
  refine ⟨fd, sp_law K, fun s u => ?_, fun H a ns hl _ hS => ⟨a, ns, rfl, hS, Nat.le_trans hl (by decide), fun _ _ => rfl⟩, fun base _ _ => ?_⟩
  · obtain ⟨_, _, _, _, _, _, _, _, _, e, _, _⟩ := F.ex
    rw [e]
    exact .of_eq rfl
  have c_names_of_roads := ok_names_of_roads (P := P) (w := w) (base := base) T D_names_of_roads 
  have c_other_end := ok_other_end (P := P) (w := w) (base := base) T D_other_end 
  have c_is_integer := ok_is_integer (P := P) (w := w) (base := base) T D_is_integer 
  have c_is_within := ok_is_within (P := P) (w := w) (base := base) T D_is_within (c_is_integer := c_is_integer)
  have c_is_name := ok_is_name (P := P) (w := w) (base := base) T D_is_name 
  have c_is_row_of := ok_is_row_of (P := P) (w := w) (base := base) T D_is_row_of 
  have c_are_of := ok_are_of (P := P) (w := w) (base := base) T D_are_of 
  have c_need_count := ok_need_count (P := P) (w := w) (base := base) T D_need_count (c_is_within := c_is_within)
  have c_are_names := ok_are_names (P := P) (w := w) (base := base) T D_are_names (c_is_name := c_is_name)
  have c_is_road := ok_is_road (P := P) (w := w) (base := base) T D_is_road (c_is_row_of := c_is_row_of) (c_is_name := c_is_name) (c_are_of := c_are_of)
  have c_is_web_form := ok_is_web_form (P := P) (w := w) (base := base) T D_is_web_form (c_is_row_of := c_is_row_of) (c_are_names := c_are_names) (c_is_road := c_is_road)
  have c_need_web := ok_need_web (P := P) (w := w) (base := base) T D_need_web (c_is_web_form := c_is_web_form)
  have c_is_place := ok_is_place (P := P) (w := w) (base := base) T D_is_place 
  have c_need_place := ok_need_place (P := P) (w := w) (base := base) T D_need_place (c_is_place := c_is_place)
  have c_is_rota := ok_is_rota (P := P) (w := w) (base := base) T D_is_rota (c_is_row_of := c_is_row_of) (c_are_of := c_are_of) (c_names_of_roads := c_names_of_roads)
  have c_need_rota := ok_need_rota (P := P) (w := w) (base := base) T D_need_rota (c_is_rota := c_is_rota)
  have c_is_round := ok_is_round (P := P) (w := w) (base := base) T D_is_round (c_are_of := c_are_of) (c_names_of_roads := c_names_of_roads)
  have c_need_week := ok_need_week (P := P) (w := w) (base := base) T D_need_week (c_is_row_of := c_is_row_of) (c_is_round := c_is_round)
  have c_round_of := ok_round_of (P := P) (w := w) (base := base) T D_round_of 
  have p_turned_rota := okP_turned_rota (P := P) (w := w) (base := base) T D_turned_rota (c_need_web := c_need_web) (c_need_rota := c_need_rota) (c_need_count := c_need_count)
  have c_turned_rota := p_turned_rota.cal
  have p_backwards := okP_backwards (P := P) (w := w) (base := base) T D_backwards (c_need_web := c_need_web) (c_need_rota := c_need_rota)
  have c_backwards := p_backwards.cal
  have c_steps_from := ok_steps_from (P := P) (w := w) (base := base) T D_steps_from (c_other_end := c_other_end)
  have c_first_way := ok_first_way (P := P) (w := w) (base := base) T D_first_way (c_steps_from := c_steps_from) (c_other_end := c_other_end)
  have c_way_places := ok_way_places (P := P) (w := w) (base := base) T D_way_places (c_other_end := c_other_end)
  have c_is_way := ok_is_way (P := P) (w := w) (base := base) T D_is_way (c_names_of_roads := c_names_of_roads) (c_way_places := c_way_places)
  have c_is_ring := ok_is_ring (P := P) (w := w) (base := base) T D_is_ring (c_is_way := c_is_way) (c_way_places := c_way_places)
  have c_ring_in_web := ok_ring_in_web (P := P) (w := w) (base := base) T D_ring_in_web (c_first_way := c_first_way)
  have c_ring_of := ok_ring_of (P := P) (w := w) (base := base) T D_ring_of (c_need_web := c_need_web) (c_ring_in_web := c_ring_in_web)
  have c_falls_of_row := ok_falls_of_row (P := P) (w := w) (base := base) T D_falls_of_row 
  have c_need_ring := ok_need_ring (P := P) (w := w) (base := base) T D_need_ring (c_need_web := c_need_web) (c_need_rota := c_need_rota) (c_is_ring := c_is_ring)
  have c_lap := ok_lap (P := P) (w := w) (base := base) T D_lap (c_need_ring := c_need_ring) (c_falls_of_row := c_falls_of_row)
  have c_ends_by_road := ok_ends_by_road (P := P) (w := w) (base := base) T D_ends_by_road 
  have c_news_places := ok_news_places (P := P) (w := w) (base := base) T D_news_places (c_ends_by_road := c_ends_by_road)
  have c_arrivals_from := ok_arrivals_from (P := P) (w := w) (base := base) T D_arrivals_from (c_ends_by_road := c_ends_by_road) (c_news_places := c_news_places) (c_round_of := c_round_of)
  have c_days_from := ok_days_from (P := P) (w := w) (base := base) T D_days_from (c_arrivals_from := c_arrivals_from)
  have c_need_two_places := ok_need_two_places (P := P) (w := w) (base := base) T D_need_two_places (c_need_web := c_need_web) (c_need_week := c_need_week) (c_need_place := c_need_place)
  have c_days := ok_days (P := P) (w := w) (base := base) T D_days (c_need_two_places := c_need_two_places) (c_days_from := c_days_from)
  have c_law_draw := ok_law_draw (P := P) (w := w) (base := base) T D_law_draw 
  have c_law_one := ok_law_one (P := P) (w := w) (base := base) T D_law_one (c_law_draw := c_law_draw)
  have c_law_mixed := ok_law_mixed (P := P) (w := w) (base := base) T D_law_mixed (c_law_draw := c_law_draw)
  have c_law_names := ok_law_names (P := P) (w := w) (base := base) T D_law_names (c_law_mixed := c_law_mixed)
  have c_law_rota := ok_law_rota (P := P) (w := w) (base := base) T D_law_rota (c_law_mixed := c_law_mixed)
  have c_law_feed := ok_law_feed (P := P) (w := w) (base := base) T D_law_feed 
  have c_law_fresh := ok_law_fresh (P := P) (w := w) (base := base) T D_law_fresh (c_law_draw := c_law_draw) (c_law_one := c_law_one)
  have c_law_web := ok_law_web (P := P) (w := w) (base := base) T D_law_web (c_law_draw := c_law_draw) (c_law_one := c_law_one) (c_law_mixed := c_law_mixed) (c_law_names := c_law_names)
  have c_law_wide_web := ok_law_wide_web (P := P) (w := w) (base := base) T D_law_wide_web (c_law_draw := c_law_draw) (c_law_one := c_law_one) (c_law_mixed := c_law_mixed) (c_law_fresh := c_law_fresh)
  have c_law_steps := ok_law_steps (P := P) (w := w) (base := base) T D_law_steps 
  have c_law_is_tree := ok_law_is_tree (P := P) (w := w) (base := base) T D_law_is_tree (c_law_steps := c_law_steps)
  have c_law_days_right := ok_law_days_right (P := P) (w := w) (base := base) T D_law_days_right (c_days := c_days)
  have k_back : CalK P w K mg base 5 "backwards" ["rota", "web"] kv2 sp_backwards := calK_of p_backwards D_backwards (g := ku2) (fun _ _ _ _ _ _ us ws hl => match us, ws, hl with | [], [_, _], _ => rfl) kr2
  have k_turn : CalK P w K mg base 5 "turned_rota" ["count", "rota", "web"] kv3 sp_turned_rota := calK_of p_turned_rota D_turned_rota (g := ku3) (fun _ _ _ _ _ _ us ws hl => match us, ws, hl with | [], [_, _, _], _ => rfl) kr3
  refine fnG_of (k := 7) F sc_law ⟨rfl, by decide, by decide⟩ (fun vs H Q E hh => ?_) fun cdv s H vs Q E hr hh => ?_
  · obtain ⟨a, ns, rfl, _⟩ := hh
    rfl
  · exact body_law T (c_law_feed := c_law_feed) (c_law_draw := c_law_draw) (c_law_wide_web := c_law_wide_web) (c_law_web := c_law_web) (c_law_one := c_law_one) (c_law_rota := c_law_rota) (c_ring_of := c_ring_of) (c_backwards := c_backwards) (c_lap := c_lap) (c_turned_rota := c_turned_rota) (c_law_is_tree := c_law_is_tree) (c_law_days_right := c_law_days_right) k_back (fun _ _ => rfl) k_turn (fun _ _ _ => rfl) _ cdv callerA [] s H vs Q E hr rfl hh
end RP
/-! part RPz3 -/
open PySem PySem.W PyProof.Rows
open_top headTop for PySem.Challenge.rw_roundpost_k10_whole_rotas_turned_and_bac
theorem PySem.Challenge.cw_roundpost_k10_whole_rotas_turned_and_bac_holds : PySem.Challenge.rw_roundpost_k10_whole_rotas_turned_and_bac.Holds := by
  refine headTop ?_
  k_fill
  refine RP.walkG (l := PySem.Challenge.rw_roundpost_k10_whole_rotas_turned_and_bac) (n := 63) (x := "_law_script") rfl (by decide) rfl (fun w h Y => PySem.W.kIn_of Y) ?F
  case F =>
    intro w mg fa h KX G hmg0
    have hmg : mg ("law" : PySem.Str) = some (.ref fa) := hmg0
    clear hmg0
    refine RP.law_fn KX G hmg ?A
    clear hmg
    constructor
    · refine' RP.DefK.mk ?a0 ?l0 ?c0 ?k0
      (case a0 => k_is); (case l0 => k_is); (case c0 => k_is); (case k0 => k_is)
    · refine' RP.DefK.mk ?a1 ?l1 ?c1 ?k1
      (case a1 => k_is); (case l1 => k_is); (case c1 => k_is); (case k1 => k_is)
    · refine' RP.DefK.mk ?a2 ?l2 ?c2 ?k2
      (case a2 => k_is); (case l2 => k_is); (case c2 => k_is); (case k2 => k_is)
    · refine' RP.DefK.mk ?a3 ?l3 ?c3 ?k3
      (case a3 => k_is); (case l3 => k_is); (case c3 => k_is); (case k3 => k_is)
    · refine' RP.DefK.mk ?a4 ?l4 ?c4 ?k4
      (case a4 => k_is); (case l4 => k_is); (case c4 => k_is); (case k4 => k_is)
    · refine' RP.DefK.mk ?a5 ?l5 ?c5 ?k5
      (case a5 => k_is); (case l5 => k_is); (case c5 => k_is); (case k5 => k_is)
    · refine' RP.DefK.mk ?a6 ?l6 ?c6 ?k6
      (case a6 => k_is); (case l6 => k_is); (case c6 => k_is); (case k6 => k_is)
    · refine' RP.DefK.mk ?a7 ?l7 ?c7 ?k7
      (case a7 => k_is); (case l7 => k_is); (case c7 => k_is); (case k7 => k_is)
    · refine' RP.DefK.mk ?a8 ?l8 ?c8 ?k8
      (case a8 => k_is); (case l8 => k_is); (case c8 => k_is); (case k8 => k_is)
    · refine' RP.DefK.mk ?a9 ?l9 ?c9 ?k9
      (case a9 => k_is); (case l9 => k_is); (case c9 => k_is); (case k9 => k_is)
    · refine' RP.DefK.mk ?a10 ?l10 ?c10 ?k10
      (case a10 => k_is); (case l10 => k_is); (case c10 => k_is); (case k10 => k_is)
    · refine' RP.DefK.mk ?a11 ?l11 ?c11 ?k11
      (case a11 => k_is); (case l11 => k_is); (case c11 => k_is); (case k11 => k_is)
    · refine' RP.DefK.mk ?a12 ?l12 ?c12 ?k12
      (case a12 => k_is); (case l12 => k_is); (case c12 => k_is); (case k12 => k_is)
    · refine' RP.DefK.mk ?a13 ?l13 ?c13 ?k13
      (case a13 => k_is); (case l13 => k_is); (case c13 => k_is); (case k13 => k_is)
    · refine' RP.DefK.mk ?a14 ?l14 ?c14 ?k14
      (case a14 => k_is); (case l14 => k_is); (case c14 => k_is); (case k14 => k_is)
    · refine' RP.DefK.mk ?a15 ?l15 ?c15 ?k15
      (case a15 => k_is); (case l15 => k_is); (case c15 => k_is); (case k15 => k_is)
    · refine' RP.DefK.mk ?a16 ?l16 ?c16 ?k16
      (case a16 => k_is); (case l16 => k_is); (case c16 => k_is); (case k16 => k_is)
    · refine' RP.DefK.mk ?a17 ?l17 ?c17 ?k17
      (case a17 => k_is); (case l17 => k_is); (case c17 => k_is); (case k17 => k_is)
    · refine' RP.DefK.mk ?a18 ?l18 ?c18 ?k18
      (case a18 => k_is); (case l18 => k_is); (case c18 => k_is); (case k18 => k_is)
    · refine' RP.DefK.mk ?a19 ?l19 ?c19 ?k19
      (case a19 => k_is); (case l19 => k_is); (case c19 => k_is); (case k19 => k_is)
    · refine' RP.DefK.mk ?a20 ?l20 ?c20 ?k20
      (case a20 => k_is); (case l20 => k_is); (case c20 => k_is); (case k20 => k_is)
    · refine' RP.DefK.mk ?a21 ?l21 ?c21 ?k21
      (case a21 => k_is); (case l21 => k_is); (case c21 => k_is); (case k21 => k_is)
    · refine' RP.DefK.mk ?a22 ?l22 ?c22 ?k22
      (case a22 => k_is); (case l22 => k_is); (case c22 => k_is); (case k22 => k_is)
    · refine' RP.DefK.mk ?a23 ?l23 ?c23 ?k23
      (case a23 => k_is); (case l23 => k_is); (case c23 => k_is); (case k23 => k_is)
    · refine' RP.DefK.mk ?a24 ?l24 ?c24 ?k24
      (case a24 => k_is); (case l24 => k_is); (case c24 => k_is); (case k24 => k_is)
    · refine' RP.DefK.mk ?a25 ?l25 ?c25 ?k25
      (case a25 => k_is); (case l25 => k_is); (case c25 => k_is); (case k25 => k_is)
    · refine' RP.DefK.mk ?a26 ?l26 ?c26 ?k26
      (case a26 => k_is); (case l26 => k_is); (case c26 => k_is); (case k26 => k_is)
    · refine' RP.DefK.mk ?a27 ?l27 ?c27 ?k27
      (case a27 => k_is); (case l27 => k_is); (case c27 => k_is); (case k27 => k_is)
    · refine' RP.DefK.mk ?a28 ?l28 ?c28 ?k28
      (case a28 => k_is); (case l28 => k_is); (case c28 => k_is); (case k28 => k_is)
    · refine' RP.DefK.mk ?a29 ?l29 ?c29 ?k29
      (case a29 => k_is); (case l29 => k_is); (case c29 => k_is); (case k29 => k_is)
    · refine' RP.DefK.mk ?a30 ?l30 ?c30 ?k30
      (case a30 => k_is); (case l30 => k_is); (case c30 => k_is); (case k30 => k_is)
    · refine' RP.DefK.mk ?a31 ?l31 ?c31 ?k31
      (case a31 => k_is); (case l31 => k_is); (case c31 => k_is); (case k31 => k_is)
    · refine' RP.DefK.mk ?a32 ?l32 ?c32 ?k32
      (case a32 => k_is); (case l32 => k_is); (case c32 => k_is); (case k32 => k_is)
    · refine' RP.DefK.mk ?a33 ?l33 ?c33 ?k33
      (case a33 => k_is); (case l33 => k_is); (case c33 => k_is); (case k33 => k_is)
    · refine' RP.DefK.mk ?a34 ?l34 ?c34 ?k34
      (case a34 => k_is); (case l34 => k_is); (case c34 => k_is); (case k34 => k_is)
    · refine' RP.DefK.mk ?a35 ?l35 ?c35 ?k35
      (case a35 => k_is); (case l35 => k_is); (case c35 => k_is); (case k35 => k_is)
    · refine' RP.DefK.mk ?a36 ?l36 ?c36 ?k36
      (case a36 => k_is); (case l36 => k_is); (case c36 => k_is); (case k36 => k_is)
    · refine' RP.DefK.mk ?a37 ?l37 ?c37 ?k37
      (case a37 => k_is); (case l37 => k_is); (case c37 => k_is); (case k37 => k_is)
    · refine' RP.DefK.mk ?a38 ?l38 ?c38 ?k38
      (case a38 => k_is); (case l38 => k_is); (case c38 => k_is); (case k38 => k_is)
    · refine' RP.DefK.mk ?a39 ?l39 ?c39 ?k39
      (case a39 => k_is); (case l39 => k_is); (case c39 => k_is); (case k39 => k_is)
    · refine' RP.DefK.mk ?a40 ?l40 ?c40 ?k40
      (case a40 => k_is); (case l40 => k_is); (case c40 => k_is); (case k40 => k_is)
    · refine' RP.DefK.mk ?a41 ?l41 ?c41 ?k41
      (case a41 => k_is); (case l41 => k_is); (case c41 => k_is); (case k41 => k_is)
    · refine' RP.DefK.mk ?a42 ?l42 ?c42 ?k42
      (case a42 => k_is); (case l42 => k_is); (case c42 => k_is); (case k42 => k_is)
    · refine' RP.DefK.mk ?a43 ?l43 ?c43 ?k43
      (case a43 => k_is); (case l43 => k_is); (case c43 => k_is); (case k43 => k_is)
    · refine' RP.DefK.mk ?a44 ?l44 ?c44 ?k44
      (case a44 => k_is); (case l44 => k_is); (case c44 => k_is); (case k44 => k_is)
    · refine' RP.DefK.mk ?a45 ?l45 ?c45 ?k45
      (case a45 => k_is); (case l45 => k_is); (case c45 => k_is); (case k45 => k_is)
    · refine' RP.DefK.mk ?a46 ?l46 ?c46 ?k46
      (case a46 => k_is); (case l46 => k_is); (case c46 => k_is); (case k46 => k_is)
    · refine' RP.DefK.mk ?a47 ?l47 ?c47 ?k47
      (case a47 => k_is); (case l47 => k_is); (case c47 => k_is); (case k47 => k_is)
    · refine' RP.DefK.mk ?a48 ?l48 ?c48 ?k48
      (case a48 => k_is); (case l48 => k_is); (case c48 => k_is); (case k48 => k_is)
    · refine' RP.DefK.mk ?a49 ?l49 ?c49 ?k49
      (case a49 => k_is); (case l49 => k_is); (case c49 => k_is); (case k49 => k_is)
    · k_is
    · k_is
    · k_is
    · k_is
    · k_is
    · k_is
    · k_is
    · k_is
    · k_is
    · k_is
    · k_is
    · k_is
    · k_is
    · k_is
    · k_is
    · k_is
    · refine' RP.tokS ?z0
      (case z0 => k_is)
    · refine' RP.tokS ?z1
      (case z1 => k_is)
    · refine' RP.tokI ?z2
      (case z2 => k_is)
    · refine' RP.tokI ?z3
      (case z3 => k_is)
    · refine' RP.tokI ?z4
      (case z4 => k_is)
    · refine' RP.tokI ?z5
      (case z5 => k_is)
