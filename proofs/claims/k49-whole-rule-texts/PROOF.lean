import PyProof.Rows.All
import Wide.All
import OpenK.AllK
import Wide.FinOn
import HandS.ForMost
import HandS.Codes
import HandS.Star
import HandS.Wide
import HandS.IsInst
import HandS.TupAny
import HandS.TupMul
import HandS.Style
import HandS.Defaults
import HandS.TryOnly
import HandS.ExcOwn
import PySem.Challenge.RW_siltstore_k49_whole_rule_texts
import HandS.DictComp
import HandS.OwnEq
import HandS.Conv
import HandS.More
import HandS.ExcInit
import HandS.Nested
import HandS.ExcSuper
import HandS.ExcField
import KE.KExcSuper
import KE.GoesMore
import HandS.Sort
import HandS.EndTab
import HandS.SortKw
import HandS.NoneIn
import KE.SortKeyHeap
import KE.SortData
import HandS.Small
import PyProof.Conv_bool
import HandS.Iter
import HandS.Text
import HandS.SortRule
import HandS.ListItems
import HandS.Rev
import KE.KEqNest
import HandS.WordsDict
import KE.KDictZip
import KE.KRevIter
import PyProof.StrOps2
import HandS.SetFor
import HandS.Strs
import HandS.SetTxt0
import PyProof.Rows.SortStr
import HandS.SetBool
import PyProof.ListRange
import PyProof.CollectIter
import PyProof.CollectWalk
import PyProof.DictUpdate
import PyProof.DictDisplay
import PyProof.DictTable
import HandS.Dict
import KE.SortUse
import KE.SortKeyed
import HandS.TryMany
import KE.GoesEnum
import KE.KStateDown
import HandS.Base
import HandS.Call
import HandS.Head0
import HandS.Head1
import HandS.Head2
import HandS.HeadEnd
import HandS.HeadHook1
import HandS.HeadHook2
import HandS.HeadHook3
set_option Elab.async false
set_option linter.all false
set_option maxRecDepth 100000
set_option maxHeartbeats 4000000
set_option exponentiation.threshold 9000
set_option Elab.async false
set_option linter.all false
set_option maxRecDepth 100000
set_option maxHeartbeats 4000000
namespace L2
open PySem PySem.Spec PyProof.Rows
section
variable {X : Cx} {CX : CXT} {k j : Nat} {f C : Addr} {fd : FuncData} {ps : List Str} {sp : Sp} {dvs : List V} {ds : List Value} {E : XK} {pos : Pos} {a b : Expr} {ta tb : TE}
/-- the callee runs one level within a built-in's body -/
theorem run_fn1 {pins : List (Addr × Obj)} {σ : St} {H : Hp} {s : Shared} {Q : VK} {us : List Value} {vs : List V} (F : FnOk X.prog X.w X.K X.mg X.base CX k f fd ps sp) (hr : Room (k + 1) X.A) (hb : Binds X.K fd ps ds) (hd : Vals dvs ds) (hx : Passes CX X E)
    (I : Inv X pins σ H s) (r : Vals vs us) (h : sp (vs ++ dvs) H Q E) : wpAny (model X.prog X.w) X.A.in1 (call (.ref f) us) (EP X pins σ Q) X.xe s := by
  have r2 : Vals (vs ++ dvs) (us ++ ds) := r.append hd
  have hl : (us ++ ds).length = ps.length := by rw [← r2.length]; exact F.len _ _ _ _ h
  refine wpAny_call (codeAny_mono (F.run X.A.in1 X.stack s H ⟨us, []⟩ (us ++ ds) (vs ++ dvs) Q E hr.in1 I.env0.in1 (hb s us I.kIn hl) r2 h) fun r s' hq => ?_)
  cases r with
  | error e => exact hx pins σ H s e s' I hq
  | ok fl =>
    cases fl with
    | ret u => exact I.after hq
    | next => exact False.elim hq
    | brk => exact False.elim hq
    | cont => exact False.elim hq
/-- o[i] of an own class with its own __getitem__ -/
def rOwnI (C : Addr) (sp : Sp) (dvs : List V) : R2 := fun x y H Q => ∃ a dx fs, x = .ref a ∧ H a = some (.ins C dx fs) ∧ sp (x :: ([y] ++ dvs)) H Q C8.E0
theorem pe_ixO (c : C8.Met X.prog X.w X.K X.mg X.base k C "__getitem__" sp dvs) (hr : Room j X.A) (hk : k + 1 ≤ j) (ha : PE X a ta) (hb : PE X b tb) (hfn : ∀ f, PySem.W.findIn X.K (.ref C) "__getitem__" = some (some (.ref f)) → PySem.W.fnIn X.K f = true)
    (hs : ∀ o i, subscripted b true o i = runValue (.builtin "lifetime.subscript" ⟨[o, i], []⟩) := by intro _ _; first | rfl | with_unfolding_all rfl) :
    PE X (.Subscript a b pos) (tOp (rOwnI C sp dvs) ta tb) := by
  obtain ⟨f, fd, ps, ds, cl, hm, F, bd, d⟩ := c.ex
  refine ⟨fun pins s σ H Q I h => ?_⟩
  refine Subscript_ (binT ha hb I h fun v u s2 x y H2 I2 rx ry q => ?_)
  obtain ⟨p, dx, fs, rfl, e, q⟩ := q
  obtain rfl : v = Value.ref p := rx
  obtain ⟨mA, O, _, _, _, _⟩ := ins_get I2.hok e
  obtain ⟨od, J, _⟩ := O.look
  obtain ⟨m, F0⟩ := I2.fr
  refine PySem.W.sub_K F0 I2.ok.mod.kin J hm.at_ (hfn _ hm.at_) hm.fn ?_ (hs _ _)
  exact run_fn1 (us := [.ref p, u]) (vs := [.ref p, y]) F (hr.mono hk) bd d C8.pass0 I2 (.cons rfl (.cons ry .nil)) q

/-! ### names as slots -/
theorem pg_n (i : Nat) {x : Str} {pos : Pos} (hN : X.N.Nodup) (hi : X.N[i]? = some x := by rfl) (hx : Loc X.env.scope x := by first | exact .inl rfl | exact .inr rfl) (hf : X.fn x = true ∨ X.env.scope.names.lookup x = some .local := by first | exact .inl rfl | exact .inr rfl) : PG X (.Name x pos) (gName i) := pg_name hN hi hx hf
theorem ps_s (i : Nat) {x : Str} {e : Expr} {te : TE} {pos' : Pos} (hN : X.N.Nodup) (he : PE X e te) (hi : X.N[i]? = some x := by rfl) (hx : Loc X.env.scope x := by first | exact .inl rfl | exact .inr rfl) (hs : swapsWith e (some (.Name x pos')) pos.line X.env = pure false := by rfl) (hf : X.fn x = true ∨ X.env.scope.names.lookup x = some .local := by first | exact .inl rfl | exact .inr rfl) :
    PS X (.Assign [.Name x pos'] e pos) (tAsg te (gName i)) := ps_set hN hi hx he hs hf
theorem ps_au (i : Nat) {x : Str} {e : Expr} {te : TE} {op : Operator} {ti : TIp} {pos' : Pos} (hN : X.N.Nodup) (he : PE X e te) (ho : PIp X op ti) (hi : X.N[i]? = some x := by rfl) (hx : Loc X.env.scope x := by first | exact .inl rfl | exact .inr rfl) (hf : X.fn x = true ∨ X.env.scope.names.lookup x = some .local := by first | exact .inl rfl | exact .inr rfl) :
    PS X (.AugAssign (.Name x pos') op e pos) (tAug i te ti) := ps_aug hN hi hx he ho hf
/-! ### a drawing list: item 0 is the script, item 1 some int (which one is not told) -/
def DrawO (a sc : Addr) : HO := .ext fun h => ∃ (i : Int) (t : Tok) (n : Nat), h.get? a = some { cls := .type "list", data := .seq #[.ref sc, .int i t] n }
theorem drawO_new {P : Program} {w : World} {H : Hp} {h : Heap} {a sc : Addr} {i : Int} {t : Tok} {n : Nat} (e : h.get? a = some { cls := .type "list", data := .seq #[.ref sc, .int i t] n }) : ObjOk P w H h a (DrawO a sc) :=
  ⟨⟨i, t, n, e⟩, ⟨_, e⟩, fun h1 h2 ⟨i, t, n, e⟩ k => ⟨i, t, n, k _ e⟩⟩
/-- [script, 0] -/
def tDraw (t : TA) : TE := fun σ H Q => t σ H fun xs H1 => ∃ sc i, xs = [.ref sc, .int i] ∧ ∀ p, H1 p = none → Q (.ref p) (upd H1 p (DrawO p sc))
theorem pe_draw {es : List Expr} {t : TA} (h : PA X es t) : PE X (.List es pos) (tDraw t) := by
  refine ⟨fun pins s σ H Q I hq => ?_⟩
  refine wpAny_List_spliced (thn (h.run pos pins s σ H _ I hq) fun us s1 ⟨xs, H1, I1, r, sc, i, e, q⟩ => ?_)
  subst e
  obtain ⟨u1, u2, rfl, r1, r2⟩ := vals2 r
  obtain rfl : u1 = Value.ref sc := r1
  obtain ⟨t, rfl⟩ := r2
  refine ⟨by show 2 ≤ sizeLine; decide, ?_⟩
  have hf : H1 s1.heap.objs.size = none := I1.hok.fresh (Nat.le_refl _)
  refine ⟨.ref s1.heap.objs.size, upd H1 s1.heap.objs.size (DrawO s1.heap.objs.size sc), I1.laid (t' := s1.toks) (fun b u e => Heap.get?_push_of_some _ e) (Nat.le_refl _) ?_, rfl, q _ hf⟩
  exact drawO_new (i := i) (t := t) (n := 0) (Heap.get?_push_size _ rfl)
theorem draw_get {pins : List (Addr × Obj)} {σ : St} {H : Hp} {s : Shared} {a sc : Addr} (I : Inv X pins σ H s) (e : H a = some (DrawO a sc)) : ∃ (i : Int) (t : Tok) (n : Nat), s.heap.get? a = some { cls := .type "list", data := .seq #[.ref sc, .int i t] n } := (I.hok a _ e).1
def rDraw0 : R2 := fun x y H Q => ∃ a sc, x = .ref a ∧ y = .int 0 ∧ H a = some (DrawO a sc) ∧ Q (.ref sc) H
def rDraw1 : R2 := fun x y H Q => ∃ a sc, x = .ref a ∧ y = .int 1 ∧ H a = some (DrawO a sc) ∧ ∀ i : Int, Q (.int i) H
theorem ix_draw0 : IxR X rDraw0 := by
  intro value slice pins s σ H x y v u Q I rx ry h hs
  obtain ⟨a, sc, rfl, rfl, e, q⟩ := h
  cases rx
  obtain ⟨t, rfl⟩ := ry
  obtain ⟨i, ti, n, ho⟩ := draw_get I e
  exact item_listR (items := #[.ref sc, .int i ti]) (x := .ref sc) ⟨_, ho, rfl, n, rfl⟩ (by decide) (by decide) (by rfl) ⟨.ref sc, H, I, rfl, q⟩ hs
theorem ix_draw1 : IxR X rDraw1 := by
  intro value slice pins s σ H x y v u Q I rx ry h hs
  obtain ⟨a, sc, rfl, rfl, e, q⟩ := h
  cases rx
  obtain ⟨t, rfl⟩ := ry
  obtain ⟨i, ti, n, ho⟩ := draw_get I e
  exact item_listR (items := #[.ref sc, .int i ti]) (x := .int i ti) ⟨_, ho, rfl, n, rfl⟩ (by decide) (by decide) (by rfl) ⟨.int i, H, I, ⟨ti, rfl⟩, q i⟩ hs
theorem get_draw1 : PGet X rDraw1 := by
  intro pins s σ H x y v u Q I rx ry h
  obtain ⟨a, sc, rfl, rfl, e, q⟩ := h
  cases rx
  obtain ⟨t, rfl⟩ := ry
  obtain ⟨i, ti, n, ho⟩ := draw_get I e
  exact wpAny_getItem_list (items := #[.ref sc, .int i ti]) (x := .int i ti) ⟨_, ho, rfl, n, rfl⟩ (by decide) (by decide) (by rfl) ⟨.int i, H, I, ⟨ti, rfl⟩, q i⟩
def sDraw1 : TSet := fun o i v H Q => ∃ (a sc : Addr) (j : Int), o = .ref a ∧ i = .int 1 ∧ v = .int j ∧ H a = some (DrawO a sc) ∧ Q H
theorem upd_self {H : Hp} {a : Addr} {o : HO} (e : H a = some o) : upd H a o = H := by
  funext b
  unfold upd
  by_cases h : b = a
  · rw [if_pos h, h, e]
  · rw [if_neg h]
theorem set_draw1 : PSet X sDraw1 := by
  intro pins s σ H o i v ov iv u Q I ro ri rv h
  obtain ⟨a, sc, j, rfl, rfl, rfl, e, q⟩ := h
  cases ro
  obtain ⟨t, rfl⟩ := ri
  obtain ⟨t2, rfl⟩ := rv
  obtain ⟨i0, ti, n, ho⟩ := draw_get I e
  have hm : Obj.mapSeq (·.setIfInBounds 1 (.int j t2)) { cls := .type "list", data := .seq #[.ref sc, .int i0 ti] n } = { cls := .type "list", data := .seq #[.ref sc, .int j t2] n } := by rfl
  have g1 : (s.heap.update a (Obj.mapSeq (·.setIfInBounds 1 (.int j t2)))).get? a = some { cls := .type "list", data := .seq #[.ref sc, .int j t2] n } := by
    rw [Heap.get?_update_self _ ho (by rw [hm]; rfl), hm]
  have I' := I.write (x := a) (e := a) (o := DrawO a sc) (h' := s.heap.update a (Obj.mapSeq (·.setIfInBounds 1 (.int j t2)))) (t' := s.toks) (by rw [e]; exact True.intro) (.inl rfl)
    (fun b u hb z => by rw [Heap.get?_update_ne _ _ _ _ hb]; exact z) ⟨_, g1⟩ (drawO_new g1)
  rw [upd_self e] at I'
  exact PySem.W.ki_setAt (items := #[.ref sc, .int i0 ti]) ho (by decide) (by decide) (by show (1 : Int) < 2; decide) ⟨H, I', q⟩
end
end L2
set_option Elab.async false
set_option linter.all false
set_option maxRecDepth 100000
set_option maxHeartbeats 4000000
namespace L2
open PySem PySem.Spec PyProof.Rows
section
variable {X : Cx} {a b c d : Expr} {ta tb tc td : TE} {pos : Pos}
/-- a op1 b op2 c op3 d -/
def tChain3 (r r' r'' : R2) (ta tb tc td : TE) : TE := fun σ H Q => ta σ H fun x H1 => tb σ H1 fun y H2 => r x y H2 fun z H3 => ∃ k, z = .bl k ∧
  (if k = true then tc σ H3 fun w' H4 => r' y w' H4 fun z' H5 => ∃ k', z' = .bl k' ∧ (if k' = true then td σ H5 fun v' H6 => r'' w' v' H6 Q else Q (.bl false) H5) else Q (.bl false) H3)
theorem pe_chain3 {op op' op'' : CmpOp} {r r' r'' : R2} (ho : OpR X (compareOp op) r) (ho' : OpR X (compareOp op') r') (ho'' : OpR X (compareOp op'') r'') (ha : PE X a ta) (hb : PE X b tb) (hc : PE X c tc) (hd : PE X d td)
    (hm : lastMarks [op, op', op''] [b, c, d] = false := by with_unfolding_all rfl) : PE X (.Compare a [op, op', op''] [b, c, d] pos) (tChain3 r r' r'' ta tb tc td) := by
  refine ⟨fun pins s σ H Q I h => ?_⟩
  refine Compare_chain (thn (ha.run pins s σ H _ I h) fun v s1 ⟨x, H1, I1, r1, q1⟩ => chain_link (thn (hb.run pins s1 σ H1 _ I1 q1) fun u s2 ⟨y, H2, I2, r2, q2⟩ =>
    thn (ho pins s2 σ H2 x y v u _ I2 r1 r2 q2) fun d s3 ⟨z, H3, I3, r3, k, e, q3⟩ => ?_)) hm
  subst e
  cases r3
  refine wpAny_truthy_bool ?_
  cases k with
  | false => exact ite_ff ⟨.bl false, H3, I3, rfl, q3⟩
  | true =>
    refine ite_tt (chain_link (thn (hc.run pins s3 σ H3 _ I3 q3) fun w' s4 ⟨z', H4, I4, r4, q4⟩ => thn (ho' pins s4 σ H4 y z' u w' _ I4 r2 r4 q4) fun d s5 ⟨z5, H5, I5, r5, k5, e5, q5⟩ => ?_))
    subst e5
    cases r5
    refine wpAny_truthy_bool ?_
    cases k5 with
    | false => exact ite_ff ⟨.bl false, H5, I5, rfl, q5⟩
    | true => exact ite_tt (chain_last (thn (hd.run pins s5 σ H5 _ I5 q5) fun w6 s6 ⟨z6, H6, I6, r6, q6⟩ => ho'' pins s6 σ H6 z' z6 w' w6 Q I6 r4 r6 q6))
/-- o.f as a target -/
def gFld (K : PySem.W.Frag) (to : TE) (f : Str) : TG := fun v σ H Q => to σ H fun x H1 => ∃ a C dx fs, x = .ref a ∧ H1 a = some (.ins C dx fs) ∧ Cls K C ∧ NoAttr K C f ∧ fs.length < 1000 ∧ Q σ (upd H1 a (.ins C dx (putF f v fs)))
theorem pg_attr {o : Expr} {f : Str} {to : TE} (ho : PE X o to)
    (ha : ∀ v, assign (.Attribute o f pos) X.env v = (do
      let ov ← holding [v] (eval o X.env)
      standAt pos.atName
      holding [v, ov] (setAttr ov f v)
      release [v, ov] []) := by intro _; rfl) : PG X (.Attribute o f pos) (gFld X.K to f) := by
  refine ⟨fun pins s σ H v u Q I r h => ?_⟩
  rw [ha]
  refine wpAny_bind (wpAny_holding (thn (ho.run pins s σ H _ I h) fun ov s1 ⟨x, H1, I1, r1, p, C, dx, fs, ex, e, c, n, hl, q1⟩ => ?_))
  subst ex
  obtain rfl : ov = Value.ref p := r1
  refine wpAny_bind (wpAny_standAt (wpAny_bind (wpAny_holding (setattr_ok I1 e c n hl r fun s2 I2 => ?_))))
  exact wpAny_release ⟨σ, _, I2, q1⟩
/-! ### tuple * 1 is the tuple itself -/
theorem tuple_mul1 (l : Addr) (items : Array Value) (n : Nat) (dd : Option Addr) (sl : Array (Option Value)) (u : Tok) :
    Meets (Builtin.«tuple.__mul__» ⟨[.ref l, .int 1 u], []⟩) (fun _ R s => s.heap.get? l = some { cls := .type "tuple", dict := dd, data := .seq items n, slots := sl } ∧
      R (.ok (.ret (Value.ref l))) s) :=
  .of_wp fun prog w A R s h => by
    obtain ⟨hp, g, d, tk, os⟩ := s
    obtain ⟨hl, h⟩ := h
    have f1 := AutoSeq1.idx_int
    have c1 : (items.isEmpty || (1 : Int) == 1) = true := by simp
    wp_walk using wpAny_loadPart' hl
    exact ⟨_, rfl, h⟩
def rRepT1 (K : PySem.W.Frag) : R2 := fun x y H Q => ∃ l xs, x = .ref l ∧ y = .int 1 ∧ SqT K H l xs ∧ Q (.ref l) H
theorem op_repT1 : OpR X (binaryOp .Mult) (rRepT1 X.K) := by
  intro pins s σ H x y v u Q I rx ry h
  obtain ⟨l, xs, rfl, rfl, hT, q⟩ := h
  cases rx
  obtain ⟨t, rfl⟩ := ry
  obtain ⟨its, r, ⟨⟨cls, dd, data, sl⟩, ho, hc, n, hd⟩, hs⟩ := I.tuple hT
  simp only at hc hd
  subst hc hd
  exact wpAny_binaryOp_repeat_ref (T := "tuple") (U := "int") (by decide) ⟨_, ho, rfl⟩ (fun s' => typeIs_int s' 1 t) noFill_tuple_mul F.fills_int_mul F.slot_int_rmul repeat_tuple F.slot_int_index.lookup
    (call_meets F.slot_int_rmul (typeIs_int s 1 t) F.entry_int_rmul (F.args_int_rmul_2 _ _) (int_rmul_tuple 1 t l its.toArray n dd sl)
      ⟨ho, rfl, ⟨_, ho, rfl⟩, call_meets F.slot_tuple_mul ⟨_, ho, rfl⟩ F.entry_tuple_mul (F.args_tuple_mul_2 _ _) (tuple_mul1 l its.toArray n dd sl t) ⟨ho, ⟨.ref l, H, I, rfl, q⟩⟩⟩)
def rOr (r r' : R2) : R2 := fun x y H Q => r x y H Q ∨ r' x y H Q
theorem opR_or {f : Value → Value → Sem Value} {r r' : R2} (h : OpR X f r) (h' : OpR X f r') : OpR X f (rOr r r') := by
  intro pins s σ H x y v u Q I rx ry q
  rcases q with q | q
  · exact h pins s σ H x y v u Q I rx ry q
  · exact h' pins s σ H x y v u Q I rx ry q
theorem op_repTA : OpR X (binaryOp .Mult) (rOr (rRepT1 X.K) (rRepT X.K)) := opR_or op_repT1 op_repT
/-- x is None, x is not None -/
def rIsNn : R2 := fun x y H Q => y = .non ∧ Q (.bl (decide (x = .non))) H
def rNotNn : R2 := fun x y H Q => y = .non ∧ Q (.bl (!decide (x = .non))) H
theorem op_isNn : OpR X (compareOp .Is) rIsNn := op_isN
theorem op_notNn : OpR X (compareOp .IsNot) rNotNn := op_notN
/-! ### within a comprehension the frag must be told by its name -/
theorem ixK (R : PySem.W.Frag → R2) (K : PySem.W.Frag) (h : IxR X (R X.K)) (e : X.K = K := by rfl) : IxR X (R K) := e ▸ h
theorem opK {f : Value → Value → Sem Value} (R : PySem.W.Frag → R2) (K : PySem.W.Frag) (h : OpR X f (R X.K)) (e : X.K = K := by rfl) : OpR X f (R K) := e ▸ h
theorem callK {f : Value} (R : PySem.W.Frag → List V → Hp → VK → Prop) (K : PySem.W.Frag) (h : CallR X f (R X.K)) (e : X.K = K := by rfl) : CallR X f (R K) := e ▸ h
theorem pe_fldK {f : Str} (K : PySem.W.Frag) (h : PE X (.Attribute a f pos) (tFld X.K ta f)) (e : X.K = K := by rfl) : PE X (.Attribute a f pos) (tFld K ta f) := e ▸ h
end
end L2
set_option Elab.async false
set_option linter.all false
set_option maxRecDepth 100000
set_option maxHeartbeats 4000000
set_option exponentiation.threshold 9000
namespace Sl
open PySem L2 C8 StX
/-! ### great numbers -/
def BBn : Nat := 2 ^ 8900
theorem bbn_pos : 1000000 ≤ BBn := by
  unfold BBn
  have e : (2 : Nat) ^ 8900 = 2 ^ 20 * 2 ^ 8880 := (Nat.pow_add 2 20 8880)
  have : (1 : Nat) ≤ 2 ^ 8880 := Nat.pow_pos (by decide)
  rw [e]
  omega
theorem bbn_lt : BBn < 2 ^ 8901 := by
  unfold BBn
  exact Nat.pow_lt_pow_right (by decide) (by decide)
def BB : Int := (BBn : Nat)
theorem bb_nat {i : Int} (h0 : -BB ≤ i) (h : i ≤ BB) : i.natAbs < 2 ^ 8901 := by
  have := bbn_lt
  unfold BB at h0 h
  generalize (2 : Nat) ^ 8001 = b at *
  omega
theorem bb_pos : 1000000 ≤ BB := by have := bbn_pos; unfold BB; omega
def DDn : Nat := 2 ^ 2000
/-- days are below this -/
def DD : Int := (DDn : Nat)
theorem dd_pos : 1000000 ≤ DD := by
  have : 1000000 ≤ DDn := by
    unfold DDn
    have e : (2 : Nat) ^ 2000 = 2 ^ 20 * 2 ^ 1980 := (Nat.pow_add 2 20 1980)
    have : (1 : Nat) ≤ 2 ^ 1980 := Nat.pow_pos (by decide)
    rw [e]
    omega
  unfold DD; omega
theorem dd_bb : DD * 1000 ≤ BB := by
  have h : DDn * 1000 ≤ BBn := by
    unfold DDn BBn
    have e : (2 : Nat) ^ 8900 = 2 ^ 2000 * 2 ^ 6900 := (Nat.pow_add 2 2000 6900)
    have e2 : (2 : Nat) ^ 6900 = 2 ^ 10 * 2 ^ 6890 := (Nat.pow_add 2 10 6890)
    have : (1 : Nat) ≤ 2 ^ 6890 := Nat.pow_pos (by decide)
    rw [e]
    exact Nat.mul_le_mul_left _ (by omega)
  unfold DD BB
  omega
theorem cmulw {i j : Int} (h0 : -BB ≤ i) (h : i ≤ BB) (g0 : -BB ≤ j) (g : j ≤ BB) : CMulW i j := wide_mul (bb_nat h0 h) (bb_nat g0 g) (by decide) (by decide) (by decide)
theorem cdivw {i j : Int} (h0 : 0 < j) (h : j ≤ BB) : CDivW i j := wide_div h0 (bb_nat (by have := bb_pos; omega) h) (by decide) (by decide)
/-! ### heaps -/
theorem Same.new {H H' : Hp} {p : Addr} {o : HO} (e : Same H H') (h : H' p = none) : Same H (upd H' p o) := fun a u ha => by
  rw [upd_ne (ne_of_none (e a u ha) h)]
  exact e a u ha
theorem Same.mut {H H' : Hp} {p : Addr} {o : HO} (e : Same H H') (h : H p = none) : Same H (upd H' p o) := fun a u ha => by
  rw [upd_ne (ne_of_none ha h)]
  exact e a u ha
mutual
/-- a value that holds data, all of it tracked -/
inductive Dt (H : Hp) : V → PyData → Prop
  | non : Dt H .non .none
  | bl (b : Bool) : Dt H (.bl b) (.bool b)
  | int (i : Int) : Dt H (.int i) (.int i)
  | str (x : Str) : Dt H (.str x) (.str x)
  | lst {a : Addr} {xs : List V} {ds : List PyData} : H a = some (.lst xs) → DtAll H xs ds → Dt H (.ref a) (.list ds)
  | tup {a : Addr} {xs : List V} {ds : List PyData} : H a = some (.tup xs) → DtAll H xs ds → Dt H (.ref a) (.tuple ds)
inductive DtAll (H : Hp) : List V → List PyData → Prop
  | nil : DtAll H [] []
  | cons {v : V} {vs : List V} {d : PyData} {ds : List PyData} : Dt H v d → DtAll H vs ds → DtAll H (v :: vs) (d :: ds)
end
mutual
theorem Dt.mono {H H' : Hp} (s : Same H H') : ∀ {v : V} {d : PyData}, Dt H v d → Dt H' v d
  | _, _, .non => .non
  | _, _, .bl b => .bl b
  | _, _, .int i => .int i
  | _, _, .str x => .str x
  | _, _, .lst e h => .lst (s _ _ e) (DtAll.mono s h)
  | _, _, .tup e h => .tup (s _ _ e) (DtAll.mono s h)
theorem DtAll.mono {H H' : Hp} (s : Same H H') : ∀ {vs : List V} {ds : List PyData}, DtAll H vs ds → DtAll H' vs ds
  | _, _, .nil => .nil
  | _, _, .cons h t => .cons (Dt.mono s h) (DtAll.mono s t)
end
mutual
theorem Dt.dp {K : PySem.W.Frag} {H : Hp} : ∀ {v : V} {d : PyData}, Dt H v d → Dp K H v d
  | _, _, .non => .non
  | _, _, .bl b => .bl b
  | _, _, .int i => .int i
  | _, _, .str x => .str x
  | _, _, .lst e h => .lst (SqL.of e) (DtAll.dp h)
  | _, _, .tup e h => .tup (SqT.of e) (DtAll.dp h)
theorem DtAll.dp {K : PySem.W.Frag} {H : Hp} : ∀ {vs : List V} {ds : List PyData}, DtAll H vs ds → DpAll K H vs ds
  | _, _, .nil => .nil
  | _, _, .cons h t => .cons (Dt.dp h) (DtAll.dp t)
end
theorem DtAll.length {H : Hp} : ∀ {vs : List V} {ds : List PyData}, DtAll H vs ds → vs.length = ds.length
  | _, _, .nil => rfl
  | _, _, .cons _ t => by rw [List.length_cons, List.length_cons, DtAll.length t]
theorem DtAll.get {H : Hp} : ∀ {vs : List V} {ds : List PyData} {i : Nat} {d : PyData}, DtAll H vs ds → ds[i]? = some d → ∃ v, vs[i]? = some v ∧ Dt H v d
  | _, _, _, _, .nil, h => by simp at h
  | _, _, 0, _, .cons h _, e => by simp at e; subst e; exact ⟨_, rfl, h⟩
  | _, _, i + 1, _, .cons _ t, e => by
    obtain ⟨v, h1, h2⟩ := DtAll.get (i := i) t (by simpa using e)
    exact ⟨v, by simpa using h1, h2⟩
theorem DtAll.getV {H : Hp} : ∀ {vs : List V} {ds : List PyData} {i : Nat} {v : V}, DtAll H vs ds → vs[i]? = some v → ∃ d, ds[i]? = some d ∧ Dt H v d
  | _, _, _, _, .nil, h => by simp at h
  | _, _, 0, _, .cons h _, e => by simp at e; subst e; exact ⟨_, rfl, h⟩
  | _, _, i + 1, _, .cons _ t, e => by
    obtain ⟨v, h1, h2⟩ := DtAll.getV (i := i) t (by simpa using e)
    exact ⟨v, by simpa using h1, h2⟩
theorem DtAll.append {H : Hp} : ∀ {vs ws : List V} {ds es : List PyData}, DtAll H vs ds → DtAll H ws es → DtAll H (vs ++ ws) (ds ++ es)
  | _, _, _, _, .nil, s => s
  | _, _, _, _, .cons h t, s => .cons h (DtAll.append t s)
theorem DtAll.take {H : Hp} : ∀ {vs : List V} {ds : List PyData} (n : Nat), DtAll H vs ds → DtAll H (vs.take n) (ds.take n)
  | _, _, 0, _ => .nil
  | _, _, _ + 1, .nil => .nil
  | _, _, n + 1, .cons h t => .cons h (DtAll.take n t)
theorem DtAll.drop {H : Hp} : ∀ {vs : List V} {ds : List PyData} (n : Nat), DtAll H vs ds → DtAll H (vs.drop n) (ds.drop n)
  | _, _, 0, r => r
  | _, _, _ + 1, .nil => .nil
  | _, _, n + 1, .cons _ t => DtAll.drop n t
/-- ints -/
def intsD (ns : List Int) : List PyData := ns.map PyData.int
theorem DtAll.intsD {H : Hp} : ∀ (ns : List Int), DtAll H (ns.map V.int) (intsD ns)
  | [] => .nil
  | n :: ns => .cons (.int n) (DtAll.intsD ns)
theorem DtAll.intsD_inv {H : Hp} : ∀ {ns : List Int} {vs : List V}, DtAll H vs (Sl.intsD ns) → vs = ns.map V.int
  | [], _, .nil => rfl
  | n :: ns, _, .cons (.int _) t => by rw [DtAll.intsD_inv t]; rfl
/-! ### readings by names -/
def rNewL (Q : VK) (xs : List V) (H1 : Hp) : Prop := xs.length ≤ sizeLine ∧ ∀ p, H1 p = none → Q (.ref p) (upd H1 p (.lst xs))
def rNewT (Q : VK) (xs : List V) (H1 : Hp) : Prop := xs.length ≤ sizeLine ∧ ∀ p, H1 p = none → Q (.ref p) (upd H1 p (.tup xs))
def rMax2 : List V → Hp → VK → Prop := fun xs H Q => ∃ i j, xs = [.int i, .int j] ∧ Q (.int (if j > i then j else i)) H
def rMin2 : List V → Hp → VK → Prop := fun xs H Q => ∃ i j, xs = [.int i, .int j] ∧ Q (.int (if j < i then j else i)) H
def rAbs : List V → Hp → VK → Prop := fun xs H Q => ∃ i, xs = [.int i] ∧ Q (.int (if i < 0 then -i else i)) H
def rInt1 : List V → Hp → VK → Prop := fun xs H Q => (∃ i, xs = [.int i] ∧ Q (.int i) H) ∨ ∃ k, xs = [.bl k] ∧ Q (.int (if k then 1 else 0)) H
def rLenS (K : PySem.W.Frag) : List V → Hp → VK → Prop := fun xs H Q => ∃ p ys, xs = [.ref p] ∧ (SqL K H p ys ∨ SqT K H p ys) ∧ Q (.int ys.length) H
def rIsC (C : Addr) : List V → Hp → VK → Prop := fun xs H Q => ∃ a dx fs, xs = [.ref a, .ref C] ∧ H a = some (.ins C dx fs) ∧ Q (.bl true) H
def rTupOf (K : PySem.W.Frag) : List V → Hp → VK → Prop := fun xs H Q => ∃ p ys, xs = [.ref p] ∧ ((SqL K H p ys ∧ ∀ l, H l = none → Q (.ref l) (upd H l (.tup ys))) ∨ (SqT K H p ys ∧ Q (.ref p) H))
def rLstOf (K : PySem.W.Frag) : List V → Hp → VK → Prop := fun xs H Q => ∃ p ys, xs = [.ref p] ∧ (SqL K H p ys ∨ SqT K H p ys) ∧ ∀ l, H l = none → Q (.ref l) (upd H l (.lst ys))
def rFld (K : PySem.W.Frag) (f : Str) : V → Hp → VK → Prop := fun x H1 Q => ∃ a C dx fs v, x = .ref a ∧ H1 a = some (.ins C dx fs) ∧ Cls K C ∧ NoAttr K C f ∧ fs.lookup f = some v ∧ Q v H1
section
variable {X : Cx}
theorem cr_max2 (hc : X.calm = true) : CallR X (.builtin "max") rMax2 := call_max2 hc
theorem cr_min2 (hc : X.calm = true) : CallR X (.builtin "min") rMin2 := call_min2 hc
theorem cr_abs : CallR X (.builtin "abs") rAbs := call_abs
theorem cr_int1 : CallR X (.type "int") rInt1 := call_int1
theorem cr_lenS : CallR X (.builtin "len") (rLenS X.K) := call_len_seq
theorem cr_isC {C : Addr} (c : InsC X.K C) : CallR X (.builtin "isinstance") (rIsC C) := call_isC c
theorem cr_tupOf : CallR X (.type "tuple") (rTupOf X.K) := call_tuple_of
theorem cr_lstOf : CallR X (.type "list") (rLstOf X.K) := call_list_of
end
/-! ### readings, backwards -/
section
variable {σ : L2.St} {H H' : Hp} {Q : VK} {E : XK} {te ta tb tc : TE} {t u : TS} {g : TG} {i : Nat} {v x y : V} {K : PySem.W.Frag} {nx bk ct : L2.St → Hp → Prop} {rt : VK} {QB : Bool → Hp → Prop} {QL : List V → Hp → Prop} {QS : L2.St → Hp → Prop}
theorem rd_seq (h : t ⟨u ⟨nx, rt, bk, ct⟩, rt, bk, ct⟩ σ H) : tSeq t u ⟨nx, rt, bk, ct⟩ σ H := h
theorem rd_asg (h : te σ H fun x H1 => nx (σ.set i (some x)) H1) : tAsg te (gName i) ⟨nx, rt, bk, ct⟩ σ H := h
theorem rd_asgG (h : te σ H fun x H1 => g x σ H1 nx) : tAsg te g ⟨nx, rt, bk, ct⟩ σ H := h
theorem rd_drop (h : te σ H fun _ H1 => nx σ H1) : tDrop te ⟨nx, rt, bk, ct⟩ σ H := h
theorem rd_ret (h : te σ H rt) : tRet te ⟨nx, rt, bk, ct⟩ σ H := h
theorem rd_retN (h : rt .non H) : tRetN ⟨nx, rt, bk, ct⟩ σ H := h
theorem rd_next (h : nx σ H) : tNext ⟨nx, rt, bk, ct⟩ σ H := h
theorem rd_break (h : bk σ H) : tBreak ⟨nx, rt, bk, ct⟩ σ H := h
theorem rd_cont (h : ct σ H) : tCont ⟨nx, rt, bk, ct⟩ σ H := h
theorem rd_ifS {c : TT} (h : c σ H fun b H1 => if b = true then t ⟨nx, rt, bk, ct⟩ σ H1 else u ⟨nx, rt, bk, ct⟩ σ H1) : tIfS c t u ⟨nx, rt, bk, ct⟩ σ H := h
theorem rd_par {j : Nat} {ta : TA} (h : ta σ H fun vs H1 => ∃ v w, vs = [v, w] ∧ nx ((σ.set i (some v)).set j (some w)) H1) : tPar i j ta ⟨nx, rt, bk, ct⟩ σ H := h
theorem rd_par2 {w : V} {R : V → V → Prop} (h : R v w) : ∃ v' w', [v, w] = [v', w'] ∧ R v' w' := ⟨v, w, rfl, h⟩
theorem rd_par3 {j l : Nat} {ta : TA} (h : ta σ H fun vs H1 => ∃ u v w, vs = [u, v, w] ∧ nx (((σ.set i (some u)).set j (some v)).set l (some w)) H1) : tPar3 i j l ta ⟨nx, rt, bk, ct⟩ σ H := h
theorem rd_par4 {u v w : V} {R : V → V → V → Prop} (h : R u v w) : ∃ u' v' w', [u, v, w] = [u', v', w'] ∧ R u' v' w' := ⟨u, v, w, rfl, h⟩
theorem rd_aug {ti : TIp} (e : σ[i]? = some (some x)) (h : te σ H fun y H1 => ti x y H1 fun z H2 => nx (σ.set i (some z)) H2) : tAug i te ti ⟨nx, rt, bk, ct⟩ σ H := ⟨x, e, h⟩
theorem rd_var (e : σ[i]? = some (some v)) (h : Q v H) : tVar i σ H Q := ⟨v, e, h⟩
theorem rd_var0 (h : ∃ v, σ[i]? = some (some v) ∧ Q v H) : tVar i σ H Q := h
theorem rd_aug0 {ti : TIp} (h : ∃ x, σ[i]? = some (some x) ∧ te σ H fun y H1 => ti x y H1 fun z H2 => nx (σ.set i (some z)) H2) : tAug i te ti ⟨nx, rt, bk, ct⟩ σ H := h
theorem rd_c (h : Q v H) : tC v σ H Q := h
theorem rd_op {r : R2} (h : ta σ H fun x H1 => tb σ H1 fun y H2 => r x y H2 Q) : tOp r ta tb σ H Q := h
theorem rd_un {r : V → Hp → VK → Prop} (h : ta σ H fun x H1 => r x H1 Q) : tUn r ta σ H Q := h
theorem rd_I0 {f : Int → Int → V} {a b : Int} (h : Q (f a b) H) : rI0 f (.int a) (.int b) H Q := ⟨a, b, rfl, rfl, h⟩
theorem rd_I {C : Int → Int → Prop} {f : Int → Int → V} {a b : Int} (c : C a b) (h : Q (f a b) H) : rI C f (.int a) (.int b) H Q := ⟨a, b, rfl, rfl, c, h⟩
theorem rd_U {f : Int → V} {a : Int} (h : Q (f a) H) : rU f (.int a) H Q := ⟨a, rfl, h⟩
theorem rd_ipI {f : Int → Int → Int} {a b : Int} (h : Q (.int (f a b)) H) : ipI f (.int a) (.int b) H Q := ⟨a, b, rfl, rfl, h⟩
theorem rd_eq (s : scal x y = true) (h : Q (.bl (decide (x = y))) H) : rEq x y H Q := ⟨s, h⟩
theorem rd_ne (s : scal x y = true) (h : Q (.bl (!decide (x = y))) H) : rNe x y H Q := ⟨s, h⟩
theorem rd_eqI {a b : Int} (h : Q (.bl (decide (a = b))) H) : rEq (.int a) (.int b) H Q := ⟨rfl, by
  have e : decide (V.int a = V.int b) = decide (a = b) := by
    by_cases c : a = b
    · rw [decide_eq_true c, decide_eq_true (by rw [c])]
    · rw [decide_eq_false c, decide_eq_false (by intro z; exact c (V.int.inj z))]
  rw [e]; exact h⟩
theorem rd_neI {a b : Int} (h : Q (.bl (!decide (a = b))) H) : rNe (.int a) (.int b) H Q := ⟨rfl, by
  have e : decide (V.int a = V.int b) = decide (a = b) := by
    by_cases c : a = b
    · rw [decide_eq_true c, decide_eq_true (by rw [c])]
    · rw [decide_eq_false c, decide_eq_false (by intro z; exact c (V.int.inj z))]
  rw [e]; exact h⟩
theorem rd_test (h : te σ H fun x H' => ∃ k, x = .bl k ∧ QB k H') : tTest te σ H QB := h
theorem rd_tB (h : te σ H fun x H' => ∃ k, x = .bl k ∧ QB k H') : tB te σ H QB := h
theorem rd_bl {b : Bool} {R : Bool → Prop} (h : R b) : ∃ k, V.bl b = .bl k ∧ R k := ⟨b, rfl, h⟩
theorem rd_not {c : TT} (h : c σ H fun b H1 => QB (!b) H1) : tNot c σ H QB := h
theorem rd_and {c d : TT} (h : c σ H fun b H1 => if b = true then d σ H1 QB else QB false H1) : tAnd c d σ H QB := h
theorem rd_or {c d : TT} (h : c σ H fun b H1 => if b = true then QB true H1 else d σ H1 QB) : tOr c d σ H QB := h
theorem rd_andV (h : ta σ H fun x H1 => ∃ c, x = .bl c ∧ if c = true then tb σ H1 Q else Q (.bl false) H1) : tAndV ta tb σ H Q := h
theorem rd_orV (h : ta σ H fun x H1 => ∃ c, x = .bl c ∧ if c = true then Q (.bl true) H1 else tb σ H1 Q) : tOrV ta tb σ H Q := h
theorem rd_notV (h : ta σ H fun x H1 => ∃ c, x = .bl c ∧ Q (.bl (!c)) H1) : tNotV ta σ H Q := h
theorem rd_ifE {c : TT} (h : c σ H fun b H1 => if b = true then ta σ H1 Q else tb σ H1 Q) : tIf c ta tb σ H Q := h
theorem rd_chain {r r' : R2} (h : ta σ H fun x H1 => tb σ H1 fun y H2 => r x y H2 fun z H3 => ∃ k, z = .bl k ∧ (if k = true then tc σ H3 fun w' H4 => r' y w' H4 Q else Q (.bl false) H3)) : tChain r r' ta tb tc σ H Q := h
theorem rd_chain3 {r r' r'' : R2} {td : TE} (h : ta σ H fun x H1 => tb σ H1 fun y H2 => r x y H2 fun z H3 => ∃ k, z = .bl k ∧
  (if k = true then tc σ H3 fun w' H4 => r' y w' H4 fun z' H5 => ∃ k', z' = .bl k' ∧ (if k' = true then td σ H5 fun v' H6 => r'' w' v' H6 Q else Q (.bl false) H5) else Q (.bl false) H3)) : tChain3 r r' r'' ta tb tc td σ H Q := h
theorem rd_nil (h : QL [] H) : tNil σ H QL := h
theorem rd_cons {tr : TA} (h : ta σ H fun x H1 => tr σ H1 fun xs H2 => QL (x :: xs) H2) : tCons ta tr σ H QL := h
theorem rd_call {sp : Sp} {dvs : List V} {t : TA} (h : t σ H fun vs H1 => sp (vs ++ dvs) H1 Q E) : tCall sp dvs E t σ H Q := h
theorem rd_CB {r : List V → Hp → VK → Prop} {t : TA} (h : t σ H fun vs H1 => r vs H1 Q) : tCB r t σ H Q := h
theorem rd_gname {j : Nat} (h : QS (σ.set j (some v)) H) : gName j v σ H QS := h
theorem rd_gcons {tg : TG} {ug : TGs} {r : List V} (h : tg v σ H fun σ' H' => ug r σ' H' QS) : gCons tg ug (v :: r) σ H QS := ⟨v, r, rfl, h⟩
theorem rd_gnil (h : QS σ H) : gNil [] σ H QS := ⟨rfl, h⟩
theorem rd_gtup {n : Nat} {tg : TGs} {a : Addr} {xs : List V} (e : H a = some (.tup xs)) (l : xs.length = n) (h : tg xs σ H QS) : gTup K n tg (.ref a) σ H QS := ⟨a, xs, rfl, SqT.of e, l, h⟩
theorem rd_max {a b : Int} (h : Q (.int (max a b)) H) : rMax2 [.int a, .int b] H Q := ⟨a, b, rfl, by
  have e : (if b > a then b else a) = max a b := by split <;> omega
  rw [e]; exact h⟩
theorem rd_min {a b : Int} (h : Q (.int (min a b)) H) : rMin2 [.int a, .int b] H Q := ⟨a, b, rfl, by
  have e : (if b < a then b else a) = min a b := by split <;> omega
  rw [e]; exact h⟩
theorem rd_lenL {a : Addr} {xs : List V} (e : H a = some (.lst xs)) (h : Q (.int xs.length) H) : rLenS K [.ref a] H Q := ⟨a, xs, rfl, .inl (SqL.of e), h⟩
theorem rd_lenT {a : Addr} {xs : List V} (e : H a = some (.tup xs)) (h : Q (.int xs.length) H) : rLenS K [.ref a] H Q := ⟨a, xs, rfl, .inr (SqT.of e), h⟩
theorem rd_lenSq {a : Addr} {xs : List V} (e : SqL K H a xs) (h : Q (.int xs.length) H) : rLenS K [.ref a] H Q := ⟨a, xs, rfl, .inl e, h⟩
theorem rd_int1 {a : Int} (h : Q (.int a) H) : rInt1 [.int a] H Q := .inl ⟨a, rfl, h⟩
theorem rd_abs {a : Int} (h : Q (.int a.natAbs) H) : rAbs [.int a] H Q := ⟨a, rfl, by
  have e : (if a < 0 then -a else a) = (a.natAbs : Int) := by split <;> omega
  rw [e]; exact h⟩
theorem rd_isC {C a dx : Addr} {fs : List (Str × V)} (e : H a = some (.ins C dx fs)) (h : Q (.bl true) H) : rIsC C [.ref a, .ref C] H Q := ⟨a, dx, fs, rfl, e, h⟩
theorem rd_tupOfL {a : Addr} {xs : List V} (e : H a = some (.lst xs)) (h : ∀ p H', H p = none → Same H H' → H' p = some (.tup xs) → H' = upd H p (.tup xs) → Q (.ref p) H') : rTupOf K [.ref a] H Q :=
  ⟨a, xs, rfl, .inl ⟨SqL.of e, fun p hp => h p _ hp (Same.new (Same.refl H) hp) upd_same rfl⟩⟩
theorem rd_tupOfT {a : Addr} {xs : List V} (e : H a = some (.tup xs)) (h : Q (.ref a) H) : rTupOf K [.ref a] H Q := ⟨a, xs, rfl, .inr ⟨SqT.of e, h⟩⟩
theorem rd_fld0 {f : Str} (h : te σ H fun x H1 => rFld K f x H1 Q) : tFld K te f σ H Q := h
theorem rd_fld {a C dx : Addr} {fs : List (Str × V)} {f : Str} (e : H a = some (.ins C dx fs)) (c : Cls K C) (n : NoAttr K C f) (l : fs.lookup f = some v) (h : Q v H) : rFld K f (.ref a) H Q :=
  ⟨a, C, dx, fs, v, rfl, e, c, n, l, h⟩
theorem rd_sum {a : Addr} {ns : List Int} (e : SqL K H a (ns.map V.int)) (h : Q (.int ns.sum) H) : rSum K [.ref a] H Q := ⟨a, ns, rfl, e, h⟩
theorem rd_sl0 {r : V → Option Int → Option Int → Hp → VK → Prop} {tl th : TO} (h : te σ H fun x H1 => tl σ H1 fun l H2 => th σ H2 fun u H3 => r x l u H3 Q) : tSl r te tl th σ H Q := h
theorem rd_noP {QO : Option Int → Hp → Prop} (h : QO none H) : tNoPart σ H QO := h
theorem rd_part {QO : Option Int → Hp → Prop} (h : te σ H fun x H1 => ∃ i, x = .int i ∧ QO (some i) H1) : tPart te σ H QO := h
theorem rd_part2 {R : Int → Prop} {j : Int} (h : R j) : ∃ i, V.int j = .int i ∧ R i := ⟨j, rfl, h⟩
theorem rd_slL {a : Addr} {xs : List V} {lo hi : Option Int} (e : SqL K H a xs) (h : ∀ p H', H p = none → Same H H' → H' p = some (.lst (cutV xs lo hi)) → H' = upd H p (.lst (cutV xs lo hi)) → Q (.ref p) H') : rSlL K (.ref a) lo hi H Q :=
  ⟨a, xs, rfl, e, fun p hp => h p _ hp (Same.new (Same.refl H) hp) upd_same rfl⟩
theorem cut_whole {xs : List V} {lo hi : Option Int} (h : HT.sIx xs.length 0 lo = 0 ∧ HT.sIx xs.length xs.length hi = xs.length) : cutV xs lo hi = xs := by
  unfold cutV
  rw [h.1, h.2]
  simp
theorem rd_slA {a : Addr} {xs : List V} {lo hi : Option Int} (e : H a = some (.tup xs)) (h : ∀ p H', Same H H' → H' p = some (.tup (cutV xs lo hi)) → Q (.ref p) H') : rSlA K (.ref a) lo hi H Q :=
  ⟨a, xs, rfl, SqT.of e, fun c => h a H (Same.refl H) (by rw [cut_whole c]; exact e), fun _ p hp => h p _ (Same.new (Same.refl H) hp) upd_same⟩
theorem rd_cat {a b : Addr} {xs ys : List V} (e1 : H a = some (.lst xs)) (e2 : H b = some (.lst ys)) (l : xs.length + ys.length ≤ 100000) (h : ∀ p H', H p = none → Same H H' → H' p = some (.lst (xs ++ ys)) → H' = upd H p (.lst (xs ++ ys)) → Q (.ref p) H') : rCat (.ref a) (.ref b) H Q :=
  ⟨a, b, xs, ys, rfl, rfl, e1, e2, Nat.le_trans l (by decide), fun p hp => h p _ hp (Same.new (Same.refl H) hp) upd_same rfl⟩
theorem rd_eqD {d e : PyData} (h1 : Dt H x d) (h2 : Dt H y e) (s1 : SeqAt.shaped d = true) (s2 : SeqAt.shaped e = true) (h : Q (.bl (PyData.eqv d e)) H) : rEqD K x y H Q := ⟨d, e, h1.dp, h2.dp, s1, s2, h⟩
theorem rd_neD {d e : PyData} (h1 : Dt H x d) (h2 : Dt H y e) (s1 : SeqAt.shaped d = true) (s2 : SeqAt.shaped e = true) (h : Q (.bl (!PyData.eqv d e)) H) : rNeD K x y H Q := ⟨d, e, h1.dp, h2.dp, s1, s2, h⟩
theorem rd_ownI {C a dx : Addr} {fs : List (Str × V)} {sp : Sp} {dvs : List V} (e : H a = some (.ins C dx fs)) (h : sp (.ref a :: ([y] ++ dvs)) H Q C8.E0) : rOwnI C sp dvs (.ref a) y H Q := ⟨a, dx, fs, rfl, e, h⟩
theorem rd_meth0 {C : Addr} {m : Str} {sp : Sp} {dvs : List V} {t : TA} (h : ta σ H fun x H1 => ∃ a dx fs, x = .ref a ∧ H1 a = some (.ins C dx fs) ∧ fs.lookup m = none ∧ t σ H1 fun vs H2 => sp (x :: (vs ++ dvs)) H2 Q E) : tMeth C m sp dvs E ta t σ H Q := h
theorem rd_star {t : TA} (h : te σ H fun x H1 => ∃ p xs, x = V.ref p ∧ (SqT K H1 p xs ∨ SqL K H1 p xs) ∧ t σ H1 fun ys H2 => QL (xs ++ ys) H2) : tStar K te t σ H QL := h
theorem rd_ixL {a : Addr} {xs : List V} {j : Int} (e : H a = some (.lst xs)) (n : atI xs j = some v) (h : Q v H) : rIxL K (.ref a) (.int j) H Q := ⟨a, xs, j, v, rfl, rfl, SqL.of e, n, h⟩
theorem rd_ixT {a : Addr} {xs : List V} {j : Int} (e : H a = some (.tup xs)) (n : atI xs j = some v) (h : Q v H) : rIxT K (.ref a) (.int j) H Q := ⟨a, xs, j, v, rfl, rfl, SqT.of e, n, h⟩
theorem rd_lst {t : TA} (h : t σ H fun xs H1 => rNewL Q xs H1) : tLst t σ H Q := h
theorem rd_tup {t : TA} (h : t σ H fun xs H1 => rNewT Q xs H1) : tTup t σ H Q := h
/-- a new object: its heap by a name -/
theorem rd_newL {xs : List V} (l : xs.length ≤ 100000) (h : ∀ p H', H p = none → Same H H' → H' p = some (.lst xs) → H' = upd H p (.lst xs) → Q (.ref p) H') : rNewL Q xs H :=
  ⟨Nat.le_trans l (by decide), fun p hp => h p _ hp (Same.new (Same.refl H) hp) upd_same rfl⟩
theorem rd_newT {xs : List V} (l : xs.length ≤ 100000) (h : ∀ p H', H p = none → Same H H' → H' p = some (.tup xs) → H' = upd H p (.tup xs) → Q (.ref p) H') : rNewT Q xs H :=
  ⟨Nat.le_trans l (by decide), fun p hp => h p _ hp (Same.new (Same.refl H) hp) upd_same rfl⟩
theorem rd_app {a : Addr} {xs : List V} (e : H a = some (.lst xs)) (l : xs.length < 100000) (h : ∀ H', H' = upd H a (.lst (xs ++ [y])) → H' a = some (.lst (xs ++ [y])) → Q .non H') : rAppend (.ref a) [y] H Q :=
  ⟨a, xs, y, rfl, rfl, e, Nat.lt_trans l (by decide), h _ rfl upd_same⟩
theorem rd_bm {r : V → List V → Hp → VK → Prop} {t : TA} (h : ta σ H fun x H1 => tyV K "list" x H1 ∧ t σ H1 fun xs H2 => r x xs H2 Q) : tBM K "list" r ta t σ H Q := h
theorem rd_tyL {a : Addr} {xs : List V} {R : Prop} (e : H a = some (.lst xs)) (h : R) : tyV K "list" (.ref a) H ∧ R := ⟨.inl ⟨rfl, xs, SqL.of e⟩, h⟩
theorem rd_ite {p : Prop} [Decidable p] {A B : Prop} (h1 : p → A) (h2 : ¬ p → B) : if decide p = true then A else B := by
  by_cases c : p
  · rw [if_pos (decide_eq_true c)]; exact h1 c
  · rw [if_neg (by rw [decide_eq_false c]; exact Bool.false_ne_true)]; exact h2 c
theorem rd_iteT {p : Prop} [Decidable p] {A B : Prop} (c : p) (h1 : A) : if decide p = true then A else B := by rw [if_pos (decide_eq_true c)]; exact h1
theorem rd_iteF {p : Prop} [Decidable p] {A B : Prop} (c : ¬ p) (h1 : B) : if decide p = true then A else B := by rw [if_neg (by rw [decide_eq_false c]; exact Bool.false_ne_true)]; exact h1
theorem rd_iteN {p : Prop} [Decidable p] {A B : Prop} (h1 : ¬ p → A) (h2 : p → B) : if (!decide p) = true then A else B := by
  by_cases c : p
  · rw [if_neg (by rw [decide_eq_true c]; decide)]; exact h2 c
  · rw [if_pos (by rw [decide_eq_false c]; rfl)]; exact h1 c
theorem rd_iteNT {p : Prop} [Decidable p] {A B : Prop} (c : ¬ p) (h1 : A) : if (!decide p) = true then A else B := by rw [if_pos (by rw [decide_eq_false c]; rfl)]; exact h1
theorem rd_iteNF {p : Prop} [Decidable p] {A B : Prop} (c : p) (h1 : B) : if (!decide p) = true then A else B := by rw [if_neg (by rw [decide_eq_true c]; decide)]; exact h1
theorem rd_iteTT {A B : Prop} (h : A) : if true = true then A else B := by rw [if_pos rfl]; exact h
theorem rd_iteFF {A B : Prop} (h : B) : if false = true then A else B := by rw [if_neg Bool.false_ne_true]; exact h
theorem rd_iteNTT {A B : Prop} (h : B) : if (!true) = true then A else B := h
theorem rd_iteNFF {A B : Prop} (h : A) : if (!false) = true then A else B := h
end
end Sl
set_option Elab.async false
set_option linter.all false
set_option maxRecDepth 100000
set_option maxHeartbeats 4000000
namespace Sl
open PySem L2 C8 StX
def rMake (C : Addr) (sp : Sp) (dvs : List V) (E : XK) (Q : VK) (vs : List V) (H1 : Hp) : Prop := ∀ x dx, H1 x = none → H1 dx = none → dx ≠ x →
  sp (.ref x :: (vs ++ dvs)) (upd (upd H1 dx (.own x)) x (.ins C dx [])) (fun v H2 => v = .non ∧ Q (.ref x) H2) E
def rDrawN (Q : VK) (xs : List V) (H1 : Hp) : Prop := ∃ sc i, xs = [.ref sc, .int i] ∧ ∀ p, H1 p = none → Q (.ref p) (upd H1 p (DrawO p sc))
section
variable {σ : L2.St} {H H1 : Hp} {wi : TI} {g : TG} {tb : TS} {ta : TA} {te : TE} {tt : TT} {c : TT} {nx bk ct : L2.St → Hp → Prop} {rt : VK} {R : It → Hp → Prop} {K : PySem.W.Frag} {Q : VK} {vs : List Nat} {D : Ends}
def ForR (J : It) (g : TG) (tb : TS) (D : Ends) (σ : L2.St) (H1 : Hp) : Prop := ∃ W : Nat → Nat → L2.St → Hp → Prop, (∃ m, W 0 m σ H1) ∧ ∀ i m σ H, W i m σ H →
  (J.stop i H ∧ D.nx σ H) ∨ (J.go i H ∧ ∃ N : L2.St → Hp → Prop, (∀ σ' H', N σ' H' → ∃ m', m' < m ∧ W (i + 1) m' σ' H') ∧ ∀ x H', J.yld i H x H' → g x σ H' fun σ2 H2 => tb { D with nx := N, ct := N, bk := D.nx } σ2 H2)
theorem rd_for (h : wi σ H fun J H1 => ForR J g tb D σ H1) : tFor wi g tb D σ H := h
/-- n turns -/
theorem forR_gen (J : It) (n : Nat) (Pv : Nat → L2.St → Hp → Prop) (h0 : Pv 0 σ H) (hg : ∀ i σ H, i < n → Pv i σ H → J.go i H) (he : ∀ σ H, Pv n σ H → J.stop n H)
    (hs : ∀ i σ H x H', i < n → Pv i σ H → J.yld i H x H' → g x σ H' fun σ2 H2 => tb ⟨Pv (i + 1), rt, nx, Pv (i + 1)⟩ σ2 H2) (hd : ∀ σ H, Pv n σ H → nx σ H) : ForR J g tb ⟨nx, rt, bk, ct⟩ σ H := by
  refine ⟨fun i m σ H => m = n - i ∧ i ≤ n ∧ Pv i σ H, ⟨n, by simp, Nat.zero_le _, h0⟩, ?_⟩
  rintro i m σ H ⟨rfl, hi, p⟩
  by_cases hlt : i < n
  · exact .inr ⟨hg i σ H hlt p, Pv (i + 1), fun σ' H' p' => ⟨n - (i + 1), by omega, rfl, hlt, p'⟩, fun x H' y => hs i σ H x H' hlt p y⟩
  · obtain rfl : i = n := by omega
    exact .inl ⟨he σ H p, hd σ H p⟩
theorem forR_rng {lo : Int} {n : Nat} (Pv : Nat → L2.St → Hp → Prop) (h0 : Pv 0 σ H) (hs : ∀ i σ H, i < n → Pv i σ H → g (.int (lo + i)) σ H fun σ2 H2 => tb ⟨Pv (i + 1), rt, nx, Pv (i + 1)⟩ σ2 H2) (hd : ∀ σ H, Pv n σ H → nx σ H) :
    ForR (Itr lo n) g tb ⟨nx, rt, bk, ct⟩ σ H := forR_gen _ n Pv h0 (fun i _ _ h _ => h) (fun _ _ _ => Nat.le_refl _) (fun i σ H x H' hi p ⟨e1, e2⟩ => by subst e1; subst e2; exact hs i σ _ hi p) hd
theorem forR_rngC {lo c : Int} {n : Nat} (Pv : Nat → L2.St → Hp → Prop) (h0 : Pv 0 σ H) (hs : ∀ (i : Nat) σ H, i < n → Pv i σ H → g (.int (lo + (i : Nat) * c)) σ H fun σ2 H2 => tb ⟨Pv (i + 1), rt, nx, Pv (i + 1)⟩ σ2 H2) (hd : ∀ σ H, Pv n σ H → nx σ H) :
    ForR (Itc lo c n) g tb ⟨nx, rt, bk, ct⟩ σ H := forR_gen _ n Pv h0 (fun i _ _ h _ => h) (fun _ _ _ => Nat.le_refl _) (fun i σ H x H' hi p ⟨e1, e2⟩ => by subst e1; subst e2; exact hs i σ _ hi p) hd
theorem forR_lst {a : Addr} {xs : List V} (Pv : Nat → L2.St → Hp → Prop) (hl : ∀ i σ H, Pv i σ H → SqL K H a xs) (h0 : Pv 0 σ H) (hs : ∀ i x σ H, xs[i]? = some x → Pv i σ H → g x σ H fun σ2 H2 => tb ⟨Pv (i + 1), rt, nx, Pv (i + 1)⟩ σ2 H2) (hd : ∀ σ H, Pv xs.length σ H → nx σ H) :
    ForR (Itl K a) g tb ⟨nx, rt, bk, ct⟩ σ H := forR_gen _ xs.length Pv h0 (fun i σ H h p => ⟨xs, xs[i], hl i σ H p, by simp [h]⟩) (fun σ H p => ⟨xs, hl _ σ H p, Nat.le_refl _⟩)
      (fun i σ H x H' hi p ⟨e1, e2⟩ => by subst e1; exact hs i x σ _ (e2 xs (hl i σ _ p)) p) hd
theorem forR_tup {a : Addr} {xs : List V} (Pv : Nat → L2.St → Hp → Prop) (hl : ∀ i σ H, Pv i σ H → SqT K H a xs) (h0 : Pv 0 σ H) (hs : ∀ i x σ H, xs[i]? = some x → Pv i σ H → g x σ H fun σ2 H2 => tb ⟨Pv (i + 1), rt, nx, Pv (i + 1)⟩ σ2 H2) (hd : ∀ σ H, Pv xs.length σ H → nx σ H) :
    ForR (Itt K a) g tb ⟨nx, rt, bk, ct⟩ σ H := forR_gen _ xs.length Pv h0 (fun i σ H h p => ⟨xs, xs[i], hl i σ H p, by simp [h]⟩) (fun σ H p => ⟨xs, hl _ σ H p, Nat.le_refl _⟩)
      (fun i σ H x H' hi p ⟨e1, e2⟩ => by subst e1; exact hs i x σ _ (e2 xs (hl i σ _ p)) p) hd
/-- the pair is a new tuple at t -/
theorem forR_enum {a : Addr} {xs : List V} (Pv : Nat → L2.St → Hp → Prop) (hl : ∀ i σ H, Pv i σ H → SqL K H a xs) (h0 : Pv 0 σ H)
    (hs : ∀ (i : Nat) x σ H t H', xs[i]? = some x → Pv i σ H → H t = none → Same H H' → H' t = some (.tup [.int (i : Nat), x]) → H' = upd H t (.tup [.int (i : Nat), x]) → g (.ref t) σ H' fun σ2 H2 => tb ⟨Pv (i + 1), rt, nx, Pv (i + 1)⟩ σ2 H2) (hd : ∀ σ H, Pv xs.length σ H → nx σ H) :
    ForR (Ite K a) g tb ⟨nx, rt, bk, ct⟩ σ H := forR_gen _ xs.length Pv h0 (fun i σ H h p => ⟨xs, xs[i], hl i σ H p, by simp [h]⟩) (fun σ H p => ⟨xs, hl _ σ H p, Nat.le_refl _⟩)
      (fun i σ H x H' hi p ⟨t, y, e1, e2, e3, e4⟩ => by subst e1; subst e3; exact hs i y σ H t _ (e4 xs (hl i σ _ p)) p e2 (Same.new (Same.refl H) e2) upd_same rfl) hd
/-! ### what is walked -/
def rgR1 (R : It → Hp → Prop) (vs : List V) (H : Hp) : Prop := ∃ j : Int, vs = [.int j] ∧ -(2 ^ 62) ≤ j ∧ j < 2 ^ 62 ∧ R (Itr 0 j.toNat) H
theorem rd_rng1 (h : ta σ H fun vs H1 => rgR1 R vs H1) : iRng1 ta σ H R := h
theorem rd_rgR1 {j : Int} (h0 : -(2 ^ 62) ≤ j) (h1 : j < 2 ^ 62) (h : R (Itr 0 j.toNat) H) : rgR1 R [.int j] H := ⟨j, rfl, h0, h1, h⟩
def rgR2 (R : It → Hp → Prop) (vs : List V) (H : Hp) : Prop := ∃ i j : Int, vs = [.int i, .int j] ∧ (-(2 ^ 62) ≤ i ∧ i < 2 ^ 62 ∧ -(2 ^ 62) ≤ j ∧ j < 2 ^ 62) ∧ R (Itr i (j - i).toNat) H
theorem rd_rng2 (h : ta σ H fun vs H1 => rgR2 R vs H1) : iRng2 ta σ H R := h
theorem rd_rgR2 {i j : Int} (h0 : -(2 ^ 62) ≤ i ∧ i < 2 ^ 62 ∧ -(2 ^ 62) ≤ j ∧ j < 2 ^ 62) (h : R (Itr i (j - i).toNat) H) : rgR2 R [.int i, .int j] H := ⟨i, j, rfl, h0, h⟩
def rgR3 (R : It → Hp → Prop) (vs : List V) (H : Hp) : Prop := ∃ (i j c : Int) (n : Nat), vs = [.int i, .int j, .int c] ∧ RgC i j c n ∧ R (Itc i c n) H
theorem rd_rng3 (h : ta σ H fun vs H1 => rgR3 R vs H1) : iRng3 ta σ H R := h
theorem rd_rgDn {i j : Int} (h0 : -(2 ^ 62) ≤ i ∧ i < 2 ^ 62 ∧ -(2 ^ 62) ≤ j ∧ j < 2 ^ 62) (h : R (Itc i (-1) (i - j).toNat) H) : rgR3 R [.int i, .int j, .int (-1)] H := ⟨i, j, -1, _, rfl, RgC.neg h0.1 h0.2.1 h0.2.2.1 h0.2.2.2, h⟩
def lsR (K : PySem.W.Frag) (R : It → Hp → Prop) (x : V) (H : Hp) : Prop := ∃ a, x = .ref a ∧ (∃ xs, SqL K H a xs) ∧ R (Itl K a) H
theorem rd_iList (h : te σ H fun x H1 => lsR K R x H1) : iList K te σ H R := h
theorem rd_lsR {a : Addr} {xs : List V} (e : SqL K H a xs) (h : R (Itl K a) H) : lsR K R (.ref a) H := ⟨a, rfl, ⟨xs, e⟩, h⟩
def tpR (K : PySem.W.Frag) (R : It → Hp → Prop) (x : V) (H : Hp) : Prop := ∃ a, x = .ref a ∧ (∃ xs, SqT K H a xs) ∧ R (Itt K a) H
theorem rd_iTup (h : te σ H fun x H1 => tpR K R x H1) : iTup K te σ H R := h
theorem rd_tpR {a : Addr} {xs : List V} (e : SqT K H a xs) (h : R (Itt K a) H) : tpR K R (.ref a) H := ⟨a, rfl, ⟨xs, e⟩, h⟩
def enR (K : PySem.W.Frag) (R : It → Hp → Prop) (vs : List V) (H : Hp) : Prop := ∃ a xs, vs = [.ref a] ∧ SqL K H a xs ∧ R (Ite K a) H
theorem rd_iEnum (h : ta σ H fun vs H1 => enR K R vs H1) : iEnum K ta σ H R := h
theorem rd_enR {a : Addr} {xs : List V} (e : SqL K H a xs) (h : R (Ite K a) H) : enR K R [.ref a] H := ⟨a, xs, rfl, e, h⟩
/-! ### while -/
def WhN (m : Nat) (W : Nat → L2.St → Hp → Prop) (tb : TS) (rt : VK) (nx : L2.St → Hp → Prop) (σ : L2.St) (H1 : Hp) : Prop := ∃ N : L2.St → Hp → Prop, (∀ σ' H', N σ' H' → ∃ m', m' < m ∧ W m' σ' H') ∧ tb ⟨N, rt, nx, N⟩ σ H1
theorem rd_whN {m : Nat} {W : Nat → L2.St → Hp → Prop} (h : tb ⟨fun σ' H' => ∃ m', m' < m ∧ W m' σ' H', rt, nx, fun σ' H' => ∃ m', m' < m ∧ W m' σ' H'⟩ σ H) : WhN m W tb rt nx σ H := ⟨_, fun _ _ q => q, h⟩
theorem rd_while (W : Nat → L2.St → Hp → Prop) (m0 : Nat) (h0 : W m0 σ H) (hs : ∀ m σ H, W m σ H → c σ H fun b H1 => if b = true then WhN m W tb rt nx σ H1 else nx σ H1) :
    tWhile c tb ⟨nx, rt, bk, ct⟩ σ H := ⟨W, ⟨m0, h0⟩, hs⟩
/-! ### a new instance -/
theorem rd_make0 {C : Addr} {sp : Sp} {dvs : List V} {E : XK} {t : TA} (h : t σ H fun vs H1 => rMake C sp dvs E Q vs H1) : tMake C sp dvs E t σ H Q := h
theorem rd_make {C : Addr} {sp : Sp} {dvs : List V} {E : XK} {ws : List V} (h : ∀ x dx H2, Same H H2 → H x = none → H2 x = some (.ins C dx []) → sp (.ref x :: (ws ++ dvs)) H2 (fun v H3 => v = .non ∧ Q (.ref x) H3) E) : rMake C sp dvs E Q ws H :=
  fun x dx hx hdx hne => h x dx _ (fun b o e => by rw [upd_ne (ne_of_none e hx), upd_ne (ne_of_none e hdx)]; exact e) hx upd_same
/-! ### draws -/
theorem rd_augS {to ti te : TE} {tget : V → V → Hp → VK → Prop} {tip : TIp} {tset : TSet} (h : to σ H fun o H1 => ti σ H1 fun i H2 => tget o i H2 fun x H3 => te σ H3 fun y H4 => tip x y H4 fun z H5 => tset o i z H5 fun H6 => nx σ H6) : tAugS to ti te tget tip tset ⟨nx, rt, bk, ct⟩ σ H := h
theorem rd_draw0 {a sc : Addr} (e : H a = some (DrawO a sc)) (h : Q (.ref sc) H) : rDraw0 (.ref a) (.int 0) H Q := ⟨a, sc, rfl, rfl, e, h⟩
theorem rd_draw1 {a sc : Addr} (e : H a = some (DrawO a sc)) (h : ∀ i : Int, Q (.int i) H) : rDraw1 (.ref a) (.int 1) H Q := ⟨a, sc, rfl, rfl, e, h⟩
theorem rd_setDraw1 {a sc : Addr} {j : Int} {QH : Hp → Prop} (e : H a = some (DrawO a sc)) (h : QH H) : sDraw1 (.ref a) (.int 1) (.int j) H QH := ⟨a, sc, j, rfl, rfl, rfl, e, h⟩
theorem rd_drawNew {t : TA} (h : t σ H fun xs H1 => rDrawN Q xs H1) : tDraw t σ H Q := h
theorem rd_drawN {sc : Addr} {j : Int} (h : ∀ p H', H p = none → Same H H' → H' p = some (DrawO p sc) → Q (.ref p) H') : rDrawN Q [.ref sc, .int j] H := ⟨sc, j, rfl, fun p hp => h p _ hp (Same.new (Same.refl H) hp) upd_same⟩
/-! ### comprehensions -/
theorem rd_yes {QB : Bool → Hp → Prop} (h : QB true H) : tYes σ H QB := h
def LcR (J : It) (g : TG) (tt : TT) (te : TE) (vs : List Nat) (σ : L2.St) (H1 : Hp) (Q : VK) : Prop := ∀ D, H1 D = none → ∃ W : Nat → Nat → Hp → Prop, (∃ m, W 0 m (upd H1 D (.lst []))) ∧ ∀ i m H, W i m H →
  (J.stop i H ∧ Q (.ref D) H) ∨ (J.go i H ∧ ∃ Nx : Hp → Prop, (∀ H', Nx H' → ∃ m', m' < m ∧ W (i + 1) m' H') ∧ ∀ x H', J.yld i H x H' → g x (wipe σ vs) H' fun σ2 H2 => wipe σ2 vs = wipe σ vs ∧ tt σ2 H2 fun b H3 =>
    if b = true then te σ2 H3 fun y H4 => ∃ acc, H4 D = some (.lst acc) ∧ acc.length < sizeLine ∧ Nx (upd H4 D (.lst (acc ++ [y]))) else Nx H3)
theorem rd_lc (h : wi σ H fun J H1 => LcR J g tt te vs σ H1 Q) : tLc wi g tt te vs σ H Q := h
/-- what a comprehension does with an element -/
def LcE (D : Addr) (Nx : Hp → Prop) (y : V) (H4 : Hp) : Prop := ∃ acc, H4 D = some (.lst acc) ∧ acc.length < sizeLine ∧ Nx (upd H4 D (.lst (acc ++ [y])))
theorem rd_lcE {D : Addr} {Nx : Hp → Prop} {y : V} {acc : List V} (e : H D = some (.lst acc)) (l : acc.length < 100000) (h : ∀ H', H' = upd H D (.lst (acc ++ [y])) → H' D = some (.lst (acc ++ [y])) → Nx H') : LcE D Nx y H := ⟨acc, e, Nat.lt_trans l (by decide), h _ rfl upd_same⟩
theorem lcR_gen (J : It) (n : Nat) (Pv : Addr → Nat → Hp → Prop) (h0 : ∀ D H', H D = none → Same H H' → H' D = some (.lst []) → H' = upd H D (.lst []) → Pv D 0 H') (hg : ∀ D i H', H D = none → i < n → Pv D i H' → J.go i H') (he : ∀ D H', H D = none → Pv D n H' → J.stop n H')
    (hs : ∀ D i H' x H2, H D = none → i < n → Pv D i H' → J.yld i H' x H2 → g x (wipe σ vs) H2 fun σ2 H2 => wipe σ2 vs = wipe σ vs ∧ tt σ2 H2 fun b H3 => if b = true then te σ2 H3 fun y H4 => LcE D (Pv D (i + 1)) y H4 else Pv D (i + 1) H3)
    (hd : ∀ D H', H D = none → Pv D n H' → Q (.ref D) H') : LcR J g tt te vs σ H Q := by
  intro D hD
  refine ⟨fun i m H => m = n - i ∧ i ≤ n ∧ Pv D i H, ⟨n, by simp, Nat.zero_le _, h0 D _ hD (Same.new (Same.refl H) hD) upd_same rfl⟩, ?_⟩
  rintro i m H' ⟨rfl, hi, p⟩
  by_cases hlt : i < n
  · exact .inr ⟨hg D i H' hD hlt p, Pv D (i + 1), fun H2 p' => ⟨n - (i + 1), by omega, rfl, hlt, p'⟩, fun x H2 y => hs D i H' x H2 hD hlt p y⟩
  · obtain rfl : i = n := by omega
    exact .inl ⟨he D H' hD p, hd D H' hD p⟩
theorem lcR_rng {lo : Int} {n : Nat} (Pv : Addr → Nat → Hp → Prop) (h0 : ∀ D H', H D = none → Same H H' → H' D = some (.lst []) → H' = upd H D (.lst []) → Pv D 0 H')
    (hs : ∀ D i H', H D = none → i < n → Pv D i H' → g (.int (lo + i)) (wipe σ vs) H' fun σ2 H2 => wipe σ2 vs = wipe σ vs ∧ tt σ2 H2 fun b H3 => if b = true then te σ2 H3 fun y H4 => LcE D (Pv D (i + 1)) y H4 else Pv D (i + 1) H3)
    (hd : ∀ D H', H D = none → Pv D n H' → Q (.ref D) H') : LcR (Itr lo n) g tt te vs σ H Q :=
  lcR_gen _ n Pv h0 (fun _ i _ _ h _ => h) (fun _ _ _ _ => Nat.le_refl _) (fun D i H x H' hD hi p ⟨e1, e2⟩ => by subst e1; subst e2; exact hs D i _ hD hi p) hd
theorem lcR_lst {a : Addr} {xs : List V} (Pv : Addr → Nat → Hp → Prop) (hl : ∀ D i H', H D = none → Pv D i H' → SqL K H' a xs) (h0 : ∀ D H', H D = none → Same H H' → H' D = some (.lst []) → H' = upd H D (.lst []) → Pv D 0 H')
    (hs : ∀ D i x H', H D = none → xs[i]? = some x → Pv D i H' → g x (wipe σ vs) H' fun σ2 H2 => wipe σ2 vs = wipe σ vs ∧ tt σ2 H2 fun b H3 => if b = true then te σ2 H3 fun y H4 => LcE D (Pv D (i + 1)) y H4 else Pv D (i + 1) H3)
    (hd : ∀ D H', H D = none → Pv D xs.length H' → Q (.ref D) H') : LcR (Itl K a) g tt te vs σ H Q :=
  lcR_gen _ xs.length Pv h0 (fun D i H' hD h p => ⟨xs, xs[i], hl D i H' hD p, by simp [h]⟩) (fun D H' hD p => ⟨xs, hl D _ H' hD p, Nat.le_refl _⟩)
    (fun D i H' x H2 hD hi p ⟨e1, e2⟩ => by subst e1; exact hs D i x _ hD (e2 xs (hl D i _ hD p)) p) hd
theorem lcR_enum {a : Addr} {xs : List V} (Pv : Addr → Nat → Hp → Prop) (hl : ∀ D i H', H D = none → Pv D i H' → SqL K H' a xs) (h0 : ∀ D H', H D = none → Same H H' → H' D = some (.lst []) → H' = upd H D (.lst []) → Pv D 0 H')
    (hs : ∀ D (i : Nat) x H' t H2, H D = none → xs[i]? = some x → Pv D i H' → H' t = none → Same H' H2 → H2 t = some (.tup [.int (i : Nat), x]) → H2 = upd H' t (.tup [.int (i : Nat), x]) → g (.ref t) (wipe σ vs) H2 fun σ2 H2 => wipe σ2 vs = wipe σ vs ∧ tt σ2 H2 fun b H3 => if b = true then te σ2 H3 fun y H4 => LcE D (Pv D (i + 1)) y H4 else Pv D (i + 1) H3)
    (hd : ∀ D H', H D = none → Pv D xs.length H' → Q (.ref D) H') : LcR (Ite K a) g tt te vs σ H Q :=
  lcR_gen _ xs.length Pv h0 (fun D i H' hD h p => ⟨xs, xs[i], hl D i H' hD p, by simp [h]⟩) (fun D H' hD p => ⟨xs, hl D _ H' hD p, Nat.le_refl _⟩)
    (fun D i H' x H2 hD hi p ⟨t, y, e1, e2, e3, e4⟩ => by subst e1; subst e3; exact hs D i y H' t _ hD (e4 xs (hl D i _ hD p)) p e2 (Same.new (Same.refl H') e2) upd_same rfl) hd
end
end Sl
set_option Elab.async false
set_option linter.all false
set_option maxRecDepth 100000
set_option maxHeartbeats 4000000
namespace L2
open PySem PySem.Spec PyProof.Rows
/-! ### defs that raise: a promise for the refused arguments -/
section
variable {X : Cx} {CX : CXT} {k j : Nat} {f C : Addr} {fd : FuncData} {ps : List Str} {ds : List Value} {dvs : List V} {sp : Sp} {E : St → XK} {x m : Str} {p pos apos : Pos} {e o : Expr} {es : List Expr} {ta : TE} {t : TA}
theorem run_fnSd {pins : List (Addr × Obj)} {σ : St} {H : Hp} {s : Shared} {Q : VK} {us : List Value} {vs : List V} (F : FnOk X.prog X.w X.K X.mg X.base CX k f fd ps sp) (hr : Room k X.A) (hb : Binds X.K fd ps ds) (hd : Vals dvs ds) (hx : PassesAt CX X σ (E σ))
    (I : Inv X pins σ H s) (r : Vals vs us) (h : sp (vs ++ dvs) H Q (E σ)) : wpAny (model X.prog X.w) X.A (call (.ref f) us) (EP X pins σ Q) X.xe s := by
  have r2 : Vals (vs ++ dvs) (us ++ ds) := r.append hd
  have hl : (us ++ ds).length = ps.length := by rw [← r2.length]; exact F.len _ _ _ _ h
  refine wpAny_call (codeAny_mono (F.run X.A X.stack s H ⟨us, []⟩ (us ++ ds) (vs ++ dvs) Q (E σ) hr I.env0 (hb s us I.kIn hl) r2 h) fun r s' hq => ?_)
  cases r with
  | error e => exact hx pins H s e s' I hq
  | ok fl =>
    cases fl with
    | ret u => exact I.after hq
    | next => exact False.elim hq
    | brk => exact False.elim hq
    | cont => exact False.elim hq
def tCallSd (sp : Sp) (dvs : List V) (E : St → XK) (t : TA) : TE := fun σ H Q => t σ H fun vs H1 => sp (vs ++ dvs) H1 Q (E σ)
/-- a def called by its name that may raise -/
structure CalX (P : Program) (w : World) (K : PySem.W.Frag) (mg : Str → Option Value) (base : Heap) (k : Nat) (x : Str) (sp : Sp) (dvs : List V) : Prop where
  ex : ∃ (f : Addr) (fd : FuncData) (ps : List Str) (ds : List Value), FnOk P w K mg base (L2.CX P w) k f fd ps sp ∧ mg x = some (.ref f) ∧ PySem.W.keepIn K (.ref f) = true ∧ Binds K fd ps ds ∧ Vals dvs ds
theorem pe_cX (c : CalX X.prog X.w X.K X.mg X.base k x sp dvs) (hr : Room j X.A) (hk : k ≤ j) (hg : Gl X x) (hx : ∀ σ, PassesAt (L2.CX X.prog X.w) X σ (E σ)) (ha : PA X (e :: es) t)
    (hdb : (x == ("__debug__" : Str)) = false := by decide) (he : starEach (e :: es) X.env = (false, eval e X.env) :: starEach es X.env := by rfl) (hpl : (backTo pos (starEach es X.env)).any (·.1) = false := by rfl) :
    PE X (.Call (.Name x p) (e :: es) [] pos) (tCallSd sp dvs E t) := by
  obtain ⟨f, fd, ps, ds, F, hm, kp, b, d⟩ := c.ex
  refine ⟨fun pins s σ H Q I h => ?_⟩
  refine wpAny_Call_Name_kw (ld_glob I hg hm ?_ hdb)
  refine PySem.W.callWith_K (h₀ := X.base) I.ok.mod.kin kp (thn (ha.run pos pins s σ H _ I h) fun us s1 ⟨vs, H1, I1, r, q⟩ => ⟨I1.kIn, ?_⟩) he hpl
  exact run_fnSd F (hr.mono hk) b d (hx σ) I1 r q
/-- around a body nothing is let out -/
theorem takesN {X : Cx} : Takes X (fun _ _ _ _ => False) := fun _ _ x => by
  obtain ⟨_, _, _, _, _, _, _, _, _, _, _, _, _, _, _, _, z⟩ := x
  exact z.elim
/-- a try by its name -/
def tTry (K : PySem.W.Frag) (c : Value) (tb : WX → TS) (ts : Addr → Value → Option Addr → TS) (Wout : WX) : TS := fun D σ H => tb (wOnly K c ts Wout D) D σ H
theorem ps_tryO {x : Str} {c : Value} {body suite : List Stmt} {b₀ : Stmt} {np pos pos' : Pos} {tb : WX → TS} {ts : Addr → Value → Option Addr → TS} {Wout : WX} (hs : X.stack = X.env :: X.outer) (hf : X.env.frame = some X.env.locals) (hc : Names X x c) (tk : Takes X Wout)
    (hb : ∀ (W : WX) (pn : List (Addr × Obj)) (xe : Value → Shared → Prop), Takes (X.tr pn xe) W → PSs (X.tr pn xe) body (tb W))
    (hsu : ∀ (a : Addr) (oe : Obj) (cls : Value) (d : Option Addr) (pn : List (Addr × Obj)), PSs (X.suite a ((a, oe) :: pn)) (b₀ :: suite) (ts a cls d)) :
    PS X (.Try body [.ExceptHandler (some (.Name x np)) none (b₀ :: suite) pos'] [] [] pos) (tTry X.K c tb ts Wout) :=
  ps_try_only hs hf hc tk (fun W pn xe tk _ => hb W pn xe tk) (fun a oe cls d pn _ _ => hsu a oe cls d pn)
end
end L2
namespace C8
open PySem PySem.Spec PyProof.Rows L2
section
variable {P : Program} {w : World} {K : PySem.W.Frag} {mg : Str → Option Value} {base : Heap}
theorem fnX {x qual : Str} {st : Stmt} {f : Addr} {fd : FuncData} {N ps : List Str} {k : Nat} {sp : Sp} (F : Fun K x qual st f fd) (S : FnScope N ps (fnScope st)) (len : ∀ vs H Q E, sp vs H Q E → vs.length = ps.length)
    (hbody : ∀ (cdv : Value) (A : Around) (outer : List Env) (s : Shared) (H : Hp) (vs : List V) (Q : VK) (E : XK), Room k (A.deeper (envOfC qual (fnScope st) s.heap.objs.size f cdv)) → sp vs H Q E →
      ∃ t, PSs (cxOf (L2.CX P w) P w K mg base N qual (fnScope st) f cdv A outer s H E) (fnBody st) t ∧ t { nx := fun _ H' => Q .non H', rt := Q } (start N vs) H) : FnOk P w K mg base (L2.CX P w) (k + 1) f fd ps sp := by
  obtain ⟨oc, od, dV, kV, doc, pm, an, cdv, ct, osl, rfl, lk, hcd⟩ := F.ex
  exact fn_of lk hcd S len fun A outer s H vs Q E hr hsp => hbody cdv A outer s H vs Q E hr hsp
theorem calX0 {x : Str} {st : Stmt} {f : Addr} {fd : FuncData} {N ps : List Str} {ds : List Value} {dvs : List V} {k : Nat} {sp : Sp} (F : Def K mg x st f fd) (b : Binds K fd ps ds) (d : Vals dvs ds) (S : FnScope N ps (fnScope st)) (len : ∀ vs H Q E, sp vs H Q E → vs.length = ps.length)
    (hbody : ∀ (cdv : Value) (A : Around) (outer : List Env) (s : Shared) (H : Hp) (vs : List V) (Q : VK) (E : XK), Room k (A.deeper (envOfC x (fnScope st) s.heap.objs.size f cdv)) → sp vs H Q E →
      ∃ t, PSs (cxOf (L2.CX P w) P w K mg base N x (fnScope st) f cdv A outer s H E) (fnBody st) t ∧ t { nx := fun _ H' => Q .non H', rt := Q } (start N vs) H) : CalX P w K mg base (k + 1) x sp dvs :=
  ⟨f, fd, ps, ds, fnX F.fn S len hbody, F.mgf, F.kp, b, d⟩
end
end C8
namespace Sl
open PySem L2 C8 StX
/-- an error of the class at S is what «except S» names -/
theorem exm_own {K : PySem.W.Frag} {S : Addr} (h1 : PySem.W.subIn K (.ref S) (.type "BaseException") = some true) (h2 : PySem.W.isClsIn K S = true) (h3 : PySem.W.typeIn K (.ref S) = some (.type "type")) (h4 : PySem.W.subIn K (.ref S) (.ref S) = some true) :
    PySem.W.exmOne K (.ref S) (.ref S) = some true := by
  have e1 : (PySem.W.subIn K (.ref S) (.type "BaseException") == some true) = true := by rw [h1] <;> rfl
  have e2 : ((PySem.W.clsIn K S).isSome && PySem.W.typeIn K (.ref S) == some (.type "type")) = true := by
    have h2' : (PySem.W.clsIn K S).isSome = true := h2
    rw [h2', h3] <;> rfl
  show (if (PySem.W.subIn K (.ref S) (.type "BaseException") == some true) = true then (if ((PySem.W.clsIn K S).isSome && PySem.W.typeIn K (.ref S) == some (.type "type")) = true then PySem.W.subIn K (.ref S) (.ref S) else none) else none) = some true
  rw [if_pos e1, if_pos e2]
  exact h4
/-- what is known of an own class of errors without its own __init__ -/
structure XOwn (K : PySem.W.Frag) (C : Addr) : Prop where
  x : PySem.W.excIn K C [.type "ValueError", .type "Exception", .type "BaseException", .type "object"] "ValueError.__new__" = true
  k : PySem.W.keepIn K (.ref C) = true
  b : PySem.W.subIn K (.ref C) (.type "BaseException") = some true
  t : PySem.W.typeIn K (.ref C) = some (.type "type")
  i : PySem.W.isClsIn K C = true
  s : PySem.W.subIn K (.ref C) (.ref C) = some true
theorem XOwn.e {K : PySem.W.Frag} {C : Addr} (T : XOwn K C) : PySem.W.exmOne K (.ref C) (.ref C) = some true := exm_own T.b T.i T.t T.s
section
variable {X : Cx} {x : Str} {np pos : Pos} {C : Addr} {W : WX}
/-- X('m') -/
theorem pmk_x {m : Str} {j : Nat} {p p2 pos : Pos} (T : XOwn X.K C) (gC : X.mg x = some (.ref C)) (hg : Gl X x) (hdb : (x == ("__debug__" : Str)) = false := by decide) : PMk X (.Call (.Name x p) [.Constant (.str m) j p2] [] pos) (fun _ H Q => Q (.ref C) none H) :=
  pmk_own PySem.F.excBase_ValueError T.x gC T.k (raises_own T.b T.t) hg hdb
/-- raise X('m') -/
def tRaise (C : Addr) (W : WX) : TS := fun _ σ H => W (.ref C) none σ H
theorem ps_raiseO {m : Str} {j : Nat} {p p2 pos pos2 : Pos} (hc : X.calm = true) (tk : Takes X W) (T : XOwn X.K C) (gC : X.mg x = some (.ref C)) (hg : Gl X x) (hdb : (x == ("__debug__" : Str)) = false := by decide) :
    PS X (.Raise (some (.Call (.Name x p) [.Constant (.str m) j p2] [] pos)) none pos2) (tRaise C W) := ps_raise hc tk (pmk_x T gC hg hdb)
end
section
variable {σ : L2.St} {H : Hp} {Q : VK} {K : PySem.W.Frag} {C : Addr} {W Wout : WX} {nx bk ct : L2.St → Hp → Prop} {rt : VK} {sp : Sp} {dvs : List V} {E : L2.St → XK} {t : TA} {tb : WX → TS} {ts : Addr → Value → Option Addr → TS} {c cls : Value} {d : Option Addr} {D : Ends} {vs : List V}
theorem rd_raise {E : XK} (h : E (.ref C) none H) : tRaise C (fun cls d _ H => E cls d H) ⟨nx, rt, bk, ct⟩ σ H := h
def rCallSd (sp : Sp) (dvs : List V) (E : XK) (Q : VK) (vs : List V) (H : Hp) : Prop := sp (vs ++ dvs) H Q E
theorem rd_callSd (h : t σ H fun vs H1 => rCallSd sp dvs (E σ) Q vs H1) : tCallSd sp dvs E t σ H Q := h
theorem rd_callSd2 {E : XK} {ws : List V} (h : sp (ws ++ dvs) H Q E) : rCallSd sp dvs E Q ws H := h
theorem rd_try (h : tb (wOnly K c ts Wout D) D σ H) : tTry K c tb ts Wout D σ H := h
theorem rd_caught (he : PySem.W.exmOne K cls c = some true) (h : ∀ a, H a = none → ts a cls d D σ H) : WE (wOnly K c ts Wout D) σ cls d H := ⟨true, he, fun _ => h, fun q => nomatch q⟩
theorem rd_isN0 {x : V} (h : Q (.bl (decide (x = .non))) H) : rIsNn x .non H Q := ⟨rfl, h⟩
theorem rd_notN0 {x : V} (h : Q (.bl (!decide (x = .non))) H) : rNotNn x .non H Q := ⟨rfl, h⟩
theorem rd_maxL {a : Addr} {ns : List Int} {m : Int} (e : SqL K H a (ns.map V.int)) (l : 0 < ns.length) (h : ∀ m, m ∈ ns → (∀ y, y ∈ ns → y ≤ m) → Q (.int m) H) : rMax K [.ref a] H Q := ⟨a, ns, rfl, e, l, h⟩
theorem rd_indexI {a : Addr} {ns : List Int} {y : Int} {j : Nat} (e : SqL K H a (ns.map V.int)) (hj : ns[j]? = some y) (hn : ∀ m z, m < j → ns[m]? = some z → z ≠ y) (h : Q (.int (j : Nat)) H) : rIndex K (.ref a) [.int y] H Q := by
  refine ⟨a, ns.map V.int, .int y, j, .int y, rfl, rfl, e, rfl, ?_, by rw [List.getElem?_map, hj]; rfl, by simp [eqV], ?_, h⟩
  · rw [List.all_eq_true]
    intro x hx
    obtain ⟨n, _, rfl⟩ := List.mem_map.mp hx
    rfl
  · intro m z' hm hz
    rw [List.getElem?_map] at hz
    cases q : ns[m]? with
    | none => rw [q] at hz; cases hz
    | some z =>
      rw [q] at hz
      cases hz
      have := hn m z hm q
      simp [eqV, this]
theorem rd_tyLq {a : Addr} {xs : List V} {R : Prop} (e : SqL K H a xs) (h : R) : tyV K "list" (.ref a) H ∧ R := ⟨.inl ⟨rfl, xs, e⟩, h⟩
end
end Sl
set_option Elab.async false
set_option linter.all false
set_option maxRecDepth 100000
set_option maxHeartbeats 400000
namespace L2
open PySem PySem.Spec PyProof.Rows NdefX
/-! ### an own error over ValueError whose __init__ begins with super().__init__('..') -/
section
variable {prog : Program} {w : World} {A : Around} {E : Value → Shared → Prop} {h : Heap} {g : Array GenState} {d : Drawn} {t : Nat} {os : OsState}
variable {nm q : Str} {C N u e t0 : Addr} {bs bm : List Value} {hd : Bool} {sn : List Str} {sub : List Value} {ab : Bool} {col : Option Bool} {dd : Option Addr} {k0 k1 k2 k3 k5 : Option Value}
/-- the bound ValueError.__init__ called: the error's texts are laid anew -/
theorem call_mw {us : List Value} {Q : Value → Shared → Prop} (hC : h.get? C = some (excClassObj nm q C N bs bm hd sn sub ab col dd k0 k1 k2 k3 k5 "ValueError.__new__")) (he : h.get? e = some (HandSPX.excO C t0))
    (hu : h.get? u = some (PySem.W.kxs_mw "ValueError.__init__" e)) (hl : us.length ≤ sizeLine)
    (hq : ∀ h' t1, (∀ b o, b ≠ e → h.get? b = some o → h'.get? b = some o) → h'.get? e = some (HandSPX.excO C t1) → Q .none ⟨h', g, d, t, os⟩) : wpAny (model prog w) A (call (.ref u) us) Q E ⟨h, g, d, t, os⟩ := by
  refine wpAny_call (codeAny_of_tree ?_)
  show wpAny _ A.in1 (callAny (.ref u) ⟨us, []⟩) _ _ _
  simp only [callAny]
  have two : (Value.type "method-wrapper" == Value.type "method" || Value.type "method-wrapper" == Value.type "builtin_function_or_method" || Value.type "method-wrapper" == Value.type "method-wrapper") = true := by decide
  refine wpAny_bind (wpAny_load hu ?_)
  simp only [PySem.W.kxs_mw, two, if_true]
  refine PySem.W.KFB.if_so (by decide) ?_
  refine wpAny_bind (PySem.ESX.check_bound (F.excBase_ValueError) hC he rfl ?_)
  refine (wpAny_bind (wpAny_pure (wpAny_pure ?_)))
  have EN := F.excBase_ValueError.initEntry
  refine ⟨Code.quiet_builtin _ (by decide +kernel), (codeAny_builtin EN ?_)⟩
  exact PySem.W.exc_init_tree (cls := .ref C) (t0 := t0) (dv := none) (c2 := .none) (c3 := .none) (b4 := .bool false) he hl fun h' k e' _ => hq h' _ k e'
end
/-- what the written part says of such a class and its __init__ -/
structure SupFn (P : Program) (K : PySem.W.Frag) (qual : Str) (st : Stmt) (f C : Addr) (fd : FuncData) : Prop where
  ex : ∃ (cc cda : Addr) (oc kV doc pm ct ccl cl : Value) (od an cdd cld : Option Addr) (osl ccs csl : Array (Option Value)) (vs : Array Value) (file : Str) (tf : Tok), fd = PySem.W.fnX "__init__" qual (C8.fnArgs st) (C8.fnBody st) (C8.fnScope st) [("__class__", cc)] .none kV doc pm an (.ref cda) ct ∧
    K.lookup f = some ⟨oc, od, .func fd, osl⟩ ∧ PySem.W.codeIn K (.ref cda) qual = true ∧ K.lookup cda = some ⟨ccl, cdd, .fields vs, ccs⟩ ∧ vs[2]? = some (.str file tf) ∧ ((P.main.file : Str) == file) = true ∧ K.lookup cc = some ⟨cl, cld, .cell (some (.ref C)), csl⟩
  top : (P.main.scope.names.lookup ("super" : Str)).isSome = false
  sub : PySem.W.mroIn K C (.ref C) = some true
  sup : PySem.W.ks_superIn K C C "__init__" = some (some (.builtin "ValueError.__init__"))
  ve : PySem.W.subIn K (.ref C) (.type "ValueError") = some true
  any : PySem.W.nsIn K cStatics "thirdparty.any" = some none
abbrev supNF (qual : Str) (st : Stmt) (cc cda : Addr) : NF := ⟨"__init__", qual, C8.fnArgs st, C8.fnBody st, C8.fnScope st, [("__class__", cc)], cda⟩
abbrev supCx (CX : CXT) (P : Program) (w : World) (K : PySem.W.Frag) (mg : Str → Option Value) (base : Heap) (N : List Str) (qual : Str) (st : Stmt) (cc cda f : Addr) (A : Around) (outer : List Env) (s : Shared) (H : Hp) (E : XK) : Cx := ncx CX P w K mg base N (supNF qual st cc cda) f A outer s H E
section
variable {CX : CXT} {P : Program} {w : World} {K : PySem.W.Frag} {mg : Str → Option Value} {base : Heap} {N ps : List Str} {f C : Addr} {qual txt : Str} {st : Stmt} {fd : FuncData} {k j : Nat} {sp : Sp} {p0 p1 p2 p3 p4 p5 : Pos} {rest : List Stmt} {ar : Arg}
theorem fn_sup (F : SupFn P K qual st f C fd) (S : NScope N ps ["__class__"] (C8.fnScope st)) (hc : ∀ env : Env, ∃ pl : Sem Bool, eval (.Call (.Attribute (.Call (.Name "super" p0) [] [] p1) "__init__" p2) [.Constant (.str txt) j p3] [] p4) env = (do
      let ov ← attributeBase (.Call (.Name "super" p0) [] [] p1) "__init__" env (eval (.Call (.Name "super" p0) [] [] p1) env)
      standAt p2.atName
      let (f, first) ← holding [ov] (getMethod ov "__init__" pl)
      callWith p4 f first (backTo p4 (starEach [.Constant (.str txt) j p3] env)) []))
    (hst : C8.fnBody st = .Expr (.Call (.Attribute (.Call (.Name "super" p0) [] [] p1) "__init__" p2) [.Constant (.str txt) j p3] [] p4) p5 :: rest)
    (hp : ((C8.fnArgs st).posonlyargs ++ (C8.fnArgs st).args).head? = some ar) (h0 : N[0]? = some ar.arg) (h1 : ar.arg ∈ ps) (hks : (C8.fnScope st).names.lookup ("super" : Str) = some .globalImplicit) (hm : mg "super" = none) (T : OexC K C)
    (len : ∀ vs H Q E, sp vs H Q E → vs.length = ps.length) (sp1 : ∀ vs H Q E, sp vs H Q E → ∃ a ws, vs = V.ref a :: ws ∧ H a = some (exo a C none))
    (hbody : ∀ (cc cda : Addr) (A : Around) (outer : List Env) (s : Shared) (H : Hp) (vs : List V) (Q : VK) (E : XK), Room k (A.deeper (envF (supNF qual st cc cda) f s.heap.objs.size)) → sp vs H Q E →
      ∃ t, PSs (supCx CX P w K mg base N qual st cc cda f A outer s H E) rest t ∧ t { nx := fun _ H' => Q .non H', rt := Q } (startF N vs [none]) H) : FnOk P w K mg base CX (k + 1) f fd ps sp := by
  obtain ⟨cc, cda, oc, kV, doc, pm, ct, ccl, cl, od, an, cdd, cld, osl, ccs, csl, vs2, file, tf, rfl, lk, hcd, lc, hvs, hfile, lcell⟩ := F.ex
  refine ⟨len, fun A outer s H args us vs Q E hr e0 hb r hsp => ?_⟩
  have hl := len _ _ _ _ hsp
  have KX : K.In s.heap := e0.mod.kin.keeps fun b o e => (e0.bs b o e).1
  have lim : s.heap.NoLimit := e0.mod.nolimit.keeps fun b o e => (e0.bs b o e).1
  obtain ⟨a, ws, rfl, ea⟩ := sp1 _ _ _ _ hsp
  obtain ⟨t, ht, hq⟩ := hbody cc cda A outer s H _ Q E (hr.deeper _) hsp
  have CA : CellsAt [((("__class__" : Str)), cc)] ["__class__"] [none] s.heap H := by
    have one : ∀ (y : Str) (c : Addr), List.lookup y [((("__class__" : Str)), cc)] = some c → y = ("__class__" : Str) ∧ c = cc := fun y c e => by
      have m := PySem.mem_of_lookup e
      have m := List.mem_singleton.mp m
      exact ⟨congrArg Prod.fst m, congrArg Prod.snd m⟩
    have hcb := e0.bs _ _ (e0.mod.kin _ _ lcell)
    refine ⟨rfl, fun y c e => ?_, fun x y c e1 e2 => ?_, fun i y e => ?_⟩
    · obtain ⟨rfl, rfl⟩ := one y c e
      exact ⟨hcb.2, _, _, hcb.1, rfl⟩
    · rw [(one x c e1).1, (one y c e2).1]
    · have hi : i = 0 := by
        have := (List.getElem?_eq_some_iff.mp e).1
        simp at this
        exact this
      subst hi
      cases e
      exact ⟨cc, List.lookup_cons_self, fun v ev => by cases ev⟩
  refine PySem.ks_codeAny_call_defAt (body := C8.fnBody st) (binds := ps.zip us) hr.depth (KX _ _ lk) rfl lim (PySem.W.codeRec_of KX hcd) rfl hb S.nocell (fun ⟨n, _⟩ hy => S.par n (List.of_mem_zip hy).1) (fun h₁ hns kp => ?_) S.co S.gen S.kind
  have I : Inv (supCx CX P w K mg base N qual st cc cda f A outer s H E) [] (startF N (V.ref a :: ws) [none]) H { s with heap := h₁, toks := s.toks + (ps.zip us).length } := inv_startN S hr.hd e0 hl r CA hns kp
  have kind : ∀ L, interactive (PySem.W.envX qual (C8.fnScope st) L f (.ref cda) [("__class__", cc)]) = false := fun L => by
    show ((C8.fnScope st).kind == .module && _) = false
    rw [S.kind]
    rfl
  show PySem.wpAt (model P w) (A.deeper (PySem.W.envX qual (C8.fnScope st) s.heap.objs.size f (.ref cda) [("__class__", cc)])) (.func (C8.fnBody st) (PySem.W.envX qual (C8.fnScope st) s.heap.objs.size f (.ref cda) [("__class__", cc)])) (execs (C8.fnBody st) (PySem.W.envX qual (C8.fnScope st) s.heap.objs.size f (.ref cda) [("__class__", cc)])) _ _ _
  obtain ⟨pl, he⟩ := hc (PySem.W.envX qual (C8.fnScope st) s.heap.objs.size f (.ref cda) [("__class__", cc)])
  have eB : execs (C8.fnBody st) (PySem.W.envX qual (C8.fnScope st) s.heap.objs.size f (.ref cda) [("__class__", cc)]) = execs (.Expr (.Call (.Attribute (.Call (.Name "super" p0) [] [] p1) "__init__" p2) [.Constant (.str txt) j p3] [] p4) p5 :: rest) (PySem.W.envX qual (C8.fnScope st) s.heap.objs.size f (.ref cda) [("__class__", cc)]) := by rw [hst]
  rw [eB]
  refine PySem.ks_wpAt_execs_cons (PySem.ks_wpAt_Expr_any (PySem.ks_wpAt_MethodCall (pl := pl) ?_ he) (kind _) rfl)
  obtain ⟨nm, qn, NS, bs, bm, sn, sub, ab, col, dd, k0, k1, k2, k3, k5, hC, hbm⟩ := T.cls
  obtain ⟨cd, hcl, hmro⟩ : ∃ cd, PySem.W.clsIn K C = some cd ∧ (∀ h : Heap, K.In h → PySem.W.Looks (model P w) h (mroOf (.ref C)) cd.mro) := by
    refine ⟨_, (by unfold PySem.W.clsIn; rw [hC]), fun h hk => ?_⟩
    exact (PySem.W.looks_clsIn hk (by unfold PySem.W.clsIn; rw [hC])).andThen .now
  have hsup := F.sup
  unfold PySem.W.ks_superIn at hsup
  rw [hcl] at hsup
  have hkc : (C8.fnScope st).names.lookup ("__class__" : Str) = some .free := S.frk _ List.mem_cons_self
  obtain ⟨t1, ho⟩ := exo_at I.hok ea
  obtain ⟨m, hn, hloc⟩ := I.loc
  obtain ⟨ua, rua, lua⟩ := hloc 0 ar.arg (.ref a) h0 rfl (.inl (S.par _ h1))
  obtain rfl : ua = Value.ref a := rua
  have hua : m ar.arg = some (.ref a) := by
    rcases lua with ⟨_, z⟩ | ⟨z, _⟩
    · exact z
    · have y := S.par _ h1
      rcases z with z | z
      · exact absurd (y.symm.trans z) (by simp)
      · exact absurd (y.symm.trans z) (by simp)
  have hCb : H C = none := (I.bs C _ (I.ok.mod.kin _ _ hC)).2
  have haC : a ≠ C := fun z => by rw [z, hCb] at ea; cases ea
  refine PySem.ks_wpAt_super_base hks hkc (by decide +kernel) rfl (I.kIn _ _ lk) rfl hp rfl (I.kIn _ _ lc) rfl hvs hfile F.top ?_
  refine PySem.W.ks_loadName_global S.kind hks ?_
  obtain ⟨mb, hb1, hb2⟩ := I.mod.blt
  refine Calls.loadGlobal_builtin (I.mod.glob.keeps I.bk) hm (hb1.keeps I.bk) ((hb2 _ (by decide +kernel)).trans (by decide +kernel)) ⟨rfl, ?_⟩
  refine wpAny_loadName_free S.kind hkc rfl ⟨_, I.kIn _ _ lcell, rfl⟩ ?_
  refine wpAny_loadName_local S.kind (S.par _ h1) hn hua ?_
  refine PySem.ks_wpAny_isType_cls (I.kIn _ _ hC) rfl ⟨rfl, ?_⟩
  refine PySem.ks_wpAny_call_super (I.kIn _ _ hC) rfl ho rfl (fun c z => nomatch z) (PySem.W.looks_mroIn I.kIn F.sub) (fun h2 hso k2 => ?_)
  -- .__init__
  have I2 := I.kept (t' := s.toks + (ps.zip us).length) k2
  have ho2 := k2 _ _ ho
  have II : PySem.W.InstAt h2 a _ C none := ⟨ho2, rfl, rfl, trivial⟩
  refine PySem.W.kxs_getMethod PySem.W.kxs_ValueError hso (PySem.W.looks_opaque I2.kIn F.any) (hmro _ I2.kIn) rfl I2.kIn hsup (II.type.andThen (PySem.W.looks_subIn I2.kIn F.ve)) haC (by decide +kernel) ?_
  have hmw : (h2.push (PySem.W.kxs_mw "ValueError.__init__" a)).get? h2.objs.size = some (PySem.W.kxs_mw "ValueError.__init__" a) := Heap.get?_push_at rfl rfl
  have k3 : ∀ b o, h2.get? b = some o → (h2.push (PySem.W.kxs_mw "ValueError.__init__" a)).get? b = some o := fun b o e => Heap.get?_push_of_some _ e
  have I3 := (I2.kept (t' := s.toks + (ps.zip us).length + 1) k3).pins_of (pins' := [(h2.objs.size, PySem.W.kxs_mw "ValueError.__init__" a)]) (fun p hp => by
    rw [List.mem_singleton.mp hp]
    exact ⟨hmw, I2.hok.fresh (Nat.le_refl _), Ne.symm (Nat.ne_of_lt I2.lt), I2.nofs (Nat.le_refl _), fun v z => nomatch z⟩)
  refine PySem.W.kxs_callWith (i := "ValueError.__init__") (x := a) rfl (PySem.Calls.evalArgs_plain ?_)
  refine thn ((pa_cons (pe_str (x := txt) (j := j) (pos := p3)) pa_nil).run p4 _ _ _ H (fun vs H1 => H1 = H ∧ vs.length = 1) I3 ⟨rfl, rfl⟩) fun us4 s4 ⟨vs4, H4, I4, r4, eH, hl4⟩ => ?_
  subst eH
  obtain ⟨hu4, -⟩ := I4.pin _ (List.mem_append_right _ (List.mem_singleton.mpr rfl))
  refine ⟨hu4, ?_⟩
  obtain ⟨t4, ho4⟩ := exo_at I4.hok ea
  obtain ⟨h4, g4, d4, tk4, os4⟩ := s4
  refine call_mw (I4.kIn _ _ hC) ho4 hu4 (by show us4.length ≤ sizeLine; rw [← r4.length, hl4]; decide) (fun h5 t5 k5 he5 => ?_)
  have J0 := I4.write (t' := tk4) (x := a) (e := a) (o := exo a C none) (by rw [ea]; exact True.intro) (.inl rfl) k5 ⟨_, he5⟩ (exo_ok he5)
  have eu : upd H4 a (exo a C none) = H4 := funext fun b => by
    by_cases hb : b = a
    · rw [hb, upd_same, ea]
    · exact upd_ne hb
  rw [eu] at J0
  have J := J0.pins_of (pins' := []) (fun p hp => nomatch hp)
  refine wpAt_of_wpAny (wpAny_mono (ht.run [] _ _ H4 _ J hq) (fun fl s6 hs => ?_) fun e s6 hs => hs)
  cases fl with
  | ret u =>
    obtain ⟨v, σ', H', J', rv, q⟩ := hs
    exact ⟨v, H', J'.os, J'.bare, J'.base, J'.hok, rv, q⟩
  | next =>
    obtain ⟨σ', H', J', q⟩ := hs
    exact ⟨V.non, H', J'.os, J'.bare, J'.base, J'.hok, rfl, q⟩
  | brk =>
    obtain ⟨_, _, _, q⟩ := hs
    exact False.elim q
  | cont =>
    obtain ⟨_, _, _, q⟩ := hs
    exact False.elim q
end
/-! ### raise C(place) -/
/-- the text of such an __init__: super().__init__('..'), self.place = place -/
structure SupSt (st : Stmt) (N : List Str) : Prop where
  S : NScope N ["self", "place"] ["__class__"] (C8.fnScope st)
  n0 : N[0]? = some ("self" : Str)
  n1 : N[1]? = some ("place" : Str)
  hp : ∃ ar, ((C8.fnArgs st).posonlyargs ++ (C8.fnArgs st).args).head? = some ar ∧ ar.arg = ("self" : Str)
  ks : (C8.fnScope st).names.lookup ("super" : Str) = some .globalImplicit
  tx : ∃ (p0 p1 p2 p3 p4 p5 a1 a2 a3 a4 : Pos) (txt : Str) (j : Nat), C8.fnBody st = [.Expr (.Call (.Attribute (.Call (.Name "super" p0) [] [] p1) "__init__" p2) [.Constant (.str txt) j p3] [] p4) p5, .Assign [.Attribute (.Name "self" a1) "place" a2] (.Name "place" a3) a4] ∧
    ∀ env : Env, ∃ pl : Sem Bool, eval (.Call (.Attribute (.Call (.Name "super" p0) [] [] p1) "__init__" p2) [.Constant (.str txt) j p3] [] p4) env = (do
      let ov ← attributeBase (.Call (.Name "super" p0) [] [] p1) "__init__" env (eval (.Call (.Name "super" p0) [] [] p1) env)
      standAt p2.atName
      let (f, first) ← holding [ov] (getMethod ov "__init__" pl)
      callWith p4 f first (backTo p4 (starEach [.Constant (.str txt) j p3] env)) [])
structure XSup (P : Program) (K : PySem.W.Frag) (C : Addr) (qual : Str) (st : Stmt) : Prop where
  o : OexC K C
  fn : ∃ f fd, SupFn P K qual st f C fd ∧ Binds K fd ["self", "place"] [] ∧ PySem.W.findIn K (.ref C) "__init__" = some (some (.ref f)) ∧ PySem.W.typeIn K (.ref f) = some (.type "function")
  np : PySem.W.findIn K (.ref C) "place" = some none
  xf : XfC K C
  i : PySem.W.isClsIn K C = true
  s : PySem.W.subIn K (.ref C) (.ref C) = some true
theorem XSup.e {P : Program} {K : PySem.W.Frag} {C : Addr} {qual : Str} {st : Stmt} (T : XSup P K C qual st) : PySem.W.exmOne K (.ref C) (.ref C) = some true := Sl.exm_own T.o.exC T.i T.o.tyC T.s
def spSup (C : Addr) : Sp := fun vs H Q _ => ∃ a v, vs = [V.ref a, v] ∧ H a = some (exo a C none) ∧ ∀ dx, H dx = none → dx ≠ a → Q .non (upd (upd H dx (exd dx [("place", v)])) a (exo a C (some dx)))
theorem fn_place {P : Program} {w : World} {K : PySem.W.Frag} {mg : Str → Option Value} {base : Heap} {C f : Addr} {fd : FuncData} {qual : Str} {st : Stmt} {N : List Str} (T : XSup P K C qual st) (F : SupFn P K qual st f C fd) (Z : SupSt st N) (hm : mg "super" = none) :
    FnOk P w K mg base C8.CX0 1 f fd ["self", "place"] (spSup C) := by
  obtain ⟨ar, ha, hn⟩ := Z.hp
  obtain ⟨p0, p1, p2, p3, p4, p5, a1, a2, a3, a4, txt, j, hb, he⟩ := Z.tx
  refine fn_sup (k := 0) F Z.S he hb ha (by rw [hn]; exact Z.n0) (by rw [hn]; exact List.mem_cons_self) Z.ks hm T.o (fun vs H Q E h => ?_) (fun vs H Q E h => ?_) (fun cc cda A outer s H vs Q E hr h => ?_)
  · obtain ⟨a, v, rfl, _⟩ := h
    rfl
  · obtain ⟨a, v, rfl, e, _⟩ := h
    exact ⟨a, [v], rfl, e⟩
  · obtain ⟨a, v, rfl, e, k⟩ := h
    refine ⟨_, pss_one (ps_ost (pe_var (i := 0) Z.n0 (.inl (Z.S.par _ List.mem_cons_self))) (pe_var (i := 1) Z.n1 (.inl (Z.S.par _ (.tail _ List.mem_cons_self))))), ?_⟩
    refine ⟨v, rfl, .ref a, rfl, a, C, rfl, T.o, T.np, .inl ⟨e, fun dx h1 h2 => ?_⟩⟩
    exact k dx h1 h2
/-- raise C(e) -/
def tRaP (C : Addr) (W : WX) (te : TE) : TS := fun _ σ H => tMkO C (spSup C) [] (tCons te tNil) σ H fun cls d H' => W cls d σ H'
theorem ps_raiseP {X : Cx} {W : WX} {x qual : Str} {C : Addr} {st : Stmt} {N : List Str} {e : Expr} {te : TE} {p pos pos2 : Pos} {n : Nat} (hc : X.calm = true) (tk : Takes X W) (T : XSup X.prog X.K C qual st) (Z : SupSt st N) (hm : X.mg "super" = none) (gC : X.mg x = some (.ref C)) (hr : Room n X.A) (hn : 2 ≤ n) (hg : Gl X x)
    (he : PE X e te) (hdb : (x == ("__debug__" : Str)) = false := by decide) (hs : starEach [e] X.env = (false, eval e X.env) :: starEach [] X.env := by rfl) :
    PS X (.Raise (some (.Call (.Name x p) [e] [] pos)) none pos2) (tRaP C W te) := by
  obtain ⟨f, fd, F, hb, iC, tI⟩ := T.fn
  exact ps_raise hc tk (pmk_oex T.o iC tI (fn_place (w := X.w) (base := X.base) T F Z hm) (hr.mono hn) hb .nil C8.pass0 hg gC (pa_cons he pa_nil hs) hdb hs rfl)
end L2
namespace Sl
open PySem L2 C8 StX
section
variable {σ : L2.St} {H : Hp} {C : Addr} {W : WX} {te : TE} {nx bk ct : L2.St → Hp → Prop} {rt : VK}
def rRaP (C : Addr) (W : WX) (σ : L2.St) (vs : List V) (H1 : Hp) : Prop := vs.length ≤ 1000 ∧ ∀ a, H1 a = none → spSup C (.ref a :: (vs ++ [])) (upd H1 a (exo a C none))
  (fun v H2 => v = .non ∧ ∃ (d : Addr) (fs : List (Str × V)), H2 a = some (exo a C (some d)) ∧ H2 d = some (exd d fs) ∧ H1 d = none ∧ W (.ref C) (some d) σ (upd (del H2 a) d (.xd fs))) (fun _ _ _ => False)
theorem rd_raP0 (h : tCons te tNil σ H fun vs H1 => rRaP C W σ vs H1) : tRaP C W te ⟨nx, rt, bk, ct⟩ σ H := h
theorem rd_raP {v : V} (h : ∀ d H', H d = none → Same H H' → H' d = some (.xd [("place", v)]) → W (.ref C) (some d) σ H') : rRaP C W σ [v] H := by
  refine ⟨(show 1 ≤ 1000 by decide), fun a ha => ⟨a, v, rfl, upd_same, fun dx h1 h2 => ?_⟩⟩
  have hd : H dx = none := by rw [upd_ne h2] at h1; exact h1
  have e : upd (del (upd (upd (upd H a (exo a C none)) dx (exd dx [("place", v)])) a (exo a C (some dx))) a) dx (.xd [("place", v)]) = upd H dx (.xd [("place", v)]) := by
    funext b
    by_cases hb : b = dx
    · rw [hb, upd_same, upd_same]
    · rw [upd_ne hb, upd_ne hb]
      by_cases hc : b = a
      · rw [hc, del_same, ha]
      · rw [del_ne hc, upd_ne hc, upd_ne hb, upd_ne hc]
  show V.non = V.non ∧ _
  refine ⟨rfl, dx, [("place", v)], upd_same, ?_, hd, ?_⟩
  · rw [upd_ne h2, upd_same]
  · rw [e]
    exact h dx _ hd (Same.new (Same.refl H) hd) upd_same
end
/-! ### try .. except X as n -/
end Sl
namespace L2
open PySem PySem.Spec PyProof.Rows
section
variable {X : Cx} {x n : Str} {c : Value} {i : Nat} {body suite : List Stmt} {b₀ : Stmt} {np pos pos' : Pos} {tb : WX → TS} {ts : Addr → Value → Option Addr → TS} {Wout : WX}
def tTryAs (K : PySem.W.Frag) (c : Value) (i : Nat) (tb : WX → TS) (ts : Addr → Value → Option Addr → TS) (Wout : WX) : TS := fun D σ H => tb (wAs K c i ts Wout D) D σ H
theorem ps_tryAsO (hs : X.stack = X.env :: X.outer) (hf : X.env.frame = some X.env.locals) (hN : X.N.Nodup) (hi : X.N[i]? = some n) (hln : X.env.kindOf n = some .local) (hc : Names X x c) (tk : Takes X Wout)
    (hb : ∀ (W : WX) (pn : List (Addr × Obj)) (xe : Value → Shared → Prop), Takes (X.tr pn xe) W → PSs (X.tr pn xe) body (tb W))
    (hsu : ∀ (a : Addr) (oe : Obj) (cls : Value) (d : Option Addr) (pn : List (Addr × Obj)), Zc cls d oe → (∃ vs, oe.data = .fields vs) → PSs (X.suite a ((a, oe) :: pn)) (b₀ :: suite) (ts a cls d)) :
    PS X (.Try body [.ExceptHandler (some (.Name x np)) (some n) (b₀ :: suite) pos'] [] [] pos) (tTryAs X.K c i tb ts Wout) :=
  ps_try_as hs hf hN hi hln hc tk (fun W pn xe k _ => hb W pn xe k) hsu
end
end L2
namespace Sl
open PySem L2 C8 StX
section
variable {σ : L2.St} {H : Hp} {Q : VK} {K : PySem.W.Frag} {C a dd : Addr} {Wout : WX} {te : TE} {tb : WX → TS} {ts : Addr → Value → Option Addr → TS} {c cls : Value} {d : Option Addr} {D : Ends} {i : Nat} {f : Str} {fs : List (Str × V)} {v : V}
theorem rd_tryAs (h : tb (wAs K c i ts Wout D) D σ H) : tTryAs K c i tb ts Wout D σ H := h
theorem rd_caughtAs (he : PySem.W.exmOne K cls c = some true) (h : ∀ a, H a = none → ts a cls d { nx := fun σ' H' => D.nx (σ'.set i none) H', rt := D.rt, bk := fun σ' H' => D.bk (σ'.set i none) H', ct := fun σ' H' => D.ct (σ'.set i none) H' } (σ.set i (some (.ref a))) H) :
    WE (wAs K c i ts Wout D) σ cls d H := ⟨true, he, fun _ => h, fun q => nomatch q⟩
def rXf (a : Addr) (cls : Value) (d : Option Addr) (C : Addr) (f : Str) (x : V) (H1 : Hp) (Q : VK) : Prop := x = .ref a ∧ cls = .ref C ∧ ∃ (dd : Addr) (fs : List (Str × V)) (v : V), d = some dd ∧ H1 dd = some (.xd fs) ∧ fs.lookup f = some v ∧ Q v H1
theorem rd_xf0 (h : te σ H fun x H1 => rXf a cls d C f x H1 Q) : tXf a cls d C f te σ H Q := h
theorem rd_xf (e : H dd = some (.xd fs)) (l : fs.lookup f = some v) (h : Q v H) : rXf a (.ref C) (some dd) C f (.ref a) H Q := ⟨rfl, rfl, dd, fs, v, rfl, e, l, h⟩
end
/-! ### the facts -/
section
open PySem.W
variable {P : Program} {K : PySem.W.Frag} {C f cc cda N dX : Addr} {qual nm q : Str} {st : Stmt} {bs bm : List Value} {sn : List Str} {sub : List Value} {ab : Bool} {col : Option Bool} {dd : Option Addr} {k0 k1 k2 k3 k5 : Option Value} {oc kV doc pm ct ccl cl : Value} {od an cdd cld : Option Addr} {osl ccs csl : Array (Option Value)} {vs : Array Value} {file : Str} {tf : Tok}
theorem xsupk (c1 : K.lookup C = some (excClassObj nm q C N bs bm true sn sub ab col dd k0 k1 k2 k3 k5 "ValueError.__new__")) (c2 : PySem.HandSPX.refsVE bm = true) (c3 : findIn K (.ref C) "__setattr__" = some (some (.builtin "object.__setattr__"))) (c4 : subIn K (.ref C) (.type "BaseException") = some true) (c5 : typeIn K (.ref C) = some (.type "type")) (c6 : keepIn K (.ref C) = true)
    (f1 : findIn K (.ref C) "__init__" = some (some (.ref f))) (f2 : K.lookup f = some ⟨oc, od, .func (fnX "__init__" qual (C8.fnArgs st) (C8.fnBody st) (C8.fnScope st) [("__class__", cc)] .none kV doc pm an (.ref cda) ct), osl⟩) (f3 : codeIn K (.ref cda) qual = true) (f4 : K.lookup cda = some ⟨ccl, cdd, .fields vs, ccs⟩) (f5 : vs[2]? = some (.str file tf)) (f6 : ((P.main.file : Str) == file) = true)
    (f7 : K.lookup cc = some ⟨cl, cld, .cell (some (.ref C)), csl⟩) (f8 : typeIn K (.ref f) = some (.type "function")) (s1 : (P.main.scope.names.lookup ("super" : Str)).isSome = false) (s2 : mroIn K C (.ref C) = some true) (s3 : ks_superIn K C C "__init__" = some (some (.builtin "ValueError.__init__"))) (s4 : subIn K (.ref C) (.type "ValueError") = some true) (s5 : nsIn K cStatics "thirdparty.any" = some none)
    (n1 : findIn K (.ref C) "place" = some none) (x1 : xfB K C = true) (i : isClsIn K C = true) (s : subIn K (.ref C) (.ref C) = some true)
    (bd : ∀ (kV doc pm : Value) (an : Option Addr) (cc cda : Addr) (ct : Value) (us : List Value), us.length = 2 → bindArgs (fnX "__init__" qual (C8.fnArgs st) (C8.fnBody st) (C8.fnScope st) [("__class__", cc)] .none kV doc pm an (.ref cda) ct) ⟨us, []⟩ = pure ((["self", "place"] : List Str).zip us)) : XSup P K C qual st :=
  ⟨⟨⟨_, _, _, _, _, _, _, _, _, _, _, _, _, _, _, c1, c2⟩, c3, c4, c5, c6⟩, ⟨f, _, ⟨⟨cc, cda, oc, kV, doc, pm, ct, ccl, cl, od, an, cdd, cld, osl, ccs, csl, vs, file, tf, rfl, f2, f3, f4, f5, f6, f7⟩, s1, s2, s3, s4, s5⟩, .all fun us hl => bd kV doc pm an cc cda ct us hl, f1, f8⟩, n1, xfB_ok x1, i, s⟩
end
end Sl
set_option Elab.async false
set_option linter.all false
set_option maxRecDepth 100000
set_option maxHeartbeats 400000
namespace L2
open PySem PySem.Spec PyProof.Rows NdefX
/-! ### an own error with two words: super().__init__('..'), self.x1 = x1, self.x2 = x2 -/
structure SupSt2 (st : Stmt) (N : List Str) (x1 x2 : Str) : Prop where
  S : NScope N ["self", x1, x2] ["__class__"] (C8.fnScope st)
  n0 : N[0]? = some ("self" : Str)
  n1 : N[1]? = some x1
  n2 : N[2]? = some x2
  hp : ∃ ar, ((C8.fnArgs st).posonlyargs ++ (C8.fnArgs st).args).head? = some ar ∧ ar.arg = ("self" : Str)
  ks : (C8.fnScope st).names.lookup ("super" : Str) = some .globalImplicit
  d1 : (x1 == ("__debug__" : Str)) = false
  d2 : (x2 == ("__debug__" : Str)) = false
  c1 : (x1 == ("__classdict__" : Str)) = false
  c2 : (x2 == ("__classdict__" : Str)) = false
  tx : ∃ (p0 p1 p2 p3 p4 p5 a1 a2 a3 a4 b1 b2 b3 b4 : Pos) (txt : Str) (j : Nat), C8.fnBody st = [.Expr (.Call (.Attribute (.Call (.Name "super" p0) [] [] p1) "__init__" p2) [.Constant (.str txt) j p3] [] p4) p5, .Assign [.Attribute (.Name "self" a1) x1 a2] (.Name x1 a3) a4, .Assign [.Attribute (.Name "self" b1) x2 b2] (.Name x2 b3) b4] ∧
    ∀ env : Env, ∃ pl : Sem Bool, eval (.Call (.Attribute (.Call (.Name "super" p0) [] [] p1) "__init__" p2) [.Constant (.str txt) j p3] [] p4) env = (do
      let ov ← attributeBase (.Call (.Name "super" p0) [] [] p1) "__init__" env (eval (.Call (.Name "super" p0) [] [] p1) env)
      standAt p2.atName
      let (f, first) ← holding [ov] (getMethod ov "__init__" pl)
      callWith p4 f first (backTo p4 (starEach [.Constant (.str txt) j p3] env)) [])
structure XSup2 (P : Program) (K : PySem.W.Frag) (C : Addr) (qual : Str) (st : Stmt) (x1 x2 : Str) : Prop where
  o : OexC K C
  fn : ∃ f fd, SupFn P K qual st f C fd ∧ Binds K fd ["self", x1, x2] [] ∧ PySem.W.findIn K (.ref C) "__init__" = some (some (.ref f)) ∧ PySem.W.typeIn K (.ref f) = some (.type "function")
  np : PySem.W.findIn K (.ref C) x1 = some none
  nq : PySem.W.findIn K (.ref C) x2 = some none
  xf : XfC K C
  i : PySem.W.isClsIn K C = true
  s : PySem.W.subIn K (.ref C) (.ref C) = some true
theorem XSup2.e {P : Program} {K : PySem.W.Frag} {C : Addr} {qual x1 x2 : Str} {st : Stmt} (T : XSup2 P K C qual st x1 x2) : PySem.W.exmOne K (.ref C) (.ref C) = some true := Sl.exm_own T.o.exC T.i T.o.tyC T.s
def spSup2 (C : Addr) (x1 x2 : Str) : Sp := fun vs H Q _ => ∃ a v u, vs = [V.ref a, v, u] ∧ H a = some (exo a C none) ∧ ∀ dx, H dx = none → dx ≠ a → Q .non (upd (upd (upd H dx (exd dx [(x1, v)])) a (exo a C (some dx))) dx (exd dx [(x2, u), (x1, v)]))
theorem fn_place2 {P : Program} {w : World} {K : PySem.W.Frag} {mg : Str → Option Value} {base : Heap} {C f : Addr} {fd : FuncData} {qual x1 x2 : Str} {st : Stmt} {N : List Str} (T : XSup2 P K C qual st x1 x2) (F : SupFn P K qual st f C fd) (Z : SupSt2 st N x1 x2) (hm : mg "super" = none) :
    FnOk P w K mg base C8.CX0 1 f fd ["self", x1, x2] (spSup2 C x1 x2) := by
  obtain ⟨ar, ha, hn⟩ := Z.hp
  obtain ⟨p0, p1, p2, p3, p4, p5, a1, a2, a3, a4, b1, b2, b3, b4, txt, j, hb, he⟩ := Z.tx
  refine fn_sup (k := 0) F Z.S he hb ha (by rw [hn]; exact Z.n0) (by rw [hn]; exact List.mem_cons_self) Z.ks hm T.o (fun vs H Q E h => ?_) (fun vs H Q E h => ?_) (fun cc cda A outer s H vs Q E hr h => ?_)
  · obtain ⟨a, v, u, rfl, _⟩ := h
    rfl
  · obtain ⟨a, v, u, rfl, e, _⟩ := h
    exact ⟨a, [v, u], rfl, e⟩
  · obtain ⟨a, v, u, rfl, e, k⟩ := h
    refine ⟨_, pss_cons (ps_ost (pe_var (i := 0) Z.n0 (.inl (Z.S.par _ List.mem_cons_self))) (pe_var (i := 1) (hd := Z.d1) (hcd := Z.c1) Z.n1 (.inl (Z.S.par _ (.tail _ List.mem_cons_self)))))
      (pss_one (ps_ost (pe_var (i := 0) Z.n0 (.inl (Z.S.par _ List.mem_cons_self))) (pe_var (i := 2) (hd := Z.d2) (hcd := Z.c2) Z.n2 (.inl (Z.S.par _ (.tail _ (.tail _ List.mem_cons_self))))))), ?_⟩
    refine ⟨v, rfl, .ref a, rfl, a, C, rfl, T.o, T.np, .inl ⟨e, fun dx h1 h2 => ?_⟩⟩
    refine ⟨u, rfl, .ref a, rfl, a, C, rfl, T.o, T.nq, .inr ⟨dx, [(x1, v)], upd_same, ?_, (show 1 ≤ 900 by decide), ?_⟩⟩
    · rw [upd_ne h2, upd_same]
    · exact k dx h1 h2
/-- raise C(e1, e2) -/
def tRaP2 (C : Addr) (x1 x2 : Str) (W : WX) (te ue : TE) : TS := fun _ σ H => tMkO C (spSup2 C x1 x2) [] (tCons te (tCons ue tNil)) σ H fun cls d H' => W cls d σ H'
theorem ps_raiseP2 {X : Cx} {W : WX} {x qual x1 x2 : Str} {C : Addr} {st : Stmt} {N : List Str} {e1 e2 : Expr} {te ue : TE} {p pos pos2 : Pos} {n : Nat} (hc : X.calm = true) (tk : Takes X W) (T : XSup2 X.prog X.K C qual st x1 x2) (Z : SupSt2 st N x1 x2) (hm : X.mg "super" = none) (gC : X.mg x = some (.ref C)) (hr : Room n X.A) (hn : 2 ≤ n) (hg : Gl X x)
    (he : PE X e1 te) (hu : PE X e2 ue) (hdb : (x == ("__debug__" : Str)) = false := by decide) (hs : starEach [e1, e2] X.env = (false, eval e1 X.env) :: starEach [e2] X.env := by rfl) (hs2 : starEach [e2] X.env = (false, eval e2 X.env) :: starEach [] X.env := by rfl) :
    PS X (.Raise (some (.Call (.Name x p) [e1, e2] [] pos)) none pos2) (tRaP2 C x1 x2 W te ue) := by
  obtain ⟨f, fd, F, hb, iC, tI⟩ := T.fn
  exact ps_raise hc tk (pmk_oex T.o iC tI (fn_place2 (w := X.w) (base := X.base) T F Z hm) (hr.mono hn) hb .nil C8.pass0 hg gC (pa_cons he (pa_cons hu pa_nil hs2) hs) hdb hs (by rw [hs2]; rfl))
end L2
namespace Sl
open PySem L2 C8 StX
section
variable {σ : L2.St} {H : Hp} {C : Addr} {W : WX} {te ue : TE} {nx bk ct : L2.St → Hp → Prop} {rt : VK} {x1 x2 : Str}
def rRaP2 (C : Addr) (x1 x2 : Str) (W : WX) (σ : L2.St) (vs : List V) (H1 : Hp) : Prop := vs.length ≤ 1000 ∧ ∀ a, H1 a = none → spSup2 C x1 x2 (.ref a :: (vs ++ [])) (upd H1 a (exo a C none))
  (fun v H2 => v = .non ∧ ∃ (d : Addr) (fs : List (Str × V)), H2 a = some (exo a C (some d)) ∧ H2 d = some (exd d fs) ∧ H1 d = none ∧ W (.ref C) (some d) σ (upd (del H2 a) d (.xd fs))) (fun _ _ _ => False)
theorem rd_raP20 (h : tCons te (tCons ue tNil) σ H fun vs H1 => rRaP2 C x1 x2 W σ vs H1) : tRaP2 C x1 x2 W te ue ⟨nx, rt, bk, ct⟩ σ H := h
theorem rd_raP2 {v u : V} (h : ∀ d H', H d = none → Same H H' → H' d = some (.xd [(x2, u), (x1, v)]) → W (.ref C) (some d) σ H') : rRaP2 C x1 x2 W σ [v, u] H := by
  refine ⟨(show 2 ≤ 1000 by decide), fun a ha => ⟨a, v, u, rfl, upd_same, fun dx h1 h2 => ?_⟩⟩
  have hd : H dx = none := by rw [upd_ne h2] at h1; exact h1
  have e : upd (del (upd (upd (upd (upd H a (exo a C none)) dx (exd dx [(x1, v)])) a (exo a C (some dx))) dx (exd dx [(x2, u), (x1, v)])) a) dx (.xd [(x2, u), (x1, v)]) = upd H dx (.xd [(x2, u), (x1, v)]) := by
    funext b
    by_cases hb : b = dx
    · rw [hb, upd_same, upd_same]
    · rw [upd_ne hb, upd_ne hb]
      by_cases hc : b = a
      · rw [hc, del_same, ha]
      · rw [del_ne hc, upd_ne hb, upd_ne hc, upd_ne hb, upd_ne hc]
  show V.non = V.non ∧ _
  refine ⟨rfl, dx, [(x2, u), (x1, v)], ?_, upd_same, hd, ?_⟩
  · rw [upd_ne (fun z => h2 z.symm), upd_same]
  · rw [e]
    exact h dx _ hd (Same.new (Same.refl H) hd) upd_same
end
/-! ### the facts -/
section
open PySem.W
variable {y1 y2 : Str} {P : Program} {K : PySem.W.Frag} {C f cc cda N dX : Addr} {qual nm q : Str} {st : Stmt} {bs bm : List Value} {sn : List Str} {sub : List Value} {ab : Bool} {col : Option Bool} {dd : Option Addr} {k0 k1 k2 k3 k5 : Option Value} {oc kV doc pm ct ccl cl : Value} {od an cdd cld : Option Addr} {osl ccs csl : Array (Option Value)} {vs : Array Value} {file : Str} {tf : Tok}
theorem xsupk2 (c1 : K.lookup C = some (excClassObj nm q C N bs bm true sn sub ab col dd k0 k1 k2 k3 k5 "ValueError.__new__")) (c2 : PySem.HandSPX.refsVE bm = true) (c3 : findIn K (.ref C) "__setattr__" = some (some (.builtin "object.__setattr__"))) (c4 : subIn K (.ref C) (.type "BaseException") = some true) (c5 : typeIn K (.ref C) = some (.type "type")) (c6 : keepIn K (.ref C) = true)
    (f1 : findIn K (.ref C) "__init__" = some (some (.ref f))) (f2 : K.lookup f = some ⟨oc, od, .func (fnX "__init__" qual (C8.fnArgs st) (C8.fnBody st) (C8.fnScope st) [("__class__", cc)] .none kV doc pm an (.ref cda) ct), osl⟩) (f3 : codeIn K (.ref cda) qual = true) (f4 : K.lookup cda = some ⟨ccl, cdd, .fields vs, ccs⟩) (f5 : vs[2]? = some (.str file tf)) (f6 : ((P.main.file : Str) == file) = true)
    (f7 : K.lookup cc = some ⟨cl, cld, .cell (some (.ref C)), csl⟩) (f8 : typeIn K (.ref f) = some (.type "function")) (s1 : (P.main.scope.names.lookup ("super" : Str)).isSome = false) (s2 : mroIn K C (.ref C) = some true) (s3 : ks_superIn K C C "__init__" = some (some (.builtin "ValueError.__init__"))) (s4 : subIn K (.ref C) (.type "ValueError") = some true) (s5 : nsIn K cStatics "thirdparty.any" = some none)
    (n1 : findIn K (.ref C) y1 = some none) (n2 : findIn K (.ref C) y2 = some none) (xf1 : xfB K C = true) (i : isClsIn K C = true) (s : subIn K (.ref C) (.ref C) = some true)
    (bd : ∀ (kV doc pm : Value) (an : Option Addr) (cc cda : Addr) (ct : Value) (us : List Value), us.length = 3 → bindArgs (fnX "__init__" qual (C8.fnArgs st) (C8.fnBody st) (C8.fnScope st) [("__class__", cc)] .none kV doc pm an (.ref cda) ct) ⟨us, []⟩ = pure ((["self", y1, y2] : List Str).zip us)) : XSup2 P K C qual st y1 y2 :=
  ⟨⟨⟨_, _, _, _, _, _, _, _, _, _, _, _, _, _, _, c1, c2⟩, c3, c4, c5, c6⟩, ⟨f, _, ⟨⟨cc, cda, oc, kV, doc, pm, ct, ccl, cl, od, an, cdd, cld, osl, ccs, csl, vs, file, tf, rfl, f2, f3, f4, f5, f6, f7⟩, s1, s2, s3, s4, s5⟩, .all fun us hl => bd kV doc pm an cc cda ct us hl, f1, f8⟩, n1, n2, xfB_ok xf1, i, s⟩
end
end Sl
set_option Elab.async false
set_option linter.all false
set_option maxRecDepth 100000
set_option maxHeartbeats 4000000
/-! classes that may raise when made, methods that may raise: promises and their calls within a try -/
namespace L2
open PySem PySem.Spec PyProof.Rows
section
variable {X : Cx} {CX : CXT} {k j : Nat} {f C : Addr} {fd : FuncData} {ps : List Str} {ds : List Value} {dvs : List V} {sp : Sp} {E : St → XK} {x m : Str} {p pos apos : Pos} {e o : Expr} {es : List Expr} {ta : TE} {t : TA}
theorem run_makeSd {pins : List (Addr × Obj)} {σ : St} {H : Hp} {s : Shared} {Q : VK} {us : List Value} {vs : List V} (M : Mk X.K C f) (F : FnOk X.prog X.w X.K X.mg X.base CX k f fd ps sp) (hr : Room (k + 1) X.A) (hb : Binds X.K fd ps ds) (hd : Vals dvs ds)
    (hx : PassesAt CX X σ (E σ)) (I : Inv X pins σ H s) (r : Vals vs us)
    (h : ∀ x dx, H x = none → H dx = none → dx ≠ x → sp (.ref x :: (vs ++ dvs)) (upd (upd H dx (.own x)) x (.ins C dx [])) (fun v H2 => v = .non ∧ Q (.ref x) H2) (E σ)) :
    wpAny (model X.prog X.w) X.A (call (.ref C) us) (EP X pins σ Q) X.xe s := by
  have hq := h (s.heap.objs.size + 1) s.heap.objs.size (I.hok.fresh (Nat.le_succ _)) (I.hok.fresh (Nat.le_refl _)) (Nat.ne_of_lt (Nat.lt_succ_self _))
  have I2 := Inv.made (C := C) I
  have r2 : Vals (V.ref (s.heap.objs.size + 1) :: (vs ++ dvs)) (Value.ref (s.heap.objs.size + 1) :: (us ++ ds)) := .cons rfl (r.append hd)
  have hl : (Value.ref (s.heap.objs.size + 1) :: us ++ ds).length = ps.length := by
    have e := r2.length
    rw [F.len _ _ _ _ hq] at e
    exact e.symm
  refine wpAny_call (make_map (f := f) I.kIn M.makes M.init (beq_iff_eq.mp M.fn) (codeAny_mono (F.run _ X.stack _ _ ⟨Value.ref (s.heap.objs.size + 1) :: us, []⟩ (Value.ref (s.heap.objs.size + 1) :: (us ++ ds)) _ _ (E σ) (hr.make C us [])
    (I2.env0.make C us []) (hb _ (Value.ref (s.heap.objs.size + 1) :: us) I2.kIn hl) r2 hq) fun r s' hq' => ?_))
  cases r with
  | error e => exact hx pins _ _ e s' I2 hq'
  | ok fl =>
    cases fl with
    | ret u =>
      obtain ⟨v, H', I3, rv, ev, q3⟩ := I2.after hq'
      subst ev
      exact ⟨rv, ⟨V.ref (s.heap.objs.size + 1), H', I3, rfl, q3⟩⟩
    | next => exact False.elim hq'
    | brk => exact False.elim hq'
    | cont => exact False.elim hq'
def tMakeX (C : Addr) (sp : Sp) (dvs : List V) (E : St → XK) (t : TA) : TE := fun σ H Q => tMake C sp dvs (E σ) t σ H Q
/-- a class that may be made by its name and may raise -/
structure MakX (P : Program) (w : World) (K : PySem.W.Frag) (mg : Str → Option Value) (base : Heap) (k : Nat) (x : Str) (C : Addr) (sp : Sp) (dvs : List V) : Prop where
  ex : ∃ (f : Addr) (fd : FuncData) (ps : List Str) (ds : List Value), Mk K C f ∧ FnOk P w K mg base (L2.CX P w) k f fd ps sp ∧ mg x = some (.ref C) ∧ Binds K fd ps ds ∧ Vals dvs ds
theorem pe_mkX (c : MakX X.prog X.w X.K X.mg X.base k x C sp dvs) (hr : Room j X.A) (hk : k + 1 ≤ j) (hg : Gl X x) (hx : ∀ σ, PassesAt (L2.CX X.prog X.w) X σ (E σ)) (ha : PA X (e :: es) t)
    (hdb : (x == ("__debug__" : Str)) = false := by decide) (he : starEach (e :: es) X.env = (false, eval e X.env) :: starEach es X.env := by rfl) (hpl : (backTo pos (starEach es X.env)).any (·.1) = false := by rfl) :
    PE X (.Call (.Name x p) (e :: es) [] pos) (tMakeX C sp dvs E t) := by
  obtain ⟨f, fd, ps, ds, M, F, hm, b, d⟩ := c.ex
  refine ⟨fun pins s σ H Q I h => ?_⟩
  refine wpAny_Call_Name_kw (ld_glob I hg hm ?_ hdb)
  refine PySem.W.callWith_K (h₀ := X.base) I.ok.mod.kin M.kp (thn (ha.run pos pins s σ H _ I h) fun us s1 ⟨vs, H1, I1, r, q⟩ => ⟨I1.kIn, ?_⟩) he hpl
  exact run_makeSd M F (hr.mono hk) b d (hx σ) I1 r q
def tMethX (C : Addr) (m : Str) (sp : Sp) (dvs : List V) (E : St → XK) (ta : TE) (t : TA) : TE := fun σ H Q => tMeth C m sp dvs (E σ) ta t σ H Q
/-- a method that may raise -/
structure MetX (P : Program) (w : World) (K : PySem.W.Frag) (mg : Str → Option Value) (base : Heap) (k : Nat) (C : Addr) (m : Str) (sp : Sp) (dvs : List V) : Prop where
  ex : ∃ (f : Addr) (fd : FuncData) (ps : List Str) (ds : List Value), Cls K C ∧ Meth K C m f ∧ FnOk P w K mg base (L2.CX P w) k f fd ps sp ∧ Binds K fd ps ds ∧ Vals dvs ds
theorem pe_mtX {pl : Sem Bool} (c : MetX X.prog X.w X.K X.mg X.base k C m sp dvs) (hr : Room j X.A) (hk : k ≤ j) (hx : ∀ σ, PassesAt (L2.CX X.prog X.w) X σ (E σ)) (he : PE X o ta) (ha : PA X (e :: es) t)
    (hst : starEach (e :: es) X.env = (false, eval e X.env) :: starEach es X.env := by rfl) (hpl : (backTo pos (starEach es X.env)).any (·.1) = false := by rfl)
    (ht : eval (.Call (.Attribute o m apos) (e :: es) [] pos) X.env = (do
      let ov ← eval o X.env
      standAt apos.atName
      let (f, first) ← holding [ov] (getMethod ov m pl)
      callWith pos f first (backTo pos (starEach (e :: es) X.env)) (backToKw pos (keywordEach [] X.env))) := by rfl) :
    PE X (.Call (.Attribute o m apos) (e :: es) [] pos) (tMethX C m sp dvs E ta t) := by
  obtain ⟨f, fd, ps, ds, hc, hm, F, b, d⟩ := c.ex
  refine ⟨fun pins s σ H Q I h => ?_⟩
  refine PySem.W.methodCall_KW (pl := pl) (thn (he.run pins s σ H _ I h) fun u s1 ⟨x, H1, I1, rx, a, dx, fs, ex, ea, l, q⟩ => ?_) ht
  subst ex
  obtain rfl : u = Value.ref a := rx
  refine getmeth_ok I1 ea hc hm l ?_
  refine PySem.W.callWith_K (first := [.ref a]) (h₀ := X.base) I.ok.mod.kin hm.kp (thn (ha.run pos pins s1 σ H1 _ I1 q) fun us s2 ⟨vs, H2, I2, r, q2⟩ => ⟨I2.kIn, ?_⟩) hst hpl
  exact run_fnSd (us := .ref a :: us) (vs := .ref a :: vs) F (hr.mono hk) b d (hx σ) I2 (.cons rfl r) q2
end
end L2
namespace C8
open PySem PySem.Spec PyProof.Rows L2
section
variable {P : Program} {w : World} {K : PySem.W.Frag} {mg : Str → Option Value} {base : Heap}
theorem metX0 {m qual : Str} {C : Addr} {st : Stmt} {f : Addr} {fd : FuncData} {N ps : List Str} {k : Nat} {sp : Sp} (c : Cls K C) (me : Meth K C m f) (F : Fun K m qual st f fd) (b : Binds K fd ps []) (S : FnScope N ps (fnScope st)) (len : ∀ vs H Q E, sp vs H Q E → vs.length = ps.length)
    (hbody : ∀ (cdv : Value) (A : Around) (outer : List Env) (s : Shared) (H : Hp) (vs : List V) (Q : VK) (E : XK), Room k (A.deeper (envOfC qual (fnScope st) s.heap.objs.size f cdv)) → sp vs H Q E →
      ∃ t, PSs (cxOf (L2.CX P w) P w K mg base N qual (fnScope st) f cdv A outer s H E) (fnBody st) t ∧ t { nx := fun _ H' => Q .non H', rt := Q } (start N vs) H) : MetX P w K mg base (k + 1) C m sp [] :=
  ⟨f, fd, ps, [], c, me, fnX F S len hbody, b, .nil⟩
end
end C8
namespace Sl
open PySem L2 C8 StX
section
variable {σ : L2.St} {H : Hp} {Q : VK} {C : Addr} {m : Str} {sp : Sp} {dvs : List V} {E : L2.St → XK} {ta : TE} {t : TA}
theorem rd_makeX (h : t σ H fun vs H1 => rMake C sp dvs (E σ) Q vs H1) : tMakeX C sp dvs E t σ H Q := h
def rMethX (C : Addr) (m : Str) (sp : Sp) (dvs : List V) (E : XK) (t : TA) (σ : L2.St) (Q : VK) (x : V) (H1 : Hp) : Prop := ∃ a dx fs, x = .ref a ∧ H1 a = some (.ins C dx fs) ∧ fs.lookup m = none ∧ t σ H1 fun vs H2 => sp (x :: (vs ++ dvs)) H2 Q E
theorem rd_methX0 (h : ta σ H fun x H1 => rMethX C m sp dvs (E σ) t σ Q x H1) : tMethX C m sp dvs E ta t σ H Q := h
end
end Sl
set_option Elab.async false
set_option linter.all false
set_option maxRecDepth 100000
set_option maxHeartbeats 4000000
namespace L2
open PySem PySem.Spec PyProof.Rows
/-! a method that may raise, called without arguments -/
section
variable {X : Cx} {CX : CXT} {k j : Nat} {f C : Addr} {fd : FuncData} {ps : List Str} {ds : List Value} {dvs : List V} {sp : Sp} {E : St → XK} {x m : Str} {p pos apos : Pos} {e o : Expr} {es : List Expr} {ta : TE} {t : TA}
theorem pe_mtX0 {pl : Sem Bool} (c : MetX X.prog X.w X.K X.mg X.base k C m sp dvs) (hr : Room j X.A) (hk : k ≤ j) (hx : ∀ σ, PassesAt (L2.CX X.prog X.w) X σ (E σ)) (he : PE X o ta)
    (ht : eval (.Call (.Attribute o m apos) [] [] pos) X.env = (do
      let ov ← eval o X.env
      standAt apos.atName
      let (f, first) ← holding [ov] (getMethod ov m pl)
      callWith pos f first (backTo pos (starEach [] X.env)) (backToKw pos (keywordEach [] X.env))) := by rfl) :
    PE X (.Call (.Attribute o m apos) [] [] pos) (tMethX C m sp dvs E ta tNil) := by
  obtain ⟨f, fd, ps, ds, hc, hm, F, b, d⟩ := c.ex
  refine ⟨fun pins s σ H Q I h => ?_⟩
  refine PySem.W.methodCall_KW (pl := pl) (thn (he.run pins s σ H _ I h) fun u s1 ⟨x, H1, I1, rx, a, dx, fs, ex, ea, l, q⟩ => ?_) ht
  subst ex
  obtain rfl : u = Value.ref a := rx
  refine getmeth_ok I1 ea hc hm l ?_
  exact PySem.W.callWith_K0 (first := [.ref a]) I1.kIn hm.kp (run_fnSd (us := [.ref a]) (vs := [.ref a]) F (hr.mono hk) b d (hx σ) I1 (.cons rfl .nil) q)
end
end L2
set_option Elab.async false
set_option linter.all false
set_option maxRecDepth 100000
set_option maxHeartbeats 4000000
namespace L2
open PySem PySem.Spec PyProof.Rows
/-! ### min of a list of pairs of ints: the loop of the built-in, the order told by what the heap keeps -/
section
variable {prog : Program} {w : World} {A : Around} {R : Result → Shared → Prop} {J l : Addr} {its : Array Value} {bt : Nat → Nat → Bool} {Kp : Heap → Prop}
/-- what is told of the order: while Kp stands -/
def Ord (prog : Program) (w : World) (A : Around) (its : Array Value) (Kp : Heap → Prop) (bt : Nat → Nat → Bool) : Prop :=
  ∀ i j x y (t : Shared) (Q : Value → Shared → Prop) (E : Value → Shared → Prop), Kp t.heap → its[i]? = some x → its[j]? = some y → Q (.bool (bt i j)) t → wpAny (model prog w) A (richCompare .Lt x y) Q E t
/-- Kp stands while nothing changes but the iterator and the box -/
def Kpt (Kp : Heap → Prop) (J S : Addr) : Prop := ∀ h h' : Heap, Kp h → (∀ b o, b ≠ J → b ≠ S → h.get? b = some o → h'.get? b = some o) → Kp h'
theorem min_turns (hh : A.in1.handled = none) (hlJ : l ≠ J) (O : Ord prog w A.in1 its Kp bt) {S : Addr} (hSJ : S ≠ J) (hSl : S ≠ l) (Z : Kpt Kp J S) :
    ∀ (k j : Nat) (t : Shared) (best : Value) (c : Nat), its.size - (j + 1) = k → j + 1 ≤ its.size → (t.heap.IsListIter J l (j + 1) ∧ t.heap.IsList l its) → Kp t.heap → its[argBest bt j]? = some best →
    t.heap.get? S = some { cls := .type "list", dict := none, data := .seq #[best, best] c, slots := #[] } →
    (∀ v h' tk, its[argBest bt (its.size - 1)]? = some v → (∀ b o, b ≠ J → b ≠ S → t.heap.get? b = some o → h'.get? b = some o) → R (.ok (.ret v)) { t with heap := h', toks := tk }) →
    codeAny (model prog w) A (.builtin "min.loop" ⟨[.ref J, .none, .ref S], []⟩) R t := by
  have Wl := Walks.list (prog := prog) (w := w) (A := A.in1) hh J l hlJ its
  have nm : (toString "min" ++ toString ".loop" : String) = "min.loop" := by decide
  intro k
  induction k with
  | zero =>
    intro j t best c ek ej st kp eb eS back
    refine codeAny_builtin F.entry_min_loop (by
      rw [Around.under_plainId F.plain_min_loop _]
      refine (show wpAny _ A.in1 (seqItems? (.ref S) >>= _) _ _ t from wpAny_bind (wpAny_seqItems eS rfl ?_))
      refine (show wpAny _ A.in1 (tryCatch (pyNext (.ref J)) _ >>= _) _ _ t from wpAny_bind (wpAny_tryCatch (Wl.done t _ _ ((by omega : j + 1 = its.size) ▸ st) fun h2 tk kept => ?_)))
      have eS2 := kept S _ (by simpa using hSJ) eS
      refine (show wpAny _ A.in1 (updateSeq S (fun _ => #[]) >>= _) _ _ _ from wpAny_bind (wpAny_updateSeq eS2 rfl (wpAny_bind (wpAny_letGo (wpAny_pure (back best _ tk ?_ fun b o n1 n2 e => ?_))))))
      · rw [← (by omega : j + 1 = its.size)]; exact eb
      · exact (Heap.get?_update_other _ _ (Ne.symm n2)).trans (kept b o (by simpa using n1) e))
  | succ k ih =>
    intro j t best c ek ej st kp eb eS back
    refine codeAny_builtin F.entry_min_loop (by
      rw [Around.under_plainId F.plain_min_loop _]
      refine (show wpAny _ A.in1 (seqItems? (.ref S) >>= _) _ _ t from wpAny_bind (wpAny_seqItems eS rfl ?_))
      refine (show wpAny _ A.in1 (tryCatch (pyNext (.ref J)) _ >>= _) _ _ t from wpAny_bind (wpAny_tryCatch (Wl.item (j + 1) t _ _ (by omega) st fun v h2 tk ev st2 kept => ?_)))
      have eS2 := kept S _ (by simpa using hSJ) eS
      have kp2 : Kp h2 := Z _ _ kp fun b o n1 _ e => kept b o (by simpa using n1) e
      refine (show wpAny _ A.in1 (tryCatch (holding [v, v] (richCompare .Lt v best >>= _)) _ >>= _) _ _ _ from wpAny_bind (wpAny_tryCatch (wpAny_holding (wpAny_bind (O (j + 1) (argBest bt j) v best _ _ _ kp2 ev eb ?_)))))
      refine wpAny_bind (wpAny_holding (wpAny_truthy_bool (wpAny_bind (wpAny_letGo (wpAny_pure ?_)))))
      cases hb : bt (j + 1) (argBest bt j) with
      | true =>
        simp only [if_true]
        refine wpAny_bind (wpAny_updateSeq eS2 rfl (wpAny_bind (wpAny_letGo ?_)))
        rw [nm]
        have kp3 : ∀ (g : Obj → Obj) b o, b ≠ S → h2.get? b = some o → (h2.update S g).get? b = some o := fun g b o n e => (Heap.get?_update_other _ _ (Ne.symm n)).trans e
        refine wpAny_pure ⟨plainId_quiet F.plain_min_loop _, ih (j + 1) _ v _ (by omega) (by omega) (Wl.frame _ _ _ st2 fun b hb2 o e => ?_) (Z _ _ kp2 fun b o _ n e => kp3 _ b o n e) (by simp only [argBest, hb, if_true]; exact ev) (Heap.get?_update_self _ eS2 rfl)
          fun v' h3 tk3 e3 kept3 => back v' h3 tk3 e3 fun b o n1 n2 e => kept3 b o n1 n2 (kp3 _ b o n2 (kept b o (by simpa using n1) e))⟩
        refine kp3 _ b o (fun z => ?_) e
        rcases List.mem_cons.mp hb2 with q | q
        · exact hSJ (z.symm.trans q)
        · exact hSl (z.symm.trans (by simpa using q))
      | false =>
        simp only [Bool.false_eq_true, if_false]
        refine wpAny_bind (wpAny_letGo ?_)
        rw [nm]
        exact wpAny_pure ⟨plainId_quiet F.plain_min_loop _, ih (j + 1) _ best c (by omega) (by omega) st2 kp2 (by simp only [argBest, hb, Bool.false_eq_true, if_false]; exact eb) eS2
          fun v' h3 tk3 e3 kept3 => back v' h3 tk3 e3 fun b o n1 n2 e => kept3 b o n1 n2 (kept b o (by simpa using n1) e)⟩)
theorem min_start (hh : A.in1.handled = none) (hlJ : l ≠ J) (O : Ord prog w A.in1 its Kp bt) {S : Addr} (hSJ : S ≠ J) (hSl : S ≠ l) (Z : Kpt Kp J S) (n0 : 0 < its.size) {t : Shared} {c : Nat} (st : t.heap.IsListIter J l 0 ∧ t.heap.IsList l its) (kp : Kp t.heap)
    (eS : t.heap.get? S = some { cls := .type "list", dict := none, data := .seq #[] c, slots := #[] })
    (back : ∀ v h' tk, its[argBest bt (its.size - 1)]? = some v → (∀ b o, b ≠ J → b ≠ S → t.heap.get? b = some o → h'.get? b = some o) → R (.ok (.ret v)) { t with heap := h', toks := tk }) :
    codeAny (model prog w) A (.builtin "min.loop" ⟨[.ref J, .none, .ref S], []⟩) R t := by
  have Wl := Walks.list (prog := prog) (w := w) (A := A.in1) hh J l hlJ its
  have nm : (toString "min" ++ toString ".loop" : String) = "min.loop" := by decide
  refine codeAny_builtin F.entry_min_loop (by
    rw [Around.under_plainId F.plain_min_loop _]
    refine (show wpAny _ A.in1 (seqItems? (.ref S) >>= _) _ _ t from wpAny_bind (wpAny_seqItems eS rfl ?_))
    refine (show wpAny _ A.in1 (tryCatch (pyNext (.ref J)) _ >>= _) _ _ t from wpAny_bind (wpAny_tryCatch (Wl.item 0 t _ _ n0 st fun v h2 tk ev st2 kept => ?_)))
    have eS2 := kept S _ (by simpa using hSJ) eS
    have kp2 : Kp h2 := Z _ _ kp fun b o n1 _ e => kept b o (by simpa using n1) e
    refine (show wpAny _ A.in1 (updateSeq S (fun _ => #[v, v]) >>= _) _ _ _ from wpAny_bind (wpAny_updateSeq eS2 rfl ?_))
    rw [nm]
    have kp3 : ∀ (g : Obj → Obj) b o, b ≠ S → h2.get? b = some o → (h2.update S g).get? b = some o := fun g b o n e => (Heap.get?_update_other _ _ (Ne.symm n)).trans e
    refine wpAny_pure ⟨plainId_quiet F.plain_min_loop _, min_turns hh hlJ O hSJ hSl Z _ 0 _ v _ rfl n0 (Wl.frame _ _ _ st2 fun b hb2 o e => ?_) (Z _ _ kp2 fun b o _ n e => kp3 _ b o n e) ev (Heap.get?_update_self _ eS2 rfl)
      fun v' h3 tk3 e3 kept3 => back v' h3 tk3 e3 fun b o n1 n2 e => kept3 b o n1 n2 (kp3 _ b o n2 (kept b o (by simpa using n1) e))⟩
    refine kp3 _ b o (fun z => ?_) e
    rcases List.mem_cons.mp hb2 with q | q
    · exact hSJ (z.symm.trans q)
    · exact hSl (z.symm.trans (by simpa using q)))
end
/-- the least of pairs: an order that is transitive has no better one -/
theorem argBest_least {bt : Nat → Nat → Bool} (tr : ∀ a b c, bt a b = true → bt b c = true → bt a c = true) (ir : ∀ a, bt a a = false) : ∀ k, argBest bt k ≤ k ∧ ∀ j, j ≤ k → bt j (argBest bt k) = false
  | 0 => ⟨Nat.le_refl _, fun j hj => by
    rw [show j = 0 by omega]
    exact ir 0⟩
  | k + 1 => by
    obtain ⟨h1, h2⟩ := argBest_least tr ir k
    show (if bt (k + 1) (argBest bt k) then k + 1 else argBest bt k) ≤ k + 1 ∧ ∀ j, j ≤ k + 1 → bt j (if bt (k + 1) (argBest bt k) then k + 1 else argBest bt k) = false
    by_cases c : bt (k + 1) (argBest bt k) = true
    · rw [if_pos c]
      refine ⟨Nat.le_refl _, fun j hj => ?_⟩
      rcases Nat.lt_or_ge k j with z | z
      · rw [show j = k + 1 by omega]
        exact ir _
      · cases e : bt j (k + 1) with
        | false => rfl
        | true =>
          have := tr _ _ _ e c
          rw [h2 j z] at this
          cases this
    · rw [if_neg c]
      refine ⟨by omega, fun j hj => ?_⟩
      rcases Nat.lt_or_ge k j with z | z
      · rw [show j = k + 1 by omega]
        simpa using c
      · exact h2 j z
section
variable {prog : Program} {w : World} {A : Around} {E : Value → Shared → Prop} {l : Addr} {its : Array Value} {bt : Nat → Nat → Bool}
/-- the call: Kp is that all that was there stands -/
theorem min_callP {s : Shared} {Q : Value → Shared → Prop} (hh : A.in1.handled = none) (hl : s.heap.IsList l its) (n0 : 0 < its.size) (O : Ord prog w A.in1 its (fun h => ∀ b o, s.heap.get? b = some o → h.get? b = some o) bt)
    (back : ∀ v h' tk, its[argBest bt (its.size - 1)]? = some v → (∀ b o, s.heap.get? b = some o → h'.get? b = some o) → Q v { s with heap := h', toks := tk }) : wpAny (model prog w) A (call (.builtin "min") [.ref l]) Q E s := by
  have nm : (toString "min" ++ toString ".loop" : String) = "min.loop" := by decide
  refine call_function_tree F.kind_min F.plain_min F.entry_min (F.args_min1 _) (wpAny_bind (m := Builtin.Builtins.bindParams "min" ["key", "default"] 0 ⟨[], []⟩) (wpAny_of_eq (show Builtin.Builtins.bindParams "min" ["key", "default"] 0 ⟨[], []⟩ = pure [none, none] from rfl) (wpAny_bind (wpAny_pure ?_))))
  refine wpAny_bind (wpAny_pyIter_list hl (wpAny_bind (wpAny_newObj_type ?_)))
  rw [nm]
  have hlt : l < s.heap.objs.size := by
    obtain ⟨_, e, _⟩ := id hl
    exact Heap.lt_size e
  have z1 : (s.heap.push { cls := .type "list_iterator", data := .fields #[.ref l, .int 0 0] }).objs.size = s.heap.objs.size + 1 := Heap.size_push ..
  have old : ∀ b o, s.heap.get? b = some o → b < s.heap.objs.size := fun b o e => Heap.lt_size e
  refine wpAny_pure ⟨plainId_quiet F.plain_min_loop _, min_start (l := l) (its := its) hh (Nat.ne_of_lt hlt) O (S := (s.heap.push { cls := .type "list_iterator", data := .fields #[.ref l, .int 0 0] }).objs.size) (by rw [z1]; exact Nat.succ_ne_self _) (by rw [z1]; exact (Nat.ne_of_lt (Nat.lt_succ_of_lt hlt)).symm) (fun h h' k f b o e => f b o (Nat.ne_of_lt (old b o e)) (by rw [z1]; exact Nat.ne_of_lt (Nat.lt_succ_of_lt (old b o e))) (k b o e)) n0 ⟨⟨_, Heap.get?_push_of_some _ (Heap.get?_push_size _ rfl), rfl, rfl⟩, (hl.push _).push _⟩ (fun b o e => Heap.get?_push_of_some _ (Heap.get?_push_of_some _ e)) (Heap.get?_push_size _ rfl) fun v h' tk ev f => ?_⟩
  exact back v h' tk ev fun b o e => f b o (Nat.ne_of_lt (old b o e)) (by rw [z1]; exact Nat.ne_of_lt (Nat.lt_succ_of_lt (old b o e))) (Heap.get?_push_of_some _ (Heap.get?_push_of_some _ e))
end
/-- x is before y: by the first, then by the second -/
def ltPr (x y : Int × Int) : Bool := decide (x.1 < y.1 ∨ x.1 = y.1 ∧ x.2 < y.2)
/-- min(xs), xs a list of pairs of ints: one of the least -/
def rMinP (K : PySem.W.Frag) : List V → Hp → VK → Prop := fun vs H Q => ∃ (a : Addr) (xs : List V) (ks : List (Int × Int)), vs = [V.ref a] ∧ SqL K H a xs ∧ 0 < xs.length ∧ ks.length = xs.length ∧ (∀ (i : Nat) x k, xs[i]? = some x → ks[i]? = some k → ∃ t, x = V.ref t ∧ H t = some (.tup [.int k.1, .int k.2])) ∧
  ∀ (i : Nat) x k, xs[i]? = some x → ks[i]? = some k → (∀ y ∈ ks, ltPr y k = false) → Q x H
theorem lex_pair (a b : Int × Int) : HT.lexLt [a.1, a.2] [b.1, b.2] = ltPr a b := by
  rw [HT.lexLt_cons, HT.lexLt_cons, HT.lexLt_nil_nil]
  unfold ltPr
  by_cases c : a.1 = b.1
  · rw [if_pos c]
    by_cases d : a.2 = b.2
    · rw [if_pos d]
      symm
      rw [decide_eq_false_iff_not]
      omega
    · rw [if_neg d]
      rw [decide_eq_decide]
      omega
  · rw [if_neg c]
    rw [decide_eq_decide]
    omega
section
variable {X : Cx} {j : Nat}
theorem cr_minP (hc : X.calm = true) (hr : Room (j + 1) X.A) : CallR X (.builtin "min") (rMinP X.K) := by
  intro pins s σ H vs us Q I r h
  obtain ⟨a, xs, ks, rfl, hs, hne, hk, hx, q⟩ := h
  obtain ⟨its, rv, hl, _⟩ := I.list hs
  rw [Vals.ref1 r]
  have hlen : its.length = xs.length := rv.length.symm
  refine min_callP (bt := fun i j => ltPr (ks.getD i (0, 0)) (ks.getD j (0, 0))) (I.ok.hd hc) hl.isList (by simpa using (by omega : 0 < its.length)) ?_ fun v h' tk ev kept => ?_
  · intro i1 i2 x y t Q' E' kp e1 e2 q'
    have g1 : its[i1]? = some x := by simpa using e1
    have g2 : its[i2]? = some y := by simpa using e2
    have b1 : i1 < its.length := (List.getElem?_eq_some_iff.mp g1).1
    have b2 : i2 < its.length := (List.getElem?_eq_some_iff.mp g2).1
    obtain ⟨u1, hu1, r1⟩ := rv.get (List.getElem?_eq_getElem (by omega : i1 < xs.length))
    obtain ⟨u2, hu2, r2⟩ := rv.get (List.getElem?_eq_getElem (by omega : i2 < xs.length))
    rw [g1] at hu1
    rw [g2] at hu2
    cases hu1
    cases hu2
    obtain ⟨t1, z1, o1⟩ := hx i1 _ _ (List.getElem?_eq_getElem (by omega)) (List.getElem?_eq_getElem (by omega : i1 < ks.length))
    obtain ⟨t2, z2, o2⟩ := hx i2 _ _ (List.getElem?_eq_getElem (by omega)) (List.getElem?_eq_getElem (by omega : i2 < ks.length))
    rw [z1] at r1
    rw [z2] at r2
    obtain rfl : x = Value.ref t1 := r1
    obtain rfl : y = Value.ref t2 := r2
    obtain ⟨l1, w1, ⟨ob1, p1, rest1⟩, _⟩ := I.tuple (SqT.of o1)
    obtain ⟨l2, w2, ⟨ob2, p2, rest2⟩, _⟩ := I.tuple (SqT.of o2)
    refine HT.lt_tupInts (l := t1) (b := t2) (items := l1.toArray) (items2 := l2.toArray) (ns := [ks[i1].1, ks[i1].2]) (ms := [ks[i2].1, ks[i2].2]) ⟨ob1, kp _ _ p1, rest1⟩ ⟨ob2, kp _ _ p2, rest2⟩ (Vals.ints w1) (Vals.ints w2) hr.in1.units0 ?_
    rw [lex_pair]
    simp only [List.getD_eq_getElem?_getD, List.getElem?_eq_getElem (by omega : i1 < ks.length), List.getElem?_eq_getElem (by omega : i2 < ks.length), Option.getD_some] at q'
    exact q'
  · obtain ⟨m1, m2⟩ := argBest_least (bt := fun i j => ltPr (ks.getD i (0, 0)) (ks.getD j (0, 0))) (fun a b c => by unfold ltPr; simp only [decide_eq_true_iff]; omega) (fun a => by unfold ltPr; simp) (its.toArray.size - 1)
    generalize hB : argBest (fun i j => ltPr (ks.getD i (0, 0)) (ks.getD j (0, 0))) (its.toArray.size - 1) = B at *
    have zs : its.toArray.size = its.length := by simp
    rw [zs] at m1 m2
    have bB : B < xs.length := by omega
    have g : its[B]? = some v := by simpa using ev
    obtain ⟨u, hu, ru⟩ := rv.get (List.getElem?_eq_getElem bB)
    rw [g] at hu
    cases hu
    refine ⟨xs[B], H, I.kept kept, ru, q B _ ks[B] (List.getElem?_eq_getElem bB) (List.getElem?_eq_getElem (by omega)) fun y hy => ?_⟩
    obtain ⟨i, hi, rfl⟩ := List.getElem_of_mem hy
    have := m2 i (by omega)
    simpa only [List.getD_eq_getElem?_getD, List.getElem?_eq_getElem hi, List.getElem?_eq_getElem (by omega : B < ks.length), Option.getD_some] using this
end
end L2
set_option Elab.async false
set_option linter.all false
set_option maxRecDepth 100000
set_option maxHeartbeats 4000000
namespace L2
open PySem PySem.Spec PyProof.Rows
/-! ### evidence: own __bool__, own __eq__, isinstance of a class above -/
section
variable {X : Cx} {k j : Nat} {C D : Addr} {sp : Sp} {dvs : List V} {a : Expr} {ta : TE}
/-- an instance as a test, by its own __bool__ -/
def tTruO (C : Addr) (sp : Sp) (dvs : List V) (ta : TE) : TT := fun σ H Q => ta σ H fun x H1 => ∃ a dx fs, x = .ref a ∧ H1 a = some (.ins C dx fs) ∧ sp ([.ref a] ++ dvs) H1 (fun v H2 => ∃ b, v = .bl b ∧ Q b H2) C8.E0
theorem pt_own (c : C8.Met X.prog X.w X.K X.mg X.base k C "__bool__" sp dvs) (hr : Room j X.A) (hk : k ≤ j) (ha : PE X a ta) (he : ∀ whole, isTrue a X.env whole = (do let v ← whole; standAt a.pos; holding [v] (truthy v)) := by intro _; rfl) : PT X a (tTruO C sp dvs ta) := by
  obtain ⟨f, fd, ps, ds, cl, hm, F, bd, d⟩ := c.ex
  refine ⟨fun pins s σ H Q I h => isTrue_plain (thn (ha.run pins s σ H _ I h) fun v s1 z => ?_) (he _)⟩
  obtain ⟨x, H1, I1, rx, o, dx, fs, rfl, e, q⟩ := z
  obtain rfl : v = Value.ref o := rx
  obtain ⟨mA, O, _, _, _, _⟩ := ins_get I1.hok e
  obtain ⟨od, J, _⟩ := O.look
  obtain ⟨m, F0⟩ := I1.fr
  refine PySem.W.truthy_K F0 I1.ok.mod.kin J hm.at_ hm.fn (wpAny_mono (run_fn (us := [.ref o]) (vs := [.ref o]) F (hr.mono hk) bd d C8.pass0 I1 (.cons rfl .nil) q) (fun v s2 y => ?_) fun _ _ y => y)
  obtain ⟨x2, H2, I2, rx2, b, rfl, q2⟩ := y
  obtain rfl : v = Value.bool b := rx2
  exact ⟨H2, I2, q2⟩
/-- x == y by the own __eq__ of the class of both -/
def rEqO (C : Addr) (sp : Sp) (dvs : List V) : R2 := fun x y H Q => ∃ a b dx dy fs gs, x = .ref a ∧ y = .ref b ∧ H a = some (.ins C dx fs) ∧ H b = some (.ins C dy gs) ∧ sp ([.ref a, .ref b] ++ dvs) H (fun v H' => ∃ k, v = .bl k ∧ Q v H') C8.E0
theorem op_eqO (c : C8.Met X.prog X.w X.K X.mg X.base k C "__eq__" sp dvs) (hr : Room j X.A) (hk : k ≤ j) : OpR X (compareOp .Eq) (rEqO C sp dvs) := by
  obtain ⟨f, fd, ps, ds, cl, hm, F, bd, d⟩ := c.ex
  intro pins s σ H x y v u Q I rx ry h
  obtain ⟨o, o2, dx, dy, fs, gs, rfl, rfl, e, e2, q⟩ := h
  obtain rfl : v = Value.ref o := rx
  obtain rfl : u = Value.ref o2 := ry
  obtain ⟨mA, O, _, _, _, _⟩ := ins_get I.hok e
  obtain ⟨mB, O2, _, _, _, _⟩ := ins_get I.hok e2
  obtain ⟨od, J, _⟩ := O.look
  obtain ⟨od2, J2, _⟩ := O2.look
  obtain ⟨m, F0⟩ := I.fr
  refine PySem.W.cmp_K (op := .Eq) (tb := .ref C) hr.units0 F0 I.ok.mod.kin J J2.type (by simp [PySem.W.notFirst]) hm.at_ hm.fn (wpAny_mono (run_fn (us := [.ref o, .ref o2]) (vs := [.ref o, .ref o2]) F (hr.mono hk) bd d C8.pass0 I (.cons rfl (.cons rfl .nil)) q) (fun v s2 y => ?_) fun _ _ y => y)
  obtain ⟨x2, H2, I2, rx2, b, rfl, q2⟩ := y
  obtain rfl : v = Value.bool b := rx2
  exact ⟨.bl b, H2, I2, rfl, q2⟩
/-- an instance of C is one of D, a class above -/
structure InsB (K : PySem.W.Frag) (C D : Addr) : Prop where
  cl : Cls K C
  ha : PySem.W.findIn K (.ref C) "__class__" = some (some (.builtin "object.__class__"))
  hn : PySem.W.specialIn K (.builtin "object.__class__") "__get__" = some (some (.builtin "getset_descriptor.__get__"))
  htk : PySem.W.takesIn K (.builtin "object.__class__") = some true
  hm : PySem.W.mroIn K C (.type "object") = some true
  me : PySem.W.kitOne K (.ref C) (.ref D) = some true
def rIsUp (C D : Addr) : List V → Hp → VK → Prop := fun xs H Q => ∃ a dx fs, xs = [.ref a, .ref D] ∧ H a = some (.ins C dx fs) ∧ Q (.bl true) H
theorem cr_isUp (c : InsB X.K C D) : CallR X (.builtin "isinstance") (rIsUp C D) := by
  intro pins s σ H xs us Q I r h
  obtain ⟨o, dx, fs, rfl, e, q⟩ := h
  obtain ⟨u, u2, rfl, r1, r2⟩ := vals2 r
  obtain rfl : u2 = Value.ref D := r2
  exact isinst_ok I r1 (TyOf.ins e c.cl c.ha c.hn c.htk c.hm) c.me fun tk => ⟨.bl true, H, I.tok _, rfl, q⟩
end
end L2
namespace Sl
open PySem L2 C8 StX
section
variable {σ : L2.St} {H : Hp} {Q : VK} {QB : Bool → Hp → Prop} {K : PySem.W.Frag} {C D : Addr} {sp : Sp} {dvs : List V} {ta : TE} {v : V} {f : Str} {u : Value}
def rTruO (C : Addr) (sp : Sp) (dvs : List V) (x : V) (H1 : Hp) (Q : Bool → Hp → Prop) : Prop := ∃ a dx fs, x = .ref a ∧ H1 a = some (.ins C dx fs) ∧ sp ([.ref a] ++ dvs) H1 (fun v H2 => ∃ b, v = .bl b ∧ Q b H2) C8.E0
theorem rd_truO0 (h : ta σ H fun x H1 => rTruO C sp dvs x H1 QB) : tTruO C sp dvs ta σ H QB := h
theorem rd_truO {a dx : Addr} {fs : List (Str × V)} (e : H a = some (.ins C dx fs)) (h : sp ([.ref a] ++ dvs) H (fun v H2 => ∃ b, v = .bl b ∧ QB b H2) C8.E0) : rTruO C sp dvs (.ref a) H QB := ⟨a, dx, fs, rfl, e, h⟩
theorem rd_eqO {a b dx dy : Addr} {fs gs : List (Str × V)} (e : H a = some (.ins C dx fs)) (e2 : H b = some (.ins C dy gs)) (h : sp ([.ref a, .ref b] ++ dvs) H (fun v H' => ∃ k, v = .bl k ∧ Q v H') C8.E0) : rEqO C sp dvs (.ref a) (.ref b) H Q := ⟨a, b, dx, dy, fs, gs, rfl, rfl, e, e2, h⟩
theorem rd_isUp {a dx : Addr} {fs : List (Str × V)} (e : H a = some (.ins C dx fs)) (h : Q (.bl true) H) : rIsUp C D [.ref a, .ref D] H Q := ⟨a, dx, fs, rfl, e, h⟩
def rCon (K : PySem.W.Frag) (f : Str) (x : V) (H : Hp) (Q : VK) : Prop := ∃ a C dx fs v u, x = .ref a ∧ H a = some (.ins C dx fs) ∧ Cls K C ∧ Con K C f v u ∧ fs.lookup f = none ∧ Q v H
theorem rd_con0 (h : ta σ H fun x H1 => rCon K f x H1 Q) : tCon K ta f σ H Q := h
theorem rd_con {a dx : Addr} {fs : List (Str × V)} (e : H a = some (.ins C dx fs)) (c : Cls K C) (k : ∃ u, Con K C f v u) (l : fs.lookup f = none) (h : Q v H) : rCon K f (.ref a) H Q := by
  obtain ⟨u, k⟩ := k
  exact ⟨a, C, dx, fs, v, u, rfl, e, c, k, l, h⟩
theorem rd_minP {a : Addr} {xs : List V} {ks : List (Int × Int)} (e : SqL K H a xs) (n : 0 < xs.length) (l : ks.length = xs.length) (hx : ∀ (i : Nat) x k, xs[i]? = some x → ks[i]? = some k → ∃ t, x = V.ref t ∧ H t = some (.tup [.int k.1, .int k.2]))
    (h : ∀ (i : Nat) t k, xs[i]? = some (.ref t) → ks[i]? = some k → H t = some (.tup [.int k.1, .int k.2]) → (∀ y ∈ ks, ltPr y k = false) → Q (.ref t) H) : rMinP K [.ref a] H Q :=
  ⟨a, xs, ks, rfl, e, n, l, hx, fun i x k h1 h2 h3 => by
    obtain ⟨t, rfl, e⟩ := hx i x k h1 h2
    exact h i t k h1 h2 e h3⟩
end
end Sl
set_option Elab.async false
set_option linter.all false
set_option maxRecDepth 100000
set_option maxHeartbeats 4000000
namespace L2
open PySem PySem.Spec PyProof.Rows
/-- a dict from ints to ints -/
def dI (ls : List (Int × Int)) : List (Key × V) := ls.map fun q => (Sum.inl q.1, V.int q.2)
theorem dI_len (ls : List (Int × Int)) : (dI ls).length = ls.length := by unfold dI; rw [List.length_map]
theorem dI_keys (ls : List (Int × Int)) : (dI ls).map (·.1) = (ls.map (·.1)).map Sum.inl := by unfold dI; rw [List.map_map, List.map_map]; rfl
theorem dI_nodup {ls : List (Int × Int)} (h : (ls.map (·.1)).Nodup) : ((dI ls).map (·.1)).Nodup := by
  rw [dI_keys]
  exact List.Pairwise.map Sum.inl (fun a b n e => n (Sum.inl.inj e)) h
theorem dI_val {ls : List (Int × Int)} (h : (ls.map (·.1)).Nodup) : ∀ p ∈ dI ls, valV (dI ls) p.1 = some p.2 ∧ flatB p.2 = true := by
  intro p hp
  refine ⟨val_nodup (dI_nodup h) p hp, ?_⟩
  obtain ⟨q, _, rfl⟩ := List.mem_map.mp hp
  rfl
theorem dI_at {ls : List (Int × Int)} (h : (ls.map (·.1)).Nodup) {k v : Int} (m : (k, v) ∈ ls) : valV (dI ls) (Sum.inl k) = some (.int v) := val_nodup (dI_nodup h) (Sum.inl k, V.int v) (List.mem_map.mpr ⟨(k, v), m, rfl⟩)
theorem dI_no {ls : List (Int × Int)} {k : Int} (h : ∀ q ∈ ls, q.1 ≠ k) : valV (dI ls) (Sum.inl k) = none := by
  induction ls with
  | nil => rfl
  | cons q r ih =>
    show valV ((Sum.inl q.1, V.int q.2) :: dI r) (Sum.inl k) = none
    rw [valV_neg (fun z => h q List.mem_cons_self (Sum.inl.inj z))]
    exact ih fun q' m => h q' (List.mem_cons_of_mem _ m)
theorem dI_putNew {ls : List (Int × Int)} {k v : Int} (h : ∀ q ∈ ls, q.1 ≠ k) : putK (dI ls) (Sum.inl k) (.int v) = dI (ls ++ [(k, v)]) := by
  rw [putK_new _ (dI_no h)]
  unfold dI
  rw [List.map_append]
  rfl
/-! ### == of such dicts, both answers where the lengths differ -/
section
variable {X : Cx}
def rEqDI : R2 := fun x y H Q => ∃ a b ls ms, x = .ref a ∧ y = .ref b ∧ H a = some (.dK (dI ls)) ∧ H b = some (.dK (dI ms)) ∧ (ls.map (·.1)).Nodup ∧ (ls = ms ∨ ls.length ≠ ms.length) ∧ Q (.bl (decide (ls = ms))) H
def rNeDI : R2 := fun x y H Q => ∃ a b ls ms, x = .ref a ∧ y = .ref b ∧ H a = some (.dK (dI ls)) ∧ H b = some (.dK (dI ms)) ∧ (ls.map (·.1)).Nodup ∧ (ls = ms ∨ ls.length ≠ ms.length) ∧ Q (.bl (!decide (ls = ms))) H
theorem dI_hits {A : Around} {s : Shared} {ls ms : List (Int × Int)} {va vb : List (Key × Value)} (nd : (ls.map (·.1)).Nodup) (h : ls = ms ∨ ls.length ≠ ms.length) (ra : KV (dI ls) va) (rb : KV (dI ms) vb) (e : va.length = vb.length) : ls = ms ∧ PySem.W.KeqHits A s vb va true := by
  rcases h with h | h
  · subst h
    exact ⟨rfl, hits_all rb ra (dI_val nd)⟩
  · exfalso
    have h1 := ra.length
    have h2 := rb.length
    rw [dI_len] at h1 h2
    omega
theorem dI_ans {ls ms : List (Int × Int)} {va vb : List (Key × Value)} (h : ls = ms ∨ ls.length ≠ ms.length) (ra : KV (dI ls) va) (rb : KV (dI ms) vb) : (va.length == vb.length && true) = decide (ls = ms) := by
  have h1 := ra.length
  have h2 := rb.length
  rw [dI_len] at h1 h2
  rw [Bool.and_true]
  rcases h with h | h
  · subst h
    rw [decide_eq_true rfl, ← h1, ← h2]
    simp
  · rw [decide_eq_false (fun z => h (by rw [z])), ← h1, ← h2]
    simpa using h
theorem op_eqDI (hu : X.A.units < cLine) : OpR X (compareOp .Eq) rEqDI := by
  intro pins s σ H x y v u Q I rx ry h
  obtain ⟨a, b, ls, ms, rfl, rfl, ea, eb, nd, hh, q⟩ := h
  obtain rfl : v = Value.ref a := rx
  obtain rfl : u = Value.ref b := ry
  obtain ⟨_, ya, va, ra, da⟩ := (show ObjOk X.prog X.w H s.heap a (.dK (dI ls)) from I.hok a _ ea)
  obtain ⟨_, yb, vb, rb, db⟩ := (show ObjOk X.prog X.w H s.heap b (.dK (dI ms)) from I.hok b _ eb)
  refine PySem.W.keq_eq (knd := mixKind X.prog X.w) (r := true) ya yb da db hu (fun e => (dI_hits nd hh ra rb e).2) ?_
  rw [dI_ans hh ra rb]
  exact ⟨.bl _, H, I, rfl, q⟩
theorem op_neDI (hu : X.A.units < cLine) : OpR X (compareOp .NotEq) rNeDI := by
  intro pins s σ H x y v u Q I rx ry h
  obtain ⟨a, b, ls, ms, rfl, rfl, ea, eb, nd, hh, q⟩ := h
  obtain rfl : v = Value.ref a := rx
  obtain rfl : u = Value.ref b := ry
  obtain ⟨_, ya, va, ra, da⟩ := (show ObjOk X.prog X.w H s.heap a (.dK (dI ls)) from I.hok a _ ea)
  obtain ⟨_, yb, vb, rb, db⟩ := (show ObjOk X.prog X.w H s.heap b (.dK (dI ms)) from I.hok b _ eb)
  refine PySem.W.keq_ne (knd := mixKind X.prog X.w) (r := true) ya yb da db hu (fun e => (dI_hits nd hh ra rb e).2) ?_
  rw [dI_ans hh ra rb]
  exact ⟨.bl _, H, I, rfl, q⟩
end
end L2
namespace Sl
open PySem L2 C8 StX
section
variable {σ : L2.St} {H H1 : Hp} {wi : TI} {g : TG} {tb : TS} {ta : TA} {td te ty tk tv : TE} {tt : TT} {nx bk ct : L2.St → Hp → Prop} {rt : VK} {K : PySem.W.Frag} {Q : VK} {QB : Bool → Hp → Prop} {vs : List Nat} {x y v : V}
theorem rd_dnew (h : ∀ p H', H p = none → Same H H' → H' p = some (.dK (dI [])) → H' = upd H p (.dK (dI [])) → Q (.ref p) H') : tDNewK σ H Q := fun p hp => h p _ hp (Same.new (Same.refl H) hp) upd_same rfl
def rDIn (y x : V) (H : Hp) (Q : VK) : Prop := ∃ a o, x = .ref a ∧ DGet H a y o ∧ Q (.bl o.isSome) H
def rDNot (y x : V) (H : Hp) (Q : VK) : Prop := ∃ a o, x = .ref a ∧ DGet H a y o ∧ Q (.bl (!o.isSome)) H
theorem rd_din0 (h : ty σ H fun y H1 => td σ H1 fun x H2 => rDIn y x H2 Q) : tDIn ty td σ H Q := h
theorem rd_dnot0 (h : ty σ H fun y H1 => td σ H1 fun x H2 => rDNot y x H2 Q) : tDNotIn ty td σ H Q := h
theorem rd_dnot {a : Addr} {ls : List (Int × Int)} {k : Int} (e : H a = some (.dK (dI ls))) (h : Q (.bl (!(valV (dI ls) (Sum.inl k)).isSome)) H) : rDNot (.int k) (.ref a) H Q := ⟨a, _, rfl, DGet.k (k := Sum.inl k) e, h⟩
def rDGet (x y : V) (H : Hp) (Q : VK) : Prop := ∃ a v, x = .ref a ∧ DGet H a y (some v) ∧ Q v H
theorem rd_dget0 (h : td σ H fun x H1 => ty σ H1 fun y H2 => rDGet x y H2 Q) : tDGet td ty σ H Q := h
theorem rd_dget {a : Addr} {ls : List (Int × Int)} {k w : Int} (e : Rd H a (.dK (dI ls))) (l : valV (dI ls) (Sum.inl k) = some (.int w)) (h : Q (.int w) H) : rDGet (.ref a) (.int k) H Q := ⟨a, .int w, rfl, .inl ⟨_, Sum.inl k, e, rfl, l.symm⟩, h⟩
def rDPut (nx : L2.St → Hp → Prop) (σ : L2.St) (v x y : V) (H : Hp) : Prop := ∃ a H4, x = .ref a ∧ DPut H a y v H4 ∧ nx σ H4
theorem rd_dput0 (h : tv σ H fun v H1 => td σ H1 fun x H2 => ty σ H2 fun y H3 => rDPut nx σ v x y H3) : sDPut td ty tv ⟨nx, rt, bk, ct⟩ σ H := h
theorem rd_dput {a : Addr} {ls : List (Int × Int)} {k w : Int} (e : H a = some (.dK (dI ls))) (l : ls.length < 100000) (h : ∀ H', H' = upd H a (.dK (putK (dI ls) (Sum.inl k) (.int w))) → H' a = some (.dK (putK (dI ls) (Sum.inl k) (.int w))) → nx σ H') : rDPut nx σ (.int w) (.ref a) (.int k) H :=
  ⟨a, _, rfl, DPut.k (k := Sum.inl k) e (by rw [dI_len]; exact Nat.lt_trans l (by decide)), h _ rfl upd_same⟩
def rDictD : List V → Hp → VK → Prop := fun xs H Q => ∃ (a : Addr) (kvs : List (Key × V)), xs = [.ref a] ∧ Rd H a (.dK kvs) ∧ ∀ p, H p = none → Q (.ref p) (upd H p (.dK kvs))
theorem cr_dictD {X : Cx} : CallR X (.type "dict") rDictD := call_dictD
theorem rd_dictD {a : Addr} {kvs : List (Key × V)} (e : H a = some (.dK kvs)) (h : ∀ p H', H p = none → Same H H' → H' p = some (.dK kvs) → H' = upd H p (.dK kvs) → Q (.ref p) H') : rDictD [.ref a] H Q := ⟨a, kvs, rfl, .inl e, fun p hp => h p _ hp (Same.new (Same.refl H) hp) upd_same rfl⟩
def rSortDI : List V → Hp → VK → Prop := fun xs H Q => ∃ (a : Addr) (kvs : List (Key × V)) (ks : List Int), xs = [.ref a] ∧ Rd H a (.dK kvs) ∧ kvs.map (·.1) = ks.map Sum.inl ∧ ks.length < 64 ∧ ∀ (ys : List Int) (p : Addr), ys.Perm ks → ys.Pairwise (· ≤ ·) → H p = none → Q (.ref p) (upd H p (.lst (ys.map V.int)))
theorem cr_sortDI {X : Cx} (hc : X.calm = true) : CallR X (.builtin "sorted") rSortDI := call_sortedDI hc
theorem perm_sorted : ∀ {ys ks : List Int}, ys.Perm ks → ys.Pairwise (· ≤ ·) → ks.Pairwise (· < ·) → ys = ks
  | [], ks, p, _, _ => (List.nil_perm.mp p).symm
  | y :: ys, [], p, _, _ => by have := p.length_eq; simp at this
  | y :: ys, k :: ks, p, s1, s2 => by
    have h1 := List.pairwise_cons.mp s1
    have h2 := List.pairwise_cons.mp s2
    have e : y = k := by
      have a : y ∈ k :: ks := p.mem_iff.mp List.mem_cons_self
      have b : k ∈ y :: ys := p.mem_iff.mpr List.mem_cons_self
      rcases List.mem_cons.mp a with z | z
      · exact z
      · rcases List.mem_cons.mp b with w | w
        · exact w.symm
        · have q1 := h2.1 y z
          have q2 := h1.1 k w
          omega
    subst e
    rw [perm_sorted p.cons_inv h1.2 h2.2]
theorem rd_sortDI {a : Addr} {ls : List (Int × Int)} (e : H a = some (.dK (dI ls))) (s : (ls.map (·.1)).Pairwise (· < ·)) (l : ls.length < 64) (h : ∀ p H', H p = none → Same H H' → H' p = some (.lst ((ls.map (·.1)).map V.int)) → Q (.ref p) H') : rSortDI [.ref a] H Q :=
  ⟨a, _, ls.map (·.1), rfl, .inl e, dI_keys ls, by rw [List.length_map]; exact l, fun ys p pm sr hp => by
    rw [perm_sorted pm sr s]
    exact h p _ hp (Same.new (Same.refl H) hp) upd_same⟩
theorem rd_sortL {a : Addr} {ks : List Int} (e : SqL K H a (ks.map V.int)) (s : ks.Pairwise (· < ·)) (l : ks.length < 64) (h : ∀ p H', H p = none → Same H H' → H' p = some (.lst (ks.map V.int)) → Q (.ref p) H') : rSorted K [.ref a] H Q :=
  ⟨a, ks, rfl, e, l, fun ys p pm sr hp => by
    rw [perm_sorted pm sr s]
    exact h p _ hp (Same.new (Same.refl H) hp) upd_same⟩
theorem rd_listD {a : Addr} {ls : List (Int × Int)} (e : H a = some (.dK (dI ls))) (h : ∀ p H', H p = none → Same H H' → H' p = some (.lst ((ls.map (·.1)).map V.int)) → Q (.ref p) H') : rListD [.ref a] H Q :=
  ⟨a, _, rfl, e, fun p hp => h p _ hp (Same.new (Same.refl H) hp) (by rw [upd_same]; unfold dI; rw [List.map_map, List.map_map]; rfl)⟩
theorem rd_eqDI {a b : Addr} {ls ms : List (Int × Int)} (ea : H a = some (.dK (dI ls))) (eb : H b = some (.dK (dI ms))) (nd : (ls.map (·.1)).Nodup) (hh : ls = ms ∨ ls.length ≠ ms.length) (q : Q (.bl (decide (ls = ms))) H) : rEqDI (.ref a) (.ref b) H Q := ⟨a, b, ls, ms, rfl, rfl, ea, eb, nd, hh, q⟩
theorem rd_neDI {a b : Addr} {ls ms : List (Int × Int)} (ea : H a = some (.dK (dI ls))) (eb : H b = some (.dK (dI ms))) (nd : (ls.map (·.1)).Nodup) (hh : ls = ms ∨ ls.length ≠ ms.length) (q : Q (.bl (!decide (ls = ms))) H) : rNeDI (.ref a) (.ref b) H Q := ⟨a, b, ls, ms, rfl, rfl, ea, eb, nd, hh, q⟩
/-! ### dict comprehensions -/
def DcE (D : Addr) (Nx : Hp → Prop) (y z : V) (H5 : Hp) : Prop := ∃ kvs k, y = kV k ∧ H5 D = some (.dK kvs) ∧ kvs.length < sizeLine ∧ Nx (upd H5 D (.dK (putK kvs k z)))
def DcR (J : It) (g : TG) (tt : TT) (tk tv : TE) (vs : List Nat) (σ : L2.St) (H1 : Hp) (Q : VK) : Prop := ∀ D, H1 D = none → ∃ W : Nat → Nat → Hp → Prop, (∃ m, W 0 m (upd H1 D (.dK []))) ∧ ∀ i m H, W i m H →
  (J.stop i H ∧ Q (.ref D) H) ∨ (J.go i H ∧ ∃ Nx : Hp → Prop, (∀ H', Nx H' → ∃ m', m' < m ∧ W (i + 1) m' H') ∧ ∀ x H', J.yld i H x H' → g x (wipe σ vs) H' fun σ2 H2 => wipe σ2 vs = wipe σ vs ∧ tt σ2 H2 fun b H3 =>
    if b = true then tk σ2 H3 fun y H4 => tv σ2 H4 fun z H5 => DcE D Nx y z H5 else Nx H3)
theorem rd_dc (h : wi σ H fun J H1 => DcR J g tt tk tv vs σ H1 Q) : tDc wi g tt tk tv vs σ H Q := h
theorem rd_dcE {D : Addr} {Nx : Hp → Prop} {ls : List (Int × Int)} {k w : Int} (e : H D = some (.dK (dI ls))) (l : ls.length < 100000) (n : ∀ q ∈ ls, q.1 ≠ k) (h : ∀ H', H' = upd H D (.dK (dI (ls ++ [(k, w)]))) → H' D = some (.dK (dI (ls ++ [(k, w)]))) → Nx H') : DcE D Nx (.int k) (.int w) H :=
  ⟨_, Sum.inl k, rfl, e, by rw [dI_len]; exact Nat.lt_trans l (by decide), by rw [dI_putNew n]; exact h _ rfl upd_same⟩
theorem dcR_gen (J : It) (n : Nat) (Pv : Addr → Nat → Hp → Prop) (h0 : ∀ D H', H D = none → Same H H' → H' D = some (.dK (dI [])) → H' = upd H D (.dK (dI [])) → Pv D 0 H') (hg : ∀ D i H', H D = none → i < n → Pv D i H' → J.go i H') (he : ∀ D H', H D = none → Pv D n H' → J.stop n H')
    (hs : ∀ D i H' x H2, H D = none → i < n → Pv D i H' → J.yld i H' x H2 → g x (wipe σ vs) H2 fun σ2 H2 => wipe σ2 vs = wipe σ vs ∧ tt σ2 H2 fun b H3 => if b = true then tk σ2 H3 fun y H4 => tv σ2 H4 fun z H5 => DcE D (Pv D (i + 1)) y z H5 else Pv D (i + 1) H3)
    (hd : ∀ D H', H D = none → Pv D n H' → Q (.ref D) H') : DcR J g tt tk tv vs σ H Q := by
  intro D hD
  refine ⟨fun i m H => m = n - i ∧ i ≤ n ∧ Pv D i H, ⟨n, by simp, Nat.zero_le _, h0 D _ hD (Same.new (Same.refl H) hD) upd_same rfl⟩, ?_⟩
  rintro i m H' ⟨rfl, hi, p⟩
  by_cases hlt : i < n
  · exact .inr ⟨hg D i H' hD hlt p, Pv D (i + 1), fun H2 p' => ⟨n - (i + 1), by omega, rfl, hlt, p'⟩, fun x H2 y => hs D i H' x H2 hD hlt p y⟩
  · obtain rfl : i = n := by omega
    exact .inl ⟨he D H' hD p, hd D H' hD p⟩
theorem dcR_lst {a : Addr} {xs : List V} (Pv : Addr → Nat → Hp → Prop) (hl : ∀ D i H', H D = none → Pv D i H' → SqL K H' a xs) (h0 : ∀ D H', H D = none → Same H H' → H' D = some (.dK (dI [])) → H' = upd H D (.dK (dI [])) → Pv D 0 H')
    (hs : ∀ D i x H', H D = none → xs[i]? = some x → Pv D i H' → g x (wipe σ vs) H' fun σ2 H2 => wipe σ2 vs = wipe σ vs ∧ tt σ2 H2 fun b H3 => if b = true then tk σ2 H3 fun y H4 => tv σ2 H4 fun z H5 => DcE D (Pv D (i + 1)) y z H5 else Pv D (i + 1) H3)
    (hd : ∀ D H', H D = none → Pv D xs.length H' → Q (.ref D) H') : DcR (Itl K a) g tt tk tv vs σ H Q :=
  dcR_gen _ xs.length Pv h0 (fun D i H' hD h p => ⟨xs, xs[i], hl D i H' hD p, by simp [h]⟩) (fun D H' hD p => ⟨xs, hl D _ H' hD p, Nat.le_refl _⟩)
    (fun D i H' x H2 hD hi p ⟨e1, e2⟩ => by subst e1; exact hs D i x _ hD (e2 xs (hl D i _ hD p)) p) hd
/-! ### the keys of a dict that is walked -/
def KeysR (R : It → Hp → Prop) (x : V) (H : Hp) : Prop := ∃ d o, x = .ref d ∧ ((∃ kvs, H d = some (.frz o (.dK kvs)) ∧ R (Itk d o kvs) H) ∨ ∃ kvs, H d = some (.frz o (.dT kvs)) ∧ R (Itkt d o kvs) H)
theorem rd_iKeys {R : It → Hp → Prop} (h : td σ H fun x H1 => KeysR R x H1) : iKeys td σ H R := h
theorem rd_keysR {R : It → Hp → Prop} {d : Addr} {o : Obj} {kvs : List (Key × V)} (e : H d = some (.frz o (.dK kvs))) (h : R (Itk d o kvs) H) : KeysR R (.ref d) H := ⟨d, o, rfl, .inl ⟨kvs, e, h⟩⟩
theorem rd_lock {d : Addr} {u : HO} (e : H d = some u) (m : Mut (some u)) (h : ∀ od, te σ (upd H d (.frz od u)) fun v H' => H' d = some (.frz od u) ∧ Q v (upd H' d u)) : tLockE te σ H Q := ⟨d, u, e, m, h⟩
theorem dcR_keys {d : Addr} {o : Obj} {kvs : List (Key × V)} (Pv : Addr → Nat → Hp → Prop) (hl : ∀ D i H', H D = none → Pv D i H' → H' d = some (.frz o (.dK kvs))) (h0 : ∀ D H', H D = none → Same H H' → H' D = some (.dK (dI [])) → H' = upd H D (.dK (dI [])) → Pv D 0 H')
    (hs : ∀ D i k z H', H D = none → kvs[i]? = some (k, z) → Pv D i H' → g (kV k) (wipe σ vs) H' fun σ2 H2 => wipe σ2 vs = wipe σ vs ∧ tt σ2 H2 fun b H3 => if b = true then tk σ2 H3 fun y H4 => tv σ2 H4 fun z H5 => DcE D (Pv D (i + 1)) y z H5 else Pv D (i + 1) H3)
    (hd : ∀ D H', H D = none → Pv D kvs.length H' → Q (.ref D) H') : DcR (Itk d o kvs) g tt tk tv vs σ H Q :=
  dcR_gen _ kvs.length Pv h0 (fun D i H' hD h p => ⟨hl D i H' hD p, h⟩) (fun D H' hD p => ⟨hl D _ H' hD p, Nat.le_refl _⟩)
    (fun D i H' x H2 hD hi p ⟨e1, k, v, e2, e3⟩ => by subst e1; subst e3; exact hs D i k v _ hD e2 p) hd
theorem lcR_keys {d : Addr} {o : Obj} {kvs : List (Key × V)} (Pv : Addr → Nat → Hp → Prop) (hl : ∀ D i H', H D = none → Pv D i H' → H' d = some (.frz o (.dK kvs))) (h0 : ∀ D H', H D = none → Same H H' → H' D = some (.lst []) → H' = upd H D (.lst []) → Pv D 0 H')
    (hs : ∀ D i k z H', H D = none → kvs[i]? = some (k, z) → Pv D i H' → g (kV k) (wipe σ vs) H' fun σ2 H2 => wipe σ2 vs = wipe σ vs ∧ tt σ2 H2 fun b H3 => if b = true then te σ2 H3 fun y H4 => LcE D (Pv D (i + 1)) y H4 else Pv D (i + 1) H3)
    (hd : ∀ D H', H D = none → Pv D kvs.length H' → Q (.ref D) H') : LcR (Itk d o kvs) g tt te vs σ H Q :=
  lcR_gen _ kvs.length Pv h0 (fun D i H' hD h p => ⟨hl D i H' hD p, h⟩) (fun D H' hD p => ⟨hl D _ H' hD p, Nat.le_refl _⟩)
    (fun D i H' x H2 hD hi p ⟨e1, k, v, e2, e3⟩ => by subst e1; subst e3; exact hs D i k v _ hD e2 p) hd
end
end Sl
set_option Elab.async false
set_option linter.all false
set_option maxRecDepth 100000
set_option maxHeartbeats 4000000
/-! ### t != u of tuples whose items are all equal, one of them a dict -/
namespace GQ
open PySem PySem.SeqAt
open AutoSeq1 (wpAny_loadPart')
open MeetsSeq MeetsSeq2 MeetsSeq3 SeqRoads2
section
variable {prog : Program} {w : World} {A : Around} {R : Result → Shared → Prop} {E : Value → Shared → Prop}
theorem tup_neT (t u : Addr) (xs ys : Array Value) (n m : Nat) (d1 d2 : Option Addr) (l1 l2 : Array (Option Value)) (len : xs.size = ys.size) {s : Shared}
    (each : ∀ i (h1 : i < xs.size) (h2 : i < ys.size) (E' : Value → Shared → Prop) (Q : Bool → Shared → Prop), Q true s → wpAny (model prog w) A.in1 (eqBool xs[i] ys[i]) Q E' s)
    (e1 : s.heap.get? t = some { cls := .type "tuple", dict := d1, data := .seq xs n, slots := l1 }) (e2 : s.heap.get? u = some { cls := .type "tuple", dict := d2, data := .seq ys m, slots := l2 }) (fin : R (.ok (.ret (.bool false))) s) :
    wpAny (model prog w) A.in1 (Builtin.«tuple.__ne__» ⟨[.ref t, .ref u], []⟩) (FinOf prog w A R) (fun e s' => R (.error e) s') s := by
  have f2 := AutoSeq1.sub_tuple_tuple
  have hz : (xs.toList.zip ys.toList).length = xs.size := by simp [len]
  obtain ⟨hp, gn, dr, tk, os⟩ := s
  wp_walk using wpAny_loadPart' e1, wpAny_loadPart' e2, wpAny_forIn_list _ (fun rest b s' => b.1 = none ∧ s' = (⟨hp, gn, dr, tk, os⟩ : Shared) ∧ ∃ i, rest = (xs.toList.zip ys.toList).drop i ∧ i ≤ xs.size) _
  case turn =>
    rintro ⟨y, x⟩ rest b s' ⟨hb, rfl, i, hr, hi⟩
    have lt : i < (xs.toList.zip ys.toList).length := by
      rcases Nat.lt_or_ge i (xs.toList.zip ys.toList).length with z | z
      · exact z
      · rw [List.drop_of_length_le z] at hr
        cases hr
    have h1 : i < xs.size := hz ▸ lt
    have h2 : i < ys.size := len ▸ h1
    rw [List.drop_eq_getElem_cons lt] at hr
    injection hr with q1 q2
    obtain rfl : y = xs[i] := by simpa using congrArg Prod.fst q1
    obtain rfl : x = ys[i] := by simpa using congrArg Prod.snd q1
    refine wpAny_bind (each i h1 h2 _ _ ?_)
    wp_walk
    exact ⟨rfl, rfl, i + 1, q2, h1⟩
  case fin =>
    rintro ⟨b1, b2⟩ s' ⟨hb, rfl, i, hr, hi⟩
    simp only at hb
    subst hb
    wp_walk
    simpa [Builtin.Tuple.tupleCompareSizes, len] using fin
  case h =>
    exact ⟨rfl, rfl, 0, rfl, Nat.zero_le _⟩
theorem rcne_tup {t u : Addr} {xs ys : Array Value} {Q : Value → Shared → Prop} {s : Shared} (len : xs.size = ys.size) (hu : A.units < cLine) (h1 : s.heap.IsTuple t xs) (h2 : s.heap.IsTuple u ys)
    (each : ∀ i (h1 : i < xs.size) (h2 : i < ys.size) (E' : Value → Shared → Prop) (Q : Bool → Shared → Prop), Q true s → wpAny (model prog w) A.in1 (eqBool xs[i] ys[i]) Q E' s) (fin : Q (.bool false) s) : wpAny (model prog w) A (richCompare .NotEq (.ref t) (.ref u)) Q E s := by
  obtain ⟨⟨c1, d1, k1, l1⟩, o1, z1, n, y1⟩ := id h1
  obtain ⟨⟨c2, d2, k2, l2⟩, o2, z2, m, y2⟩ := id h2
  simp only at z1 y1 z2 y2
  subst z1 y1 z2 y2
  refine wpAny_richCompare_same_room (op := .NotEq) ⟨_, o1, rfl⟩ ⟨_, o2, rfl⟩ F.slot_tuple_ne (call_here F.slot_tuple_ne ⟨_, o1, rfl⟩ F.entry_tuple_ne (F.args_tuple_ne_2 _ _) ?_) hu
  exact tup_neT (R := wants (fun v s' => v ≠ .notImplemented ∧ Q v s') E) t u xs ys n m d1 d2 l1 l2 len each o1 o2 ⟨(fun x => nomatch x), fin⟩
end
end GQ
namespace L2
open PySem PySem.Spec PyProof.Rows
section
variable {X : Cx}
/-- (i, d) != (i, e), d and e equal dicts -/
def rNePD (K : PySem.W.Frag) : R2 := fun x y H Q => ∃ t u i a b ls, x = .ref t ∧ y = .ref u ∧ H t = some (.tup [.int i, .ref a]) ∧ H u = some (.tup [.int i, .ref b]) ∧ H a = some (.dK (dI ls)) ∧ H b = some (.dK (dI ls)) ∧ (ls.map (·.1)).Nodup ∧ Q (.bl false) H
theorem op_nePD (hu : X.A.units + 64 < cLine) : OpR X (compareOp .NotEq) (rNePD X.K) := by
  intro pins s σ H x y v u' Q I rx ry h
  obtain ⟨t, u, i, a, b, ls, rfl, rfl, et, eu, ea, eb, nd, q⟩ := h
  obtain rfl : v = Value.ref t := rx
  obtain rfl : u' = Value.ref u := ry
  obtain ⟨xs, r1, p1, _⟩ := I.tuple (SqT.of et)
  obtain ⟨ys, r2, p2, _⟩ := I.tuple (SqT.of eu)
  obtain ⟨x1, x2, rfl, ⟨tx, rfl⟩, w2⟩ := vals2 r1
  obtain ⟨y1, y2, rfl, ⟨ty, rfl⟩, z2⟩ := vals2 r2
  obtain rfl : x2 = Value.ref a := w2
  obtain rfl : y2 = Value.ref b := z2
  obtain ⟨_, ya, va, ra, da⟩ := (show ObjOk X.prog X.w H s.heap a (.dK (dI ls)) from I.hok a _ ea)
  obtain ⟨_, yb, vb, rb, db⟩ := (show ObjOk X.prog X.w H s.heap b (.dK (dI ls)) from I.hok b _ eb)
  show wpAny (model X.prog X.w) X.A (richCompare .NotEq (.ref t) (.ref u)) (EP X pins σ Q) X.xe s
  refine GQ.rcne_tup (by simp) (by omega) p1 p2 (fun j h1 h2 E' Q' q' => ?_) ⟨.bl false, H, I, rfl, q⟩
  match j, h1, h2 with
  | 0, _, _ => exact (eqAt_same (A := X.A.in1) (s := s) (show RelV (V.int i) (Value.int i tx) from ⟨tx, rfl⟩) (show RelV (V.int i) (Value.int i ty) from ⟨ty, rfl⟩) rfl) X.prog X.w E' Q' q'
  | 1, _, _ =>
    show wpAny (model X.prog X.w) X.A.in1 (eqBool (Value.ref a) (Value.ref b)) Q' E' s
    by_cases c : a = b
    · subst c
      exact SeqAt.EqAt.same (A := X.A.in1) (s := s) (.ref a) X.prog X.w E' Q' q'
    · refine GQ.eqBool_refG c ?_
      show wpAny (model X.prog X.w) X.A.in1 (compareOp .Eq (.ref a) (.ref b)) _ E' s
      refine PySem.W.keq_eq (knd := mixKind X.prog X.w) (r := true) ya yb da db (by show X.A.units + 1 < cLine; omega) (fun e => (dI_hits nd (.inl rfl) ra rb e).2) ?_
      rw [dI_ans (.inl rfl) ra rb, decide_eq_true rfl]
      exact ⟨true, rfl, q'⟩
  | j + 2, h1, _ => exact absurd h1 (by simp)
end
end L2
namespace Sl
open PySem L2 C8 StX
theorem rd_nePD {K : PySem.W.Frag} {H : Hp} {Q : VK} {t u a b : Addr} {i : Int} {ls : List (Int × Int)} (et : H t = some (.tup [.int i, .ref a])) (eu : H u = some (.tup [.int i, .ref b])) (ea : H a = some (.dK (dI ls))) (eb : H b = some (.dK (dI ls))) (nd : (ls.map (·.1)).Nodup) (q : Q (.bl false) H) : rNePD K (.ref t) (.ref u) H Q :=
  ⟨t, u, i, a, b, ls, rfl, rfl, et, eu, ea, eb, nd, q⟩
end Sl
set_option Elab.async false
set_option linter.all false
set_option maxRecDepth 100000
set_option maxHeartbeats 4000000
namespace L2
open PySem PySem.Spec PyProof.Rows
/-! ### sum(d.values()) of a dict from ints to ints -/
def rSumV (x : V) (H : Hp) (Q : VK) : Prop := ∃ a ls, x = V.ref a ∧ H a = some (.dK (dI ls)) ∧ Q (.int ((ls.map (·.2)).sum)) H
def tSumV (td : TE) : TE := fun σ H Q => td σ H fun x H1 => rSumV x H1 Q
theorem dI_vals (ls : List (Int × Int)) : (dI ls).map (·.2) = (ls.map (·.2)).map V.int := by unfold dI; rw [List.map_map, List.map_map]; rfl
theorem preSum_list (l : List Int) : ∀ n : Nat, preSum (fun i => l.getD i 0) n = (l.take n).sum
  | 0 => by simp [preSum]
  | n + 1 => by
    rw [preSum, preSum_list l n, List.take_succ, List.sum_append]
    cases e : l[n]? with
    | none => simp [List.getD_eq_getElem?_getD, e]
    | some x => simp [List.getD_eq_getElem?_getD, e]
section
variable {X : Cx} {o : Expr} {p pos apos mpos : Pos} {td : TE}
theorem pe_sumVals (hc : X.calm = true) (hg : Gl X "sum") (hm : X.mg "sum" = none) (hd : PE X o td) (base : attributeBase o "values" X.env (eval o X.env) = eval o X.env := by rfl) (line : (apos.endLine == mpos.line) = true := by rfl)
    (each : starEach [Expr.Call (.Attribute o "values" apos) [] [] mpos] X.env = [(false, eval (Expr.Call (.Attribute o "values" apos) [] [] mpos) X.env)] := by rfl) : PE X (.Call (.Name "sum" p) [.Call (.Attribute o "values" apos) [] [] mpos] [] pos) (tSumV td) := by
  refine ⟨fun pins s σ H Q I h => wpAny_Call_Name_kw (ld_blt I hg hm (u := .builtin "sum") (by first | rfl | decide +kernel) ?_ (by first | decide +kernel | decide) (by first | decide +kernel | decide))⟩
  rw [each]
  refine PySem.callWith_builtin1 (wpAny_Call_method0_late base line (thn (hd.run pins s σ H _ I h) fun v s1 z => ?_))
  obtain ⟨x, H1, I1, rx, a, ls, rfl, ea, q⟩ := z
  obtain rfl : v = Value.ref a := rx
  obtain ⟨_, low, vs, rel, dof⟩ := dk_of I1.hok ea
  obtain ⟨ep, dat⟩ := dof.dictAt
  obtain ⟨ob, es, ho, ex, _⟩ := id dat
  refine ⟨"dict", "dict.values", F.plainAttrs_dict, F.slot_dict_values, F.type_dict_values, ⟨ob, ho, ex.1⟩, fun b e => (by cases e; exact ⟨ob, ho, ex.2.1⟩), Calls.callWith_builtin rfl (PySem.evalArgs_none (call_meetsIn F.slot_dict_values ⟨ob, ho, ex.1⟩ F.entry_dict_values (F.args_dict_values_1 _) (meets_dict_values (mixKind X.prog X.w) a low) ⟨⟨vs, dof⟩, ?_⟩))⟩
  have kept1 : ∀ b u, s1.heap.get? b = some u → (s1.heap.push { cls := .type "dict_values", data := .fields #[.ref a] }).get? b = some u := fun _ _ e => Heap.get?_push_of_some _ e
  have dat1 := dat.keep kept1
  have lt : a < s1.heap.objs.size := Heap.lt_size ho
  have sz : (s1.heap.push { cls := .type "dict_values", data := .fields #[.ref a] }).objs.size = s1.heap.objs.size + 1 := Heap.size_push _ _
  have lv : vs.length = ls.length := by rw [← rel.length, dI_len]
  have val : ∀ (i : Nat) (v : Value), (∃ k, vs[i]? = some (k, v)) → ∃ t, v = Value.int ((ls.map (·.2)).getD i 0) t := by
    rintro i v ⟨k, hk⟩
    obtain ⟨x, h1, h2⟩ := KV.at' rel hk
    have e : ((dI ls).map (·.2))[i]? = some x := by rw [List.getElem?_map, h1]; rfl
    rw [dI_vals, List.getElem?_map] at e
    cases w : (ls.map (·.2))[i]? with
    | none => rw [w] at e; cases e
    | some j =>
      rw [w] at e
      cases e
      obtain ⟨t, rfl⟩ := h2
      refine ⟨t, ?_⟩
      rw [List.getD_eq_getElem?_getD, w]; rfl
  refine call_sum_walkG (wpAny_pyIter_values (v := s1.heap.objs.size) (d := a) ⟨_, Heap.get?_push_size _ rfl, rfl, rfl⟩ dat1 ⟨_, _, _, _, _, _, fun i => (ls.map (·.2)).getD i 0, rfl,
    Walks.dictValues (knd := mixKind X.prog X.w) (A := X.A.in1) (I.ok.hd hc) _ a (by rw [sz]; exact Nat.ne_of_lt (Nat.lt_succ_of_lt lt)) vs ep, ⟨⟨_, Heap.get?_push_size _ rfl, rfl, rfl⟩, dat1.keep fun _ _ e => Heap.get?_push_of_some _ e⟩, fun b hb => ?_, val, fun h' tk t' kp => ?_⟩)
  · show b < ((s1.heap.push _).push _).objs.size
    rw [Heap.size_push, sz]
    rcases List.mem_cons.mp hb with e | hb
    · rw [e, sz]; exact Nat.lt_succ_self _
    · rw [List.mem_singleton.mp hb]; exact Nat.lt_succ_of_lt (Nat.lt_succ_of_lt lt)
  · have es : preSum (fun i => (ls.map (·.2)).getD i 0) vs.length = (ls.map (·.2)).sum := by
      rw [preSum_list, List.take_of_length_le (by rw [List.length_map, lv]; exact Nat.le_refl _)]
    rw [es]
    refine ⟨.int _, H1, I1.kept (t' := tk) fun b u e => kp b u (fun mem => ?_) (Heap.get?_push_of_some _ (kept1 b u e)), ⟨t', rfl⟩, q⟩
    have e2 := Heap.lt_size e
    rw [List.mem_singleton.mp mem, sz] at e2
    exact Nat.lt_irrefl _ (Nat.lt_of_succ_lt e2)
end
end L2
namespace Sl
open PySem L2 C8 StX
section
variable {σ : L2.St} {H : Hp} {Q : VK} {td ty tx : TE}
theorem rd_sumV0 (h : td σ H fun x H1 => rSumV x H1 Q) : tSumV td σ H Q := h
theorem rd_sumV {a : Addr} {ls : List (Int × Int)} (e : H a = some (.dK (dI ls))) (h : Q (.int ((ls.map (·.2)).sum)) H) : rSumV (.ref a) H Q := ⟨a, ls, rfl, e, h⟩
/-- d.get(k, z) -/
def rGetD (x : V) (ty tx : TE) (σ : L2.St) (H1 : Hp) (Q : VK) : Prop := ∃ a, x = .ref a ∧ IsD H1 a ∧ ty σ H1 fun y H2 => tx σ H2 fun z H3 => ∃ o, DGet H3 a y o ∧ Q (o.getD z) H3
theorem rd_getD0 (h : td σ H fun x H1 => rGetD x ty tx σ H1 Q) : tDGet2 td ty tx σ H Q := h
def rGetD2 (a : Addr) (y z : V) (H3 : Hp) (Q : VK) : Prop := ∃ o, DGet H3 a y o ∧ Q (o.getD z) H3
theorem rd_getD {a : Addr} {kvs : List (Key × V)} (e : Rd H a (.dK kvs)) (h : ty σ H fun y H2 => tx σ H2 fun z H3 => rGetD2 a y z H3 Q) : rGetD (.ref a) ty tx σ H Q := ⟨a, rfl, .inl ⟨kvs, e⟩, h⟩
theorem rd_getD2 {a : Addr} {ls : List (Int × Int)} {k w z : Int} (e : Rd H a (.dK (dI ls))) (l : (valV (dI ls) (Sum.inl k)).getD (.int z) = .int w) (h : Q (.int w) H) : rGetD2 a (.int k) (.int z) H Q := ⟨_, .inl ⟨_, Sum.inl k, e, rfl, rfl⟩, by rw [l]; exact h⟩
theorem rd_dinI {a : Addr} {ls : List (Int × Int)} {k : Int} (e : H a = some (.dK (dI ls))) (h : Q (.bl (valV (dI ls) (Sum.inl k)).isSome) H) : rDIn (.int k) (.ref a) H Q := ⟨a, _, rfl, DGet.k (k := Sum.inl k) e, h⟩
end
/-! ### truth of one of two classes of evidence -/
end Sl
namespace L2
open PySem PySem.Spec PyProof.Rows
section
variable {X : Cx} {k k2 j : Nat} {C D : Addr} {sp sp2 : Sp} {dvs dvs2 : List V} {a : Expr} {ta : TE}
def tTruO2 (C D : Addr) (sp sp2 : Sp) (dvs dvs2 : List V) (ta : TE) : TT := fun σ H Q => ta σ H fun x H1 => ∃ a dx fs, x = .ref a ∧ ((H1 a = some (.ins C dx fs) ∧ sp ([.ref a] ++ dvs) H1 (fun v H2 => ∃ b, v = .bl b ∧ Q b H2) C8.E0) ∨ (H1 a = some (.ins D dx fs) ∧ sp2 ([.ref a] ++ dvs2) H1 (fun v H2 => ∃ b, v = .bl b ∧ Q b H2) C8.E0))
theorem pt_own2 (c : C8.Met X.prog X.w X.K X.mg X.base k C "__bool__" sp dvs) (c2 : C8.Met X.prog X.w X.K X.mg X.base k2 D "__bool__" sp2 dvs2) (hr : Room j X.A) (hk : k ≤ j) (hk2 : k2 ≤ j) (ha : PE X a ta) (he : ∀ whole, isTrue a X.env whole = (do let v ← whole; standAt a.pos; holding [v] (truthy v)) := by intro _; rfl) : PT X a (tTruO2 C D sp sp2 dvs dvs2 ta) := by
  refine ⟨fun pins s σ H Q I h => isTrue_plain (thn (ha.run pins s σ H _ I h) fun v s1 z => ?_) (he _)⟩
  obtain ⟨x, H1, I1, rx, o, dx, fs, rfl, z⟩ := z
  obtain rfl : v = Value.ref o := rx
  obtain ⟨m, F0⟩ := I1.fr
  rcases z with ⟨e, q⟩ | ⟨e, q⟩
  · obtain ⟨f, fd, ps, ds, cl, hm, F, bd, d⟩ := c.ex
    obtain ⟨mA, O, _, _, _, _⟩ := ins_get I1.hok e
    obtain ⟨od, J, _⟩ := O.look
    refine PySem.W.truthy_K F0 I1.ok.mod.kin J hm.at_ hm.fn (wpAny_mono (run_fn (us := [.ref o]) (vs := [.ref o]) F (hr.mono hk) bd d C8.pass0 I1 (.cons rfl .nil) q) (fun v s2 y => ?_) fun _ _ y => y)
    obtain ⟨x2, H2, I2, rx2, b, rfl, q2⟩ := y
    obtain rfl : v = Value.bool b := rx2
    exact ⟨H2, I2, q2⟩
  · obtain ⟨f, fd, ps, ds, cl, hm, F, bd, d⟩ := c2.ex
    obtain ⟨mA, O, _, _, _, _⟩ := ins_get I1.hok e
    obtain ⟨od, J, _⟩ := O.look
    refine PySem.W.truthy_K F0 I1.ok.mod.kin J hm.at_ hm.fn (wpAny_mono (run_fn (us := [.ref o]) (vs := [.ref o]) F (hr.mono hk2) bd d C8.pass0 I1 (.cons rfl .nil) q) (fun v s2 y => ?_) fun _ _ y => y)
    obtain ⟨x2, H2, I2, rx2, b, rfl, q2⟩ := y
    obtain rfl : v = Value.bool b := rx2
    exact ⟨H2, I2, q2⟩
end
end L2
namespace Sl
open PySem L2 C8 StX
section
variable {σ : L2.St} {H : Hp} {QB : Bool → Hp → Prop} {C D : Addr} {sp sp2 : Sp} {dvs dvs2 : List V} {ta : TE}
def rTruO2 (C D : Addr) (sp sp2 : Sp) (dvs dvs2 : List V) (x : V) (H1 : Hp) (Q : Bool → Hp → Prop) : Prop := ∃ a dx fs, x = .ref a ∧ ((H1 a = some (.ins C dx fs) ∧ sp ([.ref a] ++ dvs) H1 (fun v H2 => ∃ b, v = .bl b ∧ Q b H2) C8.E0) ∨ (H1 a = some (.ins D dx fs) ∧ sp2 ([.ref a] ++ dvs2) H1 (fun v H2 => ∃ b, v = .bl b ∧ Q b H2) C8.E0))
theorem rd_truO20 (h : ta σ H fun x H1 => rTruO2 C D sp sp2 dvs dvs2 x H1 QB) : tTruO2 C D sp sp2 dvs dvs2 ta σ H QB := h
theorem rd_truO2a {a dx : Addr} {fs : List (Str × V)} (e : H a = some (.ins C dx fs)) (h : sp ([.ref a] ++ dvs) H (fun v H2 => ∃ b, v = .bl b ∧ QB b H2) C8.E0) : rTruO2 C D sp sp2 dvs dvs2 (.ref a) H QB := ⟨a, dx, fs, rfl, .inl ⟨e, h⟩⟩
theorem rd_truO2b {a dx : Addr} {fs : List (Str × V)} (e : H a = some (.ins D dx fs)) (h : sp2 ([.ref a] ++ dvs2) H (fun v H2 => ∃ b, v = .bl b ∧ QB b H2) C8.E0) : rTruO2 C D sp sp2 dvs dvs2 (.ref a) H QB := ⟨a, dx, fs, rfl, .inr ⟨e, h⟩⟩
end
end Sl
/-! ### walks over the keys of a dict as a statement; a list turned round -/
namespace Sl
open PySem L2 C8 StX
section
variable {σ : L2.St} {H : Hp} {g : TG} {tb : TS} {te : TE} {nx bk ct : L2.St → Hp → Prop} {rt : VK} {K : PySem.W.Frag} {Q : VK} {D : Ends} {t : TS}
theorem forR_keys {d : Addr} {o : Obj} {kvs : List (Key × V)} (Pv : Nat → L2.St → Hp → Prop) (hl : ∀ i σ H, Pv i σ H → H d = some (.frz o (.dK kvs))) (h0 : Pv 0 σ H) (hs : ∀ i k z σ H, kvs[i]? = some (k, z) → Pv i σ H → g (kV k) σ H fun σ2 H2 => tb ⟨Pv (i + 1), rt, nx, Pv (i + 1)⟩ σ2 H2) (hd : ∀ σ H, Pv kvs.length σ H → nx σ H) :
    ForR (Itk d o kvs) g tb ⟨nx, rt, bk, ct⟩ σ H := forR_gen _ kvs.length Pv h0 (fun i σ H hi p => ⟨hl i σ H p, hi⟩) (fun σ H p => ⟨hl _ σ H p, Nat.le_refl _⟩)
      (fun i σ H x H' hi p ⟨e1, k, v, e2, e3⟩ => by subst e1; subst e3; exact hs i k v σ _ e2 p) hd
theorem rd_lockS {d : Addr} {u : HO} (e : H d = some u) (m : Mut (some u)) (h : ∀ od HL, HL = upd H d (.frz od u) → HL d = some (.frz od u) → t ⟨fun σ' H' => H' d = some (.frz od u) ∧ nx σ' (upd H' d u), fun v H' => H' d = some (.frz od u) ∧ rt v (upd H' d u), fun σ' H' => H' d = some (.frz od u) ∧ bk σ' (upd H' d u), fun σ' H' => H' d = some (.frz od u) ∧ ct σ' (upd H' d u)⟩ σ HL) : tLock t ⟨nx, rt, bk, ct⟩ σ H :=
  ⟨d, u, e, m, fun od => h od _ rfl upd_same⟩
def rRevL (K : PySem.W.Frag) (x : V) (H : Hp) (Q : VK) : Prop := ∃ a xs, x = .ref a ∧ SqL K H a xs ∧ ∀ p, H p = none → Q (.ref p) (upd H p (.lst xs.reverse))
theorem rd_revL0 (h : te σ H fun x H1 => rRevL K x H1 Q) : tRevL K te σ H Q := h
theorem rd_revL {a : Addr} {xs : List V} (e : SqL K H a xs) (h : ∀ p H', H p = none → Same H H' → H' p = some (.lst xs.reverse) → Q (.ref p) H') : rRevL K (.ref a) H Q :=
  ⟨a, xs, rfl, e, fun p hp => h p _ hp (Same.new (Same.refl H) hp) upd_same⟩
end
end Sl
set_option Elab.async false
set_option linter.all false
set_option maxRecDepth 100000
set_option maxHeartbeats 4000000
set_option exponentiation.threshold 9000
namespace LamK
open PySem PySem.Spec PyProof.Rows L2 NdefX LamX
/-- a lambda: its words, the cells that it captured, its code object -/
structure LF where
  qual : Str
  params : Arguments
  body : Expr
  scope : Scope
  cl : List (Str × Addr)
  c : Addr
abbrev LF.obj (F : LF) (pm ctv : Value) : Obj := PySem.W.kla_obj "<lambda>" F.qual F.params F.body F.scope F.cl pm F.c ctv
/-- the object at f is the lambda F -/
def FnL (f : Addr) (F : LF) : HO := .ext fun h => ∃ (sl : Array (Option Value)) (pm ctv : Value), h.get? f = some ({ F.obj pm ctv with slots := sl } : Obj)
theorem fnL_ne {f : Addr} {F : LF} (ps : Array Value) : FnL f F ≠ .tbl ps := fun z => by
  unfold FnL at z
  cases z
theorem fnL_at {P : Program} {w : World} {H : Hp} {h : Heap} {f : Addr} {F : LF} (hok : HOk P w H h) (e : H f = some (FnL f F)) : ∃ (sl : Array (Option Value)) (pm ctv : Value), h.get? f = some ({ F.obj pm ctv with slots := sl } : Obj) := by
  obtain ⟨z, _, _⟩ := hok f _ e
  exact z
section
variable {X : Cx} {pins : List (Addr × Obj)} {σ : L2.St} {H : Hp} {s : Shared}
theorem inv_fnL {F : LF} {o : Obj} {t' : Nat} {pm ctv : Value} (I : Inv X pins σ H s) (ho : o = F.obj pm ctv) :
    Inv X pins σ (upd H s.heap.objs.size (FnL s.heap.objs.size F)) { s with heap := s.heap.push o, toks := t' } := by
  subst ho
  refine I.laid (a := s.heap.objs.size) (fun b u e => Heap.get?_push_of_some _ e) (Nat.le_refl _) ?_
  have e : (s.heap.push (F.obj pm ctv)).get? s.heap.objs.size = some (F.obj pm ctv) := Heap.get?_push_size _ rfl
  exact ⟨⟨_, pm, ctv, e⟩, ⟨_, e⟩, fun h1 h2 ⟨sl, p, t, z⟩ st => ⟨sl, p, t, st _ z⟩⟩
/-- the lambda's object is made: its code object is new, or found in the table -/
theorem lamL_make {T : List (Addr × Str)} {c P : Addr} {params : Arguments} {body : Expr} {scope : Scope} {pos : Pos} {E : Value → Shared → Prop} {Q : Value → Shared → Prop} (I : Inv X pins σ H s) (TB : TabB X.base X.mg c P) (hcode : X.env.code = .ref c)
    (hm : (P, X.env.qual ++ "<lambda>") ∈ T) (hu : ∀ p ∈ T, p.1 = P → p.2 = X.env.qual ++ "<lambda>") (hT : Tabs T H) (hdef : defaultsOf params X.env = ([], [])) (hfree : ∀ y ∈ scope.names, y.2 = .free → ∃ c, X.env.cells.lookup y.1 = some c)
    (h : ∀ (f c' : Addr) (H1 : Hp) (s' : Shared), Inv X pins σ H1 s' → ExtN H H1 → (∀ b, H1 b = Option.none → H b = Option.none) → Tabs T H1 → H f = none → H1 f = some (FnL f ⟨X.env.qual ++ "<lambda>", params, body, scope, cloFrom X.env.cells scope.names [], c'⟩) → H1 c' = some (CodeO c' (X.env.qual ++ "<lambda>")) → Q (.ref f) s') :
    wpAny (model X.prog X.w) X.A (eval (.Lambda params body scope pos) X.env) Q E s := by
  obtain ⟨ps, hP, ht, ha⟩ := hT _ hm
  refine PySem.W.kla_eval hdef ?_
  have bP : s.heap.BuiltinsAt X.mg P := TB.bm.keeps I.bk
  have hP' : s.heap.get? P = some { cls := .none, data := .fields ps } := I.hok P _ hP
  cases hc : codeAmong pos ps.toList with
  | none =>
    refine PySem.W.kla_makeFunction (mg := X.mg) (c := c) (P := P) (ps := ps) (closure_ok hfree) I.ok.glob (I.mod.glob.keeps I.bk) hcode (TB.code.keeps I.bk) hP' ht hc TB.gP bP fun c' ctv h' tk hx hge hlt hrec htb => ?_
    obtain ⟨c2, oc, vs, t, e2, hoc, hd, hv⟩ := hrec
    cases e2
    have nC : H c' = none := I.hok.fresh hge
    have I1 := inv_table (t' := tk) (more := #[rawInt pos.line, rawInt pos.col, .ref c']) (h' := h') I hP (fun b o hb e => hx b o hb e) htb hge ⟨oc, vs, t, hoc, hd, hv⟩
    have hE : ExtN H (upd (upd H P (.tbl (ps ++ #[rawInt pos.line, rawInt pos.col, .ref c']))) c' (CodeO c' (X.env.qual ++ "<lambda>"))) := fun b o e n => by
      rw [upd_ne (ne_of_none e nC), upd_ne (fun z => n ps (Option.some.inj (e.symm.trans (by rw [z]; exact hP))))]
      exact e
    have eL : (ps ++ #[rawInt pos.line, rawInt pos.col, .ref c']).toList = ps.toList ++ [rawInt pos.line, rawInt pos.col, .ref c'] := by simp
    have T1 : Tabs T (upd (upd H P (.tbl (ps ++ #[rawInt pos.line, rawInt pos.col, .ref c']))) c' (CodeO c' (X.env.qual ++ "<lambda>"))) := fun p hp => by
      by_cases hb : p.1 = P
      · rw [hu p hp hb, hb]
        refine ⟨_, by rw [upd_ne (ne_of_none hP nC), upd_same], by rw [eL]; exact PySem.TriplesOk_snoc _ _ _ _ ht, fun p' cv hcv => ?_⟩
        rw [eL] at hcv
        rcases among_app _ ht hcv with z | z
        · obtain ⟨c0, e1, e2⟩ := ha p' cv z
          exact ⟨c0, e1, hE _ _ e2 codeO_ne⟩
        · exact ⟨c', z, upd_same⟩
      · obtain ⟨ps', a1, a2, a3⟩ := hT p hp
        refine ⟨ps', by rw [upd_ne (ne_of_none a1 nC), upd_ne hb]; exact a1, a2, fun p' cv hcv => ?_⟩
        obtain ⟨c0, e1, e2⟩ := a3 p' cv hcv
        exact ⟨c0, e1, hE _ _ e2 codeO_ne⟩
    have nF := I1.hok.fresh (Nat.le_refl _)
    have I2 := inv_fnL (F := ⟨X.env.qual ++ "<lambda>", params, body, scope, cloFrom X.env.cells scope.names [], c'⟩) (t' := tk) (pm := (X.mg "__name__").getD .none) (ctv := ctv) I1 rfl
    refine h h'.objs.size c' _ _ I2 (fun b o e n => ?_) (fun b e => upd_none (upd_none (upd_none e))) (T1.ext fun b o e => ?_) (I.hok.fresh (Nat.le_trans hge (Nat.le_of_lt hlt))) upd_same ?_
    · have e1 := hE b o e n
      exact (upd_ne (ne_of_none e1 nF)).trans e1
    · exact (upd_ne (ne_of_none e nF)).trans e
    · exact (upd_ne (Nat.ne_of_lt hlt)).trans upd_same
  | some cv =>
    obtain ⟨c', e, hco⟩ := ha pos cv hc
    subst e
    refine PySem.W.kla_makeFunctionHit (mg := X.mg) (c := c) (P := P) (ps := ps) (closure_ok hfree) I.ok.glob (I.mod.glob.keeps I.bk) hcode (TB.code.keeps I.bk) hP' ht hc bP fun ctv h' tk hx hsz => ?_
    have I1 : Inv X pins σ H { s with heap := h', toks := tk } := I.kept hx
    have nF : H h'.objs.size = none := I1.hok.fresh (Nat.le_refl _)
    have I2 := inv_fnL (F := ⟨X.env.qual ++ "<lambda>", params, body, scope, cloFrom X.env.cells scope.names [], c'⟩) (t' := tk) (pm := (X.mg "__name__").getD .none) (ctv := ctv) I1 rfl
    refine h h'.objs.size c' _ _ I2 (fun b o e n => ?_) (fun b e => upd_none e) (hT.ext fun b o e => ?_) nF upd_same ?_
    · exact (upd_ne (ne_of_none e nF)).trans e
    · exact (upd_ne (ne_of_none e nF)).trans e
    · exact (upd_ne (ne_of_none hco nF)).trans hco
end
/-- the reading of a lambda: a new function -/
def tLamV (T : List (Addr × Str)) (mk : Addr → LF) : TE := fun σ H Q => Tabs T H ∧ ∀ (f c' : Addr) (H1 : Hp), ExtN H H1 → (∀ b, H1 b = Option.none → H b = Option.none) → Tabs T H1 → H f = none → H1 f = some (FnL f (mk c')) → H1 c' = some (CodeO c' (mk c').qual) → Q (.ref f) H1
theorem pe_lamV {X : Cx} {T : List (Addr × Str)} {c P : Addr} {params : Arguments} {body : Expr} {scope : Scope} {pos : Pos} (TB : TabB X.base X.mg c P) (hcode : X.env.code = .ref c) (hm : (P, X.env.qual ++ "<lambda>") ∈ T) (hu : ∀ p ∈ T, p.1 = P → p.2 = X.env.qual ++ "<lambda>")
    (hdef : defaultsOf params X.env = ([], [])) (hfree : ∀ y ∈ scope.names, y.2 = .free → X.env.scope.names.lookup y.1 = some .cell ∨ X.env.scope.names.lookup y.1 = some .free) :
    PE X (.Lambda params body scope pos) (tLamV T fun c' => ⟨X.env.qual ++ "<lambda>", params, body, scope, cloFrom X.env.cells scope.names [], c'⟩) := by
  refine ⟨fun pins s σ H Q I h => ?_⟩
  obtain ⟨hT, h⟩ := h
  have hfr : ∀ y ∈ scope.names, y.2 = .free → ∃ c, X.env.cells.lookup y.1 = some c := fun y hy e => (hfree y hy e).elim (fun z => I.ok.has _ (.inl z)) fun z => I.ok.has _ (.inr z)
  exact lamL_make I TB hcode hm hu hT hdef hfr fun f c' H1 s' I1 eN nn T1 f0 f1 c1 => ⟨.ref f, H1, I1, rfl, h f c' H1 eN nn T1 f0 f1 c1⟩
/-! ### sorted(xs, key=lambda x: (x[0], x[1])), the items lists of three ints -/
/-- what must be seen of the lambda -/
structure KeyF (F : LF) (x : Str) : Prop where
  body : ∃ p1 p2 p3 p4 p5 j1 j2 j3 p6 p7, F.body = .Tuple [.Subscript (.Name x p1) (.Constant (.int 0) j1 p2) p3, .Subscript (.Name x p4) (.Constant (.int 1) j2 p5) p6] j3 p7
  kind : F.scope.kind = .function
  co : F.scope.isCoroutine = false
  gen : F.scope.isGenerator = false
  loc : F.scope.names.lookup x = some .local
  nocell : ∀ y ∈ F.scope.names, y.2 ≠ .cell
  bind : ∀ (pm ctv u : Value), bindArgs (PySem.W.kla_fn "<lambda>" F.qual F.params F.body F.scope F.cl pm (.ref F.c) ctv) ⟨[u], []⟩ = pure [(x, u)]
  dbg : (x == ("__debug__" : Str)) = false
section
variable {prog : Program} {w : World} {A : Around} {s : Shared}
theorem key_call {F : LF} {x : Str} {f r : Addr} {sl : Array (Option Value)} {pm ctv : Value} {i j k : Int} {t1 t2 t3 : Tok} {n : Nat} {E : Value → Shared → Prop} (KF : KeyF F x) (hroom : A.depth < recursionLimit) (lim : s.heap.NoLimit)
    (ho : s.heap.get? f = some ({ F.obj pm ctv with slots := sl } : Obj)) (hcd : s.heap.CodeRec (.ref F.c) F.qual)
    (hr : s.heap.get? r = some { cls := .type "list", data := .seq #[.int i t1, .int j t2, .int k t3] n }) :
    wpAny (model prog w) A (call (.ref f) [.ref r]) (PySem.W.KeyPure (.tuple [.int i, .int j]) s) E s := by
  refine wpAny_call ?_
  refine PySem.W.kla_callFunE hroom ho rfl KF.co KF.gen rfl hcd ?_
  rw [KF.bind pm ctv (.ref r)]
  refine wpAny_pure (wpAny_newFunctionEnv KF.nocell (fun y hy => by rw [List.mem_singleton.mp hy]; exact KF.loc) (fun h₁ hns hsb => ⟨lim.fresh _ hsb, ?_⟩) KF.kind)
  have kp : ∀ b o, s.heap.get? b = some o → h₁.get? b = some o := fun b o e => hsb.extBut b o (Nat.ne_of_lt (Heap.lt_size e)) (Heap.get?_push_of_some _ e)
  have hr1 := kp _ _ hr
  refine PySem.W.kla_codeExpr ?_
  obtain ⟨p1, p2, p3, p4, p5, j1, j2, j3, p6, p7, eb⟩ := KF.body
  have eb : F.body = _ := eb
  show wpAny _ _ (eval F.body _) _ _ _
  rw [eb]
  refine wpAny_Tuple_spliced ?_
  have name : ∀ {A' : Around} {E' : Value → Shared → Prop} {Q' : Value → Shared → Prop} {tk : Nat} {pp : Pos}, Q' (.ref r) { s with heap := h₁, toks := tk } →
      wpAny (model prog w) A' (eval (.Name x pp) (PySem.W.envX F.qual F.scope s.heap.objs.size f (.ref F.c) F.cl)) Q' E' { s with heap := h₁, toks := tk } := fun hq =>
    wpAny_Name (wpAny_loadName_local KF.kind KF.loc hns (by simp) hq) KF.dbg
  have item : ∀ {A' : Around} {E' : Value → Shared → Prop} {Q' : Value → Shared → Prop} {tk : Nat} {pp pq pr : Pos} {jj : Nat} {m : Int} {v : Value}, 0 ≤ m → m < 2 ^ 63 → (#[.int i t1, .int j t2, .int k t3] : Array Value)[m.toNat]? = some v →
      (∀ tk', Q' v { s with heap := h₁, toks := tk' }) → wpAny (model prog w) A' (eval (.Subscript (.Name x pp) (.Constant (.int m) jj pq) pr) (PySem.W.envX F.qual F.scope s.heap.objs.size f (.ref F.c) F.cl)) Q' E' { s with heap := h₁, toks := tk } := fun h0 h1 hx hq =>
    Subscript_ (name (wpAny_Constant_int (item_listR (items := #[.int i t1, .int j t2, .int k t3]) ⟨_, hr1, rfl, n, rfl⟩ h0 h1 hx (hq _))))
  refine Calls.spliced_cons (item (by decide) (by decide) rfl fun tk1 => ?_)
  refine Calls.spliced_cons (item (by decide) (by decide) rfl fun tk2 => ?_)
  refine Calls.spliced_nil ⟨by show 2 ≤ sizeLine; decide, ?_⟩
  refine ⟨_, _, rfl, fun b o e => Heap.get?_push_of_some _ (kp b o e), ?_⟩
  refine .tuple (Heap.get?_push_size _ rfl) rfl rfl ?_
  exact .cons (.int _ _) (.cons (.int _ _) .nil)
end
/-- the order of the keys -/
abbrev leK (x y : Int × Int × Int) : Prop := x.1 < y.1 ∨ (x.1 = y.1 ∧ x.2.1 ≤ y.2.1)
def rSortL : List V → List V → Hp → VK → Prop := fun vs zs H Q => ∃ (a f : Addr) (F : LF) (x : Str) (rs : List Addr) (G : Addr → Int × Int × Int), vs = [.ref a] ∧ zs = [.ref f] ∧ KeyF F x ∧ H f = some (FnL f F) ∧ H F.c = some (CodeO F.c F.qual) ∧
  H a = some (.lst (rs.map V.ref)) ∧ (∀ r ∈ rs, H r = some (.lst [.int (G r).1, .int (G r).2.1, .int (G r).2.2])) ∧ rs.length ≤ 100000 ∧
  ∀ (p : Addr) (rs' : List Addr), rs'.Perm rs → rs'.Pairwise (fun x y => leK (G x) (G y)) → H p = none → Q (.ref p) (upd H p (.lst (rs'.map V.ref)))
theorem vals_refsB : ∀ {rs : List Addr} {us : List Value}, Vals (rs.map V.ref) us → us = rs.map Value.ref
  | [], _, .nil => rfl
  | _ :: rs, _, .cons h t => by
    have h : _ = Value.ref _ := h
    rw [h, vals_refsB t]
    rfl
theorem vals_refsF : ∀ bs : List Addr, Vals (bs.map V.ref) (bs.map Value.ref)
  | [] => .nil
  | _ :: r => .cons rfl (vals_refsF r)
theorem each_refs (rs : List Addr) : PySem.W.EachIs (fun (v : Value) (r : Addr) => v = .ref r) (rs.map Value.ref) rs := by
  induction rs with
  | nil => exact .nil
  | cons r rs ih => exact .cons rfl ih
theorem each_refs_eq : ∀ {vs : List Value} {rs : List Addr}, PySem.W.EachIs (fun (v : Value) (r : Addr) => v = .ref r) vs rs → vs = rs.map Value.ref
  | _, _, .nil => rfl
  | _, _, .cons h t => by rw [h, each_refs_eq t]; rfl
theorem cr_sortL {X : Cx} {k : Nat} (hr : Room (k + 1) X.A) : CallRK X (.builtin "sorted") [Str.ofString "key"] rSortL := by
  intro pins s σ H vs zs us ws Q I r rz h
  obtain ⟨a, f, F, x, rs, G, rfl, rfl, KF, hf, hc, ha, hrs, hlen, q⟩ := h
  obtain rfl := Vals.ref1 r
  obtain rfl := Vals.ref1 rz
  obtain ⟨hz, its, n, rv, hob⟩ := I.hok a _ ha
  have eits := vals_refsB rv
  subst eits
  obtain ⟨sl, pm, ctv, hfo⟩ := fnL_at I.hok hf
  have hcr := codeO_at I.hok hc
  have lim := I.nolimit
  have un := hr.units0
  have hl : s.heap.IsList a (rs.map Value.ref).toArray := ⟨_, hob, rfl, n, rfl⟩
  refine PySem.W.sorted_key_data (b := false) (β := Addr) (R := fun (v : Value) (r : Addr) => v = .ref r) (f := .ref f) (fun r => .tuple [.int (G r).1, .int (G r).2.1]) hl (each_refs rs) (PySem.W.AllAlike.of fun _ _ => by simp [PySem.W.alike, PySem.W.alikeAll]) (PySem.W.Sortable.tuples fun _ => ⟨_, _, rfl⟩)
    (by rw [sizeLine_eq]; omega) (fun r _ => ?_) (ksk_s1 _ _) (fun _ => ksk_l1 _ _) (fun _ => ksk_t1 _ _) (fun v r hv hm h tk kp => ?_) fun out c h' tk kp fr hD ho eo => ?_
  · have hd : (PyData.tuple [.int (G r).1, .int (G r).2.1]).depth = 1 := by simp [PyData.depth, PyData.depthAll]
    have := hr.units
    omega
  · subst hv
    obtain ⟨_, its2, n2, rv2, hr2⟩ := I.hok r _ (hrs r hm)
    cases rv2 with
    | cons h1 t1 =>
      cases t1 with
      | cons h2 t2 =>
        cases t2 with
        | cons h3 t3 =>
          cases t3
          obtain ⟨k1, rfl⟩ := h1
          obtain ⟨k2, rfl⟩ := h2
          obtain ⟨k3, rfl⟩ := h3
          obtain ⟨c2, oc, vs2, tq, g1, g2, g3, g4⟩ := hcr
          exact key_call (s := { s with heap := h, toks := tk }) KF hr.depth (lim.keeps kp) (kp _ _ hfo) ⟨c2, oc, vs2, tq, g1, kp _ _ g2, g3, g4⟩ (kp _ _ hr2)
  · rw [PySem.W.dataLe_ii (β := Addr) (fun r => (G r).1) (fun r => (G r).2.1)] at eo
    have e2 := each_refs_eq eo
    subst e2
    have hp : H (s.heap.objs.size + 1) = none := I.hok.fresh (Nat.le_succ _)
    generalize hrs' : rs.mergeSort (fun p q => decide ((G p).1 < (G q).1 ∨ (G p).1 = (G q).1 ∧ (G p).2.1 ≤ (G q).2.1)) = rs' at *
    have pm2 : rs'.Perm rs := by rw [← hrs']; exact List.mergeSort_perm _ _
    have pw : rs'.Pairwise (fun x y => leK (G x) (G y)) := by
      rw [← hrs']
      refine (List.pairwise_mergeSort (fun a b c h1 h2 => ?_) (fun a b => ?_) rs).imp fun h => of_decide_eq_true h
      · rw [decide_eq_true_iff] at h1 h2 ⊢
        omega
      · rw [Bool.or_eq_true, decide_eq_true_iff, decide_eq_true_iff]
        omega
    refine ⟨.ref (s.heap.objs.size + 1), upd H (s.heap.objs.size + 1) (.lst (rs'.map V.ref)), I.laid (t' := tk) (h' := h') kp (Nat.le_succ _) ⟨?_, rs'.map Value.ref, c, ?_, hD⟩, rfl, q _ rs' pm2 pw hp⟩
    · rw [List.length_map, pm2.length_eq, sizeLine_eq]
      omega
    · exact vals_refsF rs'
end LamK
set_option Elab.async false
set_option linter.all false
set_option maxRecDepth 100000
set_option maxHeartbeats 4000000
set_option exponentiation.threshold 9000
namespace BoolX
open PySem
open PySem.Sem (wp)
theorem bool_new_own {prog : Program} {w : World} (v : Value) : MeetsIn prog w (Builtin.«bool.__new__» ⟨[.type "bool", v], []⟩) (fun A R s => ∀ tk, wpAny (model prog w) A.in1 (truthy v) (fun b s1 => R (.ok (.ret (.bool b))) s1) (fun e s' => R (.error e) s') { s with toks := tk }) :=
  MeetsIn.of_wp fun A R s hs => by
    obtain ⟨hp, g, d, tk, os⟩ := s
    have f1 := F.conv_sub_bool
    repeat (any_goals (first | assumption | (with_reducible refine wpAny_bind (wpAny_mono (hs _) (fun b s1 hb => ?_) fun _ _ e => e)) | wp_step))
    all_goals first | exact ⟨_, rfl, hb⟩ | skip
end BoolX
namespace L2
open PySem PySem.Spec PyProof.Rows LamX
section
variable {X : Cx} {CX : CXT} {k j : Nat} {f C : Addr} {fd : FuncData} {ps : List Str} {sp : Sp} {dvs : List V} {ds : List Value} {E : XK}
theorem run_fn2 {pins : List (Addr × Obj)} {σ : St} {H : Hp} {s : Shared} {Q : VK} {us : List Value} {vs : List V} (F : FnOk X.prog X.w X.K X.mg X.base CX k f fd ps sp) (hr : Room (k + 2) X.A) (hb : Binds X.K fd ps ds) (hd : Vals dvs ds) (hx : Passes CX X E)
    (I : Inv X pins σ H s) (r : Vals vs us) (h : sp (vs ++ dvs) H Q E) : wpAny (model X.prog X.w) X.A.in1.in1 (call (.ref f) us) (EP X pins σ Q) X.xe s := by
  have r2 : Vals (vs ++ dvs) (us ++ ds) := r.append hd
  have hl : (us ++ ds).length = ps.length := by rw [← r2.length]; exact F.len _ _ _ _ h
  refine wpAny_call (codeAny_mono (F.run X.A.in1.in1 X.stack s H ⟨us, []⟩ (us ++ ds) (vs ++ dvs) Q E hr.in1.in1 I.env0.in1.in1 (hb s us I.kIn hl) r2 h) fun r s' hq => ?_)
  cases r with
  | error e => exact hx pins σ H s e s' I hq
  | ok fl =>
    cases fl with
    | ret u => exact I.after hq
    | next => exact False.elim hq
    | brk => exact False.elim hq
    | cont => exact False.elim hq
/-- bool(o), o of an own class with its own __bool__ -/
def rBoolO (C : Addr) (sp : Sp) (dvs : List V) : List V → Hp → VK → Prop := fun vs H Q => ∃ o dx fs, vs = [.ref o] ∧ H o = some (.ins C dx fs) ∧ sp ([.ref o] ++ dvs) H (fun v H' => ∃ b, v = .bl b ∧ Q (.bl b) H') C8.E0
theorem cr_boolO (c : C8.Met X.prog X.w X.K X.mg X.base k C "__bool__" sp dvs) (hr : Room j X.A) (hk : k + 2 ≤ j) : CallR X (.type "bool") (rBoolO C sp dvs) := by
  obtain ⟨f, fd, ps, ds, cl, hm, Fo, bd, d⟩ := c.ex
  intro pins s σ H vs us Q I r h
  obtain ⟨o, dx, fs, rfl, e, q⟩ := h
  obtain rfl := Vals.ref1 r
  obtain ⟨mA, O, _, _, _, _⟩ := ins_get I.hok e
  obtain ⟨od, J, _⟩ := O.look
  refine callType_newIn F.called_bool F.newNe_bool (F.typeCall_bool_1 _) (F.newCall_bool_1 _) (fun obj => F.args_object_init_2 obj _) F.entry_bool_new (BoolX.bool_new_own (.ref o)) fun tk => ?_
  have I1 : Inv X pins σ H { s with toks := tk } := I.tok _
  obtain ⟨m, F0⟩ := I1.fr
  refine PySem.W.truthy_K F0 I1.ok.mod.kin J hm.at_ hm.fn (wpAny_mono (run_fn2 (us := [.ref o]) (vs := [.ref o]) Fo (hr.mono hk) bd d C8.pass0 I1 (.cons rfl .nil) q) (fun v s2 y => ?_) fun _ _ y => y)
  obtain ⟨x2, H2, I2, rx2, b, rfl, q2⟩ := y
  obtain rfl : v = Value.bool b := rx2
  exact ⟨by first | rfl | trivial | (unfold Shared.TypeIs; rfl) | simp [Shared.TypeIs], ⟨.bl b, H2, I2, rfl, q2⟩⟩
/-- xs[i] of a list, for xs[i] op= e -/
def rGetL : V → V → Hp → VK → Prop := fun x y H Q => ∃ (p : Addr) (xs : List V) (i : Nat) (v : V), x = .ref p ∧ y = .int (i : Int) ∧ H p = some (.lst xs) ∧ i < 1000000 ∧ xs[i]? = some v ∧ Q v H
theorem get_listL : PGet X rGetL := by
  intro pins s σ H x y v u Q I rx ry h
  obtain ⟨p, xs, i, z, rfl, rfl, hp, hi, he, q⟩ := h
  cases rx
  obtain ⟨t, rfl⟩ := ry
  obtain ⟨its, n, r, ho, hz⟩ := I.lst hp
  obtain ⟨w, ew, rw'⟩ := r.get he
  exact wpAny_getItem_list (items := its.toArray) (x := w) ⟨_, ho, rfl, n, rfl⟩ (by omega) (by omega) (by simpa using ew) ⟨z, H, I, rw', q⟩
/-- one of two readings -/
theorem pe_alt {e : Expr} {t u : TE} (h1 : PE X e t) (h2 : PE X e u) : PE X e (fun σ H Q => t σ H Q ∨ u σ H Q) := ⟨fun pins s σ H Q I h => h.elim (h1.run pins s σ H Q I) (h2.run pins s σ H Q I)⟩
theorem cr_alt {f : Value} {r q : List V → Hp → VK → Prop} (h1 : CallR X f r) (h2 : CallR X f q) : CallR X f (fun vs H Q => r vs H Q ∨ q vs H Q) := fun pins s σ H vs us Q I rv h => h.elim (h1 pins s σ H vs us Q I rv) (h2 pins s σ H vs us Q I rv)
end
/-- a lambda's name -/
abbrev qL (x : Str) : Str := x ++ ".<locals>." ++ "<lambda>"
section
variable {P : Program} {w : World} {K : PySem.W.Frag} {mg : Str → Option Value} {base : Heap}
open C8
/-- a def that makes lambdas: its code object is known -/
theorem fnL0 {x qual : Str} {st : Stmt} {f c : Addr} {fd : FuncData} {N ps : List Str} {k : Nat} {sp : Sp} (F : C8.Fun K x qual st f fd) (hc : fd.code = .ref c) (S : FnScope N ps (C8.fnScope st)) (len : ∀ vs H Q E, sp vs H Q E → vs.length = ps.length)
    (hbody : ∀ (A : Around) (outer : List Env) (s : Shared) (H : Hp) (vs : List V) (Q : VK) (E : XK), Room k (A.deeper (envOfC qual (C8.fnScope st) s.heap.objs.size f (.ref c))) → sp vs H Q E →
      ∃ t, PSs (cxOf CX0 P w K mg base N qual (C8.fnScope st) f (.ref c) A outer s H E).nox (C8.fnBody st) t ∧ t { nx := fun _ H' => Q .non H', rt := Q } (start N vs) H) : FnOk P w K mg base CX0 (k + 1) f fd ps sp := by
  obtain ⟨oc, od, dV, kV, doc, pm, an, cdv, ct, osl, rfl, lk, hcd⟩ := F.ex
  have e : cdv = .ref c := hc
  subst e
  refine fn_of lk hcd S len fun A outer s H vs Q E hr hsp => ?_
  obtain ⟨t, h, q⟩ := hbody A outer s H vs Q E hr hsp
  exact ⟨t, h.nox, q⟩
theorem calL0 {x : Str} {st : Stmt} {f c : Addr} {fd : FuncData} {N ps : List Str} {ds : List Value} {dvs : List V} {k : Nat} {sp : Sp} (F : C8.Def K mg x st f fd) (hc : fd.code = .ref c) (b : Binds K fd ps ds) (d : Vals dvs ds) (S : FnScope N ps (C8.fnScope st)) (len : ∀ vs H Q E, sp vs H Q E → vs.length = ps.length)
    (hbody : ∀ (A : Around) (outer : List Env) (s : Shared) (H : Hp) (vs : List V) (Q : VK) (E : XK), Room k (A.deeper (envOfC x (C8.fnScope st) s.heap.objs.size f (.ref c))) → sp vs H Q E →
      ∃ t, PSs (cxOf CX0 P w K mg base N x (C8.fnScope st) f (.ref c) A outer s H E).nox (C8.fnBody st) t ∧ t { nx := fun _ H' => Q .non H', rt := Q } (start N vs) H) : Cal P w K mg base (k + 1) x sp dvs :=
  ⟨f, fd, ps, ds, fnL0 F.fn hc S len hbody, F.mgf, F.kp, b, d⟩
end
end L2
namespace Sl
open PySem L2 C8 LamX
/-- the facts of a def that makes lambdas -/
structure TabK (K : PySem.W.Frag) (x : Str) (Lc Lp : Addr) : Prop where
  tab : PySem.W.tabIn K x = some (Lc, Lp)
  nT : K.lookup Lp = none
theorem tabk {K : PySem.W.Frag} {x : Str} {Lc Lp : Addr} (h1 : PySem.W.tabIn K x = some (Lc, Lp)) (h2 : (K.lookup Lp).isNone = true) : TabK K x Lc Lp := ⟨h1, Option.isNone_iff_eq_none.mp h2⟩
theorem tab_get {o : Option (Addr × Addr)} (h : o.isSome = true) : o = some ((o.get h).1, (o.get h).2) := (Option.some_get h).symm
theorem tcmk {K : PySem.W.Frag} {h : Heap} {mg : Str → Option Value} {x : Str} {st : Stmt} {Lc Lp : Addr} (X : K.In h) (G : h.Ns mainGlobals mg) (t : TabK K x Lc Lp) : ∀ f fd, C8.Def K mg x st f fd → fd.code = .ref Lc := fun f fd D => by
  obtain ⟨oc, od, dV, kV, doc, pm, an, cdv, ct, osl, e, lk, hcd⟩ := D.fn.ex
  exact PySem.W.law_code X G t.tab D.mgf (X _ _ lk) rfl
end Sl
namespace LamX
open PySem PySem.Spec PyProof.Rows L2
/-- walk_ofTs, the top's facts handed on -/
theorem walk_ofTT {l : PySem.W.OpenLaw} {n k : Nat} {q : Program} {loose : List Str} {XP : (Str → Option Value) → Heap → Prop} {YP : World → Heap → Prop} {d : DefRec} {K : Params → PySem.W.Frag} {CX : World → CXT} {x : Str}
    (hn : l.most = some n) (hn2 : n ≤ sizeLine) (hdf : d.params.defaults = []) (hr : Room k callerA) (hY : ∀ (w : World) (h : Heap), YP w h → (K w.params).In h)
    (F : ∀ (w : World) (mg : Str → Option Value) (fa : Addr) (h : Heap) (tb : ∀ (x : Str) (c P : Addr), ((recsOf q).find? (fun e => e.name == x)).isSome = true → PySem.W.tabIn (K w.params) x = some (c, P) → PySem.W.CodeHd h c P ∧ h.get? P = some (PySem.W.tabObj #[])), (K w.params).In h → h.Ns mainGlobals mg → mg d.name = some (.ref fa) → LawAtS l w (K w.params) (CX w) k n x mg fa h)
    (hCX : ∀ (w : World) (H : Hp) (s : Shared) (e : Value) (s' : Shared), CX w [] H s (fun _ _ _ => False) e s' → False) :
    PySem.W.WalkO q loose XP YP l.row.toRowW d [] (fun f vs => PySem.call f vs) := by
  refine Att.attach_callB hn hdf fun w s₀ s₁ mg mb fa o pm cd doc a vs ns G Y ho hd hcd hmg hobj hints hlen hbits hg => ?_
  have KX := hY w _ Y
  obtain ⟨fd, cs, sp, hT, nT, C, hb, hsp, hF⟩ := F w mg fa _ (fun x c P hs ht => by
    obtain ⟨d', hd'⟩ := Option.isSome_iff_exists.mp hs
    exact PySem.W.tab_of G.T KX hd' ht) KX G.T.g hmg
  exact law_callTs KX G.T.g G.T.b G.T.builtins G.T.nolimit hg hT nT C G.T.bmain hobj hints (Nat.le_trans hlen hn2) hr hF hb (fun H hH hS => hsp H a ns hlen hbits hH hS) fun H e s' => hCX w H s₁ e s'
end LamX
namespace Sl
open PySem L2 C8 StX LamX LamK
section
variable {σ : L2.St} {H H' : Hp} {Q : VK} {te ta tb : TE} {t tk : TA} {K : PySem.W.Frag} {QS : L2.St → Hp → Prop} {x y v : V}
theorem rd_cKw {r : List V → List V → Hp → VK → Prop} (h : t σ H fun vs H1 => tk σ H1 fun zs H2 => r vs zs H2 Q) : tCKw r t tk σ H Q := h
theorem rd_lamV {T : List (Addr × Str)} {mk : Addr → LF} (hT : Tabs T H) (h : ∀ (f c' : Addr) (H1 : Hp), ExtN H H1 → (∀ b, H1 b = Option.none → H b = Option.none) → Tabs T H1 → H f = none → H1 f = some (FnL f (mk c')) → H1 c' = some (CodeO c' (mk c').qual) → Q (.ref f) H1) : tLamV T mk σ H Q := ⟨hT, h⟩
theorem rd_gunl {n : Nat} {tg : TGs} {a : Addr} {xs : List V} (e : H a = some (.lst xs)) (l : xs.length = n) (h : tg xs σ H QS) : gUnl K n tg (.ref a) σ H QS := ⟨a, xs, rfl, SqL.of e, l, h⟩
theorem rd_getL {p : Addr} {xs : List V} {i : Nat} (e : H p = some (.lst xs)) (hi : i < 1000000) (n : xs[i]? = some v) (h : Q v H) : rGetL (.ref p) (.int (i : Int)) H Q := ⟨p, xs, i, v, rfl, rfl, e, hi, n, h⟩
theorem rd_setL {p : Addr} {xs : List V} {i : Int} {j : Nat} {QH : Hp → Prop} (e : H p = some (.lst xs)) (hj : ixN xs.length i = some j) (h : ∀ H', H' = upd H p (.lst (xs.set j v)) → H' p = some (.lst (xs.set j v)) → QH H') : rSetL (.ref p) (.int i) v H QH := ⟨p, xs, i, j, rfl, rfl, e, hj, h _ rfl upd_same⟩
theorem rd_boolO {C o dx : Addr} {fs : List (Str × V)} {sp : Sp} {dvs : List V} (e : H o = some (.ins C dx fs)) (h : sp ([.ref o] ++ dvs) H (fun v H' => ∃ b, v = .bl b ∧ Q (.bl b) H') C8.E0) : rBoolO C sp dvs [.ref o] H Q := ⟨o, dx, fs, rfl, e, h⟩
theorem rd_sortLK {a f : Addr} {F : LF} {x : Str} {rs : List Addr} {G : Addr → Int × Int × Int} (KF : KeyF F x) (hf : H f = some (FnL f F)) (hc : H F.c = some (CodeO F.c F.qual)) (ha : H a = some (.lst (rs.map V.ref))) (hr : ∀ r ∈ rs, H r = some (.lst [.int (G r).1, .int (G r).2.1, .int (G r).2.2])) (hl : rs.length ≤ 100000)
    (h : ∀ (p : Addr) (rs' : List Addr) H', rs'.Perm rs → rs'.Pairwise (fun x y => leK (G x) (G y)) → H p = none → Same H H' → H' p = some (.lst (rs'.map V.ref)) → Q (.ref p) H') : rSortL [.ref a] [.ref f] H Q :=
  ⟨a, f, F, x, rs, G, rfl, rfl, KF, hf, hc, ha, hr, hl, fun p rs' p1 p2 hp => h p rs' _ p1 p2 hp (Same.new (Same.refl H) hp) upd_same⟩
end
/-! ### heaps without their tables -/
def nT (H : Hp) : Hp := fun a => match H a with
  | some (.tbl _) => none
  | o => o
theorem nT_of {H : Hp} {a : Addr} {o : HO} (e : H a = some o) (n : ∀ ps, o ≠ .tbl ps) : nT H a = some o := by
  unfold nT
  rw [e]
  cases o <;> first | rfl | exact absurd rfl (n _)
theorem nT_in {H : Hp} {a : Addr} {o : HO} (e : nT H a = some o) : H a = some o ∧ ∀ ps, o ≠ .tbl ps := by
  unfold nT at e
  cases q : H a with
  | none => rw [q] at e; cases e
  | some u =>
    rw [q] at e
    cases u <;> first | (cases e; exact ⟨rfl, fun ps z => by cases z⟩) | cases e
theorem nT_none {H : Hp} {a : Addr} (e : H a = none) : nT H a = none := by
  unfold nT
  rw [e]
theorem extN_same {H H' : Hp} (e : ExtN H H') : Same (nT H) H' := fun a o h => e a o (nT_in h).1 (nT_in h).2
theorem same_extN {H H' : Hp} (s : Same (nT H) H') : ExtN H H' := fun a o h n => s a o (nT_of h n)
mutual
theorem Dt.nT {H : Hp} : ∀ {v : V} {d : PyData}, Dt H v d → Dt (nT H) v d
  | _, _, .non => .non
  | _, _, .bl b => .bl b
  | _, _, .int i => .int i
  | _, _, .str x => .str x
  | _, _, .lst e h => .lst (nT_of e (fun _ z => by cases z)) (DtAll.nT h)
  | _, _, .tup e h => .tup (nT_of e (fun _ z => by cases z)) (DtAll.nT h)
theorem DtAll.nT {H : Hp} : ∀ {vs : List V} {ds : List PyData}, DtAll H vs ds → DtAll (nT H) vs ds
  | _, _, .nil => .nil
  | _, _, .cons h t => .cons (Dt.nT h) (DtAll.nT t)
end
theorem SqL.nT {K : PySem.W.Frag} {H : Hp} {a : Addr} {xs : List V} (h : SqL K H a xs) : SqL K (nT H) a xs := by
  rcases h with h | h
  · left
    rcases h with h | ⟨o, h⟩
    · exact .inl (nT_of h (fun _ z => by cases z))
    · exact .inr ⟨o, nT_of h (fun _ z => by cases z)⟩
  · exact .inr h
end Sl
set_option Elab.async false
set_option linter.all false
set_option maxRecDepth 100000
set_option maxHeartbeats 2000000
namespace L2
open PySem PySem.Spec PyProof.Rows
/-! ### enumerate(t) of a tuple -/
abbrev enO (it : Addr) : Obj := { cls := .type "enumerate", data := .fields #[.none, .bool false, .ref it, rawInt 0, .none, .none] }
theorem enum_new1 {v : Value} {o ob : Obj} {a : Addr} {I : Heap → Prop} (B : Begins v o I) (hv : v = .ref a) (hc : ob.cls = .type "tuple") : Meets (Builtin.«enumerate.__new__» ⟨[.type "enumerate", v], []⟩) (fun _ R s => (s.heap.get? a = some ob ∧ I s.heap) ∧
    R (.ok (.ret (.ref (s.heap.push o).objs.size))) { s with heap := (s.heap.push o).push (enO s.heap.objs.size) }) :=
  .of_wp fun prog w A R s h => by
    obtain ⟨hp, g, d, tk, os⟩ := s
    obtain ⟨⟨hl, h1⟩, h2⟩ := h
    subst hv
    have hs := PySem.sub_enumerate
    have it0 : ∀ {A' : Around} {E Q : Value → Shared → Prop}, Q (.ref hp.objs.size) ⟨hp.push o, g, d, tk, os⟩ → wpAny (model prog w) A' (pyIter (.ref a)) Q E ⟨hp, g, d, tk, os⟩ := fun q => B.iter prog w _ _ ⟨hp, g, d, tk, os⟩ _ h1 q
    wp_walk using wpAny_loadPart' hl, it0
    refine (wpAny_stack_any fun st => (wpAny_pure ?_))
    split
    · rename_i c _ _ _ _ _
      cases (c == Value.type "enumerate") <;> (wp_walk using wpAny_loadPart' hl, it0; exact ⟨_, rfl, h2⟩)
    · wp_walk using wpAny_loadPart' hl, it0
      exact ⟨_, rfl, h2⟩
section
variable {prog : Program} {w : World} {A : Around} {E : Value → Shared → Prop} {s : Shared}
theorem call_enumT {a : Addr} {items : Array Value} {Q : Value → Shared → Prop} (ht : s.heap.IsTuple a items)
    (h : ∀ h', IsEnum h' (s.heap.objs.size + 1) s.heap.objs.size 0 .none → h'.IsTupleIter s.heap.objs.size a 0 → (∀ b o, s.heap.get? b = some o → h'.get? b = some o) → Q (.ref (s.heap.objs.size + 1)) { s with heap := h' }) :
    wpAny (model prog w) A (call (.type "enumerate") [.ref a]) Q E s := by
  obtain ⟨ob, ho, hc, hd⟩ := id ht
  have two : (s.heap.push { cls := .type "tuple_iterator", data := .fields #[.ref a, .int 0 0] }).objs.size = s.heap.objs.size + 1 := Heap.size_push ..
  have M := enum_new1 (begins_tuple a items) rfl hc
  refine callType_new PySem.F.called_enumerate (by decide) (PySem.F.typeCall_enumerate_1 _) (PySem.F.newCall_enumerate_1 _) (fun obj => PySem.F.args_object_init_2 obj _) PySem.F.entry_enumerate_new M ⟨⟨ho, ht⟩, ?_⟩
  show _ ∧ _
  rw [two]
  have he : IsEnum ((s.heap.push { cls := .type "tuple_iterator", data := .fields #[.ref a, .int 0 0] }).push (enO s.heap.objs.size)) (s.heap.objs.size + 1) s.heap.objs.size 0 .none := by
    have q := Heap.get?_push_size (s.heap.push { cls := .type "tuple_iterator", data := .fields #[.ref a, .int 0 0] }) (o := enO s.heap.objs.size) rfl
    rw [two] at q
    exact q
  exact ⟨⟨_, he, rfl⟩, h _ he ⟨_, Heap.get?_push_of_some _ (Heap.get?_push_size _ rfl), rfl, rfl⟩ fun b o x => Heap.get?_push_of_some _ (Heap.get?_push_of_some _ x)⟩
end
theorem next_enumT_end {prog : Program} {w : World} {A : Around} {E : Value → Shared → Prop} {s : Shared} {e it a : Addr} {i : Nat} {c : Int} {items : Array Value} {old : Value} {Q : Option Value → Shared → Prop} (hh : A.handled = none)
    (he : IsEnum s.heap e it c old) (hit : s.heap.IsTupleIter it a i) (ht : s.heap.IsTuple a items) (hi : items.size ≤ i)
    (hQ : ∀ h', Heap.ExtBut it s.heap h' → Q none { s with heap := h' }) : wpAny (model prog w) A (pyNext (.ref e)) Q E s := by
  have hT : s.TypeIs (.ref e) "enumerate" := ⟨_, he, rfl⟩
  unfold pyNext
  refine wpAny_bind (wpAny_attempt (wpAny_callSpecial?_slot (name := Str.ofString "__next__") hT F.slot_enumerate_next
    (wpAny_call_entry F.slot_enumerate_next hT F.entry_enumerate_next ?_ (F.args_enumerate_next_1 _))))
  show wpAny _ _ (field (.ref e) 2 >>= _) _ _ _
  refine wpAny_bind (wpAny_field he rfl (x := .ref it) rfl ?_)
  refine wpAny_bind (wpAny_nextOf_tuple_end (A := A.in1) hh hit ht (by simp [hi]) fun h' x he' hx' => ?_)
  obtain ⟨o, ho, hc⟩ := hx'
  refine wpAny_bind (wpAny_isInstance (T := "StopIteration") (b := true) ⟨o, ho, hc⟩ isSubtype_stop ?_)
  exact wpAny_pure (hQ _ he')
/-- the tuple at a as it stands at each turn, each item in a new pair -/
def IteT (K : PySem.W.Frag) (a : Addr) : It :=
  ⟨fun i H => ∃ (xs : List V) (x : V), SqT K H a xs ∧ xs[i]? = some x, fun i H v H' => ∃ T x, v = .ref T ∧ H T = none ∧ H' = upd H T (.tup [.int (i : Nat), x]) ∧ ∀ xs, SqT K H a xs → xs[i]? = some x, fun i H => ∃ xs : List V, SqT K H a xs ∧ xs.length ≤ i⟩
theorem apart_cls {h : Heap} {a b : Addr} {o u : Obj} (ha : h.get? a = some o) (hb : h.get? b = some u) (hn : o.cls ≠ u.cls) : a ≠ b := fun z => by
  rw [z, hb] at ha
  exact hn (by rw [Option.some.inj ha])
theorem turn_enumT {P : Program} {w : World} {K : PySem.W.Frag} {elts : List Expr} {kk : Nat} {tpos : Pos} (a e it : Addr) :
    Turn P w K (.Tuple elts kk tpos) (IteT K a) [e, it] e (fun i h => (∃ old, IsEnum h e it ((i : Nat) : Int) old) ∧ h.IsTupleIter it a i ∧ e ≠ it) where
  mem := by simp
  obj := fun i h st b hb => by
    obtain ⟨⟨old, he⟩, ⟨o, ho, hc, hd⟩, _⟩ := st
    rcases (show b = e ∨ b = it by simpa using hb) with rfl | rfl
    · exact ⟨_, he, fun v q => nomatch q⟩
    · exact ⟨o, ho, fun v q => by rw [hd] at q; cases q⟩
  keep := fun i h h' st k => let ⟨⟨old, he⟩, hi, hne⟩ := st; ⟨⟨old, k e (by simp) _ he⟩, hi.at fun o q => k it (by simp) o q, hne⟩
  item := by
    intro X hP hw hK hc i pins s σ H E I hf st hg
    subst hP hw hK
    obtain ⟨⟨old, he⟩, hit, hne⟩ := st
    obtain ⟨xs, x, hq, hx⟩ := hg
    obtain ⟨its, rv, p, hz⟩ := I.tuple hq
    obtain ⟨u, hu, ru⟩ := rv.get hx
    have hp : s.heap.IsTuple a its.toArray := p
    obtain ⟨op, gp, cp, _⟩ := id hp
    obtain ⟨oi, gi, ci, _⟩ := id hit
    have hai : a ≠ it := apart_cls gp gi (by rw [cp, ci]; decide)
    have hea : e ≠ a := apart_cls he gp (by rw [cp]; show Value.type "enumerate" ≠ Value.type "tuple"; decide)
    have hlt : i < its.toArray.size := by
      have := (List.getElem?_eq_some_iff.mp hu).1
      simpa using this
    have hel : e < s.heap.objs.size := Heap.lt_size he
    refine wpAny_pyNext_enum_itemD (Draws.tuple (A := X.A.in1) (I.ok.hd hc) it a hai its.toArray) he ⟨hit, hp⟩ hlt hne (by simp [hne, hea]) fun u2 h' tk hu2 ho st2 hT hsz hk => ?_
    have hu2' : u2 = u := by
      have q : its.toArray[i]? = some u := by simpa using hu
      rw [q] at hu2
      exact (Option.some.inj hu2).symm
    subst hu2'
    refine ⟨_, rfl, (wpAny_letOwnedTupleGo_enum (s := { s with heap := h', toks := tk + 1 }) ho fun h'' he' sb => ?_)⟩
    have hT2 : h''.get? s.heap.objs.size = some { cls := .type "tuple", data := .seq #[.int i tk, u2] } := (sb.2 _ (Nat.ne_of_gt hel)).trans hT
    have new : ObjOk X.prog X.w (upd H s.heap.objs.size (.tup [.int (i : Nat), x])) h'' s.heap.objs.size (.tup [.int (i : Nat), x]) :=
      ⟨(show 2 ≤ sizeLine by decide), [.int i tk, u2], .cons ⟨tk, rfl⟩ (.cons ru .nil), ⟨_, hT2, rfl, _, rfl⟩⟩
    have I1 : Inv X pins σ (upd H s.heap.objs.size (.tup [.int (i : Nat), x])) { s with heap := h'', toks := tk + 1 } :=
      I.turnedNew (ch := [e, it]) (fun b ob hb q => (sb.2 b fun z => hb (by simp [z])).trans (hk b ob (fun z => hb (by simp [z])) (fun z => hb (by simp [z])) q)) hf (Nat.le_refl _) new
    refine ⟨.ref s.heap.objs.size, _, I1, rfl, ⟨_, x, rfl, I.hok.fresh (Nat.le_refl _), rfl, fun ys hy => by rw [I.tuple_inj hy hq]; exact hx⟩, ⟨⟨u2, ?_⟩, st2.1.at fun o q => (sb.2 it hne.symm).trans q, hne⟩, fun b hb => ?_⟩
    · rw [show ((i + 1 : Nat) : Int) = (i : Int) + 1 by omega]
      exact he'
    · have hb' : b < s.heap.objs.size := by
        rcases (show b = e ∨ b = it by simpa using hb) with z | z
        · rw [z]; exact hel
        · rw [z]; exact Heap.lt_size gi
      rw [upd_ne (Nat.ne_of_lt hb')]
      exact (hf b hb).1
  done := by
    intro X hP hw hK hc i pins s σ H E I hf st hg
    subst hP hw hK
    obtain ⟨⟨old, he⟩, hit, hne⟩ := st
    obtain ⟨xs, hq, hx⟩ := hg
    obtain ⟨its, rv, p, hz⟩ := I.tuple hq
    obtain ⟨f0, f1, f2, f3, f4, f5⟩ := hf it (by simp)
    have hl := rv.length
    have hp : s.heap.IsTuple a its.toArray := p
    refine next_enumT_end (I.ok.hd hc) he hit hp (by simp; omega) fun h' eb => ⟨rfl, I.turned (t' := s.toks) (fun b o hb q => eb b o hb q) f0 f1 f3 f4 f5⟩
  self := fun A i s Q E st h => let ⟨⟨_, he⟩, _⟩ := st; wpAny_pyIter_enum he h
def iEnumT (K : PySem.W.Frag) (ta : TA) : TI := fun σ H R => ta σ H fun vs H1 => ∃ a xs, vs = [.ref a] ∧ SqT K H1 a xs ∧ R (IteT K a) H1
theorem pi_enumT {X : Cx} {e : Expr} {ta : TA} {p pos tpos : Pos} {elts : List Expr} {kk : Nat} (hg : Gl X "enumerate") (hm : X.mg "enumerate" = none) (ha : PA X [e] ta) (hs : starEach [e] X.env = [(false, eval e X.env)] := by rfl) :
    PI X (.Tuple elts kk tpos) (.Call (.Name "enumerate" p) [e] [] pos) (iEnumT X.K ta) := by
  refine ⟨fun pins s σ H R I h => ?_⟩
  refine Call_ (ld_blt I hg hm boot_enumerate (PyProof.Rows.callWith_type1 (thn (ha.run pos pins s σ H _ I h) fun us s1 ⟨vs, H1, I1, r1, q1⟩ => ?_) hs rfl))
  obtain ⟨a, xs, ex, hq, q⟩ := q1
  subst ex
  cases r1 with
  | cons r rr =>
    cases rr
    cases r
    obtain ⟨its, rv, p', hz⟩ := I1.tuple hq
    refine call_enumT (show s1.heap.IsTuple a its.toArray from p') fun h' he hit hk => wpAny_pyIter_enum he ?_
    have I2 : Inv X pins σ H1 { s1 with heap := h' } := I1.kept (t' := s1.toks) hk
    refine ⟨s1.heap.objs.size + 1, [s1.heap.objs.size + 1, s1.heap.objs.size], _, _, H1, rfl, I2, turn_enumT a (s1.heap.objs.size + 1) s1.heap.objs.size, ⟨⟨.none, he⟩, hit, Nat.succ_ne_self _⟩, fun b hb => ?_, q⟩
    have hle : s1.heap.objs.size ≤ b := by
      rcases (show b = s1.heap.objs.size + 1 ∨ b = s1.heap.objs.size by simpa using hb) with z | z
      · rw [z]; exact Nat.le_add_right _ _
      · rw [z]; exact Nat.le_refl _
    exact I1.fpOk hle (I1.hok.fresh hle)
end L2

namespace Sl
open PySem L2 C8 StX
section
variable {σ : L2.St} {H H1 : Hp} {g : TG} {tb : TS} {ta : TA} {te : TE} {tt : TT} {nx bk ct : L2.St → Hp → Prop} {rt : VK} {R : It → Hp → Prop} {K : PySem.W.Frag} {Q : VK} {vs : List Nat}
def enRT (K : PySem.W.Frag) (R : It → Hp → Prop) (vs : List V) (H : Hp) : Prop := ∃ a xs, vs = [.ref a] ∧ SqT K H a xs ∧ R (IteT K a) H
theorem rd_iEnumT (h : ta σ H fun vs H1 => enRT K R vs H1) : iEnumT K ta σ H R := h
theorem rd_enRT {a : Addr} {xs : List V} (e : SqT K H a xs) (h : R (IteT K a) H) : enRT K R [.ref a] H := ⟨a, xs, rfl, e, h⟩
theorem forR_enumT {a : Addr} {xs : List V} (Pv : Nat → L2.St → Hp → Prop) (hl : ∀ i σ H, Pv i σ H → SqT K H a xs) (h0 : Pv 0 σ H)
    (hs : ∀ (i : Nat) x σ H t H', xs[i]? = some x → Pv i σ H → H t = none → Same H H' → H' t = some (.tup [.int (i : Nat), x]) → H' = upd H t (.tup [.int (i : Nat), x]) → g (.ref t) σ H' fun σ2 H2 => tb ⟨Pv (i + 1), rt, nx, Pv (i + 1)⟩ σ2 H2) (hd : ∀ σ H, Pv xs.length σ H → nx σ H) :
    ForR (IteT K a) g tb ⟨nx, rt, bk, ct⟩ σ H := forR_gen _ xs.length Pv h0 (fun i σ H h p => ⟨xs, xs[i], hl i σ H p, by simp [h]⟩) (fun σ H p => ⟨xs, hl _ σ H p, Nat.le_refl _⟩)
      (fun i σ H x H' hi p ⟨t, y, e1, e2, e3, e4⟩ => by subst e1; subst e3; exact hs i y σ H t _ (e4 xs (hl i σ _ p)) p e2 (Same.new (Same.refl H) e2) upd_same rfl) hd
theorem lcR_enumT {a : Addr} {xs : List V} (Pv : Addr → Nat → Hp → Prop) (hl : ∀ D i H', H D = none → Pv D i H' → SqT K H' a xs) (h0 : ∀ D H', H D = none → Same H H' → H' D = some (.lst []) → H' = upd H D (.lst []) → Pv D 0 H')
    (hs : ∀ D (i : Nat) x H' t H2, H D = none → xs[i]? = some x → Pv D i H' → H' t = none → Same H' H2 → H2 t = some (.tup [.int (i : Nat), x]) → H2 = upd H' t (.tup [.int (i : Nat), x]) → g (.ref t) (wipe σ vs) H2 fun σ2 H2 => wipe σ2 vs = wipe σ vs ∧ tt σ2 H2 fun b H3 => if b = true then te σ2 H3 fun y H4 => LcE D (Pv D (i + 1)) y H4 else Pv D (i + 1) H3)
    (hd : ∀ D H', H D = none → Pv D xs.length H' → Q (.ref D) H') : LcR (IteT K a) g tt te vs σ H Q :=
  lcR_gen _ xs.length Pv h0 (fun D i H' hD h p => ⟨xs, xs[i], hl D i H' hD p, by simp [h]⟩) (fun D H' hD p => ⟨xs, hl D _ H' hD p, Nat.le_refl _⟩)
    (fun D i H' x H2 hD hi p ⟨t, y, e1, e2, e3, e4⟩ => by subst e1; subst e3; exact hs D i y H' t _ hD (e4 xs (hl D i _ hD p)) p e2 (Same.new (Same.refl H') e2) upd_same rfl) hd
theorem lcR_tup {a : Addr} {xs : List V} (Pv : Addr → Nat → Hp → Prop) (hl : ∀ D i H', H D = none → Pv D i H' → SqT K H' a xs) (h0 : ∀ D H', H D = none → Same H H' → H' D = some (.lst []) → H' = upd H D (.lst []) → Pv D 0 H')
    (hs : ∀ D i x H', H D = none → xs[i]? = some x → Pv D i H' → g x (wipe σ vs) H' fun σ2 H2 => wipe σ2 vs = wipe σ vs ∧ tt σ2 H2 fun b H3 => if b = true then te σ2 H3 fun y H4 => LcE D (Pv D (i + 1)) y H4 else Pv D (i + 1) H3)
    (hd : ∀ D H', H D = none → Pv D xs.length H' → Q (.ref D) H') : LcR (Itt K a) g tt te vs σ H Q :=
  lcR_gen _ xs.length Pv h0 (fun D i H' hD h p => ⟨xs, xs[i], hl D i H' hD p, by simp [h]⟩) (fun D H' hD p => ⟨xs, hl D _ H' hD p, Nat.le_refl _⟩)
    (fun D i H' x H2 hD hi p ⟨e1, e2⟩ => by subst e1; exact hs D i x _ hD (e2 xs (hl D i _ hD p)) p) hd
end
end Sl
set_option Elab.async false
set_option linter.all false
set_option maxRecDepth 100000
set_option maxHeartbeats 4000000
/-! ### x != y by the own __eq__ of the class of both (object.__ne__) -/
namespace HNe
open PySem PySem.Spec PyProof.Rows PySem.SeqAt
section
variable {M : Model} {prog : Program} {w : World} {A : Around} {E : Value → Shared → Prop} {s : Shared} {K : PySem.W.Frag} {x y C f : Addr} {ox : Obj} {od : Option Obj}
theorem ifBound_objNe {args : List Value} {Q : Option Value → Shared → Prop} (X : K.In s.heap) (I : PySem.W.InstAt s.heap x ox C od) (hs : PySem.W.findIn K (.ref C) "__ne__" = some (some (.builtin "object.__ne__")))
    (h : wpAny M A (call (.builtin "object.__ne__") (.ref x :: args)) (fun v => Q (some v)) E s) : wpAny M A (callSpecialIfBound? (.ref x) "__ne__" args) Q E s := by
  simp only [callSpecialIfBound?, bindSpecialIfBound?]
  refine wpAny_holding (wpAny_bind (wpAny_bind (wpAny_bind (I.type.here ((PySem.W.looks_findIn X hs).here ?_)))))
  refine wpAny_bind (wpAny_askSetting (wpAny_ite ?_))
  have fin : wpAny M A (call (.builtin "object.__ne__") ([.ref x] ++ args) >>= fun v => pure (some v)) Q E s := wpAny_bind (wpAny_mono h (fun v s' h' => wpAny_pure h') fun _ _ h' => h')
  split
  · exact wpAny_bind (wpAny_of_eq (F.cmp_object.ne.bind _) (wpAny_pure (by exact fin)))
  · exact wpAny_tryCatch (wpAny_bind (wpAny_of_eq (F.cmp_object.ne.bind _) (wpAny_pure (by exact fin))))
theorem entry_ne (X : K.In s.heap) (I : PySem.W.InstAt s.heap x ox C od) (hs : PySem.W.findIn K (.ref C) "__eq__" = some (some (.ref f))) (hf : PySem.W.isFn K (.ref f) = true) (hu : A.units < cLine) {Q : Fin → Shared → Prop}
    (hcall : wpAny M A (call (.ref f) [.ref x, .ref y]) (fun v s' => ∃ b, v = .bool b ∧ Q (.done (.ret (.bool (!b)))) s') E s) : wpAny M A (Builtin.«object.__ne__» ⟨[.ref x, .ref y], []⟩) Q E s := by
  unfold Builtin.«object.__ne__»
  repeat (first
    | with_reducible refine wpAny_cRoomFor hu ?_
    | (refine wpAny_bind (m := callSpecialIfBound? (.ref x) (Str.ofString "__eq__") [.ref y])
        (PySem.W.ifBound_K X I hs hf (wpAny_mono hcall (fun r s' hr => by
          obtain ⟨b, rfl, hq⟩ := hr
          repeat (first | exact hq | exact wpAny_pure hq | exact wpAny_truthy_bool hq | (refine wpAny_bind (m := truthy (.bool _)) (wpAny_truthy_bool ?_)) | wp_step)) fun _ _ e => e)))
    | wp_step)
theorem call_objNe {Q : Value → Shared → Prop} (X : K.In s.heap) (I : PySem.W.InstAt s.heap x ox C od) (hm : PySem.W.mroIn K C (.type "object") = some true) (hs : PySem.W.findIn K (.ref C) "__eq__" = some (some (.ref f))) (hf : PySem.W.isFn K (.ref f) = true) (hu : A.units + 1 < cLine)
    (hcall : wpAny (model prog w) A.in1 (call (.ref f) [.ref x, .ref y]) (fun v s' => ∃ b, v = .bool b ∧ Q (.bool (!b)) s') E s) :
    wpAny (model prog w) A (call (.builtin "object.__ne__") [.ref x, .ref y]) Q E s :=
  wpAny_call (codeAny_call_builtin F.cmp_object.ne.plain F.cmpEntry_ne (PySem.W.check_slot F.cmpKind_ne F.cmpSplit_ne (I.type.andThen (PySem.W.looks_mroIn X hm)) (F.cmpArgs_ne _ _)
    (entry_ne (A := A.in1) X I hs hf hu (wpAny_mono hcall (fun v s' hv => by
      obtain ⟨b, rfl, hq⟩ := hv
      exact ⟨b, rfl, hq⟩) fun _ _ e => e))))
theorem cmp_neK {Q : Value → Shared → Prop} (X : K.In s.heap) (I : PySem.W.InstAt s.heap x ox C od) {oy : Obj} {od2 : Option Obj} (J : PySem.W.InstAt s.heap y oy C od2) (hm : PySem.W.mroIn K C (.type "object") = some true)
    (hn : PySem.W.findIn K (.ref C) "__ne__" = some (some (.builtin "object.__ne__"))) (hs : PySem.W.findIn K (.ref C) "__eq__" = some (some (.ref f))) (hf : PySem.W.isFn K (.ref f) = true) (hu : A.units + 1 < cLine)
    (hcall : wpAny (model prog w) A.in1 (call (.ref f) [.ref x, .ref y]) (fun v s' => ∃ b, v = .bool b ∧ Q (.bool (!b)) s') E s) : wpAny (model prog w) A (compareOp .NotEq (.ref x) (.ref y)) Q E s := by
  show wpAny (model prog w) A (richCompare .NotEq (.ref x) (.ref y)) Q E s
  have one : wpAny (model prog w) A (tryCompare (.ref x) "__ne__" (.ref y)) (fun r s' => ∃ v, r = some v ∧ Q v s') E s := by
    unfold tryCompare
    refine wpAny_bind (ifBound_objNe X I hn (call_objNe X I hm hs hf hu (wpAny_mono hcall (fun v s' hv => ?_) fun _ _ e => e)))
    obtain ⟨b, rfl, hq⟩ := hv
    exact ⟨b, rfl, wpAny_pure ⟨_, rfl, hq⟩⟩
  unfold richCompare
  simp only [oneThing_ref]
  refine wpAny_holding (wpAny_bind (wpAny_cRoomFor (Nat.lt_of_succ_lt hu) ?_))
  rw [cmpInfo_NotEq]
  dsimp only
  refine wpAny_bind (I.type.here (wpAny_bind (J.type.here ?_)))
  rw [show (Value.ref C != Value.ref C) = false from by simp]
  simp only [Bool.false_eq_true, if_false]
  refine wpAny_bind (wpAny_pure ?_)
  simp only [Bool.false_eq_true, if_false]
  refine wpAny_bind (wpAny_mono one (fun r s' z => ?_) fun _ _ e => e)
  obtain ⟨v, rfl, hq⟩ := z
  exact wpAny_pure hq
end
end HNe
namespace L2
open PySem PySem.Spec PyProof.Rows
section
variable {X : Cx} {k j : Nat} {C D : Addr} {sp : Sp} {dvs : List V} {a : Expr} {ta : TE}
/-- x != y by the own __eq__ of the class of both -/
def rNeO (C : Addr) (sp : Sp) (dvs : List V) : R2 := fun x y H Q => ∃ a b dx dy fs gs, x = .ref a ∧ y = .ref b ∧ H a = some (.ins C dx fs) ∧ H b = some (.ins C dy gs) ∧ sp ([.ref a, .ref b] ++ dvs) H (fun v H' => ∃ k, v = .bl k ∧ Q (.bl (!k)) H') C8.E0
theorem op_neO (c : C8.Met X.prog X.w X.K X.mg X.base k C "__eq__" sp dvs) (hr : Room j X.A) (hk : k + 1 ≤ j) (hm : PySem.W.mroIn X.K C (.type "object") = some true) (hn : PySem.W.findIn X.K (.ref C) "__ne__" = some (some (.builtin "object.__ne__"))) : OpR X (compareOp .NotEq) (rNeO C sp dvs) := by
  obtain ⟨f, fd, ps, ds, cl, hme, F, bd, d⟩ := c.ex
  intro pins s σ H x y v u Q I rx ry h
  obtain ⟨o, o2, dx, dy, fs, gs, rfl, rfl, e, e2, q⟩ := h
  obtain rfl : v = Value.ref o := rx
  obtain rfl : u = Value.ref o2 := ry
  obtain ⟨mA, O, _, _, _, _⟩ := ins_get I.hok e
  obtain ⟨mB, O2, _, _, _, _⟩ := ins_get I.hok e2
  obtain ⟨od, J, _⟩ := O.look
  obtain ⟨od2, J2, _⟩ := O2.look
  refine HNe.cmp_neK I.kIn J J2 hm hn hme.at_ hme.fn (by have := hr.units; omega) (wpAny_mono (run_fn1 (us := [.ref o, .ref o2]) (vs := [.ref o, .ref o2]) F (hr.mono hk) bd d C8.pass0 I (.cons rfl (.cons rfl .nil)) q) (fun v s2 y => ?_) fun _ _ y => y)
  obtain ⟨x2, H2, I2, rx2, b, rfl, q2⟩ := y
  obtain rfl : v = Value.bool b := rx2
  exact ⟨b, rfl, .bl (!b), H2, I2, rfl, q2⟩
/-- (i, d) == (i, e), d and e equal dicts -/
def rEqPD (K : PySem.W.Frag) : R2 := fun x y H Q => ∃ t u i a b ls, x = .ref t ∧ y = .ref u ∧ H t = some (.tup [.int i, .ref a]) ∧ H u = some (.tup [.int i, .ref b]) ∧ H a = some (.dK (dI ls)) ∧ H b = some (.dK (dI ls)) ∧ (ls.map (·.1)).Nodup ∧ Q (.bl true) H
theorem op_eqPD (hu : X.A.units + 64 < cLine) : OpR X (compareOp .Eq) (rEqPD X.K) := by
  intro pins s σ H x y v u' Q I rx ry h
  obtain ⟨t, u, i, a, b, ls, rfl, rfl, et, eu, ea, eb, nd, q⟩ := h
  obtain rfl : v = Value.ref t := rx
  obtain rfl : u' = Value.ref u := ry
  obtain ⟨xs, r1, p1, _⟩ := I.tuple (SqT.of et)
  obtain ⟨ys, r2, p2, _⟩ := I.tuple (SqT.of eu)
  obtain ⟨x1, x2, rfl, ⟨tx, rfl⟩, w2⟩ := vals2 r1
  obtain ⟨y1, y2, rfl, ⟨ty, rfl⟩, z2⟩ := vals2 r2
  obtain rfl : x2 = Value.ref a := w2
  obtain rfl : y2 = Value.ref b := z2
  obtain ⟨_, ya, va, ra, da⟩ := (show ObjOk X.prog X.w H s.heap a (.dK (dI ls)) from I.hok a _ ea)
  obtain ⟨_, yb, vb, rb, db⟩ := (show ObjOk X.prog X.w H s.heap b (.dK (dI ls)) from I.hok b _ eb)
  show wpAny (model X.prog X.w) X.A (richCompare .Eq (.ref t) (.ref u)) (EP X pins σ Q) X.xe s
  refine GQ.rc_tupG (by simp) (by omega) (fun _ s' => s' = s) p1 p2 (fun j h1 h2 s' es => ?_) (fun s' es => ?_) rfl
  · subst es
    match j, h1, h2 with
    | 0, _, _ => exact (eqAt_same (A := X.A.in1) (s := s') (show RelV (V.int i) (Value.int i tx) from ⟨tx, rfl⟩) (show RelV (V.int i) (Value.int i ty) from ⟨ty, rfl⟩) rfl) X.prog X.w _ _ ⟨rfl, rfl⟩
    | 1, _, _ =>
      show wpAny (model X.prog X.w) X.A.in1 (eqBool (Value.ref a) (Value.ref b)) _ _ s'
      by_cases c : a = b
      · subst c
        exact SeqAt.EqAt.same (A := X.A.in1) (s := s') (.ref a) X.prog X.w _ _ ⟨rfl, rfl⟩
      · refine GQ.eqBool_refG c ?_
        show wpAny (model X.prog X.w) X.A.in1 (compareOp .Eq (.ref a) (.ref b)) _ _ s'
        refine PySem.W.keq_eq (knd := mixKind X.prog X.w) (r := true) ya yb da db (by show X.A.units + 1 < cLine; omega) (fun e => (dI_hits nd (.inl rfl) ra rb e).2) ?_
        rw [dI_ans (.inl rfl) ra rb, decide_eq_true rfl]
        exact ⟨true, rfl, rfl, rfl⟩
    | j + 2, h1, _ => exact absurd h1 (by simp)
  · subst es
    exact ⟨.bl true, H, I, rfl, q⟩
end
end L2
namespace Sl
open PySem L2 C8 StX
section
variable {σ : L2.St} {H : Hp} {Q : VK} {K : PySem.W.Frag} {C : Addr} {sp : Sp} {dvs : List V}
theorem rd_neO {a b dx dy : Addr} {fs gs : List (Str × V)} (e : H a = some (.ins C dx fs)) (e2 : H b = some (.ins C dy gs)) (h : sp ([.ref a, .ref b] ++ dvs) H (fun v H' => ∃ k, v = .bl k ∧ Q (.bl (!k)) H') C8.E0) : rNeO C sp dvs (.ref a) (.ref b) H Q := ⟨a, b, dx, dy, fs, gs, rfl, rfl, e, e2, h⟩
theorem rd_eqPD {t u a b : Addr} {i : Int} {ls : List (Int × Int)} (et : H t = some (.tup [.int i, .ref a])) (eu : H u = some (.tup [.int i, .ref b])) (ea : H a = some (.dK (dI ls))) (eb : H b = some (.dK (dI ls))) (nd : (ls.map (·.1)).Nodup) (q : Q (.bl true) H) : rEqPD K (.ref t) (.ref u) H Q :=
  ⟨t, u, i, a, b, ls, rfl, rfl, et, eu, ea, eb, nd, q⟩
/-- isinstance(x, C) of an int, or None: no -/
theorem sub_int {K : PySem.W.Frag} {C : Addr} : PySem.W.subIn K (.type "int") (.ref C) = some false := by
  have e : fastBuiltinMro "int" = some [.type "int", .type "object"] := by decide +kernel
  show (fastBuiltinMro "int").map (·.contains (.ref C)) = some false
  rw [e]
  first
    | rfl
    | simp
theorem kit_not {K : PySem.W.Frag} {C : Addr} {n : String} (h1 : PySem.W.isClsIn K C = true) (h2 : PySem.W.typeIn K (.ref C) = some (.type "type")) (h3 : PySem.W.subIn K (.type n) (.ref C) = some false) : PySem.W.kitOne K (.type n) (.ref C) = some false := by
  have e2 : ((PySem.W.clsIn K C).isSome && PySem.W.typeIn K (.ref C) == some (.type "type")) = true := by
    have h1' : (PySem.W.clsIn K C).isSome = true := h1
    rw [h1', h2] <;> rfl
  unfold PySem.W.kitOne
  rw [if_neg (by simp)]
  show (if ((PySem.W.clsIn K C).isSome && PySem.W.typeIn K (.ref C) == some (.type "type")) = true then PySem.W.subIn K (.type n) (.ref C) else none) = some false
  rw [if_pos e2]
  exact h3
theorem rd_isiCi {C : Addr} {i : Int} (k : PySem.W.kitOne K (.type "int") (.ref C) = some false) (h : Q (.bl false) H) : rIsi K [.int i, .ref C] H Q := ⟨_, _, _, _, false, rfl, .own C, .base (.int i), k, h⟩
theorem rd_isiCn {C : Addr} (k : PySem.W.kitOne K (.type "NoneType") (.ref C) = some false) (h : Q (.bl false) H) : rIsi K [.non, .ref C] H Q := ⟨_, _, _, _, false, rfl, .own C, .base .non, k, h⟩
theorem rd_isiC {C a dx : Addr} {fs : List (Str × V)} (c : InsC K C) (e : H a = some (.ins C dx fs)) (h : Q (.bl true) H) : rIsi K [.ref a, .ref C] H Q := ⟨_, _, _, _, true, rfl, .own C, .base (TyOf.ins e c.cl c.ha c.hn c.htk c.hm), c.me, h⟩
/-- dict([(k, v), ..]) -/
def rDictP (K : PySem.W.Frag) : List V → Hp → VK → Prop := fun xs H Q => ∃ (a : Addr) (ps : List Addr) (kvs : List (Key × V)), xs = [.ref a] ∧ SqL K H a (ps.map V.ref) ∧ Paired (fun p kv => SqT K H p [kV kv.1, kv.2]) ps kvs ∧ ∀ p, H p = none → Q (.ref p) (upd H p (.dK (mergeK [] kvs)))
theorem cr_dictP {X : Cx} (hc : X.calm = true) : CallR X (.type "dict") (rDictP X.K) := call_dictP hc
end
end Sl
set_option Elab.async false
set_option linter.all false
set_option maxRecDepth 100000
set_option maxHeartbeats 4000000
set_option exponentiation.threshold 9000
namespace L2
open PySem PySem.Spec PyProof.Rows
theorem hu65 {k : Nat} {A : Around} (r : Room k A) : A.units + 65 < cLine := by have := r.un; omega
/-- one of two walks -/
theorem pi_alt {X : Cx} {tg e : Expr} {t u : TI} (h1 : PI X tg e t) (h2 : PI X tg e u) : PI X tg e (fun σ H R => t σ H R ∨ u σ H R) := ⟨fun pins s σ H R I h => h.elim (h1.run pins s σ H R I) (h2.run pins s σ H R I)⟩
section
variable {X : Cx} {CX : CXT} {k j : Nat} {f C : Addr} {fd : FuncData} {ps : List Str} {sp : Sp} {dvs : List V} {ds : List Value} {E : XK}
theorem run_fnL {pins : List (Addr × Obj)} {σ : St} {H : Hp} {s : Shared} {Q : VK} {us : List Value} {vs : List V} (F : FnOk X.prog X.w X.K X.mg X.base CX k f fd ps sp) (hr : Room (k + 1) X.A) (hb : Binds X.K fd ps ds) (hd : Vals dvs ds) (hx : Passes CX X E)
    (I : Inv X pins σ H s) (r : Vals vs us) (h : sp (vs ++ dvs) H Q E) : wpAny (model X.prog X.w) X.A.in1 (call (.ref f) us) (EP X pins σ Q) X.xe s := by
  have r2 : Vals (vs ++ dvs) (us ++ ds) := r.append hd
  have hl : (us ++ ds).length = ps.length := by rw [← r2.length]; exact F.len _ _ _ _ h
  refine wpAny_call (codeAny_mono (F.run X.A.in1 X.stack s H ⟨us, []⟩ (us ++ ds) (vs ++ dvs) Q E hr.in1 I.env0.in1 (hb s us I.kIn hl) r2 h) fun r s' hq => ?_)
  cases r with
  | error e => exact hx pins σ H s e s' I hq
  | ok fl =>
    cases fl with
    | ret u => exact I.after hq
    | next => exact False.elim hq
    | brk => exact False.elim hq
    | cont => exact False.elim hq
/-- len(o), o of an own class with its own __len__ -/
def rLenO (C : Addr) (sp : Sp) (dvs : List V) : List V → Hp → VK → Prop := fun vs H Q => ∃ o dx fs, vs = [.ref o] ∧ H o = some (.ins C dx fs) ∧ sp ([.ref o] ++ dvs) H (fun v H' => ∃ i : Nat, v = .int i ∧ i < 2 ^ 62 ∧ Q (.int i) H') C8.E0
theorem cr_lenO (c : C8.Met X.prog X.w X.K X.mg X.base k C "__len__" sp dvs) (hr : Room j X.A) (hk : k + 1 ≤ j) : CallR X (.builtin "len") (rLenO C sp dvs) := by
  obtain ⟨f, fd, ps, ds, cl, hm, Fo, bd, d⟩ := c.ex
  intro pins s σ H vs us Q I r h
  obtain ⟨o, dx, fs, rfl, e, q⟩ := h
  obtain rfl := Vals.ref1 r
  obtain ⟨mA, O, _, _, _, _⟩ := ins_get I.hok e
  obtain ⟨od, J, _⟩ := O.look
  obtain ⟨m, F0⟩ := I.fr
  refine PySem.W.len_K F0 I.ok.mod.kin J hm.at_ hm.fn (wpAny_mono (run_fnL (us := [.ref o]) (vs := [.ref o]) Fo (hr.mono hk) bd d C8.pass0 I (.cons rfl .nil) q) (fun v s2 y => ?_) fun _ _ y => y)
  obtain ⟨x2, H2, I2, rx2, i, rfl, hi, q2⟩ := y
  obtain ⟨t, rfl⟩ : ∃ t, v = Value.int i t := rx2
  exact ⟨⟨by omega, by omega⟩, ⟨.int i, H2, I2.tok _, ⟨_, rfl⟩, q2⟩⟩
/-- x in o, o of an own class with its own __contains__ -/
def rInO (C : Addr) (sp : Sp) (dvs : List V) : R2 := fun x y H Q => ∃ o dx fs, y = .ref o ∧ H o = some (.ins C dx fs) ∧ sp ([.ref o, x] ++ dvs) H (fun v H' => ∃ b, v = .bl b ∧ Q (.bl b) H') C8.E0
theorem op_inO (c : C8.Met X.prog X.w X.K X.mg X.base k C "__contains__" sp dvs) (hr : Room j X.A) (hk : k ≤ j) : OpR X (compareOp .In) (rInO C sp dvs) := by
  obtain ⟨f, fd, ps, ds, cl, hm, Fo, bd, d⟩ := c.ex
  intro pins s σ H x y v u Q I rx ry h
  obtain ⟨o, dx, fs, rfl, e, q⟩ := h
  obtain rfl : u = Value.ref o := ry
  obtain ⟨mA, O, _, _, _, _⟩ := ins_get I.hok e
  obtain ⟨od, J, _⟩ := O.look
  obtain ⟨m, F0⟩ := I.fr
  refine PySem.W.in_K F0 I.ok.mod.kin J hm.at_ hm.fn (wpAny_mono (run_fn (us := [.ref o, v]) (vs := [.ref o, x]) Fo (hr.mono hk) bd d C8.pass0 I (.cons rfl (.cons rx .nil)) q) (fun v s2 y => ?_) fun _ _ y => y)
  obtain ⟨x2, H2, I2, rx2, b, rfl, q2⟩ := y
  obtain rfl : v = Value.bool b := rx2
  exact wpAny_truthy_bool ⟨.bl b, H2, I2, rfl, q2⟩
/-- (d, g) == (e, h): d and e dicts of the same entries, g and h data -/
def rEqDG (K : PySem.W.Frag) : R2 := fun x y H Q => ∃ t u a b g h ks d e, x = .ref t ∧ y = .ref u ∧ H t = some (.tup [.ref a, .ref g]) ∧ H u = some (.tup [.ref b, .ref h]) ∧ H a = some (.dK ks) ∧ H b = some (.dK ks) ∧ (∀ p ∈ ks, valV ks p.1 = some p.2 ∧ flatB p.2 = true) ∧
  Dp K H (.ref g) d ∧ Dp K H (.ref h) e ∧ SeqAt.shaped d = true ∧ SeqAt.shaped e = true ∧ Q (.bl (PyData.eqv d e)) H
theorem op_eqDG (hu : X.A.units + 65 < cLine) : OpR X (compareOp .Eq) (rEqDG X.K) := by
  intro pins s σ H x y v u' Q I rx ry h
  obtain ⟨t, u, a, b, g, h', ks, d, e, rfl, rfl, et, eu, ea, eb, fl, hd, he, sd, se, q⟩ := h
  obtain rfl : v = Value.ref t := rx
  obtain rfl : u' = Value.ref u := ry
  obtain ⟨xs, r1, p1, _⟩ := I.tuple (SqT.of et)
  obtain ⟨ys, r2, p2, _⟩ := I.tuple (SqT.of eu)
  obtain ⟨x1, x2, rfl, w1, w2⟩ := vals2 r1
  obtain ⟨y1, y2, rfl, z1, z2⟩ := vals2 r2
  obtain rfl : x1 = Value.ref a := w1
  obtain rfl : y1 = Value.ref b := z1
  obtain ⟨as, q1⟩ := Dp.reads I d _ x2 hd w2
  obtain ⟨bs, q2⟩ := Dp.reads I e _ y2 he z2
  obtain ⟨_, ya, va, ra, da⟩ := (show ObjOk X.prog X.w H s.heap a (.dK ks) from I.hok a _ ea)
  obtain ⟨_, yb, vb, rb, db⟩ := (show ObjOk X.prog X.w H s.heap b (.dK ks) from I.hok b _ eb)
  have hl : va.length = vb.length := by rw [← ra.length, ← rb.length]
  show wpAny (model X.prog X.w) X.A (richCompare .Eq (.ref t) (.ref u)) (EP X pins σ Q) X.xe s
  refine SeqAt.rcIn_tuples (e := fun j => if j = 0 then true else PyData.eqv d e) p1 p2 (by omega) (fun j h1 h2 => ?_) ⟨.bl (PyData.eqv d e), H, I, ?_, q⟩
  · match j, h1, h2 with
    | 0, _, _ =>
      show SeqAt.EqIn X.prog X.w X.A.in1 s (Value.ref a) (Value.ref b) true
      by_cases c : a = b
      · subst c
        exact (SeqAt.EqAt.same (A := X.A.in1) (s := s) (.ref a)).inModel X.prog X.w
      · refine SeqAt.EqIn.of_refs c fun E' Q' q' => ?_
        show wpAny (model X.prog X.w) X.A.in1 (compareOp .Eq (.ref a) (.ref b)) _ E' s
        refine PySem.W.keq_eq (knd := mixKind X.prog X.w) (r := true) ya yb da db (by show X.A.units + 1 < cLine; omega) (fun _ => hits_all rb ra fl) ?_
        simpa [hl] using q'
    | 1, _, _ => exact (SeqAt.eqAt_reads d e X.A.in1 s x2 y2 as bs q1 q2 (SeqAt.canLay_of_shaped sd) (SeqAt.canLay_of_shaped se) (SeqAt.room_of_shaped sd (by show X.A.units + 1 + 64 < cLine; omega))).inModel X.prog X.w
    | j + 2, h1, _ => exact absurd h1 (by simp)
  · show RelV (V.bl (PyData.eqv d e)) _
    simp [List.range_succ, RelV]
end
end L2
namespace Sl
open PySem L2 C8 StX
section
variable {σ : L2.St} {H H' : Hp} {Q : VK} {te ta tb : TE} {t tk : TA} {K : PySem.W.Frag} {QS : L2.St → Hp → Prop} {x y v : V} {R : It → Hp → Prop} {g : TG} {tt : TT} {vs : List Nat}
theorem rd_gSub {to ti : TE} {st : TSet} (h : to σ H fun o H1 => ti σ H1 fun i H2 => st o i v H2 fun H3 => QS σ H3) : gSub to ti st v σ H QS := h
/-! ### texts walked -/
def stR (R : It → Hp → Prop) (v : V) (H1 : Hp) : Prop := ∃ x, v = .str x ∧ R (Its x) H1
theorem rd_iStr (h : te σ H fun v H1 => stR R v H1) : iStr te σ H R := h
theorem rd_stR {x : Str} (h : R (Its x) H) : stR R (.str x) H := ⟨x, rfl, h⟩
theorem lcR_str {x : Str} (Pv : Addr → Nat → Hp → Prop) (h0 : ∀ D H', H D = none → Same H H' → H' D = some (.lst []) → H' = upd H D (.lst []) → Pv D 0 H')
    (hs : ∀ D i c H', H D = none → x.cps[i]? = some c → Pv D i H' → g (.str ⟨#[c]⟩) (wipe σ vs) H' fun σ2 H2 => wipe σ2 vs = wipe σ vs ∧ tt σ2 H2 fun b H3 => if b = true then te σ2 H3 fun y H4 => LcE D (Pv D (i + 1)) y H4 else Pv D (i + 1) H3)
    (hd : ∀ D H', H D = none → Pv D x.cps.size H' → Q (.ref D) H') : LcR (Its x) g tt te vs σ H Q :=
  lcR_gen _ x.cps.size Pv h0 (fun _ i _ _ h _ => h) (fun _ _ _ _ => Nat.le_refl _) (fun D i H x2 H' hD hi p ⟨e1, c, e2, e3⟩ => by subst e1; subst e3; exact hs D i c _ hD e2 p) hd
/-! ### order of texts -/
def rLeS : R2 := fun x y H Q => ∃ i j, x = .str i ∧ y = .str j ∧ Q (.bl (!decide (j.cps.toList < i.cps.toList))) H
theorem op_leS {X : Cx} : OpR X (compareOp .LtE) rLeS := op_le_str
theorem rd_leS {i j : Str} (h : Q (.bl (!decide (j.cps.toList < i.cps.toList))) H) : rLeS (.str i) (.str j) H Q := ⟨i, j, rfl, rfl, h⟩
def rIxS (x y : V) (H : Hp) (Q : VK) : Prop := ∃ (z : Str) (i : Int) (c : Nat), x = .str z ∧ y = .int i ∧ 0 ≤ i ∧ i < 2 ^ 63 ∧ i < z.length ∧ z.cps[i.toNat]? = some c ∧ Q (.str ⟨#[c]⟩) H
theorem pe_ixS {X : Cx} {a b : Expr} {pos : Pos} {ta tb : TE} (ha : PE X a ta) (hb : PE X b tb) (hs : PlainIxT b) : PE X (.Subscript a b pos) (tOp rIxS ta tb) := pe_item_str ha hb hs
theorem rd_ixS {z : Str} {i : Int} {c : Nat} (h0 : 0 ≤ i) (h1 : i < 2 ^ 62) (h2 : i < z.length) (h3 : z.cps[i.toNat]? = some c) (h : Q (.str ⟨#[c]⟩) H) : rIxS (.str z) (.int i) H Q := ⟨z, i, c, rfl, rfl, h0, by omega, h2, h3, h⟩
/-! ### lengths, texts of ints -/
def rLenTx : List V → Hp → VK → Prop := fun xs H Q => ∃ z, xs = [.str z] ∧ z.length ≤ sizeLine ∧ Q (.int z.length) H
theorem cr_lenTx {X : Cx} : CallR X (.builtin "len") rLenTx := call_len_str
theorem rd_lenTx {z : Str} (hz : z.length ≤ sizeLine) (h : Q (.int z.length) H) : rLenTx [.str z] H Q := ⟨z, rfl, hz, h⟩
def rLenDk : List V → Hp → VK → Prop := fun xs H Q => ∃ a kvs, xs = [V.ref a] ∧ H a = some (.dK kvs) ∧ Q (.int kvs.length) H
theorem cr_lenDk {X : Cx} : CallR X (.builtin "len") rLenDk := call_lenD
theorem rd_lenDk {a : Addr} {kvs : List (Key × V)} (e : H a = some (.dK kvs)) (h : Q (.int kvs.length) H) : rLenDk [.ref a] H Q := ⟨a, kvs, rfl, e, h⟩
def rStrI : List V → Hp → VK → Prop := fun xs H Q => ∃ i, xs = [.int i] ∧ i.natAbs.log2 < 1920 ∧ Q (.str (toString i)) H
theorem cr_strI {X : Cx} : CallR X (.type "str") rStrI := call_str_int
theorem rd_strI {i : Int} (hi : i.natAbs.log2 < 1920) (h : Q (.str (toString i)) H) : rStrI [.int i] H Q := ⟨i, rfl, hi, h⟩
theorem rd_lenO {C o dx : Addr} {fs : List (Str × V)} {sp : Sp} {dvs : List V} (e : H o = some (.ins C dx fs)) (h : sp ([.ref o] ++ dvs) H (fun v H' => ∃ i : Nat, v = .int i ∧ i < 2 ^ 62 ∧ Q (.int i) H') C8.E0) : rLenO C sp dvs [.ref o] H Q := ⟨o, dx, fs, rfl, e, h⟩
theorem rd_inO {C o dx : Addr} {fs : List (Str × V)} {sp : Sp} {dvs : List V} (e : H o = some (.ins C dx fs)) (h : sp ([.ref o, x] ++ dvs) H (fun v H' => ∃ b, v = .bl b ∧ Q (.bl b) H') C8.E0) : rInO C sp dvs x (.ref o) H Q := ⟨o, dx, fs, rfl, e, h⟩
def rAddS : R2 := fun x y H Q => ∃ i j, x = .str i ∧ y = .str j ∧ i.length + j.length ≤ sizeLine ∧ Q (.str (i ++ j)) H
theorem op_addS {X : Cx} : OpR X (binaryOp .Add) rAddS := op_add_str
theorem rd_addS {i j : Str} (l : i.length + j.length ≤ 100000) (h : Q (.str (i ++ j)) H) : rAddS (.str i) (.str j) H Q := ⟨i, j, rfl, rfl, Nat.le_trans l (by decide), h⟩
/-! ### isinstance of plain values -/
def tyS : V → Option String
  | .int _ => some "int"
  | .bl _ => some "bool"
  | .str _ => some "str"
  | .non => some "NoneType"
  | _ => none
theorem tyS_of {v : V} {a : String} (h : tyS v = some a) : TyOf K H v (.type a) := by
  cases v <;> first | (cases h; first | exact .int _ | exact .bl _ | exact .str _ | exact .non) | cases h
theorem rd_isiS {v : V} {a b : String} {r : Bool} (h1 : tyS v = some a) (h2 : kitB a b = some r) (h : Q (.bl r) H) : rIsi K [v, .ty b] H Q := ⟨_, _, _, _, r, rfl, .ty _, .base (tyS_of h1), kit_ty h2, h⟩
theorem rd_isiTup {a : Addr} {xs : List V} {b : String} {r : Bool} (e : H a = some (.tup xs)) (h2 : kitB "tuple" b = some r) (h : Q (.bl r) H) : rIsi K [.ref a, .ty b] H Q := ⟨_, _, _, _, r, rfl, .ty _, .base (.tup e), kit_ty h2, h⟩
theorem rd_isiLst {a : Addr} {xs : List V} {b : String} {r : Bool} (e : H a = some (.lst xs)) (h2 : kitB "list" b = some r) (h : Q (.bl r) H) : rIsi K [.ref a, .ty b] H Q := ⟨_, _, _, _, r, rfl, .ty _, .base (.lst e), kit_ty h2, h⟩
theorem rd_isiD {a : Addr} {kvs : List (Key × V)} {b : String} {r : Bool} (e : H a = some (.dK kvs)) (h2 : kitB "dict" b = some r) (h : Q (.bl r) H) : rIsi K [.ref a, .ty b] H Q := ⟨_, _, _, _, r, rfl, .ty _, .base (.dK e), kit_ty h2, h⟩
theorem rd_eqDG {t u a b g h' : Addr} {ks : List (Key × V)} {d e : PyData} (et : H t = some (.tup [.ref a, .ref g])) (eu : H u = some (.tup [.ref b, .ref h'])) (ea : H a = some (.dK ks)) (eb : H b = some (.dK ks)) (fl : ∀ p ∈ ks, valV ks p.1 = some p.2 ∧ flatB p.2 = true)
    (hd : Dt H (.ref g) d) (he : Dt H (.ref h') e) (sd : SeqAt.shaped d = true) (se : SeqAt.shaped e = true) (q : Q (.bl (PyData.eqv d e)) H) : rEqDG K (.ref t) (.ref u) H Q := ⟨t, u, a, b, g, h', ks, d, e, rfl, rfl, et, eu, ea, eb, fl, hd.dp, he.dp, sd, se, q⟩
/-! ### sorted pairs -/
theorem rd_sortPO {a : Addr} {xs : List V} {k : V → Int × Int} (e : SqL K H a xs) (hx : ∀ x ∈ xs, ∃ t, x = V.ref t ∧ H t = some (.tup [.int (k x).1, .int (k x).2]))
    (h : ∀ ys p H', SrtO.Srtd (ltP k) ys → SrtO.Stb (ltP k) ys xs → H p = none → Same H H' → H' p = some (.lst ys) → Q (.ref p) H') : rSortedPO K [.ref a] H Q :=
  ⟨a, xs, k, rfl, e, hx, fun ys p h1 h2 hp => h ys p _ h1 h2 hp (Same.new (Same.refl H) hp) upd_same⟩
/-! ### dicts with any values, keys ints -/
def dV (ls : List (Int × V)) : List (Key × V) := ls.map fun q => (Sum.inl q.1, q.2)
theorem dV_len (ls : List (Int × V)) : (dV ls).length = ls.length := by unfold dV; rw [List.length_map]
theorem dV_keys (ls : List (Int × V)) : (dV ls).map (·.1) = (ls.map (·.1)).map Sum.inl := by unfold dV; rw [List.map_map, List.map_map]; rfl
end
end Sl
set_option Elab.async false
set_option linter.all false
set_option maxRecDepth 100000
set_option maxHeartbeats 4000000
set_option exponentiation.threshold 9000
/-! ### dict(reversed(a list of pairs)) -/
namespace PySem
open Sem (wp)
namespace F
theorem slot_lri_getattribute : Slot "list_reverseiterator" "__getattribute__" "object.__getattribute__" :=
  .of (owner := "object") (n := "__getattribute__") (by rw [typeLookup_type, builtinLookup_eq_fast]; kernel_rfl) (by decide +kernel) (by decide +kernel) (by decide +kernel)
    (by first | exact .inl (by decide +kernel) | exact .inr (by decide +kernel)) (by rw [isSubtype_type]; kernel_rfl)
end F
theorem lri_no_keys : typeLookup (.type "list_reverseiterator") "keys" = pure none := am_miss_of_fast (by decide +kernel)
theorem lri_getattr_none : typeLookup (.type "list_reverseiterator") "__getattr__" = pure none := am_miss_of_fast (by decide +kernel)
theorem meets_getattribute_miss_lri (a : Addr) (fs : Array Value) (sl : Array (Option Value)) (name : Str) (u : Tok) (hmiss : typeLookup (.type "list_reverseiterator") name = pure none) (hname : (["__module__", "__name__", "__qualname__", "__doc__", "__annotations__"] : List Str).contains name = false) (hsz : name.length + 100 ≤ sizeLine := by size_fits) :
    Meets (Builtin.«object.__getattribute__» ⟨[.ref a, .str name u], []⟩) (fun A R s => s.heap.get? a = some { cls := .type "list_reverseiterator", dict := none, data := .fields fs, slots := sl } ∧ raisesAttr (.ref a) name A R s) :=
  Meets.of_wp fun prog w A R s hs => by
    obtain ⟨hp, g, d, tk, os⟩ := s
    obtain ⟨hx, hs⟩ := hs
    have hT : (⟨hp, g, d, tk, os⟩ : Shared).TypeIs (.ref a) "list_reverseiterator" := ⟨_, hx, rfl⟩
    unfold Builtin.«object.__getattribute__»
    repeat (any_goals (first | assumption | wp_step))
    simp only [hname, Bool.false_eq_true, if_false]
    repeat (any_goals (first | assumption | wp_step))
    exact wpAny_raiseAttrError hs.1 hs.2 (attrMsg_fits (by decide +kernel) hsz)
theorem getAttrOr_miss_lri {prog : Program} {w : World} {A : Around} {E : Value → Shared → Prop} {s : Shared} {a : Addr} {o : Obj} {fs : Array Value} {name : Str} {Q : Option Value → Shared → Prop} (hx : s.heap.get? a = some o) (hc : o.cls = .type "list_reverseiterator") (hdat : o.data = .fields fs) (hd : o.dict = none) (hmiss : typeLookup (.type "list_reverseiterator") name = pure none)
    (hname : (["__module__", "__name__", "__qualname__", "__doc__", "__annotations__"] : List Str).contains name = false) (hA : A.handled = none)
    (h : ∀ h' tk, (∀ b o, s.heap.get? b = some o → h'.get? b = some o) → Q none { s with heap := h', toks := tk }) (hsz : name.length + 100 ≤ sizeLine := by size_fits) :
    wpAny (model prog w) A (getAttr? (.ref a) name) Q E s := by
  obtain ⟨c, dct, dat, sl⟩ := o
  simp only at hc hdat hd
  subst hc hdat hd
  obtain ⟨hp, g, d, tk, os⟩ := s
  have hT : ∀ tk', (⟨hp, g, d, tk', os⟩ : Shared).TypeIs (.ref a) "list_reverseiterator" := fun _ => ⟨_, hx, rfl⟩
  have f1 := sub_AttributeError
  have f3 := F.slot_lri_getattribute.lookup
  have f4 := F.slot_lri_getattribute.bind (.ref a)
  have f5 := lri_getattr_none
  unfold getAttr? getAttrBy?
  repeat (any_goals (first | assumption | exact hT _ | ((with_reducible show wpAny _ _ (call (Value.builtin "object.__getattribute__") _ _) _ _ _); refine call_meets F.slot_lri_getattribute (hT _) F.entry_object_getattribute (F.args_object_getattribute_2 _ _) (meets_getattribute_miss_lri a fs sl name _ hmiss hname hsz) ⟨hx, hA, fun h' tk' e hx' => ?_⟩) | wp_step))
  obtain ⟨t', u', he⟩ := hx'.there
  show wpAny _ _ (getattributeRaised _ _ _ _ _ _ _) _ _ _
  unfold getattributeRaised
  repeat (any_goals (first | assumption | wp_step))
  exact h _ _ hx'.keeps
theorem PairArg.rev {prog : Program} {w : World} (it l : Addr) (hli : l ≠ it) (items : Array Value) (Ts : Nat → Addr) (ps : List (Value × Value)) (hT : ∀ j, j < ps.length → Ts j ≠ it) :
    PairArg prog w "list_reverseiterator" it (it :: l :: (List.range ps.length).map Ts) [it] ps.length (fun i k v => i < ps.length ∧ ps[ps.length - 1 - i]? = some (k, v))
      (fun h => h.get? it = some (revObj l ((items.size : Int) - 1)) ∧ h.IsList l items ∧ PairItems h items Ts ps) where
  type := fun s ok => ⟨_, ok.1, rfl⟩
  notDict := by decide
  keep := fun h h' ok hk => ⟨hk _ _ ok.1, ok.2.1.at fun o x => hk _ o x, ok.2.2.at fun j _ o e => hk _ o e⟩
  there := fun h ok b hb => by
    obtain ⟨h1, ⟨o2, h2, _⟩, hp⟩ := ok
    rcases List.mem_cons.mp hb with rfl | hb
    · exact ⟨_, h1⟩
    · rcases List.mem_cons.mp hb with rfl | hb
      · exact ⟨_, h2⟩
      · obtain ⟨j, hj, rfl⟩ := List.mem_map.mp hb
        exact hp.there (List.mem_range.mp hj)
  sub := fun b hb => by rw [List.mem_singleton.mp hb]; exact List.mem_cons_self
  noKeys := fun A s Q E hA ok h => getAttrOr_miss_lri ok.1 rfl rfl rfl lri_no_keys (by decide +kernel) hA h
  iter := fun A s d Q E hA ok hd hdf h => by
    obtain ⟨h1, hl, hp⟩ := ok
    have hdi : it ≠ d := fun e => hdf (e ▸ List.mem_cons_self)
    have hdl : l ≠ d := fun e => hdf (e ▸ List.mem_cons_of_mem _ List.mem_cons_self)
    have hdT : ∀ j, j < ps.length → Ts j ≠ d := fun j hj e => hdf (List.mem_cons_of_mem _ (List.mem_cons_of_mem _ (List.mem_map.mpr ⟨j, List.mem_range.mpr hj, e⟩)))
    have hsz : items.size = ps.length := hp.1
    refine wpAny_pyIter_revIter (l := l) (i := (items.size : Int) - 1) ⟨_, h1, rfl, rfl⟩ (h it [it] (fun i h => i ≤ ps.length ∧ h.IsRevIter it l ((ps.length : Int) - 1 - i) ∧ h.IsList l items ∧ PairItems h items Ts ps) s.heap s.toks ?_ ⟨Nat.zero_le _, ⟨_, h1, rfl, by rw [hsz]; simp [revObj]⟩, hl, hp⟩ (fun _ _ e => e) fun b hb => .inl hb)
    exact {
      off := fun hm => hdi (List.mem_singleton.mp hm).symm
      frame := fun i h₁ h₂ st hk => ⟨st.1, st.2.1.at fun o e => hk _ o hdi e, st.2.2.1.at fun o e => hk _ o hdl e, st.2.2.2.at fun j hj o e => hk _ o (hdT j hj) e⟩
      item := fun i s₁ Q₁ E₁ hi st _ hQ => by
        have hkv' : ps[ps.length - 1 - i]? = some ps[ps.length - 1 - i] := List.getElem?_eq_getElem (by omega)
        obtain ⟨⟨k, v⟩, hkv⟩ : ∃ p, ps[ps.length - 1 - i]? = some p := ⟨_, hkv'⟩
        have hit : s₁.heap.IsRevIter it l ((ps.length - 1 - i : Nat) : Int) := by
          have := st.2.1
          rw [show (ps.length : Int) - 1 - (i : Int) = ((ps.length - 1 - i : Nat) : Int) by omega] at this
          exact this
        refine wpAny_pyNext_rev_item hit st.2.2.1 (x := .ref (Ts (ps.length - 1 - i))) (st.2.2.2.2 _ k v hkv).1 fun h' hit' hs' => ?_
        have pi : PairItems h' items Ts ps := st.2.2.2.at fun j hj o e => (hs'.2 (Ts j) (hT j hj)).trans e
        refine hQ (Ts (ps.length - 1 - i)) k v h' s₁.toks ⟨hi, hkv⟩ (pi.2 _ k v hkv).2 ⟨hi, ?_, st.2.2.1.at fun o' e => (hs'.2 l hli).trans e, pi⟩ fun b o hb e => (hs'.2 b (fun h => hb (by simp [h]))).trans e
        rw [show (ps.length : Int) - 1 - ((i + 1 : Nat) : Int) = ((ps.length - 1 - i : Nat) : Int) - 1 by omega]
        exact hit'
      done := fun s₁ Q₁ E₁ st hQ => by
        have hit := st.2.1
        rw [show (ps.length : Int) - 1 - (ps.length : Int) = -1 by omega] at hit
        exact wpAny_pyNext_rev_end hA hit fun h' he' => hQ h' s₁.toks fun b o hb e => he' b o (fun h => hb (by simp [h])) e }
end PySem

namespace L2
open PySem PySem.Spec PyProof.Rows
theorem pair_vals {h : Heap} : ∀ {ps : List Addr} {prs : List (Key × Value)}, prs.length = ps.length → (∀ (j : Nat) (q : Key × Value), prs[j]? = some q → ∃ (b : Addr) (u : Value), ps[j]? = some b ∧ IsTup h b #[u, q.2] ∧ keyIs q.1 u = true) →
    ∃ vps : List (Value × Value), vps.length = prs.length ∧ ∀ (j : Nat) (q : Key × Value), prs[j]? = some q → ∃ (b : Addr) (u : Value), ps[j]? = some b ∧ vps[j]? = some (u, q.2) ∧ IsTup h b #[u, q.2] ∧ keyIs q.1 u = true
  | [], [], _, _ => ⟨[], rfl, fun j q e => by simp at e⟩
  | [], _ :: _, l, _ => by simp at l
  | _ :: _, [], l, _ => by simp at l
  | p :: ps, q :: prs, l, hp => by
    obtain ⟨b, u, e1, e2, e3⟩ := hp 0 q rfl
    obtain ⟨vps, l2, h2⟩ := pair_vals (ps := ps) (prs := prs) (by simpa using l) fun j q' e => by
      obtain ⟨b, u, f1, f2, f3⟩ := hp (j + 1) q' (by simpa using e)
      exact ⟨b, u, by simpa using f1, f2, f3⟩
    refine ⟨(u, q.2) :: vps, by simp [l2], fun j q' e => ?_⟩
    match j, e with
    | 0, e =>
      have e : q = q' := by simpa using e
      subst e
      exact ⟨b, u, e1, rfl, e2, e3⟩
    | j + 1, e =>
      obtain ⟨b, u, f1, f2, f3, f4⟩ := h2 j q' (by simpa using e)
      exact ⟨b, u, by simpa using f1, by simpa using f2, f3, f4⟩
theorem paired_app {α β : Type} {R : α → β → Prop} : ∀ {a c : List α} {b d : List β}, Paired R a b → Paired R c d → Paired R (a ++ c) (b ++ d)
  | _, _, _, _, .nil, h => h
  | _, _, _, _, .cons h t, k => .cons h (paired_app t k)
theorem paired_rev {α β : Type} {R : α → β → Prop} : ∀ {a : List α} {b : List β}, Paired R a b → Paired R a.reverse b.reverse
  | _, _, .nil => .nil
  | _, _, .cons h t => by
    rw [List.reverse_cons, List.reverse_cons]
    exact paired_app (paired_rev t) (.cons h .nil)
/-- dict(reversed(x)), x a list of pairs -/
def tDictRev (K : PySem.W.Frag) (te : TE) : TE := fun σ H Q => te σ H fun v H1 => ∃ (a : Addr) (ps : List Addr) (kvs : List (Key × V)), v = .ref a ∧ SqL K H1 a (ps.map V.ref) ∧ Paired (fun p kv => SqT K H1 p [kV kv.1, kv.2]) ps kvs ∧ ∀ p, H1 p = none → Q (.ref p) (upd H1 p (.dK (mergeK [] kvs.reverse)))
section
variable {X : Cx}
theorem pe_dictRev {e : Expr} {te : TE} {p p2 pos pos2 : Pos} (hc : X.calm = true) (hg : Gl X "dict") (hm : X.mg "dict" = none) (hg2 : Gl X "reversed") (hm2 : X.mg "reversed" = none) (he : PE X e te)
    (hs : starEach [e] X.env = (false, eval e X.env) :: starEach [] X.env := by rfl)
    (hs2 : starEach [.Call (.Name "reversed" p2) [e] [] pos2] X.env = (false, eval (.Call (.Name "reversed" p2) [e] [] pos2) X.env) :: starEach [] X.env := by rfl) :
    PE X (.Call (.Name "dict" p) [.Call (.Name "reversed" p2) [e] [] pos2] [] pos) (tDictRev X.K te) := by
  refine ⟨fun pins s σ H Q I h => ?_⟩
  refine Call_ (ld_blt I hg hm (show bootBuiltins "dict" = some (.type "dict") from by decide +kernel) (PyProof.Rows.callWith_type1 (args_cons (Call_ (ld_blt I hg2 hm2 PyProof.Rows.boot_reversed (PyProof.Rows.callWith_type1 (args_cons (thn (he.run pins s σ H _ I h) fun u s1 ⟨v, H1, I1, r1, q1⟩ => args_nil ?_) hs) hs rfl))) hs2) hs2 rfl))
  obtain ⟨a, ps, kvs, ev, hq, hp, q⟩ := q1
  subst ev
  obtain rfl : u = Value.ref a := r1
  obtain ⟨its, rv, p', hz⟩ := I1.list hq
  have ei := refs_at rv
  subst ei
  rw [List.length_map] at hz
  obtain ⟨prs, rel, hl, hpr⟩ := pairs_of I1 hp
  obtain ⟨vps, lv, hv⟩ := pair_vals hl hpr
  refine call_reversed_list p'.isList (args_nil ?_)
  have hlist := p'.isList
  obtain ⟨ol, hol, _⟩ := id hlist
  have hne : a ≠ s1.heap.objs.size := Nat.ne_of_lt (Heap.lt_size hol)
  have hat : ∀ j, j < vps.length → ∃ b u qv, ps[j]? = some b ∧ vps[j]? = some (u, qv) ∧ IsTup s1.heap b #[u, qv] := fun j hj => by
    obtain ⟨b, u, e1, e2, e3, e4⟩ := hv j _ (List.getElem?_eq_getElem (by omega : j < prs.length))
    exact ⟨b, u, _, e1, e2, e3⟩
  have hT : ∀ j, j < vps.length → ps.getD j 0 ≠ s1.heap.objs.size := fun j hj => by
    obtain ⟨b, u, qv, e1, e2, ⟨o, ho, _⟩⟩ := hat j hj
    rw [List.getD_eq_getElem?_getD, e1]
    exact Nat.ne_of_lt (Heap.lt_size ho)
  have hitems : ((ps.map Value.ref).toArray).size = vps.length := by simp; omega
  refine PySem.call_dict_pairs (knd := mixKind X.prog X.w) (kvs := prs.reverse) (s := { s1 with heap := s1.heap.push (revObj a (((ps.map Value.ref).toArray.size : Int) - 1)) }) (PairArg.rev s1.heap.objs.size a hne (ps.map Value.ref).toArray (fun j => ps.getD j 0) vps hT) (I1.ok.hd hc) ⟨Heap.get?_push_size _ rfl, hlist.push _, hitems, fun j k v e => ?_⟩ ⟨by rw [List.length_reverse, lv], fun i key v hr => ?_⟩ (by omega) fun h' tk hd' hk => ?_
  · have hj := (List.getElem?_eq_some_iff.mp e).1
    obtain ⟨b, u, qv, e1, e2, e3⟩ := hat j hj
    rw [e] at e2
    cases e2
    have eb : ps.getD j 0 = b := by rw [List.getD_eq_getElem?_getD, e1]; rfl
    refine ⟨by simp [e1], .inl ?_⟩
    show IsTup _ (ps.getD j 0) _
    rw [eb]
    exact e3.keeps fun b o z => Heap.get?_push_of_some _ z
  · obtain ⟨hi, e⟩ := hr
    obtain ⟨b, u, e1, e2, e3, e4⟩ := hv (vps.length - 1 - i) _ (List.getElem?_eq_getElem (by omega : vps.length - 1 - i < prs.length))
    rw [e] at e2
    have e2 := Option.some.inj e2
    have f1 : key = u := congrArg Prod.fst e2
    have f2 : v = (prs[vps.length - 1 - i]'(by omega)).2 := congrArg Prod.snd e2
    subst f1 f2
    refine ⟨_, ?_, e4⟩
    rw [List.getElem?_reverse (by omega), show prs.length - 1 - i = vps.length - 1 - i by omega]
    exact List.getElem?_eq_getElem (by omega)
  · have k1 : ∀ b o, s1.heap.get? b = some o → h'.get? b = some o := fun b o e => hk b o (fun z => by rw [List.mem_singleton.mp z] at e; exact absurd (Heap.lt_size e) (Nat.lt_irrefl _)) (Heap.get?_push_of_some _ e)
    have hm' : (((s1.heap.push (revObj a (((ps.map Value.ref).toArray.size : Int) - 1))).objs.size) == sysModules) = false := by
      have := I1.big
      exact beq_eq_false_iff_ne.mpr (Nat.ne_of_gt (Nat.lt_of_lt_of_le this (by simp [Heap.push])))
    have hlen : (mergeK [] kvs.reverse).length ≤ sizeLine := by
      refine Nat.le_trans (length_mergeK kvs.reverse []) ?_
      rw [List.length_nil, Nat.zero_add, List.length_reverse, rel.length, hl]
      exact hz
    have hge : s1.heap.objs.size ≤ (s1.heap.push (revObj a (((ps.map Value.ref).toArray.size : Int) - 1))).objs.size := by simp [Heap.push]
    exact ⟨.ref _, upd H1 _ (.dK (mergeK [] kvs.reverse)), I1.laid (t' := tk) k1 hge (show ObjOk X.prog X.w _ _ _ (.dK (mergeK [] kvs.reverse)) from ⟨hlen, hm', merged [] prs.reverse, KV.merge (paired_rev rel) .nil, hd'⟩), rfl, q _ (I1.hok.fresh hge)⟩
end
end L2
set_option Elab.async false
set_option linter.all false
set_option maxRecDepth 100000
set_option maxHeartbeats 4000000
set_option exponentiation.threshold 9000
/-! readings for the stores' laws: items of a dict, dicts of lists, displays of one pair, get, text * int -/
namespace Sl
open PySem L2 C8 StX PySem.Spec PyProof.Rows LiI RT
section
variable {σ : L2.St} {H H' : Hp} {Q : VK} {te td ty tv : TE} {K : PySem.W.Frag} {R : It → Hp → Prop} {g : TG} {tt : TT} {vs : List Nat} {x y v : V}
def itR (R : It → Hp → Prop) (x : V) (H1 : Hp) : Prop := ∃ d o kvs, x = .ref d ∧ H1 d = some (.frz o (.dK kvs)) ∧ R (Iti d o kvs) H1
theorem rd_iItems (h : td σ H fun x H1 => itR R x H1) : iItems td σ H R := h
theorem rd_itR {d : Addr} {o : Obj} {kvs : List (Key × V)} (e : H d = some (.frz o (.dK kvs))) (h : R (Iti d o kvs) H) : itR R (.ref d) H := ⟨d, o, kvs, rfl, e, h⟩
theorem lcR_items {d : Addr} {o : Obj} {kvs : List (Key × V)} (Pv : Addr → Nat → Hp → Prop) (hl : ∀ D i H', H D = none → Pv D i H' → H' d = some (.frz o (.dK kvs))) (h0 : ∀ D H', H D = none → Same H H' → H' D = some (.lst []) → H' = upd H D (.lst []) → Pv D 0 H')
    (hs : ∀ D i k z t H' H2, H D = none → kvs[i]? = some (k, z) → Pv D i H' → Same H' H2 → H2 t = some (.tup [kV k, z]) → g (.ref t) (wipe σ vs) H2 fun σ2 H2 => wipe σ2 vs = wipe σ vs ∧ tt σ2 H2 fun b H3 => if b = true then te σ2 H3 fun y H4 => LcE D (Pv D (i + 1)) y H4 else Pv D (i + 1) H3)
    (hd : ∀ D H', H D = none → Pv D kvs.length H' → Q (.ref D) H') : LcR (Iti d o kvs) g tt te vs σ H Q :=
  lcR_gen _ kvs.length Pv h0 (fun D i H' hD h p => ⟨hl D i H' hD p, h⟩) (fun D H' hD p => ⟨hl D _ H' hD p, Nat.le_refl _⟩)
    (fun D i H' x H2 hD hi p ⟨t, k, v, e1, e2, e3, e4⟩ => by subst e2; subst e4; exact hs D i k v t H' _ hD e1 p (Same.new (Same.refl H') e3) upd_same) hd
theorem rd_listIt0 (h : te σ H fun x H1 => rItemsL x H1 Q) : tListItems te σ H Q := h
theorem rd_listIt {d : Addr} {kvs : List (Key × V)} (e : H d = some (.dK kvs)) (h : ∀ H' p (ts : List Addr), Same H H' → H p = none → H' p = some (.lst (ts.map V.ref)) → Paired (fun (t : Addr) (q : Key × V) => H' t = some (.tup [kV q.1, q.2])) ts kvs → Q (.ref p) H') : rItemsL (.ref d) H Q :=
  ⟨d, kvs, rfl, e, fun H' p ts s hp _ _ ep pr => h H' p ts s hp ep pr⟩
def rDictRev (K : PySem.W.Frag) (v : V) (H1 : Hp) (Q : VK) : Prop := ∃ (a : Addr) (ps : List Addr) (kvs : List (Key × V)), v = .ref a ∧ SqL K H1 a (ps.map V.ref) ∧ Paired (fun p kv => SqT K H1 p [kV kv.1, kv.2]) ps kvs ∧ ∀ p, H1 p = none → Q (.ref p) (upd H1 p (.dK (mergeK [] kvs.reverse)))
theorem rd_dictRev0 (h : te σ H fun v H1 => rDictRev K v H1 Q) : tDictRev K te σ H Q := h
def rTupRev (K : PySem.W.Frag) (v : V) (H1 : Hp) (Q : VK) : Prop := ∃ (a : Addr) (xs : List V), v = .ref a ∧ SqL K H1 a xs ∧ ∀ q, H1 q = none → Q (.ref q) (upd H1 q (.tup xs.reverse))
theorem rd_tupRev0 (h : te σ H fun v H1 => rTupRev K v H1 Q) : tTupRev K te σ H Q := h
theorem rd_tupRev {a : Addr} {xs : List V} (e : SqL K H a xs) (h : ∀ q H', H q = none → Same H H' → H' q = some (.tup xs.reverse) → Q (.ref q) H') : rTupRev K (.ref a) H Q := ⟨a, xs, rfl, e, fun q hq => h q _ hq (Same.new (Same.refl H) hq) upd_same⟩
def rDGet1 (ty : TE) (x : V) (σ : L2.St) (H1 : Hp) (Q : VK) : Prop := ∃ a, x = .ref a ∧ IsD H1 a ∧ ty σ H1 fun y H2 => ∃ o, DGet H2 a y o ∧ Q (o.getD .non) H2
theorem rd_dget10 (h : td σ H fun x H1 => rDGet1 ty x σ H1 Q) : tDGet1 td ty σ H Q := h
/-- text * int -/
def rMulS : R2 := fun x y H Q => ∃ z n, x = .str z ∧ y = .int n ∧ 2 ≤ n ∧ n ≤ 100 ∧ 1 ≤ z.length ∧ z.length ≤ 100 ∧ ((⟨(List.replicate n.toNat z.cps).foldl (· ++ ·) #[]⟩ : Str).length ≤ 100000) ∧ Q (.str ⟨(List.replicate n.toNat z.cps).foldl (· ++ ·) #[]⟩) H
theorem op_mulS {X : Cx} : OpR X (binaryOp .Mult) rMulS := by
  intro pins s σ H x y v u Q I rx ry h
  obtain ⟨z, n, rfl, rfl, n0, n1, z0, z1, lz, q⟩ := h
  obtain ⟨t, rfl⟩ := rx
  obtain ⟨t', rfl⟩ := ry
  have e1 : (n == 1 || z.length == 0) = false := by
    rw [Bool.or_eq_false_iff]
    exact ⟨beq_eq_false_iff_ne.mpr (by omega), beq_eq_false_iff_ne.mpr (by omega)⟩
  refine PySem.P.mul_str (by rw [decide_eq_false (by omega), decide_eq_false (by omega)]; rfl) (fun _ _ => ?_) (fun _ _ => ?_) ?_
  · have h1 : (z.length : Int) * n ≤ 100 * 100 := Int.mul_le_mul (by omega) n1 (by omega) (by omega)
    have h2 : (z.length : Int) ≤ (2 ^ 63 - 1) / n := (Int.le_ediv_iff_mul_le (by omega)).mpr (Int.le_trans h1 (by decide))
    omega
  · refine decide_eq_false (Nat.not_lt.mpr (Nat.le_trans (m := 10000) ?_ (by decide)))
    have : n.toNat ≤ 100 := by omega
    exact Nat.mul_le_mul z1 this
  · rw [if_neg (by omega), e1, if_neg (by decide)]
    exact ⟨Nat.le_trans lz (by decide), ⟨.str _, H, I.tok _, ⟨_, rfl⟩, q⟩⟩
end
end Sl
set_option Elab.async false
set_option linter.all false
set_option maxRecDepth 100000
set_option maxHeartbeats 4000000
/-! set(list of ints), sorted(set) -/
namespace SetI
open PySem PySem.Spec PyProof.Rows L2
local macro_rules | `(tactic| walk_at "wgo") => `(tactic| (repeat (any_goals (first | assumption | wp_step))))
/-- the set as it is made -/
abbrev set0 (w : World) : Obj :=
  { cls := .type "set", dict := none, data := .set #[] 0 (.fresh 0 0 (!w.params.followText "set-order")) }
section
variable {P : Program} {w : World} {A : Around} {E : Value → Shared → Prop} {s : Shared}
/-- what the making leaves -/
def Done (w : World) (s : Shared) (ns : List Int) (s' : Shared) : Prop := ∃ (h' : Heap) (tk c : Nat), s' = { s with heap := h', toks := tk } ∧
  SetR w h' s.heap.objs.size (fun j => decide (j ∈ ns)) c ∧ c ≤ ns.length ∧ ∀ b o, s.heap.get? b = some o → h'.get? b = some o
set_option maxHeartbeats 8000000 in
theorem of_list {l : Addr} {items : Array Value} (ns : List Int) {Q : Value → Shared → Prop} (hh : A.handled = none) (hl : s.heap.IsList l items) (hit : IntsAre items.toList ns) (hb : ns.length + 1 < scanBound)
    (h : ∀ s', Done w s ns s' → Q (.ref s.heap.objs.size) s') : wpAny (model P w) A (call (.type "set") [.ref l]) Q E s := by
  obtain ⟨nm, rest, mro⟩ := F.called_set.mro
  have made := F.called_set.made
  have below := F.called_set.sub
  have nt := F.called_set.notType
  have cc := F.called_set.canCreate
  have tc := F.typeCall_set_1 (.ref l)
  have size : items.size = ns.length := by
    rw [← Array.length_toList]
    exact IntsAre.length hit
  refine wpAny_call (codeAny_of_tree (show wpAny _ _ (callAny (.type "set") _) _ _ _ from wpAny_pure ⟨Code.quiet_builtin _ (by decide +kernel), ?_⟩))
  refine codeAny_builtin F.entry_type_call ?_
  rw [Around.under_plain (weight_type_call_type "set" [.ref l] []) rfl]
  walk_at "wgo"
  obtain ⟨s1, es1⟩ : ∃ s1 : Shared, s1 = { s with heap := s.heap.push (set0 w) } := ⟨_, rfl⟩
  refine codeAny_mono (code_set_led1 (.ref l) (E := E) (Q₁ := fun obj z => obj = .ref s.heap.objs.size ∧ z = s1) ⟨rfl, es1.symm⟩) fun r z hz => ?_
  cases r with
  | error e => exact hz
  | ok fl =>
    cases fl with
    | ret obj =>
      obtain ⟨rfl, rfl⟩ := hz
      subst es1
      have gS : (s.heap.push (set0 w)).get? s.heap.objs.size = some (set0 w) := Heap.get?_push_size _ rfl
      have tS : Shared.TypeIs { s with heap := s.heap.push (set0 w) } (.ref s.heap.objs.size) "set" := ⟨_, gS, rfl⟩
      have il := F.called_set.init.lookup
      have ib := F.called_set.init.bind (.ref s.heap.objs.size)
      walk_at "wgo"
      refine codeAny_mono (codeAny_call_builtin (R := wants (fun r z => r = .none ∧ Done w s ns z) E) F.called_set.init.plain F.entry_set_init (check_set_init_1 tS ?_)) fun r2 z2 hz2 => ?_
      · obtain ⟨⟨lc, ld, ldat, lsl⟩, el, e1, nl, e2⟩ := hl
        simp only at e1 e2
        subst e1 e2
        have gl := Heap.get?_push_of_some (set0 w) el
        have n1 := F.sub_list_set
        have n2 := F.sub_list_frozenset
        have n3 : (Value.type "list" == Value.type "dict") = false := by decide
        have L1 : (s.heap.push (set0 w)).IsList l items := ⟨_, gl, rfl, nl, rfl⟩
        unfold Builtin.«set.__init__» noKeywords Builtin.Frozenset.updateFrom
        generalize hPI : pyIter = PI
        wp_walk
        subst hPI
        refine wpAny_pyIter_list L1 (wpAny_bind (wpAny_runValue ?_))
        have lt := Heap.lt_size el
        have pz : (s.heap.push (set0 w)).objs.size = s.heap.objs.size + 1 := Heap.size_push ..
        have ne1 : l ≠ (s.heap.push (set0 w)).objs.size := fun z => by
          rw [pz] at z
          exact absurd lt (by rw [z]; exact Nat.not_lt.mpr (Nat.le_succ _))
        have ne2 : s.heap.objs.size ∉ [(s.heap.push (set0 w)).objs.size, l] := fun m => by
          rcases List.mem_cons.mp m with z | z
          · rw [pz] at z
            exact Nat.succ_ne_self _ z.symm
          · rw [List.mem_singleton.mp z] at lt
            exact Nat.lt_irrefl _ lt
        have gS2 : ((s.heap.push (set0 w)).push { cls := .type "list_iterator", data := .fields #[.ref l, .int 0 0] }).get? s.heap.objs.size = some (set0 w) := Heap.get?_push_of_some _ gS
        have vals : ∀ (i : Nat) (v : Value), items[i]? = some v → ∃ k t, ns[i]? = some k ∧ v = .int k t := by
          intro i v hv
          have hi : i < ns.length := by
            have := (Array.getElem?_eq_some_iff.mp hv).1
            omega
          obtain ⟨t, e⟩ := PyProof.Rows.IntsAre.int_at hit i v (by rw [Array.getElem?_toList, hv])
          rw [List.getD_eq_getElem?_getD, List.getElem?_eq_getElem hi] at e
          exact ⟨_, t, List.getElem?_eq_getElem hi, e⟩
        have W := (Walks.list (prog := P) (w := w) (A := A.in1.in1.in1) (by simp [hh]) _ l ne1 items).toS
        refine set_update_ints W _ ne2 ns size hb vals _ 0 _ rfl (Nat.zero_le _) ?st ?old fun s' c' mv hc R => ?_
        case st => exact ⟨⟨_, Heap.get?_push_size _ rfl, rfl, rfl⟩, L1.push _⟩
        case old => exact ⟨0, Nat.le_refl 0, setR_new_at gS2⟩
        obtain ⟨h', g', d', t', o'⟩ := s'
        obtain rfl : g' = s.gens := mv.gens
        obtain rfl : d' = s.drawn := mv.drawn
        obtain rfl : o' = s.os := mv.os
        refine wpAny_pure (wpAny_pure ⟨rfl, h', t', c', rfl, R, by omega, fun b o e => ?_⟩)
        have lb := Heap.lt_size e
        refine mv.heap b o (fun m => ?_) (Heap.get?_push_of_some _ (Heap.get?_push_of_some _ e))
        rcases List.mem_cons.mp m with z | z
        · exact Nat.ne_of_lt lb z
        · rw [List.mem_singleton.mp z, pz] at lb
          exact absurd lb (Nat.not_lt.mpr (Nat.le_succ _))
      · cases r2 with
        | error e => exact hz2
        | ok f2 =>
          cases f2 with
          | ret r =>
            obtain ⟨rfl, dn⟩ := hz2
            have hq := h _ dn
            obtain ⟨h', tk, c, rfl, _⟩ := dn
            walk_at "wgo"
          | _ => exact hz2.elim
    | _ => exact hz.elim
end
section
variable {X : Cx}
/-- set(xs) of ints -/
def rSetL (w : World) (K : PySem.W.Frag) : List V → Hp → VK → Prop := fun vs H Q => ∃ (a : Addr) (ns : List Int), vs = [.ref a] ∧ H a = some (.lst (ns.map V.int)) ∧ ns.length ≤ 1000 ∧
  ∀ (p : Addr) (c : Nat), c ≤ ns.length → H p = none → Q (.ref p) (upd H p (SetO w p (fun j => decide (j ∈ ns)) c))
theorem cr_setI (hc : X.calm = true) : CallR X (.type "set") (rSetL X.w X.K) := by
  intro pins s σ H vs us Q I r h
  obtain ⟨a, ns, rfl, ha, hl, q⟩ := h
  obtain rfl := Vals.ref1 r
  obtain ⟨hz, its, n, rv, hob⟩ := I.hok a _ ha
  have lst : s.heap.IsList a its.toArray := ⟨_, hob, rfl, n, rfl⟩
  have ia : IntsAre its.toArray.toList ns := by
    rw [List.toList_toArray]
    exact ints_of_vals rv
  refine of_list ns (I.ok.hd hc) lst ia (by unfold scanBound; omega) fun s' dn => ?_
  obtain ⟨h', tk, c, rfl, R, lc, kp⟩ := dn
  exact ⟨.ref _, upd H s.heap.objs.size (SetO X.w s.heap.objs.size (fun j => decide (j ∈ ns)) c), I.laid (t' := tk) kp (Nat.le_refl _) (setO_new R), rfl, q _ c lc (I.hok.fresh (Nat.le_refl _))⟩
end
end SetI
set_option Elab.async false
set_option linter.all false
set_option maxRecDepth 100000
set_option maxHeartbeats 4000000
/-! sets of texts: set(list), set(tuple), sorted(set) -/
namespace SetS
open PySem PySem.Spec PyProof.Rows L2
open SetI (set0)
local macro_rules | `(tactic| walk_at "wgo") => `(tactic| (repeat (any_goals (first | assumption | wp_step))))
def keyS (e : Int × Value) : Str := match e.2 with | .str k _ => k | _ => Str.empty
/-- the payload of a set whose members are the texts l -/
structure SetD (P : Program) (w : World) (D : Froz.SD) (l : List Str) : Prop where
  ok : Froz.TxOk P w D l
  pk : (D.1.toList.map keyS).Perm l
  nd : l.Nodup
  str : ∀ e ∈ D.1.toList, ∃ k tk, e.2 = Value.str k tk
  ris : Ris D.2.2.place.toList
  led : w.params.followText "set-order" = true ∨ D.2.2.led = true
def SetT (P : Program) (w : World) (h : Heap) (a : Addr) (l : List Str) : Prop := ∃ D, h.get? a = some (Froz.sObj "set" D) ∧ SetD P w D l
theorem StrsAre_len : ∀ {us : List Value} {xs : List Str}, StrsAre us xs → us.length = xs.length
  | _, _, .nil => rfl
  | _, _, .cons x t h => by
    have := StrsAre_len h
    simp [this]
theorem strAt : ∀ {us : List Value} {xs : List Str} {i : Nat} {v : Value}, StrsAre us xs → us[i]? = some v → ∃ k t, xs[i]? = some k ∧ v = .str k t
  | _, _, _, _, .nil, h => by simp at h
  | _, _, 0, _, .cons x t _, h => by
    cases h
    exact ⟨x, t, rfl, rfl⟩
  | _, _, i + 1, _, .cons _ _ r, h => strAt (i := i) r h
section
variable {P : Program} {w : World} {A : Around} {E : Value → Shared → Prop} {s : Shared}
theorem SetT.at {h h' : Heap} {a : Addr} {l : List Str} (R : SetT P w h a l) (k : ∀ o, h.get? a = some o → h'.get? a = some o) : SetT P w h' a l := by
  obtain ⟨D, ho, r⟩ := R
  exact ⟨D, k _ ho, r⟩
theorem nil_ok : SetD P w (#[], 0, .fresh 0 0 (!w.params.followText "set-order")) [] where
  ok := Froz.TxOk.nil (by rfl)
  pk := .nil
  nd := .nil
  str := fun e he => by simp at he
  ris := List.Pairwise.nil
  led := by
    show _ ∨ (!w.params.followText "set-order") = true
    cases w.params.followText "set-order"
    · exact .inr rfl
    · exact .inl rfl
theorem tail_fact {ep : Nat} {es1 : Array (Int × Value)} {t2 : SetTable} {b : Bool} (r : Ris t2.place.toList) : (Froz.tailTx ep es1 t2 b).1.toList.Perm es1.toList ∧ Ris (Froz.tailTx ep es1 t2 b).2.2.place.toList ∧ (Froz.tailTx ep es1 t2 b).2.2.led = t2.led := by
  unfold Froz.tailTx
  split
  · exact ⟨relayAll_perm t2 es1 _, relayAll_ris t2 es1 _, relayAll_led t2 es1 _⟩
  · exact ⟨.refl _, r, rfl⟩
theorem add_fact {D : Froz.SD} {k : Str} {u : Tok} (r : Ris D.2.2.place.toList) : (Froz.addTx (hashStr w k) (.str k u) D).1.toList.Perm ((hashStr w k, .str k u) :: D.1.toList) ∧ Ris (Froz.addTx (hashStr w k) (.str k u) D).2.2.place.toList ∧ (Froz.addTx (hashStr w k) (.str k u) D).2.2.led = D.2.2.led := by
  obtain ⟨es, ep, t⟩ := D
  have hp := layNew_perm t es (hashStr w k) (.str k u)
  have hr := layNew_ris t es (hashStr w k) (.str k u) r
  have hl := layNew_led t es (hashStr w k) (.str k u)
  rw [Array.toList_push] at hp
  have hp2 := hp.trans (List.perm_append_singleton _ _)
  unfold Froz.addTx
  by_cases c : (layNew t es (hashStr w k) (.str k u)).2.1.plain = true
  · have f := tail_fact (ep := ep) (es1 := (layNew t es (hashStr w k) (.str k u)).1) (t2 := { (layNew t es (hashStr w k) (.str k u)).2.1 with plain := false }) (b := (layNew t es (hashStr w k) (.str k u)).2.2.1) hr
    simp only [if_pos c]
    exact ⟨f.1.trans hp2, f.2.1, f.2.2.trans hl⟩
  · have f := tail_fact (ep := ep) (es1 := (layNew t es (hashStr w k) (.str k u)).1) (t2 := (layNew t es (hashStr w k) (.str k u)).2.1) (b := (layNew t es (hashStr w k) (.str k u)).2.2.1) hr
    simp only [if_neg c]
    exact ⟨f.1.trans hp2, f.2.1, f.2.2.trans hl⟩
/-- a text goes into a set -/
theorem add_str {a : Addr} {D : Froz.SD} {l : List Str} {k : Str} {u : Tok} {Q : Bool → Shared → Prop} (ho : s.heap.get? a = some (Froz.sObj "set" D)) (F : SetD P w D l) (hb : l.length + 1 < scanBound)
    (h : ∀ b h' l', SetT P w h' a l' → (∀ x, x ∈ l' ↔ x ∈ l ∨ x = k) → l'.length ≤ l.length + 1 → (∀ c o, c ≠ a → s.heap.get? c = some o → h'.get? c = some o) → Q b { s with heap := h' }) :
    wpAny (model P w) A (setAddHashed a (.str k u) (hashStr w k)) Q E s := by
  by_cases hk : k ∈ l
  · have q := h false s.heap l ⟨D, ho, F⟩ (fun x => ⟨.inl, fun z => z.elim id fun e => e ▸ hk⟩) (Nat.le_succ _) fun c o _ e => e
    obtain ⟨es, ep, t⟩ := D
    have hd : (Froz.sObj "set" (es, ep, t)).data = .set es ep t := rfl
    have hf : t.fits es.size = true := F.ok.fit
    have hel : ElemsOf (PySem.strKind P w) es.toList := F.ok.el
    have hsz : es.size = l.length := F.ok.sz
    have hb0 : es.size < scanBound := by omega
    have hkey : (PySem.strKind P w).is k (.str k u) = true := Froz.is_str k u
    unfold setAddHashed setAddHashedIn
    refine wpAny_holding (wpAny_bind (wpAny_setState_of ho hd hf ?_))
    dsimp only
    rw [byScan_of rfl hb0 hel]
    simp only [↓reduceIte]
    unfold setAddByScan
    refine wpAny_bind ?_
    refine wpAny_bind (wpAny_rule ?_)
    refine wpAny_bind (wpAny_setScan_of (knd := PySem.strKind P w) (k := k) hkey ho hd hf hel ?_)
    cases hr : List.findIdx? (fun e => (PySem.strKind P w).is k e.2) es.toList with
    | none =>
      obtain ⟨e, he, z⟩ := (F.ok.mem k).mp hk
      have c := List.findIdx?_eq_none_iff.mp hr e he
      rw [z] at c
      cases c
    | some j =>
      dsimp only
      exact wpAny_pure (wpAny_pure q)
  · obtain ⟨f1, f2, f3⟩ := add_fact (w := w) (k := k) (u := u) F.ris
    refine Froz.add_x ho F.ok hk hb (h true _ (k :: l) ⟨_, Froz.get_upd _ ho rfl, ⟨Froz.add_ok u F.ok, ?_, List.nodup_cons.mpr ⟨hk, F.nd⟩, fun e he => ?_, f2, F.led.imp id fun z => by rw [f3]; exact z⟩⟩ (fun x => ?_) (Nat.le_refl _) fun c o hc e => ?_)
    · have := f1.map keyS
      exact this.trans (F.pk.cons k)
    · rcases List.mem_cons.mp (f1.mem_iff.mp he) with z | z
      · exact ⟨k, u, by rw [z]⟩
      · exact F.str e z
    · rw [List.mem_cons]
      exact Or.comm
    · exact PySem.Heap.get?_update_of_ne _ (Ne.symm hc) e
theorem update_strs {I : Addr} {fp wr : List Addr} {G : Array GenState → Array GenState → Prop} {n : Nat} {Pv : Nat → Value → Prop} {St : Nat → Shared → Prop} {R : Result → Shared → Prop}
    (W : WalksS P w A.in1 I fp wr G n Pv St) (S : Addr) (hSf : S ∉ fp) (ns : List Str) (hn : n = ns.length) (hb : ns.length + 1 < scanBound) (hval : ∀ i v, Pv i v → ∃ k t, ns[i]? = some k ∧ v = .str k t) :
    ∀ (k i : Nat) (s : Shared) (l : List Str), n - i = k → i ≤ n → St i s → SetT P w s.heap S l → (∀ x, x ∈ l ↔ x ∈ ns.take i) → l.length ≤ i →
      (∀ s' l', Moved (S :: wr) G s s' → SetT P w s'.heap S l' → (∀ x, x ∈ l' ↔ x ∈ ns) → l'.length ≤ n → R (.ok (.ret .none)) s') →
      codeAny (model P w) A (.builtin "set.update.loop" ⟨[.ref S, .ref I], []⟩) R s := by
  have hSw : S ∉ wr := fun h => hSf (W.sub _ h)
  have hsub : ∀ b ∈ wr, b ∈ S :: wr := fun b hb => List.mem_cons_of_mem _ hb
  intro k
  induction k with
  | zero =>
    intro i s l hk' hi hst hS hm hl hR
    obtain rfl : i = n := by omega
    refine codeAny_builtin PyProof.Rows.F.entry_set_update_loop ?_
    rw [Around.under_plainId PyProof.Rows.F.plain_set_update_loop _]
    show wpAny _ A.in1 (pyNext (.ref I) >>= _) _ _ s
    refine wpAny_bind (W.done s _ _ hst fun s' mv => ?_)
    show wpAny _ A.in1 (ret Value.none) _ _ s'
    rw [List.take_of_length_le (by omega)] at hm
    exact wpAny_pure (hR s' l (mv.mono hsub) (hS.at fun o e => mv.heap S o hSw e) hm hl)
  | succ k ih =>
    intro i s l hk' hi hst hS hm hl hR
    have hlt : i < n := by omega
    refine codeAny_builtin PyProof.Rows.F.entry_set_update_loop ?_
    rw [Around.under_plainId PyProof.Rows.F.plain_set_update_loop _]
    show wpAny _ A.in1 (pyNext (.ref I) >>= _) _ _ s
    refine wpAny_bind (W.item i s _ _ hlt hst fun v s' hP hst' mv => ?_)
    obtain ⟨z, t, hz, rfl⟩ := hval i v hP
    obtain ⟨D, ho, F⟩ : SetT P w s'.heap S l := hS.at fun o e => mv.heap S o hSw e
    show wpAny _ A.in1 (holding [Value.str z t] (setAdd S (.str z t)) >>= _) _ _ s'
    refine wpAny_bind (wpAny_holding ?_)
    unfold setAdd
    refine wpAny_holding ?_
    refine wpAny_bind ((PySem.strKind P w).pyHash (k := z) (Froz.is_str _ _) ?_)
    refine add_str (s := { s' with toks := s'.toks + 1 }) ho F (by omega) fun b h' l' R' hm' hl' ne => ?_
    refine wpAny_pure ⟨plainId_quiet PyProof.Rows.F.plain_set_update_loop _, ih (i + 1) _ l' (by omega) hlt (W.frame _ s' _ _ hst' (Nat.le_succ _) fun b hb o e => ?_) R' (fun x => ?_) (by omega) fun s'' l2 mv2 R2 hm2 hl2 => ?_⟩
    · exact ne b o (fun h : b = S => hSf (by rw [← h]; exact hb)) e
    · rw [hm', hm, List.take_add_one, hz, List.mem_append]
      simp
    · refine hR s'' l2 (Moved.trans W.gtrans ((mv.mono hsub).then_heap (Nat.le_succ _) fun b o hb e => ?_) mv2) R2 hm2 hl2
      exact ne b o (fun h : b = S => hb (by rw [h]; exact List.mem_cons_self)) e
/-- what the making leaves -/
def Done (P : Program) (w : World) (s : Shared) (ns : List Str) (s' : Shared) : Prop := ∃ (h' : Heap) (tk : Nat) (l : List Str), s' = { s with heap := h', toks := tk } ∧
  SetT P w h' s.heap.objs.size l ∧ (∀ x, x ∈ l ↔ x ∈ ns) ∧ l.length ≤ ns.length ∧ ∀ b o, s.heap.get? b = some o → h'.get? b = some o
set_option maxHeartbeats 8000000 in
theorem of_list {l : Addr} {items : Array Value} (ns : List Str) {Q : Value → Shared → Prop} (hh : A.handled = none) (hl : s.heap.IsList l items) (hit : StrsAre items.toList ns) (hb : ns.length + 1 < scanBound)
    (h : ∀ s', Done P w s ns s' → Q (.ref s.heap.objs.size) s') : wpAny (model P w) A (call (.type "set") [.ref l]) Q E s := by
  obtain ⟨nm, rest, mro⟩ := F.called_set.mro
  have made := F.called_set.made
  have below := F.called_set.sub
  have nt := F.called_set.notType
  have cc := F.called_set.canCreate
  have tc := F.typeCall_set_1 (.ref l)
  have size : items.size = ns.length := by
    rw [← Array.length_toList]
    exact StrsAre_len hit
  refine wpAny_call (codeAny_of_tree (show wpAny _ _ (callAny (.type "set") _) _ _ _ from wpAny_pure ⟨Code.quiet_builtin _ (by decide +kernel), ?_⟩))
  refine codeAny_builtin F.entry_type_call ?_
  rw [Around.under_plain (weight_type_call_type "set" [.ref l] []) rfl]
  walk_at "wgo"
  obtain ⟨s1, es1⟩ : ∃ s1 : Shared, s1 = { s with heap := s.heap.push (set0 w) } := ⟨_, rfl⟩
  refine codeAny_mono (code_set_led1 (.ref l) (E := E) (Q₁ := fun obj z => obj = .ref s.heap.objs.size ∧ z = s1) ⟨rfl, es1.symm⟩) fun r z hz => ?_
  cases r with
  | error e => exact hz
  | ok fl =>
    cases fl with
    | ret obj =>
      obtain ⟨rfl, rfl⟩ := hz
      subst es1
      have gS : (s.heap.push (set0 w)).get? s.heap.objs.size = some (set0 w) := Heap.get?_push_size _ rfl
      have tS : Shared.TypeIs { s with heap := s.heap.push (set0 w) } (.ref s.heap.objs.size) "set" := ⟨_, gS, rfl⟩
      have il := F.called_set.init.lookup
      have ib := F.called_set.init.bind (.ref s.heap.objs.size)
      walk_at "wgo"
      refine codeAny_mono (codeAny_call_builtin (R := wants (fun r z => r = .none ∧ Done P w s ns z) E) F.called_set.init.plain F.entry_set_init (check_set_init_1 tS ?_)) fun r2 z2 hz2 => ?_
      · obtain ⟨⟨lc, ld, ldat, lsl⟩, el, e1, nl, e2⟩ := hl
        simp only at e1 e2
        subst e1 e2
        have gl := Heap.get?_push_of_some (set0 w) el
        have n1 := F.sub_list_set
        have n2 := F.sub_list_frozenset
        have n3 : (Value.type "list" == Value.type "dict") = false := by decide
        have L1 : (s.heap.push (set0 w)).IsList l items := ⟨_, gl, rfl, nl, rfl⟩
        unfold Builtin.«set.__init__» noKeywords Builtin.Frozenset.updateFrom
        generalize hPI : pyIter = PI
        wp_walk
        subst hPI
        refine wpAny_pyIter_list L1 (wpAny_bind (wpAny_runValue ?_))
        have lt := Heap.lt_size el
        have pz : (s.heap.push (set0 w)).objs.size = s.heap.objs.size + 1 := Heap.size_push ..
        have ne1 : l ≠ (s.heap.push (set0 w)).objs.size := fun z => by
          rw [pz] at z
          exact absurd lt (by rw [z]; exact Nat.not_lt.mpr (Nat.le_succ _))
        have ne2 : s.heap.objs.size ∉ [(s.heap.push (set0 w)).objs.size, l] := fun m => by
          rcases List.mem_cons.mp m with z | z
          · rw [pz] at z
            exact Nat.succ_ne_self _ z.symm
          · rw [List.mem_singleton.mp z] at lt
            exact Nat.lt_irrefl _ lt
        have gS2 : ((s.heap.push (set0 w)).push { cls := .type "list_iterator", data := .fields #[.ref l, .int 0 0] }).get? s.heap.objs.size = some (set0 w) := Heap.get?_push_of_some _ gS
        have vals : ∀ (i : Nat) (v : Value), items[i]? = some v → ∃ k t, ns[i]? = some k ∧ v = .str k t := by
          intro i v hv
          have hi : i < ns.length := by
            have := (Array.getElem?_eq_some_iff.mp hv).1
            omega
          exact strAt hit (by rw [Array.getElem?_toList, hv])
        have W := (Walks.list (prog := P) (w := w) (A := A.in1.in1.in1) (by simp [hh]) _ l ne1 items).toS
        refine update_strs W _ ne2 ns size hb vals _ 0 _ [] rfl (Nat.zero_le _) ?st ?old (fun x => by simp) (Nat.zero_le _) fun s' l' mv R hm hl => ?_
        case st => exact ⟨⟨_, Heap.get?_push_size _ rfl, rfl, rfl⟩, L1.push _⟩
        case old => exact ⟨(#[], 0, .fresh 0 0 (!w.params.followText "set-order")), gS2, nil_ok⟩
        obtain ⟨h', g', d', t', o'⟩ := s'
        obtain rfl : g' = s.gens := mv.gens
        obtain rfl : d' = s.drawn := mv.drawn
        obtain rfl : o' = s.os := mv.os
        refine wpAny_pure (wpAny_pure ⟨rfl, h', t', l', rfl, R, hm, by omega, fun b o e => ?_⟩)
        have lb := Heap.lt_size e
        refine mv.heap b o (fun m => ?_) (Heap.get?_push_of_some _ (Heap.get?_push_of_some _ e))
        rcases List.mem_cons.mp m with z | z
        · exact Nat.ne_of_lt lb z
        · rw [List.mem_singleton.mp z, pz] at lb
          exact absurd lb (Nat.not_lt.mpr (Nat.le_succ _))
      · cases r2 with
        | error e => exact hz2
        | ok f2 =>
          cases f2 with
          | ret r =>
            obtain ⟨rfl, dn⟩ := hz2
            have hq := h _ dn
            obtain ⟨h', tk, l', rfl, _⟩ := dn
            walk_at "wgo"
          | _ => exact hz2.elim
    | _ => exact hz.elim
set_option maxHeartbeats 8000000 in
theorem of_tuple {l : Addr} {items : Array Value} (ns : List Str) {Q : Value → Shared → Prop} (hh : A.handled = none) (hl : s.heap.IsTuple l items) (hit : StrsAre items.toList ns) (hb : ns.length + 1 < scanBound)
    (h : ∀ s', Done P w s ns s' → Q (.ref s.heap.objs.size) s') : wpAny (model P w) A (call (.type "set") [.ref l]) Q E s := by
  obtain ⟨nm, rest, mro⟩ := F.called_set.mro
  have made := F.called_set.made
  have below := F.called_set.sub
  have nt := F.called_set.notType
  have cc := F.called_set.canCreate
  have tc := F.typeCall_set_1 (.ref l)
  have size : items.size = ns.length := by
    rw [← Array.length_toList]
    exact StrsAre_len hit
  refine wpAny_call (codeAny_of_tree (show wpAny _ _ (callAny (.type "set") _) _ _ _ from wpAny_pure ⟨Code.quiet_builtin _ (by decide +kernel), ?_⟩))
  refine codeAny_builtin F.entry_type_call ?_
  rw [Around.under_plain (weight_type_call_type "set" [.ref l] []) rfl]
  walk_at "wgo"
  obtain ⟨s1, es1⟩ : ∃ s1 : Shared, s1 = { s with heap := s.heap.push (set0 w) } := ⟨_, rfl⟩
  refine codeAny_mono (code_set_led1 (.ref l) (E := E) (Q₁ := fun obj z => obj = .ref s.heap.objs.size ∧ z = s1) ⟨rfl, es1.symm⟩) fun r z hz => ?_
  cases r with
  | error e => exact hz
  | ok fl =>
    cases fl with
    | ret obj =>
      obtain ⟨rfl, rfl⟩ := hz
      subst es1
      have gS : (s.heap.push (set0 w)).get? s.heap.objs.size = some (set0 w) := Heap.get?_push_size _ rfl
      have tS : Shared.TypeIs { s with heap := s.heap.push (set0 w) } (.ref s.heap.objs.size) "set" := ⟨_, gS, rfl⟩
      have il := F.called_set.init.lookup
      have ib := F.called_set.init.bind (.ref s.heap.objs.size)
      walk_at "wgo"
      refine codeAny_mono (codeAny_call_builtin (R := wants (fun r z => r = .none ∧ Done P w s ns z) E) F.called_set.init.plain F.entry_set_init (check_set_init_1 tS ?_)) fun r2 z2 hz2 => ?_
      · obtain ⟨⟨lc, ld, ldat, lsl⟩, el, e1, nl, e2⟩ := hl
        simp only at e1 e2
        subst e1 e2
        have gl := Heap.get?_push_of_some (set0 w) el
        have n1 := F.sub_tuple_set
        have n2 := F.sub_tuple_frozenset
        have n3 : (Value.type "tuple" == Value.type "dict") = false := by decide
        have L1 : (s.heap.push (set0 w)).IsTuple l items := ⟨_, gl, rfl, nl, rfl⟩
        unfold Builtin.«set.__init__» noKeywords Builtin.Frozenset.updateFrom
        generalize hPI : pyIter = PI
        wp_walk
        subst hPI
        refine wpAny_pyIter_tuple L1 (wpAny_bind (wpAny_runValue ?_))
        have lt := Heap.lt_size el
        have pz : (s.heap.push (set0 w)).objs.size = s.heap.objs.size + 1 := Heap.size_push ..
        have ne1 : l ≠ (s.heap.push (set0 w)).objs.size := fun z => by
          rw [pz] at z
          exact absurd lt (by rw [z]; exact Nat.not_lt.mpr (Nat.le_succ _))
        have ne2 : s.heap.objs.size ∉ [(s.heap.push (set0 w)).objs.size, l] := fun m => by
          rcases List.mem_cons.mp m with z | z
          · rw [pz] at z
            exact Nat.succ_ne_self _ z.symm
          · rw [List.mem_singleton.mp z] at lt
            exact Nat.lt_irrefl _ lt
        have gS2 : ((s.heap.push (set0 w)).push { cls := .type "tuple_iterator", data := .fields #[.ref l, .int 0 0] }).get? s.heap.objs.size = some (set0 w) := Heap.get?_push_of_some _ gS
        have vals : ∀ (i : Nat) (v : Value), items[i]? = some v → ∃ k t, ns[i]? = some k ∧ v = .str k t := by
          intro i v hv
          have hi : i < ns.length := by
            have := (Array.getElem?_eq_some_iff.mp hv).1
            omega
          exact strAt hit (by rw [Array.getElem?_toList, hv])
        have W := (Walks.tuple (prog := P) (w := w) (A := A.in1.in1.in1) (by simp [hh]) _ l ne1 items).toS
        refine update_strs W _ ne2 ns size hb vals _ 0 _ [] rfl (Nat.zero_le _) ?st ?old (fun x => by simp) (Nat.zero_le _) fun s' l' mv R hm hl => ?_
        case st => exact ⟨⟨_, Heap.get?_push_size _ rfl, rfl, rfl⟩, L1.push _⟩
        case old => exact ⟨(#[], 0, .fresh 0 0 (!w.params.followText "set-order")), gS2, nil_ok⟩
        obtain ⟨h', g', d', t', o'⟩ := s'
        obtain rfl : g' = s.gens := mv.gens
        obtain rfl : d' = s.drawn := mv.drawn
        obtain rfl : o' = s.os := mv.os
        refine wpAny_pure (wpAny_pure ⟨rfl, h', t', l', rfl, R, hm, by omega, fun b o e => ?_⟩)
        have lb := Heap.lt_size e
        refine mv.heap b o (fun m => ?_) (Heap.get?_push_of_some _ (Heap.get?_push_of_some _ e))
        rcases List.mem_cons.mp m with z | z
        · exact Nat.ne_of_lt lb z
        · rw [List.mem_singleton.mp z, pz] at lb
          exact absurd lb (Nat.not_lt.mpr (Nat.le_succ _))
      · cases r2 with
        | error e => exact hz2
        | ok f2 =>
          cases f2 with
          | ret r =>
            obtain ⟨rfl, dn⟩ := hz2
            have hq := h _ dn
            obtain ⟨h', tk, l', rfl, _⟩ := dn
            walk_at "wgo"
          | _ => exact hz2.elim
    | _ => exact hz.elim

theorem strs_of : ∀ l : List Value, (∀ v ∈ l, ∃ k tk, v = Value.str k tk) → ∃ ss, StrsAre l ss ∧ ss = l.map fun v => keyS (0, v)
  | [], _ => ⟨[], .nil, rfl⟩
  | v :: l, h => by
    obtain ⟨k, tk, rfl⟩ := h v List.mem_cons_self
    obtain ⟨ss, h1, h2⟩ := strs_of l fun u hu => h u (List.mem_cons_of_mem _ hu)
    exact ⟨k :: ss, .cons k tk h1, by rw [h2]; rfl⟩
/-- sorted(set of texts) -/
theorem sorted_setS {a : Addr} {l : List Str} {Q : Value → Shared → Prop} (R : SetT P w s.heap a l) (hh : A.handled = none) (h64 : l.length < 64)
    (hQ : ∀ s' p (out : Array Value) (c : Nat) (ys : List Str), (∀ b o, s.heap.get? b = some o → s'.heap.get? b = some o) → s'.gens = s.gens → s'.os = s.os → s.heap.objs.size ≤ p →
      s'.heap.get? p = some (seqObj "list" out c) → StrsAre out.toList ys → ys.Perm l → sortedS ys = true → Q (.ref p) s') :
    wpAny (model P w) A (call (.builtin "sorted") [.ref a]) Q E s := by
  obtain ⟨⟨es, ep, t⟩, ho, F⟩ := R
  have hd : (Froz.sObj "set" (es, ep, t)).data = .set es ep t := rfl
  have hsz : es.size = l.length := F.ok.sz
  have sb : es.size < scanBound := by
    have : (64 : Nat) ≤ scanBound := by decide
    omega
  refine Calls.call_function_entry kind_sorted plain_sorted entry_sorted (args_sorted1 _) ?_
  unfold Builtin.«sorted»
  refine wpAny_bind (m := checkCount "sorted" 1 1 _) (wpAny_pure ?_)
  refine wpAny_bind (collect_set (A := A.in1) hh ⟨_, ho, rfl, hd⟩ F.ok.fit sb F.ris F.led fun s1 vs k1 hz g1 o1 pm => ?_)
  have hvl : vs.length = l.length := by rw [pm.length_eq, List.length_map, Array.length_toList]; exact hsz
  obtain ⟨ss, hS, es2⟩ := strs_of vs fun v hv => by
    obtain ⟨e, he, q⟩ := List.mem_map.mp (pm.mem_iff.mp hv)
    obtain ⟨k, tk, h1⟩ := F.str e he
    exact ⟨k, tk, by rw [← q]; exact h1⟩
  have pk : ss.Perm l := by
    have q := pm.map fun v => keyS (0, v)
    rw [List.map_map] at q
    rw [es2]
    exact q.trans F.pk
  refine wpAny_bind (wpAny_newList ?_ (by rw [hvl, sizeLine_eq]; omega))
  have hoL : (s1.heap.push (seqObj "list" vs.toArray 0)).get? s1.heap.objs.size = some (seqObj "list" vs.toArray 0) := Heap.get?_push_size _ rfl
  refine wpAny_bind (wpAny_holding (wpAny_call_entry slot_list_sort ⟨_, hoL, rfl⟩ entry_list_sort (list_sort_treeK PyProof.Rows.strKind_oneLt hoL hS.keysOf (fun v₁ v₂ rest e => keyKind_strs (by rw [← e]; exact hS)) (by rw [hvl]; exact h64) fun st' a1 a2 => ⟨_, rfl, ?_⟩) (args_list_sort _)))
  obtain ⟨ys, b1, b2, b3⟩ := sorted_out_str hS a1 a2
  obtain ⟨c, hc⟩ := sortedHeap_at (vs := vs) (out := (arrOf st').map (·.2)) hoL
  refine wpAny_pure ⟨_, rfl, hQ _ s1.heap.objs.size _ c ys (fun b u e => ?_) g1 o1 hz hc b1 (b2.trans pk) b3⟩
  have q := k1 b u e
  have hlt := Heap.lt_size q
  show (sortedHeap (s1.heap.push (seqObj "list" vs.toArray 0)) s1.heap.objs.size vs ((arrOf st').map (·.2))).get? b = some u
  rw [sortedHeap_old (Nat.ne_of_lt hlt) (by rw [size_push']; exact Nat.lt_succ_of_lt hlt)]
  exact Heap.get?_push_of_some _ q
end
/-- the set of texts at a -/
def SetSO (P : Program) (w : World) (a : Addr) (l : List Str) : HO := .ext fun h => SetT P w h a l
section
variable {X : Cx}
theorem setSO_new {w : World} {P : Program} {H : Hp} {h : Heap} {a : Addr} {l : List Str} (R : SetT P w h a l) : ObjOk P w H h a (SetSO P w a l) := by
  have ⟨D, ho, _⟩ := R
  exact ⟨R, ⟨_, ho⟩, fun h1 h2 p k => SetT.at p k⟩
theorem setSO_get {pins : List (Addr × Obj)} {σ : L2.St} {H : Hp} {s : Shared} {a : Addr} {l : List Str} (I : Inv X pins σ H s) (ha : H a = some (SetSO X.prog X.w a l)) : SetT X.prog X.w s.heap a l := (I.hok a _ ha).1
/-- set(xs) of texts -/
def rSetS (P : Program) (w : World) (K : PySem.W.Frag) : List V → Hp → VK → Prop := fun vs H Q => ∃ (a : Addr) (ns : List Str), vs = [.ref a] ∧ (SqL K H a (ns.map V.str) ∨ SqT K H a (ns.map V.str)) ∧ ns.length ≤ 1000 ∧
  ∀ (p : Addr) (l : List Str), (∀ x, x ∈ l ↔ x ∈ ns) → l.length ≤ ns.length → l.Nodup → H p = none → Q (.ref p) (upd H p (SetSO P w p l))
theorem cr_setS (hc : X.calm = true) : CallR X (.type "set") (rSetS X.prog X.w X.K) := by
  intro pins s σ H vs us Q I r h
  obtain ⟨a, ns, rfl, hs, hl, q⟩ := h
  obtain rfl := Vals.ref1 r
  have sb : ns.length + 1 < scanBound := by unfold scanBound; omega
  rcases hs with hs | hs
  · obtain ⟨its, rv, hl2, _⟩ := I.list hs
    refine of_list ns (I.ok.hd hc) hl2.isList (by rw [List.toList_toArray]; exact rv.strs) sb fun s' dn => ?_
    obtain ⟨h', tk, l, rfl, R, hm, lc, kp⟩ := dn
    obtain ⟨D, _, F⟩ := id R
    exact ⟨.ref _, upd H s.heap.objs.size (SetSO X.prog X.w s.heap.objs.size l), I.laid (t' := tk) kp (Nat.le_refl _) (setSO_new R), rfl, q _ l hm lc F.nd (I.hok.fresh (Nat.le_refl _))⟩
  · obtain ⟨its, rv, hl2, _⟩ := I.tuple hs
    refine of_tuple ns (I.ok.hd hc) hl2 (by rw [List.toList_toArray]; exact rv.strs) sb fun s' dn => ?_
    obtain ⟨h', tk, l, rfl, R, hm, lc, kp⟩ := dn
    obtain ⟨D, _, F⟩ := id R
    exact ⟨.ref _, upd H s.heap.objs.size (SetSO X.prog X.w s.heap.objs.size l), I.laid (t' := tk) kp (Nat.le_refl _) (setSO_new R), rfl, q _ l hm lc F.nd (I.hok.fresh (Nat.le_refl _))⟩
/-- sorted(found) of texts, fewer than 64 -/
def rSortedSetS (P : Program) (w : World) : List V → Hp → VK → Prop := fun vs H Q => ∃ (a : Addr) (l : List Str), vs = [V.ref a] ∧ H a = some (SetSO P w a l) ∧ l.length < 64 ∧
  ∀ (ys : List Str) (p : Addr), ys.Perm l → sortedS ys = true → H p = none → Q (.ref p) (upd H p (.lst (ys.map V.str)))
theorem cr_sortedSetS (hc : X.calm = true) : CallR X (.builtin "sorted") (rSortedSetS X.prog X.w) := by
  intro pins s σ H vs us Q I r h
  obtain ⟨a, l, rfl, ha, h64, q⟩ := h
  have R := setSO_get I ha
  rw [Vals.ref1 r]
  refine sorted_setS R (I.ok.hd hc) h64 fun s' p out c ys k g o hp hi hs hm hl => ?_
  have hlen : (ys.map V.str).length ≤ sizeLine := by rw [List.length_map, hm.length_eq, sizeLine_eq]; omega
  have hn : H p = none := I.hok.fresh hp
  have J : Inv X pins σ (upd H p (.lst (ys.map V.str))) { s with heap := s'.heap, gens := s'.gens, drawn := s'.drawn, toks := s'.toks } :=
    I.call (ch := []) (Un.laid k hp hn) (I.hok.laid k hp ⟨hlen, out.toList, c, vals_of_strs hs, hi⟩) (by rw [g]; exact I.bare) (fun _ z => nomatch z)
  have e : s' = { s with heap := s'.heap, gens := s'.gens, drawn := s'.drawn, toks := s'.toks } := by
    cases s'
    cases s
    cases o
    rfl
  rw [e]
  exact ⟨.ref p, _, J, rfl, q ys p hm hl hn⟩
end
end SetS
set_option Elab.async false
set_option linter.all false
set_option maxRecDepth 100000
set_option maxHeartbeats 4000000
set_option exponentiation.threshold 9000
/-! {True: x}: a dict whose one key is a truth value -/
namespace L2
open PySem PySem.Spec PyProof.Rows PpSet
/-- the object at p is o -/
def BkO (p : Addr) (o : Obj) : HO := .ext fun h => h.get? p = some o
/-- o is a dict with the one key b -/
structure BkOk (P : Program) (w : World) (p : Addr) (o : Obj) (b : Bool) : Prop where
  sys : (p == sysModules) = false
  ex : o.ExactDict
  dt : ∃ es ep en, o.data = .dict es ep ∧ es.size = 1 ∧ es[0]? = some en ∧ en.key = Value.bool b
  of : ∃ u, ∀ h : Heap, h.get? p = some o → h.DictOf (boolK P w) p [(b, u)]
section
variable {X : Cx} {pins : List (Addr × Obj)} {σ : L2.St} {H : Hp} {s : Shared}
theorem bk_at {p : Addr} {o : Obj} (I : Inv X pins σ H s) (e : H p = some (BkO p o)) : s.heap.get? p = some o := (I.hok p _ e).1
/-- the display -/
def tDispB (P : Program) (w : World) (b : Bool) (tv : TE) : TE := fun σ H Q => ∀ p, H p = none → tv σ (upd H p (.dK [])) fun y H2 => H2 p = some (.dK []) ∧ ∀ o, BkOk P w p o b → Q (.ref p) (upd H2 p (BkO p o))
theorem pairs_nil {P : Program} {w : World} {h : Heap} {a : Addr} (d : h.DictOf (mixKind P w) a []) : h.DictOf (boolK P w) a [] := by
  obtain ⟨o, es, ep, h1, h2, h3, h4, h5, h6⟩ := d
  have e : es = #[] := by
    cases es with
    | mk l => cases l with
      | nil => rfl
      | cons x l => cases h5
  subst e
  exact ⟨o, #[], ep, h1, h2, h3, fun x hx => by simp at hx, .nil, List.nodup_nil⟩
theorem pe_dispB {b : Bool} {j : Nat} {pos pos' : Pos} {v : Expr} {tv : TE} (hv : PE X v tv) (hk : PE X (.Constant (.bool b) j pos') (tC (.bl b))) : PE X (.Dict [some (.Constant (.bool b) j pos')] [v] pos) (tDispB X.prog X.w b tv) := by
  refine ⟨fun pins s σ H Q I q => ?_⟩
  have hn := I.hok.fresh (Nat.le_refl s.heap.objs.size)
  have I1 := I.laid (a := s.heap.objs.size) (o := .dK []) (h' := s.heap.push { cls := .type "dict", data := .dict #[] }) (t' := s.toks) (fun _ _ q => Heap.get?_push_of_some _ q) (Nat.le_refl _) (dk_empty s.heap I.big)
  have q1 := q s.heap.objs.size hn
  refine wpAny_Dict_walk (knd := boolK X.prog X.w) rfl rfl (by simp) (by simp) ?_
  refine pairTrees_cons_walk (Constant_bool (thn (hv.run pins _ σ _ _ I1 q1) fun w2 s2 ⟨y, H2, I2, ry, e, q2⟩ => pairTrees_nil_walk ?_))
  obtain ⟨z, hd, vs0, r0, dd⟩ := dk_of I2.hok e
  cases r0
  refine ⟨[(b, w2)], ⟨boolK_is _ _ b, rfl, True.intro⟩, pairs_nil dd, fun h' dd' hs => ?_⟩
  obtain ⟨o, es, ep, h1, h2, h3, h4, h5, h6⟩ := dd'
  have hz : es.size = 1 ∧ ∃ en : DictEntry, es[0]? = some en ∧ en.key = Value.bool b := by
    have h5 : Pairs (boolK X.prog X.w) es.toList [(b, w2)] := h5
    cases hl : es.toList with
    | nil => rw [hl] at h5; cases h5
    | cons x l =>
      rw [hl] at h5
      cases h5 with
      | cons a c d =>
        cases d
        refine ⟨by rw [← Array.length_toList, hl]; rfl, x, by rw [← Array.getElem?_toList, hl]; rfl, isB_shape a⟩
  obtain ⟨hz, en, hen, hk⟩ := hz
  have ok : BkOk X.prog X.w s.heap.objs.size o b := ⟨hd, h2, ⟨es, ep, en, h3, hz, hen, hk⟩, w2, fun h e => ⟨o, es, ep, e, h2, h3, h4, h5, h6⟩⟩
  have new : ObjOk X.prog X.w (upd H2 s.heap.objs.size (BkO s.heap.objs.size o)) h' s.heap.objs.size (BkO s.heap.objs.size o) := ⟨h1, ⟨o, h1⟩, fun g1 g2 e1 k => k _ e1⟩
  exact ⟨.ref s.heap.objs.size, _, d_write I2 (by rw [e]; exact True.intro) hs ⟨o, h1⟩ new, rfl, q2 o ok⟩
/-- isinstance(x, dict) of such a dict -/
def rIsiB (P : Program) (w : World) : List V → Hp → VK → Prop := fun xs H Q => ∃ (p : Addr) (o : Obj) (b : Bool), xs = [.ref p, .ty "dict"] ∧ H p = some (BkO p o) ∧ BkOk P w p o b ∧ Q (.bl true) H
theorem cr_isiB : CallR X (.builtin "isinstance") (rIsiB X.prog X.w) := by
  intro pins s σ H xs us Q I r h
  obtain ⟨p, o, b, rfl, e, ok, q⟩ := h
  obtain ⟨u1, u2, rfl, r1, r2⟩ := vals2 r
  cases (show u1 = Value.ref p from r1)
  cases (show u2 = Value.type "dict" from r2)
  exact PySem.W.kia_one PySem.W.kitx_dict I.kIn ⟨o, bk_at I e, ok.ex.1⟩ (kit_ty (show kitB "dict" "dict" = some true by decide +kernel)) (fun z => nomatch z) fun tk => ⟨.bl true, H, I.tok tk, rfl, q⟩
/-- len of such a dict -/
def rLenB (P : Program) (w : World) : List V → Hp → VK → Prop := fun xs H Q => ∃ (p : Addr) (o : Obj) (b : Bool), xs = [.ref p] ∧ H p = some (BkO p o) ∧ BkOk P w p o b ∧ Q (.int 1) H
theorem cr_lenB : CallR X (.builtin "len") (rLenB X.prog X.w) := by
  intro pins s σ H xs us Q I r h
  obtain ⟨p, o, b, rfl, e, ok, q⟩ := h
  obtain ⟨u1, rfl, r1⟩ := vals1 r
  cases (show u1 = Value.ref p from r1)
  obtain ⟨u, d⟩ := ok.of
  exact PySem.call_len_dict ok.sys (d _ (bk_at I e)) (show (((1 : Nat) : Int)) < 2 ^ 63 by decide) ⟨.int 1, H, I.tok _, ⟨_, rfl⟩, q⟩
/-- the keys of such a dict -/
def Itb (d : Addr) (o : Obj) (b : Bool) : It :=
  ⟨fun i H => H d = some (BkO d o) ∧ i < 1, fun i H x H' => H' = H ∧ x = .bl b, fun i H => H d = some (BkO d o) ∧ 1 ≤ i⟩
theorem turn_keysB {P : Program} {w : World} {K : PySem.W.Frag} {tg : Expr} {d : Addr} {o : Obj} {b : Bool} {es : Array DictEntry} {ep : Nat} {en : DictEntry} (it : Addr) (hd : o.data = .dict es ep) (hz : es.size = 1) (hen : es[0]? = some en) (hk : en.key = Value.bool b) :
    Turn P w K tg (Itb d o b) [it] it (fun i h => h.IsKeyIter it d i 1 ep) where
  mem := by simp
  obj := fun i h st b hb => by
    have e : b = it := by simpa using hb
    subst e
    obtain ⟨oi, e, c, dd⟩ := st
    exact ⟨oi, e, fun v z => by rw [dd] at z; cases z⟩
  keep := fun i h h' st k => st.at fun oi e => k it (by simp) oi e
  item := by
    intro X hP hw hK hc i pins s σ H E I hf st hg
    subst hP hw hK
    obtain ⟨hdd, hi⟩ := hg
    obtain ⟨f0, f1, f2, f3, f4, f5⟩ := hf it (by simp)
    obtain rfl : i = 0 := by omega
    refine next_key_item st (bk_at I hdd) hd hz hen fun h' st' sb => ?_
    have I1 : Inv X pins σ H { s with heap := h' } := I.turned (t' := s.toks) (fun b ob hb e => (sb.2 b hb).trans e) f0 f1 f3 f4 f5
    obtain ⟨oi, e, c, dd⟩ := id st'
    exact ⟨en.key, rfl, go_of (s := { s with heap := h' }) e c dd (by decide) ⟨.bl b, H, I1, hk, ⟨rfl, rfl⟩, st', fun b hb => (hf b hb).1⟩⟩
  done := by
    intro X hP hw hK hc i pins s σ H E I hf st hg
    subst hP hw hK
    obtain ⟨hdd, hi⟩ := hg
    obtain ⟨f0, f1, f2, f3, f4, f5⟩ := hf it (by simp)
    exact next_key_end (I.ok.hd hc) st (bk_at I hdd) hd hz hi fun h' eb => ⟨rfl, I.turned (t' := s.toks) (fun b ob hb e => eb b ob hb e) f0 f1 f3 f4 f5⟩
  self := fun A i s Q E st h => wpAny_pyIter_keyiter st h
def iKeysB (P : Program) (w : World) (td : TE) : TI := fun σ H R => td σ H fun x H1 => ∃ d o b, x = .ref d ∧ H1 d = some (BkO d o) ∧ BkOk P w d o b ∧ R (Itb d o b) H1
theorem pi_keysB {tg e : Expr} {td : TE} (he : PE X e td) : PI X tg e (iKeysB X.prog X.w td) := by
  refine ⟨fun pins s σ H R I h => ?_⟩
  refine thn (he.run pins s σ H _ I h) fun u s1 ⟨x, H1, I1, rx, d, o, b, ex, hd, ok, q⟩ => ?_
  subst ex
  obtain rfl : u = Value.ref d := rx
  obtain ⟨es, ep, en, h3, hz, hen, hk⟩ := ok.dt
  refine iter_keys ok.sys (bk_at I1 hd) ok.ex h3 (pi_one (tk := s1.toks) I1 _ (turn_keysB _ h3 hz hen hk) ⟨_, Heap.get?_push_size _ rfl, rfl, ?_⟩ q)
  rw [hz] <;> rfl
end
end L2
namespace Sl
open PySem L2 C8 StX
section
variable {σ : L2.St} {H H1 : Hp} {Q : VK} {K : PySem.W.Frag} {P : Program} {w : World} {te td : TE} {R : It → Hp → Prop} {g : TG} {tt : TT} {vs : List Nat}
theorem rd_isiB {p : Addr} {o : Obj} {b : Bool} (e : H p = some (BkO p o)) (ok : BkOk P w p o b) (h : Q (.bl true) H) : rIsiB P w [.ref p, .ty "dict"] H Q := ⟨p, o, b, rfl, e, ok, h⟩
theorem rd_lenB {p : Addr} {o : Obj} {b : Bool} (e : H p = some (BkO p o)) (ok : BkOk P w p o b) (h : Q (.int 1) H) : rLenB P w [.ref p] H Q := ⟨p, o, b, rfl, e, ok, h⟩
def rKeysB (P : Program) (w : World) (R : It → Hp → Prop) (x : V) (H1 : Hp) : Prop := ∃ d o b, x = .ref d ∧ H1 d = some (BkO d o) ∧ BkOk P w d o b ∧ R (Itb d o b) H1
theorem rd_iKeysB (h : td σ H fun x H1 => rKeysB P w R x H1) : iKeysB P w td σ H R := h
theorem rd_keysB {d : Addr} {o : Obj} {b : Bool} (e : H d = some (BkO d o)) (ok : BkOk P w d o b) (h : R (Itb d o b) H) : rKeysB P w R (.ref d) H := ⟨d, o, b, rfl, e, ok, h⟩
end
end Sl
set_option Elab.async false
set_option linter.all false
set_option maxRecDepth 100000
set_option maxHeartbeats 4000000
set_option exponentiation.threshold 9000
/-! readings: displays of one pair, tuple + tuple, list(range), dict of pairs -/
namespace Sl
open PySem L2 C8 StX PySem.Spec PyProof.Rows
section
variable {σ : L2.St} {H H' : Hp} {Q : VK} {te tk tv : TE} {K : PySem.W.Frag} {x y v : V} {P : Program} {w : World}
def rDisp1 (p : Addr) (Q : VK) (x y : V) (H2 : Hp) : Prop := H2 p = some (.dK []) ∧ ∃ kvs : List (Key × V), [(x, y)] = kvs.map (fun kv => (kV kv.1, kv.2)) ∧ kvs.length ≤ 15 ∧ Q (.ref p) (upd H2 p (.dK (mergeK [] kvs)))
theorem rd_disp1 (h : ∀ p H1, H p = none → Same H H1 → H1 p = some (.dK []) → tk σ H1 fun x H2 => tv σ H2 fun y H3 => rDisp1 p Q x y H3) : tDisp [(tk, tv)] σ H Q :=
  fun p hp => h p _ hp (Same.new (Same.refl H) hp) upd_same
theorem rd_d1 {p : Addr} {i : Int} {H2 : Hp} (e : H2 p = some (.dK [])) (h : ∀ H3, H3 = upd H2 p (.dK [(Sum.inl i, y)]) → H3 p = some (.dK [(Sum.inl i, y)]) → Q (.ref p) H3) : rDisp1 p Q (.int i) y H2 := ⟨e, [(Sum.inl i, y)], rfl, Nat.le_of_lt_succ (by decide : 1 < 16), h _ rfl upd_same⟩
def rDispB (P : Program) (w : World) (b : Bool) (p : Addr) (Q : VK) (y : V) (H2 : Hp) : Prop := H2 p = some (.dK []) ∧ ∀ o, BkOk P w p o b → Q (.ref p) (upd H2 p (BkO p o))
theorem rd_dispB {b : Bool} (h : ∀ p H1, H p = none → Same H H1 → H1 p = some (.dK []) → tv σ H1 fun y H2 => rDispB P w b p Q y H2) : tDispB P w b tv σ H Q :=
  fun p hp => h p _ hp (Same.new (Same.refl H) hp) upd_same
theorem rd_dB {b : Bool} {p : Addr} {H2 : Hp} (e : H2 p = some (.dK [])) (h : ∀ o H3, BkOk P w p o b → H3 = upd H2 p (BkO p o) → H3 p = some (BkO p o) → Q (.ref p) H3) : rDispB P w b p Q y H2 := ⟨e, fun o ok => h o _ ok rfl upd_same⟩
theorem rd_catA {a b : Addr} {xs ys : List V} (e1 : H a = some (.tup xs)) (e2 : H b = some (.tup ys)) (l : xs.length + ys.length ≤ 100000) (h : ∀ p H', Same H H' → H' p = some (.tup (xs ++ ys)) → Q (.ref p) H') : rCatA K (.ref a) (.ref b) H Q := by
  refine ⟨a, b, xs, ys, rfl, rfl, SqT.of e1, SqT.of e2, Nat.le_trans l (by decide), fun z => ?_, fun _ z => ?_, fun _ _ p hp => h p _ (Same.new (Same.refl H) hp) upd_same⟩
  · subst z; exact h b H (Same.refl H) e2
  · subst z; exact h a H (Same.refl H) (by rw [List.append_nil]; exact e1)
def rLstRg (Q : VK) (a b : Int) (H1 : Hp) : Prop := RgOk a b ∧ ∀ q, H1 q = none → Q (.ref q) (upd H1 q (.lst (rgV a b)))
theorem rd_listRg0 {tr : L2.St → Hp → (Int → Int → Hp → Prop) → Prop} (h : tr σ H fun a b H1 => rLstRg Q a b H1) : tLstRg tr σ H Q := h
end
end Sl
set_option Elab.async false
set_option linter.all false
set_option maxRecDepth 100000
set_option maxHeartbeats 4000000
set_option exponentiation.threshold 9000
namespace StarRg
open PySem PyProof.Rows PyProof L2
/-! ### f(.., *range(a, b), ..) and [.., *range(a, b), ..] -/
theorem code_collect_range {prog : Program} {w : World} {A : Around} {R : Result → Shared → Prop} {s : Shared} {r : Addr} {a b c : Int} {t u v : Tok} {n : Nat} (hh : A.handled = none) (hr : IsRange s.heap r a b c t u v) (hs : Builtin.Range.small a b c = true) (hz : Builtin.Range.rangeSize a b c = ↑n) (hn : n ≤ 2^24)
    (h : ∀ (h' : Heap) (tk : Nat) (L : Addr) (acc : Array Value) (c' : Nat), (∀ b o, s.heap.get? b = some o → h'.get? b = some o) → h'.get? L = some { cls := .type "list", data := .seq acc c' } → ItemsOf (fun i v => ∃ t, v = .int (a + (i : Int) * c) t) acc n → R (.ok (.ret (.ref L))) { s with heap := h', toks := tk }) :
    codeAny (model prog w) A (.builtin "proto.collect" { pos := [.ref r] }) R s := by
  refine codeAny_builtin entry_proto_collect' ?_
  refine wpAny_bind (wpAny_newList ?_)
  refine wpAny_pure ?_
  refine ⟨plainId_quiet (by decide +kernel) _, codeAny_builtin entry_list_iadd' ?_⟩
  have e : A.under (Code.builtin "list.__iadd__" { pos := [Value.ref s.heap.objs.size, Value.ref r] }) = A.in1 := by rfl
  rw [e]
  unfold Builtin.«list.__iadd__»
  refine wpAny_bind ?_
  unfold slotArgs
  refine wpAny_pure ?_
  have hS : ({ s with heap := s.heap.push { cls := Value.type "list", data := Data.seq (List.toArray []) } } : Shared).heap.get? s.heap.objs.size = some { cls := Value.type "list", data := Data.seq #[] 0 } := Heap.get?_push_size _ rfl
  show wpAny _ _ (Builtin.List.listExtendWith (.ref s.heap.objs.size) (.ref r) (.ref s.heap.objs.size)) _ _ _
  refine wpAny_extend_range (R := R) (s := { s with heap := s.heap.push { cls := Value.type "list", data := Data.seq (List.toArray []) } }) hh (Heap.get?_push_of_some _ hr) hs hz hn s.heap.objs.size _ 0 hS fun h' tk acc' c' kp hS' it => ?_
  exact h h' tk s.heap.objs.size acc' c' (fun b o e => kp b o (Nat.ne_of_lt (Heap.lt_size e)) (Heap.get?_push_of_some _ e)) hS' it
theorem collect_range {prog : Program} {w : World} {A : Around} {E : Value → Shared → Prop} {s : Shared} {r : Addr} {a b c : Int} {t u v : Tok} {n : Nat} {Q : List Value → Shared → Prop} (hh : A.handled = none) (hr : IsRange s.heap r a b c t u v) (hs : Builtin.Range.small a b c = true) (hz : Builtin.Range.rangeSize a b c = ↑n) (hn : n ≤ 2^24)
    (h : ∀ (h' : Heap) (tk : Nat) (acc : Array Value), (∀ b o, s.heap.get? b = some o → h'.get? b = some o) → ItemsOf (fun i v => ∃ t, v = .int (a + (i : Int) * c) t) acc n → Q acc.toList { s with heap := h', toks := tk }) : wpAny (model prog w) A (collect (.ref r)) Q E s := by
  unfold collect
  refine wpAny_bind (wpAny_runValue (code_collect_range hh hr hs hz hn fun h' tk L acc c' kp hL it => ?_))
  exact wpAny_bind (wpAny_load hL (wpAny_pure (h h' tk acc kp it)))
theorem notIter_range {prog : Program} {w : World} {A : Around} {E : Value → Shared → Prop} {s : Shared} {r : Addr} {a b c : Int} {t u v : Tok} {Q : Bool → Shared → Prop} (hr : IsRange s.heap r a b c t u v) (h : Q false s) : wpAny (model prog w) A (notIterableAtAll (.ref r)) Q E s := by
  unfold notIterableAtAll
  refine wpAny_bind (wpAny_specialOf (T := "range") ⟨_, hr, rfl⟩ (r := some (.builtin "range.__iter__")) (by rfl) ?_)
  exact wpAny_pure h
theorem rg_fits {a b : Int} (h : RgOk a b) : Builtin.Range.small a b 1 = true ∧ Builtin.Range.rangeSize a b 1 = (((b - a).toNat : Nat) : Int) := by
  obtain ⟨h1, h2, h3, h4, h5⟩ := h
  have e : Builtin.Range.rangeSize a b 1 = (((b - a).toNat : Nat) : Int) := by
    unfold Builtin.Range.rangeSize
    rw [if_pos (by decide)]
    split <;> omega
  refine ⟨?_, e⟩
  unfold Builtin.Range.small
  rw [e]
  simp only [Builtin.Range.rangeFitsLong, Bool.and_eq_true, Bool.or_eq_true, decide_eq_true_eq, beq_iff_eq]
  rw [if_pos (by decide)]
  simp only [decide_eq_true_eq, Bool.and_eq_true]
  omega
theorem rg_vals {a : Int} : ∀ (l : List Value) (k : Nat), (∀ (j : Nat) v, l[j]? = some v → ∃ t, v = .int (a + ((k + j : Nat) : Int)) t) → Vals ((List.range' k l.length).map fun (i : Nat) => V.int (a + (i : Int))) l
  | [], _, _ => .nil
  | v :: l, k, h => by
    obtain ⟨t, rfl⟩ := h 0 v rfl
    refine .cons ⟨t, rfl⟩ ?_
    refine rg_vals l (k + 1) fun j v hv => ?_
    obtain ⟨t2, e⟩ := h (j + 1) v (by simpa using hv)
    exact ⟨t2, by rw [e, show k + (j + 1) = k + 1 + j by omega]⟩
section
variable {X : Cx}
def tStarRg (te : L2.St → Hp → (Int → Int → Hp → Prop) → Prop) (t : TA) : TA := fun σ H Q => te σ H fun a b H1 => RgOk a b ∧ t σ H1 fun ys H2 => Q (rgV a b ++ ys) H2
theorem pa_starRg (hc : X.calm = true) {e : Expr} {es : List Expr} {te : L2.St → Hp → (Int → Int → Hp → Prop) → Prop} {t : TA} {p : Pos} (he : PRg X e te) (h : PA X es t) (hs : starEach (e.Starred p :: es) X.env = (true, eval e X.env) :: starEach es X.env := by rfl) : PA X (e.Starred p :: es) (tStarRg te t) := by
  refine ⟨fun pos pins s σ H Q I k => ?_⟩
  rw [hs]
  show wpAny _ _ (spliced ((true, do let v ← eval e X.env; standAt pos; pure v) :: backTo pos (starEach es X.env))) _ _ _
  rw [spliced]
  refine wpAny_bind (wpAny_bind (wpAny_mono (he pins s σ H _ I k) (fun v s1 z => ?_) (fun _ _ z => z)))
  obtain ⟨r, a, b, t1, u, v1, H', rfl, hr, I1, ok, k1⟩ := z
  refine wpAny_bind (wpAny_standAt (wpAny_pure ?_))
  dsimp only
  rw [if_pos rfl]
  refine wpAny_bind (notIter_range hr ?_)
  rw [if_neg Bool.false_ne_true]
  have hh := I.ok.hd hc
  have fit := rg_fits ok
  refine wpAny_bind (collect_range hh hr fit.1 fit.2 ok.2.2.2.2 fun h' tk acc kp it => ?_)
  have hv : Vals (rgV a b) acc.toList := by
    have := rg_vals (a := a) acc.toList 0 fun j v hv => by
      obtain ⟨t, e⟩ := it.2 j v (by rw [← hv]; simp)
      exact ⟨t, by rw [e, Int.mul_one, Nat.zero_add]⟩
    rw [Array.length_toList, it.1, ← List.range_eq_range'] at this
    exact this
  refine wpAny_bind (wpAny_holding (wpAny_mono (h.run pos pins _ σ H' _ (I1.kept kp) k1) (fun ws s2 z => ?_) (fun _ _ z => z)))
  obtain ⟨vs, H2, I2, r2, q⟩ := z
  exact wpAny_pure ⟨rgV a b ++ vs, H2, I2, hv.append r2, q⟩
theorem rd_starRg {te : L2.St → Hp → (Int → Int → Hp → Prop) → Prop} {t : TA} {σ : L2.St} {H : Hp} {Q : List V → Hp → Prop} (h : te σ H fun a b H1 => RgOk a b ∧ t σ H1 fun ys H2 => Q (rgV a b ++ ys) H2) : tStarRg te t σ H Q := h
end
end StarRg
set_option Elab.async false
set_option linter.all false
set_option maxRecDepth 100000
set_option maxHeartbeats 4000000
/-! {**d, k: v}: a dict laid out into a new one, and one more key -/
namespace DStar
open PySem PySem.Spec
section
variable {prog : Program} {w : World} {K : Type} [DecidableEq K] {knd : KeyKind prog w K} {A : Around} {E : Value → Shared → Prop} {s : Shared}
theorem put_pairs {d : Addr} {kvs : List (K × Value)} {k : K} {key v : Value} {Q : Unit → Shared → Prop} (hkey : knd.is k key = true) (hm : s.heap.DictOf knd d kvs) (hsz : kvs.length ≤ sizeLine)
    (hQ : ∀ h', h'.DictOf knd d (stored kvs k v) → Heap.SameBut d s.heap h' → Q () { s with heap := h' }) : wpAny (model prog w) A (dictPut d (knd.hash k) key v) Q E s := by
  obtain ⟨o, es, ep, ho, hc, hd, hk, hp, hn⟩ := hm
  have hes : es.size ≤ sizeLine := by
    have e1 := hp.length
    have e2 : es.toList.length = es.size := by simp
    omega
  unfold dictPut
  refine wpAny_bind (wpAny_dictFind_of hkey ho hd hk ?_)
  have hidx : (es.findIdx? fun e => knd.is k e.key) = kvs.findIdx? fun kv => decide (kv.1 = k) := by
    rw [← hp.findIdx k]
    obtain ⟨l⟩ := es
    simp
  cases hi : es.findIdx? fun e => knd.is k e.key with
  | some i =>
    refine wpAny_updateDict ho hd (hQ _ ⟨_, _, ep, Heap.get?_update_self _ ho (Obj.isFreed_of_dict (Obj.data_mapDict hd _)), hc.mapDict _, Obj.data_mapDict hd _, hk.modify _ _, ?_, ?_⟩ (Heap.SameBut.update ..))
    · rw [stored, if_pos (any_of_findIdx_some (hidx ▸ hi))]
      have hl : (es.toList.findIdx? fun e => knd.is k e.key) = some i := by
        rw [← hi]
        obtain ⟨l⟩ := es
        simp
      have := hp.modify hn hl v
      obtain ⟨l⟩ := es
      simpa using this
    · rw [stored, if_pos (any_of_findIdx_some (hidx ▸ hi)), keys_map_store]
      exact hn
  | none =>
    have hnot : k ∉ kvs.map (·.1) := not_mem_of_findIdx_none (hidx ▸ hi)
    have hany : ¬ (kvs.any fun kv => decide (kv.1 = k)) = true := fun z => by
      obtain ⟨kv, hkv, he⟩ := List.any_eq_true.mp z
      exact hnot (List.mem_map.mpr ⟨kv, hkv, of_decide_eq_true he⟩)
    refine wpAny_updateDictKeys (hz := hes) ho hd (hQ _ ⟨_, _, ep + 1, Heap.get?_update_self _ ho (Obj.isFreed_of_dict (Obj.data_mapDictKeys hd _)), hc.mapDictKeys _, Obj.data_mapDictKeys hd _, hk.push hkey _, ?_, ?_⟩ (Heap.SameBut.update ..))
    · rw [stored, if_neg hany]
      have := hp.append hkey (knd.hash k) v
      obtain ⟨l⟩ := es
      simpa using this
    · rw [stored, if_neg hany, List.map_append, List.nodup_append]
      refine ⟨hn, by simp, fun a ha b hb => ?_⟩
      have hb2 : b = k := by simpa using hb
      rw [hb2]
      exact fun e => hnot (e ▸ ha)
theorem merge_dict {d o : Addr} {kvs more : List (K × Value)} {Q : Unit → Shared → Prop} (hdo : d ≠ o) (hoS : (o == sysModules) = false)
    (hd : s.heap.DictOf knd d kvs) (ho : s.heap.DictOf knd o more) (hsz : kvs.length + more.length ≤ sizeLine)
    (hQ : ∀ h', h'.DictOf knd d (merged kvs more) → h'.DictOf knd o more → Heap.SameBut d s.heap h' → Q () { s with heap := h' }) :
    wpAny (model prog w) A (mergeMapping d (.ref o) false) Q E s := by
  obtain ⟨od, esd, epd, hod, hcd, hdd, hkd, hpd, hnd⟩ := id hd
  obtain ⟨oo, eso, epo, hoo, hco, hdo', hko, hpo, hno⟩ := id ho
  have hlen : more.length = eso.size := by
    have e1 := hpo.length
    have e2 : eso.toList.length = eso.size := by simp
    omega
  have loop : wpAny (model prog w) A (do
      let size := (← dictEntries o).size
      let epoch ← dictEpoch o
      for i in List.range size do
        let some e := (← dictEntries o)[i]? | unsupported "dict.changed-during-merge"
        holding [e.key, e.val] do
          if false = true then
            if (← dictFind d e.key e.hash).isSome then rule "dict.merge.duplicate-key"; raiseNew (← newExc (.type "KeyError") [e.key])
          dictPut d e.hash e.key e.val
        if (← dictEpoch o) != epoch then unsupported "dict.changed-during-merge") Q E s := by
    refine wpAny_bind (wpAny_dictEntries hoo hdo' ?_)
    refine wpAny_bind (wpAny_dictEpoch hoo hdo' ?_)
    refine wpAny_bind (wpAny_forIn_list _
      (fun rest _ s' => ∃ h' i, s' = { s with heap := h' } ∧ rest = (List.range eso.size).drop i ∧ i ≤ eso.size ∧ h'.DictOf knd d (merged kvs (more.take i)) ∧ h'.get? o = some oo ∧ Heap.SameBut d s.heap h')
      (fun _ s' => wpAny (model prog w) A (pure ()) Q E s') ?_ ?_ _ _ ⟨s.heap, 0, rfl, List.drop_zero.symm, Nat.zero_le _, by simpa [merged] using hd, hoo, Heap.SameBut.refl _ _⟩)
    · rintro x rest b s' ⟨h', i, rfl, hr, hi, hd', hoo', hs'⟩
      have hlt : i < eso.size := by
        rcases Nat.lt_or_ge i eso.size with h | h
        · exact h
        · rw [List.drop_of_length_le (by rw [List.length_range]; exact h)] at hr
          cases hr
      rw [List.drop_eq_getElem_cons (by rw [List.length_range]; exact hlt), List.getElem_range] at hr
      obtain ⟨rfl, hrest⟩ := List.cons.inj hr
      refine wpAny_bind (wpAny_dictEntries hoo' hdo' ?_)
      rw [Array.getElem?_eq_getElem hlt]
      obtain ⟨kv, hkv⟩ : ∃ kv, more[x]? = some kv := ⟨more[x]'(by rw [hlen]; exact hlt), List.getElem?_eq_getElem _⟩
      obtain ⟨k, v⟩ := kv
      obtain ⟨hkey, hval⟩ := hpo.get? (e := eso[x]) (by simp [hlt]) hkv
      obtain ⟨k', hkey', hhash⟩ := hko eso[x] (Array.getElem_mem hlt)
      obtain rfl : k' = k := knd.inj _ _ _ hkey' hkey
      have hmx : (merged kvs (more.take x)).length ≤ sizeLine := by
        have e1 := merged_length_le kvs (more.take x)
        have e2 : (more.take x).length ≤ more.length := by rw [List.length_take]; omega
        omega
      dsimp only
      rw [hhash, hval]
      refine wpAny_bind (wpAny_holding ?_)
      simp only [Bool.false_eq_true, if_false]
      refine put_pairs hkey hd' hmx fun h'' hd'' hs'' => ?_
      have hoo'' : h''.get? o = some oo := (hs''.2 o (Ne.symm hdo)).trans hoo'
      refine wpAny_bind (wpAny_dictEpoch hoo'' hdo' ?_)
      rw [if_neg (by simp)]
      exact wpAny_pure ⟨h'', x + 1, rfl, hrest, hlt, by rw [merged_take_succ kvs more x (k', v) hkv]; exact hd'', hoo'', hs'.trans hs''⟩
    · rintro b s' ⟨h', i, rfl, hr, hi, hd', hoo', hs'⟩
      have hin : i = eso.size := by
        rcases Nat.lt_or_ge i eso.size with h | h
        · rw [List.drop_eq_getElem_cons (by rw [List.length_range]; exact h)] at hr
          cases hr
        · exact Nat.le_antisymm hi h
      refine wpAny_pure (hQ h' ?_ ⟨oo, eso, epo, hoo', hco, hdo', hko, hpo, hno⟩ hs')
      rw [hin, ← hlen, List.take_length] at hd'
      exact hd'
  unfold mergeMapping
  refine wpAny_bind (wpAny_isInstance ho.typeIs isSubtype_dict_dict ?_)
  simp only [if_true]
  refine wpAny_bind (wpAny_specialOf ho.typeIs F.slot_dict_iter.lookup ?_)
  refine wpAny_bind (wpAny_pure ?_)
  simp only [beq_self_eq_true]
  rw [if_neg (by rw [hoS]; exact Bool.false_ne_true)]
  refine wpAny_bind (wpAny_dictEntries hod hdd ?_)
  split
  · refine wpAny_bind (wpAny_dictEntries hoo hdo' ?_)
    have quiet : (forIn eso PUnit.unit fun e (_ : PUnit) => (match e.key with
        | .ref a => (do
          let q ← specialOf e.key "__eq__"
          if (q != some (.builtin "object.__eq__")) = true then
            if (eso.filter (fun x => x.hash == e.hash)).size > 1 then (do
              let _ ← (unsupported "dict.merge-into-an-empty-dict:keys-of-equal-hash" : Sem PUnit)
              pure (ForInStep.yield PUnit.unit))
            else pure (ForInStep.yield PUnit.unit)
          else pure (ForInStep.yield PUnit.unit))
        | _ => pure (ForInStep.yield PUnit.unit) : Sem (ForInStep PUnit))) = pure PUnit.unit := by
      rw [← Array.forIn_toList]
      refine forIn_yield_id _ fun e he c => ?_
      obtain ⟨k, hkey, _⟩ := hko e (Array.mem_toList_iff.mp he)
      have hb := knd.byValue k _ hkey
      cases hk : e.key with
      | ref a =>
        rw [hk] at hb
        cases hb
      | _ => rfl
    exact wpAny_bind (wpAny_of_eq quiet loop)
  · exact loop
end
end DStar

namespace L2
open PySem PySem.Spec PyProof.Rows
section
variable {X : Cx}
/-- {**d, k: v} -/
def tDStar (te tk tv : TE) : TE := fun σ H Q => ∀ p, H p = none → te σ (upd H p (.dK [])) fun x H1 => ∃ o kvs, x = .ref o ∧ o ≠ p ∧ H1 p = some (.dK []) ∧ H1 o = some (.dK kvs) ∧ kvs.length ≤ 100 ∧
  ∀ q, upd H1 p (.dK (mergeK [] kvs)) q = none → tk σ (upd (upd H1 p (.dK (mergeK [] kvs))) q (.dK [])) fun y H2 => tv σ H2 fun z H3 => ∃ key : Key, y = kV key ∧ H3 q = some (.dK []) ∧ H3 p = some (.dK (mergeK [] kvs)) ∧
    Q (.ref p) (upd (upd H3 q (.dK (mergeK [] [(key, z)]))) p (.dK (mergeK (mergeK [] kvs) (mergeK [] [(key, z)]))))
theorem pe_dstar {e k v : Expr} {te tk tv : TE} {pos : Pos} (he : PE X e te) (hk : PE X k tk) (hv : PE X v tv) : PE X (.Dict [none, some k] [e, v] pos) (tDStar te tk tv) := by
  refine ⟨fun pins s σ H Q I h => ?_⟩
  show wpAny _ _ (standAt pos >>= fun _ => dictDisplay _) _ _ s
  refine wpAny_bind (wpAny_standAt ?_)
  unfold dictDisplay
  dsimp only [evalEachOpt, evalEach, evalOpt, List.map, List.zip, List.zipWith]
  simp only [List.forIn_cons, List.forIn_nil, List.isEmpty_nil, ↓reduceIte, pure_bind, bind_assoc]
  have hn := I.hok.fresh (Nat.le_refl s.heap.objs.size)
  have I1 := I.laid (a := s.heap.objs.size) (o := .dK []) (h' := s.heap.push { cls := .type "dict", data := .dict #[] }) (t' := s.toks) (fun _ _ q => Heap.get?_push_of_some _ q) (Nat.le_refl _) (dk_empty s.heap I.big)
  refine wpAny_bind (wpAny_alloc ?_)
  refine wpAny_bind (wpAny_holding ?_)
  refine wpAny_bind (thn (he.run pins _ σ _ _ I1 (h _ hn)) fun u s1 ⟨x, H1, I2, rx, o, kvs, ex, hop, e1, e2, l1, q1⟩ => ?_)
  refine wpAny_bind (wpAny_standAt (wpAny_pure ?_))
  subst ex
  cases rx
  obtain ⟨z1, hd1, vs1, r1, dd1⟩ := dk_of I2.hok e1
  cases r1
  obtain ⟨z2, hd2, vs2, r2, dd2⟩ := dk_of I2.hok e2
  have sl : (200 : Nat) ≤ sizeLine := by rw [sizeLine_eq]; decide
  have lz2 : vs2.length = kvs.length := r2.length.symm
  refine wpAny_bind (wpAny_onRaise (wpAny_tryCatch (wpAny_onRaise (wpAny_holding (DStar.merge_dict (knd := mixKind X.prog X.w) (fun z => hop z.symm) hd2 dd1 dd2 (by rw [List.length_nil, lz2]; omega) fun h' d1 d2 sb => ?_)))))
  have lm := length_mergeK kvs []
  rw [List.length_nil] at lm
  have I3 : Inv X pins σ (upd H1 s.heap.objs.size (.dK (mergeK [] kvs))) { s1 with heap := h', toks := s1.toks } :=
    d_write I2 (by rw [e1]; exact True.intro) sb (let ⟨q, _, _, hq, _⟩ := d1; ⟨q, hq⟩) (dk_new (by omega) hd1 (r2.merge .nil) d1)
  simp only [List.nil_append, List.length_cons, List.length_nil, Nat.reduceAdd, Nat.reduceBEq, Bool.false_eq_true, ↓reduceIte, pure_bind, List.isEmpty_cons, bind_assoc]
  have hn3 := I3.hok.fresh (Nat.le_refl h'.objs.size)
  have I4 := I3.laid (a := h'.objs.size) (o := .dK []) (h' := h'.push { cls := .type "dict", data := .dict #[] }) (t' := s1.toks) (fun _ _ q => Heap.get?_push_of_some _ q) (Nat.le_refl _) (dk_empty h' I3.big)
  refine wpAny_bind (wpAny_holding (wpAny_subDict (knd := mixKind X.prog X.w) (by show (1 : Nat) ≤ 15; decide) ?_))
  refine thn ((pps_cons (pos := pos) hk hv pps_nil).run pins _ σ _ (fun ps H3 => match ps with
    | [(y, z)] => ∃ key : Key, y = kV key ∧ H3 h'.objs.size = some (.dK []) ∧ H3 s.heap.objs.size = some (.dK (mergeK [] kvs)) ∧ Q (.ref s.heap.objs.size) (upd (upd H3 h'.objs.size (.dK (mergeK [] [(key, z)]))) s.heap.objs.size (.dK (mergeK (mergeK [] kvs) (mergeK [] [(key, z)]))))
    | _ => False) I4 (q1 _ hn3)) fun ws s2 ⟨ps, H3, I5, rel, q2⟩ => ?_
  match ps, rel, q2 with
  | [(y, z)], rel, ⟨key, ey, e3, e4, q3⟩ =>
    subst ey
    obtain ⟨rs, c, rk⟩ := carries_of (P := X.prog) (w := X.w) (kvs := [(key, z)]) rel
    obtain ⟨z5, hd5, vs5, r5, dd5⟩ := dk_of I5.hok e3
    cases r5
    refine ⟨rs, c, dd5, fun h2 d3 sb2 => ?_⟩
    have lm2 := length_mergeK [(key, z)] []
    rw [List.length_nil] at lm2
    have l1' : ([(key, z)] : List (Key × V)).length = 1 := rfl
    have I6 : Inv X pins σ (upd H3 h'.objs.size (.dK (mergeK [] [(key, z)]))) { s2 with heap := h2, toks := s2.toks + ws.length } :=
      d_write I5 (by rw [e3]; exact True.intro) sb2 (let ⟨q, _, _, hq, _⟩ := d3; ⟨q, hq⟩) (dk_new (by omega) hd5 (rk.merge .nil) d3)
    have hne : s.heap.objs.size ≠ h'.objs.size := fun e => by
      rw [e, upd_same] at hn3
      cases hn3
    have e6 : upd H3 h'.objs.size (.dK (mergeK [] [(key, z)])) s.heap.objs.size = some (.dK (mergeK [] kvs)) := by rw [upd_ne hne]; exact e4
    have e7 : upd H3 h'.objs.size (.dK (mergeK [] [(key, z)])) h'.objs.size = some (.dK (mergeK [] [(key, z)])) := upd_same
    obtain ⟨z8, hd8, vs8, r8, dd8⟩ := dk_of I6.hok e6
    obtain ⟨z9, hd9, vs9, r9, dd9⟩ := dk_of I6.hok e7
    have l8 : vs8.length = (mergeK [] kvs).length := r8.length.symm
    have l9 : vs9.length = (mergeK [] [(key, z)]).length := r9.length.symm
    refine wpAny_bind (wpAny_onRaise (wpAny_holding (DStar.merge_dict (knd := mixKind X.prog X.w) hne hd9 dd8 dd9 (by omega) fun h3 d4 d5 sb3 => ?_)))
    have lm3 := length_mergeK (mergeK [] [(key, z)]) (mergeK [] kvs)
    have I7 : Inv X pins σ (upd (upd H3 h'.objs.size (.dK (mergeK [] [(key, z)]))) s.heap.objs.size (.dK (mergeK (mergeK [] kvs) (mergeK [] [(key, z)])))) { s2 with heap := h3, toks := s2.toks + ws.length } :=
      d_write (s := { s2 with heap := h2, toks := s2.toks + ws.length }) I6 (by rw [e6]; exact True.intro) sb3 (let ⟨q, _, _, hq, _⟩ := d4; ⟨q, hq⟩) (dk_new (by omega) hd8 (r9.merge r8) d4)
    exact wpAny_pure ⟨.ref s.heap.objs.size, _, I7, rfl, q3⟩
end
end L2
set_option Elab.async false
set_option linter.all false
set_option maxRecDepth 100000
set_option maxHeartbeats 4000000
/-! (dict, data, data, data) == (dict, data, data, data): the dicts of the same objects -/
namespace L2
open PySem PySem.Spec PyProof.Rows
theorem hits_refs {prog : Program} {w : World} {κ : Type} [DecidableEq κ] {A : Around} {s : Shared} {kvs : List (κ × V)} {vb : List (κ × Value)} (rb : KV kvs vb) {ks : List (κ × V)} {va : List (κ × Value)} (ra : KV ks va) :
    (∀ p ∈ ks, valV kvs p.1 = some p.2 ∧ ∃ c, p.2 = .ref c) → PySem.W.KeqHitsIn prog w A s vb va true := by
  unfold KV at ra
  induction ra with
  | nil => intro _; exact .nil
  | @cons p q ps qs h t ih =>
    intro hp
    obtain ⟨h1, h2⟩ := h
    obtain ⟨e, c, ec⟩ := hp p List.mem_cons_self
    have rr : RelO (some p.2) (valueAt vb p.1) := by rw [← e]; exact rb.val p.1
    obtain ⟨y, hy, ry⟩ := rr.some_of
    obtain ⟨k, v⟩ := q
    have h1' : p.1 = k := h1
    rw [h1'] at hy
    rw [ec] at h2 ry
    obtain rfl : v = Value.ref c := h2
    obtain rfl : y = Value.ref c := ry
    show PySem.W.KeqHitsIn prog w A s vb ((k, Value.ref c) :: qs) (true && true)
    exact .hit hy ((SeqAt.EqAt.same (A := A) (s := s) (.ref c)).inModel prog w) (ih fun p' hm => hp p' (List.mem_cons_of_mem _ hm))
theorem vals4 {a b c d : V} {us : List Value} (h : Vals [a, b, c, d] us) : ∃ x1 x2 x3 x4, us = [x1, x2, x3, x4] ∧ RelV a x1 ∧ RelV b x2 ∧ RelV c x3 ∧ RelV d x4 := by
  cases h with
  | cons h1 t => cases t with
    | cons h2 t => cases t with
      | cons h3 t => cases t with
        | cons h4 t =>
          cases t
          exact ⟨_, _, _, _, rfl, h1, h2, h3, h4⟩
section
variable {X : Cx}
def rEqD4 (K : PySem.W.Frag) : R2 := fun x y H Q => ∃ t u a b g1 g2 g3 h1 h2 h3 ks d1 d2 d3 e1 e2 e3, x = .ref t ∧ y = .ref u ∧ H t = some (.tup [.ref a, g1, g2, g3]) ∧ H u = some (.tup [.ref b, h1, h2, h3]) ∧ H a = some (.dK ks) ∧ H b = some (.dK ks) ∧ (∀ p ∈ ks, valV ks p.1 = some p.2 ∧ ∃ c, p.2 = .ref c) ∧
  (Dp K H g1 d1 ∧ Dp K H g2 d2 ∧ Dp K H g3 d3) ∧ (Dp K H h1 e1 ∧ Dp K H h2 e2 ∧ Dp K H h3 e3) ∧ (SeqAt.shaped d1 = true ∧ SeqAt.shaped d2 = true ∧ SeqAt.shaped d3 = true) ∧ (SeqAt.shaped e1 = true ∧ SeqAt.shaped e2 = true ∧ SeqAt.shaped e3 = true) ∧
  Q (.bl (PyData.eqv d1 e1 && (PyData.eqv d2 e2 && PyData.eqv d3 e3))) H
theorem op_eqD4 (hu : X.A.units + 65 < cLine) : OpR X (compareOp .Eq) (rEqD4 X.K) := by
  intro pins s σ H x y v u' Q I rx ry h
  obtain ⟨t, u, a, b, g1, g2, g3, h1, h2, h3, ks, d1, d2, d3, e1, e2, e3, rfl, rfl, et, eu, ea, eb, fl, ⟨hd1, hd2, hd3⟩, ⟨he1, he2, he3⟩, ⟨sd1, sd2, sd3⟩, ⟨se1, se2, se3⟩, q⟩ := h
  obtain rfl : v = Value.ref t := rx
  obtain rfl : u' = Value.ref u := ry
  obtain ⟨xs, r1, p1, _⟩ := I.tuple (SqT.of et)
  obtain ⟨ys, r2, p2, _⟩ := I.tuple (SqT.of eu)
  obtain ⟨x1, x2, x3, x4, rfl, w1, w2, w3, w4⟩ := vals4 r1
  obtain ⟨y1, y2, y3, y4, rfl, z1, z2, z3, z4⟩ := vals4 r2
  obtain rfl : x1 = Value.ref a := w1
  obtain rfl : y1 = Value.ref b := z1
  obtain ⟨_, ya, va, ra, da⟩ := (show ObjOk X.prog X.w H s.heap a (.dK ks) from I.hok a _ ea)
  obtain ⟨_, yb, vb, rb, db⟩ := (show ObjOk X.prog X.w H s.heap b (.dK ks) from I.hok b _ eb)
  have hl : va.length = vb.length := by rw [← ra.length, ← rb.length]
  have one : ∀ {g h' : V} {d e : PyData} {x y : Value}, Dp X.K H g d → Dp X.K H h' e → SeqAt.shaped d = true → SeqAt.shaped e = true → RelV g x → RelV h' y → SeqAt.EqIn X.prog X.w X.A.in1 s x y (PyData.eqv d e) := fun {g h' d e x y} hd he sd se wx wy => by
    obtain ⟨as, q1⟩ := Dp.reads I d _ x hd wx
    obtain ⟨bs, q2⟩ := Dp.reads I e _ y he wy
    exact (SeqAt.eqAt_reads d e X.A.in1 s x y as bs q1 q2 (SeqAt.canLay_of_shaped sd) (SeqAt.canLay_of_shaped se) (SeqAt.room_of_shaped sd (by show X.A.units + 1 + 64 < cLine; omega))).inModel X.prog X.w
  show wpAny (model X.prog X.w) X.A (richCompare .Eq (.ref t) (.ref u)) (EP X pins σ Q) X.xe s
  refine SeqAt.rcIn_tuples (e := fun j => match j with | 0 => true | 1 => PyData.eqv d1 e1 | 2 => PyData.eqv d2 e2 | _ => PyData.eqv d3 e3) p1 p2 (by omega) (fun j k1 k2 => ?_) ⟨.bl (PyData.eqv d1 e1 && (PyData.eqv d2 e2 && PyData.eqv d3 e3)), H, I, ?_, q⟩
  · match j, k1, k2 with
    | 0, _, _ =>
      show SeqAt.EqIn X.prog X.w X.A.in1 s (Value.ref a) (Value.ref b) true
      by_cases c : a = b
      · subst c
        exact (SeqAt.EqAt.same (A := X.A.in1) (s := s) (.ref a)).inModel X.prog X.w
      · refine SeqAt.EqIn.of_refs c fun E' Q' q' => ?_
        show wpAny (model X.prog X.w) X.A.in1 (compareOp .Eq (.ref a) (.ref b)) _ E' s
        refine PySem.W.keq_eqIn (knd := mixKind X.prog X.w) (r := true) ya yb da db (by show X.A.units + 1 < cLine; omega) (fun _ => hits_refs rb ra fl) ?_
        simpa [hl] using q'
    | 1, _, _ => exact one hd1 he1 sd1 se1 w2 z2
    | 2, _, _ => exact one hd2 he2 sd2 se2 w3 z3
    | 3, _, _ => exact one hd3 he3 sd3 se3 w4 z4
    | j + 4, k1, _ => exact absurd k1 (by simp)
  · show RelV (V.bl (PyData.eqv d1 e1 && (PyData.eqv d2 e2 && PyData.eqv d3 e3))) _
    simp [List.range_succ, RelV, Bool.and_assoc]
end
end L2
namespace Sl
open PySem L2 C8 StX
theorem rd_eqD4 {K : PySem.W.Frag} {H : Hp} {Q : VK} {t u a b : Addr} {g1 g2 g3 h1 h2 h3 : V} {ks : List (Key × V)} {d1 d2 d3 e1 e2 e3 : PyData} (et : H t = some (.tup [.ref a, g1, g2, g3])) (eu : H u = some (.tup [.ref b, h1, h2, h3])) (ea : H a = some (.dK ks)) (eb : H b = some (.dK ks)) (fl : ∀ p ∈ ks, valV ks p.1 = some p.2 ∧ ∃ c, p.2 = .ref c)
    (hd : Dt H g1 d1 ∧ Dt H g2 d2 ∧ Dt H g3 d3) (he : Dt H h1 e1 ∧ Dt H h2 e2 ∧ Dt H h3 e3) (sd : SeqAt.shaped d1 = true ∧ SeqAt.shaped d2 = true ∧ SeqAt.shaped d3 = true) (se : SeqAt.shaped e1 = true ∧ SeqAt.shaped e2 = true ∧ SeqAt.shaped e3 = true)
    (q : Q (.bl (PyData.eqv d1 e1 && (PyData.eqv d2 e2 && PyData.eqv d3 e3))) H) : rEqD4 K (.ref t) (.ref u) H Q :=
  ⟨t, u, a, b, g1, g2, g3, h1, h2, h3, ks, d1, d2, d3, e1, e2, e3, rfl, rfl, et, eu, ea, eb, fl, ⟨hd.1.dp, hd.2.1.dp, hd.2.2.dp⟩, ⟨he.1.dp, he.2.1.dp, he.2.2.dp⟩, sd, se, q⟩
end Sl
set_option Elab.async false
set_option linter.all false
set_option maxRecDepth 100000
set_option maxHeartbeats 4000000
/-! what the drills want: dicts whose keys are texts, sets of texts -/
namespace L2
open PySem PySem.Spec PyProof.Rows
def rSortDS : List V → Hp → VK → Prop := fun xs H Q => ∃ (a : Addr) (kvs : List (Key × V)) (ks : List Str), xs = [.ref a] ∧ Rd H a (.dK kvs) ∧ kvs.map (·.1) = ks.map Sum.inr ∧ ks.length < 64 ∧
  ∀ ys p, ys.Perm ks → sortedS ys = true → H p = none → Q (.ref p) (upd H p (.lst (ys.map V.str)))
theorem cr_sortDS {X : Cx} (hc : X.calm = true) : CallR X (.builtin "sorted") rSortDS := call_sortedD hc
end L2
namespace Sl
open PySem L2 C8 StX
open PyProof.Rows (sortedS)
section
variable {σ : L2.St} {H : Hp} {Q : VK} {K : PySem.W.Frag} {g : TG} {tt : TT} {te : TE} {vs : List Nat}
/-! dicts of texts -/
def dS (ls : List (Str × V)) : List (Key × V) := ls.map fun q => (Sum.inr q.1, q.2)
def keysS (ls : List (Str × V)) : List Str := ls.map (·.1)
theorem dS_keys (ls : List (Str × V)) : (dS ls).map (·.1) = (keysS ls).map Sum.inr := by
  unfold dS keysS
  rw [List.map_map, List.map_map]
  rfl
theorem dS_len (ls : List (Str × V)) : (dS ls).length = ls.length := List.length_map _
theorem dS_nodup {ls : List (Str × V)} (h : (keysS ls).Nodup) : ((dS ls).map (·.1)).Nodup := by
  rw [dS_keys, List.nodup_iff_pairwise_ne, List.pairwise_map]
  exact (List.nodup_iff_pairwise_ne.mp h).imp fun z e => z (Sum.inr.inj e)
theorem dS_val {ls : List (Str × V)} (h : (keysS ls).Nodup) {k : Str} {v : V} (m : (k, v) ∈ ls) : valV (dS ls) (Sum.inr k) = some v := val_nodup (dS_nodup h) (Sum.inr k, v) (List.mem_map.mpr ⟨(k, v), m, rfl⟩)
theorem dS_no {ls : List (Str × V)} {k : Str} (h : k ∉ keysS ls) : valV (dS ls) (Sum.inr k) = none := by
  induction ls with
  | nil => rfl
  | cons q r ih =>
    show valV ((Sum.inr q.1, q.2) :: dS r) (Sum.inr k) = none
    have h1 : ¬ q.1 = k := fun e => h (by rw [← e]; exact List.mem_cons_self)
    rw [valV_neg (fun z => h1 (Sum.inr.inj z))]
    exact ih fun z => h (List.mem_cons_of_mem _ z)
/-- ls with the key k told v -/
def putS (ls : List (Str × V)) (k : Str) (v : V) : List (Str × V) := if k ∈ keysS ls then ls.map fun q => if q.1 = k then (q.1, v) else q else ls ++ [(k, v)]
theorem dS_any (ls : List (Str × V)) (k : Str) : ((dS ls).any fun kv => decide (kv.1 = Sum.inr k)) = true ↔ k ∈ keysS ls := by
  unfold dS keysS
  rw [List.any_map, List.any_eq_true, List.mem_map]
  constructor
  · rintro ⟨q, hq, e⟩
    exact ⟨q, hq, Sum.inr.inj (of_decide_eq_true e)⟩
  · rintro ⟨q, hq, rfl⟩
    exact ⟨q, hq, decide_eq_true rfl⟩
theorem dS_put (ls : List (Str × V)) (k : Str) (v : V) : putK (dS ls) (Sum.inr k) v = dS (putS ls k v) := by
  unfold putK putS
  by_cases c : k ∈ keysS ls
  · rw [if_pos ((dS_any ls k).mpr c), if_pos c]
    unfold dS
    rw [List.map_map, List.map_map]
    refine List.map_congr_left fun q _ => ?_
    show (if (Sum.inr q.1 : Key) = Sum.inr k then ((Sum.inr q.1 : Key), v) else (Sum.inr q.1, q.2)) = (Sum.inr (if q.1 = k then (q.1, v) else q).1, (if q.1 = k then (q.1, v) else q).2)
    by_cases d : q.1 = k
    · rw [if_pos (by rw [d]), if_pos d]
    · rw [if_neg (fun z => d (Sum.inr.inj z)), if_neg d]
  · rw [if_neg (fun z => c ((dS_any ls k).mp z)), if_neg c]
    unfold dS
    rw [List.map_append]
    rfl
theorem putS_keys (ls : List (Str × V)) (k : Str) (v : V) : keysS (putS ls k v) = if k ∈ keysS ls then keysS ls else keysS ls ++ [k] := by
  unfold putS
  by_cases c : k ∈ keysS ls
  · rw [if_pos c, if_pos c]
    unfold keysS
    rw [List.map_map]
    refine List.map_congr_left fun q _ => ?_
    show (if q.1 = k then (q.1, v) else q).1 = q.1
    split <;> rfl
  · rw [if_neg c, if_neg c]
    unfold keysS
    rw [List.map_append]
    rfl
theorem dS_mergeA : ∀ (ms ls : List (Str × V)), (keysS (ls ++ ms)).Nodup → mergeK (dS ls) (dS ms) = dS (ls ++ ms)
  | [], ls, _ => by rw [List.append_nil]; rfl
  | (k, v) :: ms, ls, h => by
    have hk : k ∉ keysS ls := fun z => by
      unfold keysS at h z
      rw [List.map_append, List.nodup_append] at h
      exact h.2.2 k z k List.mem_cons_self rfl
    have hp : putS ls k v = ls ++ [(k, v)] := if_neg hk
    show mergeK (putK (dS ls) (Sum.inr k) v) (dS ms) = _
    rw [dS_put, hp, dS_mergeA ms (ls ++ [(k, v)]) (by rw [List.append_assoc]; exact h), List.append_assoc]
    rfl
theorem dS_merge {ls : List (Str × V)} (h : (keysS ls).Nodup) : mergeK [] (dS ls) = dS ls := dS_mergeA ls [] h
/-! readings -/
theorem rd_sortDS {a : Addr} {ls : List (Str × V)} (e : H a = some (.dK (dS ls))) (l : ls.length < 64) (h : ∀ ys p H', ys.Perm (keysS ls) → sortedS ys = true → H p = none → Same H H' → H' p = some (.lst (ys.map V.str)) → Q (.ref p) H') : rSortDS [.ref a] H Q :=
  ⟨a, dS ls, keysS ls, rfl, .inl e, dS_keys ls, by rw [show (keysS ls).length = ls.length from List.length_map _]; exact l, fun ys p pm so hp => h ys p _ pm so hp (Same.new (Same.refl H) hp) upd_same⟩
theorem rd_sortSS {P : Program} {w : World} {a : Addr} {l : List Str} (e : H a = some (SetS.SetSO P w a l)) (ll : l.length < 64) (h : ∀ ys p H', ys.Perm l → sortedS ys = true → H p = none → Same H H' → H' p = some (.lst (ys.map V.str)) → Q (.ref p) H') : SetS.rSortedSetS P w [.ref a] H Q :=
  ⟨a, l, rfl, e, ll, fun ys p pm so hp => h ys p _ pm so hp (Same.new (Same.refl H) hp) upd_same⟩
theorem rd_setS {P : Program} {w : World} {a : Addr} {ns : List Str} (e : SqL K H a (ns.map V.str) ∨ SqT K H a (ns.map V.str)) (l : ns.length ≤ 1000) (h : ∀ p l H', (∀ x, x ∈ l ↔ x ∈ ns) → l.length ≤ ns.length → l.Nodup → H p = none → Same H H' → H' p = some (SetS.SetSO P w p l) → Q (.ref p) H') : SetS.rSetS P w K [.ref a] H Q :=
  ⟨a, ns, rfl, e, l, fun p l hm hl nd hp => h p l _ hm hl nd hp (Same.new (Same.refl H) hp) upd_same⟩
theorem rd_dgetT {a : Addr} {ls : List (Str × V)} {k : Str} {v : V} (e : Rd H a (.dK (dS ls))) (l : valV (dS ls) (Sum.inr k) = some v) (h : Q v H) : rDGet (.ref a) (.str k) H Q := ⟨a, v, rfl, .inl ⟨_, Sum.inr k, e, rfl, l.symm⟩, h⟩
/-- for v in d.values() in a comprehension -/
theorem lcR_vals {d : Addr} {o : Obj} {kvs : List (Key × V)} (Pv : Addr → Nat → Hp → Prop) (hl : ∀ D i H', H D = none → Pv D i H' → H' d = some (.frz o (.dK kvs))) (h0 : ∀ D H', H D = none → Same H H' → H' D = some (.lst []) → H' = upd H D (.lst []) → Pv D 0 H')
    (hs : ∀ D i k x H', H D = none → kvs[i]? = some (k, x) → Pv D i H' → g x (wipe σ vs) H' fun σ2 H2 => wipe σ2 vs = wipe σ vs ∧ tt σ2 H2 fun b H3 => if b = true then te σ2 H3 fun y H4 => LcE D (Pv D (i + 1)) y H4 else Pv D (i + 1) H3)
    (hd : ∀ D H', H D = none → Pv D kvs.length H' → Q (.ref D) H') : LcR (Itd d o kvs) g tt te vs σ H Q :=
  lcR_gen _ kvs.length Pv h0 (fun D i H' hD h p => ⟨hl D i H' hD p, h⟩) (fun D H' hD p => ⟨hl D _ H' hD p, Nat.le_refl _⟩)
    (fun D i H' x H2 hD hi p ⟨e1, k, e2⟩ => by subst e1; exact hs D i k x _ hD e2 p) hd
end
end Sl
set_option Elab.async false
set_option linter.all false
set_option maxRecDepth 100000
set_option maxHeartbeats 4000000
set_option exponentiation.threshold 9000
namespace SortD
open PySem PyProof.Rows PyProof L2 C8
/-! ### sorted(xs, key=f), f a def of the program whose answers hold lists that the sort leaves alone -/
/-- what is told of a key: as long as all but the store of keys stands -/
def KeyR (kS : Addr) (h : Heap) (u : Value) (k : PyData) : Prop := ∀ h'' : Heap, (∀ b o, b ≠ kS → h.get? b = some o → h''.get? b = some o) → ∃ as, Reads h'' u k as
theorem each_take_read {kS : Addr} {h : Heap} {ks : List Value} {kz : List PyData} (e : W.EachIs (KeyR kS h) ks kz) : W.EachIs (fun v k => ∃ as, Reads h v k as) ks kz := by
  induction e with
  | nil => exact .nil
  | cons r _ ih => exact .cons (r h fun _ _ _ z => z) ih
theorem each_mono {kS : Addr} {h h' : Heap} {ks : List Value} {kz : List PyData} (kp : ∀ b o, b ≠ kS → h.get? b = some o → h'.get? b = some o) (e : W.EachIs (KeyR kS h) ks kz) : W.EachIs (KeyR kS h') ks kz := by
  induction e with
  | nil => exact .nil
  | cons r _ ih => exact .cons (fun h'' k2 => r h'' fun b o n z => k2 b o n (kp b o n z)) ih
section
variable {prog : Program} {w : World} {A : Around} {E : Value → Shared → Prop} {s : Shared}
theorem rest {a kS : Addr} {b : Bool} {vs : List Value} {e1 : Nat} {P : Fin → Shared → Prop} {kz : List PyData} {f : Value} {h₁ : Heap} (KB : W.KeepsBut a h₁ s.heap) (hk : h₁.get? kS = none) (ek : s.heap.get? kS = some (seqObj "list" #[] 0)) (ea : s.heap.get? a = some (seqObj "list" #[] e1)) (ne : kS ≠ a) (hl : kz.length = vs.length) (sz : vs.length ≤ sizeLine)
    (AA : W.AllAlike kz) (SS : W.Sortable kz) (dp : ∀ d ∈ kz, A.units + d.depth < cLine)
    (key : ∀ (i : Nat) v k, vs[i]? = some v → kz[i]? = some k → ∀ (h : Heap) (tk : Nat), W.KeepsBut a h₁ h → (∃ o, h.get? kS = some o) → wpAny (model prog w) A (call f [v]) (fun u s₂ => ∃ h' tk', s₂ = { s with heap := h', toks := tk' } ∧ (∀ b o, h.get? b = some o → h'.get? b = some o) ∧ KeyR kS h' u k) (fun _ _ => False) { s with heap := h, toks := tk })
    (fin : ∀ (h' : Heap) (tk : Nat) (out : List Value) (c : Nat), W.KeepsBut a h₁ h' → h'.get? a = some (seqObj "list" out.toArray c) → W.KeyedOut b kz vs out → P (Fin.done (Flow.ret Value.none)) { s with heap := h', toks := tk }) :
    wpAny (model prog w) A (ksk_rest a f b vs.toArray e1 (.ref kS)) P E s := by
  unfold ksk_rest
  refine wpAny_bind (wpAny_rule ?_)
  rw [List.forIn_toArray]
  refine wpAny_bind (ksk_fold (I := fun j s' => ∃ (h : Heap) (tk : Nat) (ks : List Value) (e : Nat), s' = { s with heap := h, toks := tk } ∧ W.KeepsBut a h₁ h ∧ h.get? kS = some (seqObj "list" ks.toArray e) ∧ h.get? a = some (seqObj "list" #[] e1) ∧ ks.length = j ∧ W.EachIs (KeyR kS h) ks (kz.take j)) vs 0 s ⟨s.heap, s.toks, [], 0, rfl, KB, ek, ea, rfl, .nil⟩ ?_ ?_)
  · rintro j x s' hx ⟨h, tk, ks, e, rfl, kb, ek', ea', hlen, each⟩
    have hj := (List.getElem?_eq_some_iff.mp hx).1
    have hk' : kz[j]? = some (kz[j]'(by omega)) := List.getElem?_eq_getElem (by omega)
    refine wpAny_bind (wpAny_attempt (wpAny_mono (key j x _ hx hk' h tk kb ⟨_, ek'⟩) (fun u s2 z => ?_) (fun _ _ z => z.elim)))
    obtain ⟨h', tk', rfl, kp, kr⟩ := z
    have hs : ks.toArray.size ≤ sizeLine := by
      rw [List.size_toArray]
      omega
    have hs2 : (ks.toArray.push u).size ≤ sizeLine + 1 := by
      rw [Array.size_push, List.size_toArray]
      omega
    refine wpAny_bind (listUpdate_at (kp _ _ ek') rfl ?_ hs hs2)
    have kU : ∀ b o, b ≠ kS → h'.get? b = some o → (h'.update kS (Obj.mapSeq fun x => x.push u)).get? b = some o := fun b o n z => by rw [Heap.get?_update_ne _ _ _ _ n]; exact z
    refine wpAny_pure ⟨rfl, _, tk', ks ++ [u], e + 1, rfl, fun b o n z => ?_, ?_, ?_, by rw [List.length_append, hlen]; rfl, ?_⟩
    · have n2 : b ≠ kS := fun q => by rw [q, hk] at z; cases z
      exact kU b o n2 (kp b o (kb b o n z))
    · rw [Heap.get?_update_self _ (kp _ _ ek') rfl]
      unfold Obj.mapSeq
      have n : ((ks.toArray.push u).size == ks.toArray.size) = false := by simp
      simp only [n]
      simp
    · exact kU _ _ (Ne.symm ne) (kp _ _ ea')
    · rw [show 0 + j + 1 = j + 1 by omega, List.take_add_one, hk']
      refine W.each_snoc ?_ ?_
      · exact fun h'' k2 => kr h'' fun b o n z => k2 b o n (kU b o n z)
      · rw [Nat.zero_add] at each
        exact each_mono kU (each_mono (fun b o _ z => kp b o z) each)
  · rintro s' ⟨h, tk, ks, e, rfl, kb, ek', ea', hlen, each⟩
    rw [Nat.zero_add, ← hl, List.take_length] at each
    rw [Nat.zero_add] at hlen
    refine wpAny_bind (listItems_at ek' rfl ?_)
    refine W.keyH_end (κ := W.dataKind h kz) (s := { s with heap := h, toks := tk }) kb hk ek' ea' ne (W.SortsAt.data (each_take_read each) AA SS dp) (by rw [List.size_toArray]; exact hlen) sz fun h2 tk2 c kb2 ea2 => ?_
    exact fin h2 tk2 _ c kb2 ea2 ⟨h, ks, AA, rfl, each_take_read each⟩
theorem tree {a : Addr} {b : Bool} {vs : List Value} {P : Fin → Shared → Prop} {kz : List PyData} {f : Value} {n : Nat} (ea : s.heap.get? a = some (seqObj "list" vs.toArray n)) (hl : kz.length = vs.length) (sz : vs.length ≤ sizeLine) (AA : W.AllAlike kz) (SS : W.Sortable kz) (dp : ∀ d ∈ kz, A.units + d.depth < cLine)
    (key : ∀ (kS : Addr), s.heap.get? kS = none → ∀ (i : Nat) v k, vs[i]? = some v → kz[i]? = some k → ∀ (h : Heap) (tk : Nat), W.KeepsBut a s.heap h → (∃ o, h.get? kS = some o) → wpAny (model prog w) A (call f [v]) (fun u s₂ => ∃ h' tk', s₂ = { s with heap := h', toks := tk' } ∧ (∀ b o, h.get? b = some o → h'.get? b = some o) ∧ KeyR kS h' u k) (fun _ _ => False) { s with heap := h, toks := tk })
    (fin : ∀ (h' : Heap) (tk : Nat) (out : List Value) (c : Nat), W.KeepsBut a s.heap h' → h'.get? a = some (seqObj "list" out.toArray c) → W.KeyedOut b kz vs out → P (Fin.done (Flow.ret Value.none)) { s with heap := h', toks := tk }) :
    wpAny (model prog w) A (ksk_tree a f b) P E s := by
  unfold ksk_tree
  refine wpAny_bind (listItems_at ea rfl ?_)
  refine wpAny_bind (listUpdate_at ea rfl ?_ (by rw [List.size_toArray]; exact sz) (Nat.zero_le _))
  obtain ⟨e1, hea⟩ : ∃ e1, (s.heap.update a (Obj.mapSeq fun x => #[])).get? a = some (seqObj "list" #[] e1) := ⟨_, by rw [Heap.get?_update_self _ ea rfl]; unfold Obj.mapSeq; rfl⟩
  refine wpAny_bind (seqEpoch_at hea rfl ?_)
  refine wpAny_bind (wpAny_newTuple ?_ (by show vs.length ≤ sizeLine; exact sz))
  refine wpAny_bind (wpAny_newList ?_)
  refine wpAny_holding ?_
  have kU : W.KeepsBut a s.heap (s.heap.update a (Obj.mapSeq fun x => #[])) := fun b o nb z => by rw [Heap.get?_update_ne _ _ _ _ nb]; exact z
  obtain ⟨h0, e0⟩ : ∃ h0, h0 = s.heap.update a (Obj.mapSeq fun x => #[]) := ⟨_, rfl⟩
  have sz0 : h0.objs.size = s.heap.objs.size := by rw [e0]; exact Heap.size_update _ _ _
  rw [← e0] at kU hea
  obtain ⟨o1, eo1⟩ : ∃ o1 : Obj, o1 = { cls := .type "tuple", data := .seq vs.toArray } := ⟨_, rfl⟩
  have key2 := key (h0.push o1).objs.size (Heap.get?_none_of_le (by rw [Heap.size_push, sz0]; omega))
  have kP : ∀ b o, h0.get? b = some o → ((h0.push o1).push (seqObj "list" #[] 0)).get? b = some o := fun b o z => Heap.get?_push_of_some _ (Heap.get?_push_of_some _ z)
  have hne : (h0.push o1).objs.size ≠ a := by
    rw [Heap.size_push, sz0]
    exact Nat.ne_of_gt (Nat.lt_succ_of_lt (Heap.lt_size ea))
  have := rest (prog := prog) (w := w) (A := A) (E := E) (P := P) (f := f) (b := b) (s := { s with heap := (h0.push o1).push (seqObj "list" #[] 0) }) (kS := (h0.push o1).objs.size) (h₁ := s.heap) (fun b o nb z => kP b o (kU b o nb z)) (Heap.get?_none_of_le (by rw [Heap.size_push, sz0]; omega)) (Heap.get?_push_size _ rfl) (kP _ _ hea) hne hl sz AA SS dp key2 fin
  rw [eo1, e0] at this
  exact this
theorem sorted {l : Addr} {vs : List Value} {kz : List PyData} {f : Addr} {Q : Value → Shared → Prop} (hL : s.heap.IsList l vs.toArray) (hl : kz.length = vs.length) (sz : vs.length ≤ sizeLine) (AA : W.AllAlike kz) (SS : W.Sortable kz) (dp : ∀ d ∈ kz, A.units + 2 + d.depth < cLine)
    (key : ∀ (kS : Addr), s.heap.get? kS = none → ∀ (i : Nat) v k, vs[i]? = some v → kz[i]? = some k → ∀ (h : Heap) (tk : Nat), (∀ b o, s.heap.get? b = some o → h.get? b = some o) → (∃ o, h.get? kS = some o) → wpAny (model prog w) A.in1.in1 (call (.ref f) [v]) (fun u s₂ => ∃ h' tk', s₂ = { s with heap := h', toks := tk' } ∧ (∀ b o, h.get? b = some o → h'.get? b = some o) ∧ KeyR kS h' u k) (fun _ _ => False) { s with heap := h, toks := tk })
    (fin : ∀ (h' : Heap) (tk : Nat) (out : List Value) (c : Nat), (∀ b o, s.heap.get? b = some o → h'.get? b = some o) → h'.get? (s.heap.objs.size + 1) = some (seqObj "list" out.toArray c) → W.KeyedOut false kz vs out → Q (.ref (s.heap.objs.size + 1)) { s with heap := h', toks := tk }) :
    wpAny (model prog w) A (call (.builtin "sorted") [.ref l] [("key", .ref f)]) Q E s := by
  refine W.sorted_of_sort hL sz (ksk_s1 _ _) (fun _ => ksk_l1 _ _) fun E' => ?_
  rw [ksk_t1]
  have old : ∀ b o, s.heap.get? b = some o → (W.copyHeap s.heap vs).get? b = some o := fun b o z => W.copyHeap_old z
  have csz : ∀ b o, s.heap.get? b = some o → b ≠ s.heap.objs.size + 1 := fun b o z => Nat.ne_of_lt (Nat.lt_succ_of_lt (Heap.lt_size z))
  refine tree (s := { s with heap := W.copyHeap s.heap vs }) (W.copyHeap_at _ _) hl sz AA SS (fun d hd => by have := dp d hd; show A.units + 1 + 1 + d.depth < cLine; omega) (fun kS hk i v k hv hz h tk kb ho => key kS ?_ i v k hv hz h tk (fun b o z => kb b o (csz b o z) (old b o z)) ho) fun h' tk out c kb e KO => ⟨rfl, fin h' tk out c (fun b o z => kb b o (csz b o z) (old b o z)) e KO⟩
  · cases q : s.heap.get? kS with
    | none => rfl
    | some o => rw [old kS o q] at hk; cases hk
/-- a def that tells (len(x[0]), x[1], x[0]) -/
structure KeyT (st : Stmt) (x : Str) : Prop where
  body : ∃ p1 p2 p3 p4 p5 p6 p7 p8 p9 p10 p11 p12 p13 j1 j2 j3 j4, fnBody st = [.Return (some (.Tuple [.Call (.Name "len" p1) [.Subscript (.Name x p2) (.Constant (.int 0) j1 p3) p4] [] p5, .Subscript (.Name x p6) (.Constant (.int 1) j2 p7) p8, .Subscript (.Name x p9) (.Constant (.int 0) j3 p10) p11] j4 p12)) p13]
  kind : (fnScope st).kind = .function
  co : (fnScope st).isCoroutine = false
  gen : (fnScope st).isGenerator = false
  loc : (fnScope st).names.lookup x = some .local
  glb : (fnScope st).names.lookup (Str.ofString "len") = some .globalImplicit
  nocell : ∀ y ∈ (fnScope st).names, y.2 ≠ .cell
  dbg : (x == ("__debug__" : Str)) = false
theorem key_size {K : W.Frag} {mg : Str → Option Value} {base : Heap} {q qual x : Str} {st : Stmt} {f : Addr} {fd : FuncData} (M : L2.Mod K mg base) (F : C8.Fun K q qual st f fd) (hb : L2.Binds K fd [x] []) (KT : KeyT st x) (hm : mg "len" = none) (bs : ∀ b o, base.get? b = some o → s.heap.get? b = some o) (room : A.depth < recursionLimit) (lim : s.heap.NoLimit)
    {r l kS : Addr} {vs : Array Value} {n2 : Nat} {d : Int} {t : Tok} {ds : List PyData} (hr : PyProof.Rows.IsTup s.heap r #[.ref l, .int d t]) (hl : s.heap.get? l = some { cls := .type "list", data := .seq vs n2 }) (hv : ∀ h, ReadsAll h vs.toList ds []) (sz : (vs.size : Int) < 2 ^ 63) (hk : ∃ o, s.heap.get? kS = some o) (hlk : l ≠ kS) :
    wpAny (model prog w) A (call (.ref f) [.ref r]) (fun u s₂ => ∃ h' tk', s₂ = { s with heap := h', toks := tk' } ∧ (∀ b o, s.heap.get? b = some o → h'.get? b = some o) ∧ KeyR kS h' u (.tuple [.int vs.size, .int d, .list ds])) E s := by
  obtain ⟨otp, etp1, etp2, ntp, etp3⟩ := hr
  have bt := hb s [.ref r] (M.kin.keeps bs) rfl
  obtain ⟨oc, od, dV, kV, doc, pm, an, cdv, ct, osl, rfl, hf, hc⟩ := F.ex
  refine wpAny_call (codeAny_call_def (a := f) (body := fnBody st) room (bs _ _ (M.kin _ _ hf)) rfl lim (W.codeRec_of (M.kin.keeps bs) hc) rfl bt KT.nocell (fun y hy => by rw [List.mem_singleton.mp hy]; exact KT.loc) (fun h0 ns kp => ?_) KT.co KT.gen KT.kind)
  obtain ⟨env, he⟩ : ∃ env, env = callEnv (W.fnOf q qual (fnArgs st) (fnBody st) (fnScope st) dV kV doc pm an cdv ct) s.heap.objs.size f := ⟨_, rfl⟩
  have hs : env.scope = fnScope st := by rw [he]; rfl
  have hl0 : env.locals = s.heap.objs.size := by rw [he]; rfl
  have hg : env.globals = mainGlobals := by rw [he]; rfl
  have hbn : env.builtins = builtinsNs := by rw [he]; rfl
  rw [← he]
  obtain ⟨p1, p2, p3, p4, p5, p6, p7, p8, p9, p10, p11, p12, p13, j1, j2, j3, j4, eb⟩ := KT.body
  rw [eb]
  refine wpAny_execs_cons (wpAny_Return_some ?_)
  refine wpAny_Tuple_spliced ?_
  have hkind : env.scope.kind = .function := by rw [hs]; exact KT.kind
  have name : ∀ {A' : Around} {E' : Value → Shared → Prop} {Q' : Value → Shared → Prop} {tk : Nat} {pp : Pos}, Q' (.ref r) { s with heap := h0, toks := tk } →
      wpAny (model prog w) A' (eval (.Name x pp) env) Q' E' { s with heap := h0, toks := tk } := fun hq =>
    wpAny_Name (wpAny_loadName_local hkind (by show env.scope.names.lookup x = _; rw [hs]; exact KT.loc) (hl0 ▸ ns) (by simp) hq) KT.dbg
  have item : ∀ {A' : Around} {E' : Value → Shared → Prop} {Q' : Value → Shared → Prop} {tk : Nat} {pp pq pr : Pos} {jj : Nat} {m : Int} {j : Nat} {v : Value}, -2 ^ 63 ≤ m → m < 2 ^ 63 → seqIndex? m ([.ref l, .int d t] : List Value).length = some j → ([.ref l, .int d t] : List Value)[j]? = some v →
      (∀ tk', Q' v { s with heap := h0, toks := tk' }) → wpAny (model prog w) A' (eval (.Subscript (.Name x pp) (.Constant (.int m) jj pq) pr) env) Q' E' { s with heap := h0, toks := tk } := fun h1 h2 h3 h4 hq =>
    Subscript_ (name (wpAny_Constant_int (item_tupleT (l := [.ref l, .int d t]) ⟨_, kp _ _ etp1, etp2, ntp, etp3⟩ h1 h2 h3 h4 (hq _))))
  have len : ∀ {A' : Around} {E' : Value → Shared → Prop} {Q' : Value → Shared → Prop} {tk : Nat} {pp : Pos}, Q' (.builtin "len") { s with heap := h0, toks := tk } →
      wpAny (model prog w) A' (eval (.Name "len" pp) env) Q' E' { s with heap := h0, toks := tk } := fun hq => by
    refine wpAny_Name ?_ (by decide +kernel)
    rw [loadName_read hkind (by show env.scope.names.lookup _ = _; rw [hs]; exact KT.glb)]
    unfold loadGlobal
    rw [hg, hbn]
    refine wpAny_bind (wpAny_nsGet (M.glob.keeps fun b o z => kp b o (bs b o z)) ?_)
    rw [hm]
    obtain ⟨mb, hmb, hmv⟩ := M.blt
    refine wpAny_bind (wpAny_nsGet (hmb.keeps fun b o z => kp b o (bs b o z)) ?_)
    rw [hmv _ (by decide +kernel), show bootBuiltins "len" = some (.builtin "len") by decide +kernel]
    exact wpAny_pure hq
  refine Calls.spliced_cons ?_
  refine wpAny_Call_NameR (len ?_)
  refine PyProof.Rows.callWith_builtin1 (Calls.spliced_cons (item (m := 0) (j := 0) (by decide) (by decide) rfl rfl fun tk1 => Calls.spliced_nil ?_))
  refine len_list (items := vs) ⟨_, kp _ _ hl, rfl, n2, rfl⟩ sz ?_
  refine Calls.spliced_cons (item (m := 1) (j := 1) (by decide) (by decide) rfl rfl fun tk2 => ?_)
  refine Calls.spliced_cons (item (m := 0) (j := 0) (by decide) (by decide) rfl rfl fun tk3 => ?_)
  refine Calls.spliced_nil ⟨by show 3 ≤ sizeLine; decide, ?_⟩
  refine ⟨_, _, rfl, fun b o e => Heap.get?_push_of_some _ (kp b o e), fun h'' k2 => ?_⟩
  obtain ⟨ok, hok⟩ := hk
  exact ⟨_, .tuple (k2 _ _ (Nat.ne_of_gt (Heap.lt_size (kp _ _ hok))) (Heap.get?_push_size _ rfl)) rfl rfl (.cons (.int _ _) (.cons (.int _ _) (.cons (.list (k2 _ _ hlk (Heap.get?_push_of_some _ (kp _ _ hl))) rfl rfl (hv _)) .nil)))⟩
end
/-- pairs of a list of ints and an int are sorted: some arrangement of them -/
def rSortH (f : Addr) : List V → List V → Hp → VK → Prop := fun vs zs H Q => ∃ (a : Addr) (rs : List Addr) (G : Addr → Addr × List Int × Int), vs = [.ref a] ∧ zs = [.ref f] ∧ H a = some (.lst (rs.map V.ref)) ∧ (∀ r ∈ rs, H r = some (.tup [.ref (G r).1, .int (G r).2.2]) ∧ H (G r).1 = some (.lst ((G r).2.1.map V.int)) ∧ (G r).2.1.length ≤ 100000) ∧ rs.length ≤ 100000 ∧
  ∀ (p : Addr) (rs' : List Addr), rs'.Perm rs → H p = none → Q (.ref p) (upd H p (.lst (rs'.map V.ref)))
theorem vals_refs : ∀ {rs : List Addr} {us : List Value}, Vals (rs.map V.ref) us → us = rs.map Value.ref
  | [], _, .nil => rfl
  | _ :: rs, _, .cons h t => by
    have h : _ = Value.ref _ := h
    rw [h, vals_refs t]
    rfl
theorem vals_refsF : ∀ bs : List Addr, Vals (bs.map V.ref) (bs.map Value.ref)
  | [] => .nil
  | _ :: r => .cons rfl (vals_refsF r)
theorem each_refs (rs : List Addr) : W.EachIs (fun (v : Value) (r : Addr) => v = .ref r) (rs.map Value.ref) rs := by
  induction rs with
  | nil => exact .nil
  | cons r rs ih => exact .cons rfl ih
theorem each_refs_eq : ∀ {vs : List Value} {rs : List Addr}, W.EachIs (fun (v : Value) (r : Addr) => v = .ref r) vs rs → vs = rs.map Value.ref
  | _, _, .nil => rfl
  | _, _, .cons h t => by rw [h, each_refs_eq t]; rfl
theorem vals_ints : ∀ {ns : List Int} {us : List Value}, Vals (ns.map V.int) us → us.length = ns.length ∧ ∀ h, ReadsAll h us (ns.map PyData.int) []
  | [], _, .nil => ⟨rfl, fun _ => .nil⟩
  | n :: ns, _, .cons h t => by
    obtain ⟨tk, rfl⟩ : ∃ t, _ = Value.int n t := h
    obtain ⟨e, r⟩ := vals_ints t
    exact ⟨by rw [List.length_cons, List.length_cons, e], fun h => .cons (.int _ _) (r h)⟩
theorem depth_ints : ∀ l : List Int, PyData.depthAll (l.map PyData.int) = 0
  | [] => by simp [PyData.depthAll]
  | a :: l => by simp [PyData.depthAll, PyData.depth, depth_ints l]
theorem alike_ints : ∀ (l m : List Int), W.alikeAll (l.map PyData.int) (m.map PyData.int) = true
  | [], _ => by simp [W.alikeAll]
  | _ :: _, [] => by simp [W.alikeAll]
  | a :: l, b :: m => by simp [W.alike, W.alikeAll, alike_ints l m]
theorem cr_sortD {X : Cx} {k : Nat} {q qual x : Str} {st : Stmt} {f : Addr} {fd : FuncData} (F : C8.Fun X.K q qual st f fd) (hd : L2.Binds X.K fd [x] []) (KT : KeyT st x) (hm : X.mg "len" = none) (hr : Room (k + 1) X.A) : CallRK X (.builtin "sorted") [Str.ofString "key"] (rSortH f) := by
  intro pins s σ H vs zs us ws Q I r rz h
  obtain ⟨a, rs, G, rfl, rfl, ha, hrs, hlen, q⟩ := h
  obtain rfl := Vals.ref1 r
  obtain rfl := Vals.ref1 rz
  obtain ⟨hz, its, n, rv, hob⟩ := I.hok a _ ha
  have eits := vals_refs rv
  subst eits
  have lim := I.nolimit
  have hl : s.heap.IsList a (rs.map Value.ref).toArray := ⟨_, hob, rfl, n, rfl⟩
  refine sorted (kz := rs.map fun r => .tuple [.int ((G r).2.1.length : Nat), .int (G r).2.2, .list ((G r).2.1.map PyData.int)]) hl (by rw [List.length_map, List.length_map]) (by rw [List.length_map, sizeLine_eq]; omega) (W.AllAlike.of fun b b' => ?_) (W.Sortable.tuples fun _ => ⟨_, _, rfl⟩) (fun d hd2 => ?_) (fun kS hk i v k2 hv hz2 h tk kp ho => ?_) fun h' tk out c fr hD KO => ?_
  · simp [W.alike, W.alikeAll, alike_ints]
  · obtain ⟨r, _, rfl⟩ := List.mem_map.mp hd2
    have h1 := depth_ints (G r).2.1
    have h2 : (PyData.tuple [.int ((G r).2.1.length : Nat), .int (G r).2.2, .list ((G r).2.1.map PyData.int)]).depth ≤ 2 := by
      simp [PyData.depth, PyData.depthAll, h1]
    have := hr.units
    omega
  · rw [List.getElem?_map] at hv hz2
    cases hi : rs[i]? with
    | none => rw [hi] at hv; cases hv
    | some r =>
      rw [hi] at hv hz2
      cases hv
      cases hz2
      obtain ⟨h1, h2, h3⟩ := hrs r (List.mem_of_getElem? hi)
      obtain ⟨_, its2, rv2, hr2⟩ := I.hok r _ h1
      obtain ⟨_, its3, n3, rv3, hl3⟩ := I.hok _ _ h2
      cases rv2 with
      | cons g1 t1 =>
        cases t1 with
        | cons g2 t2 =>
          cases t2
          obtain rfl : _ = Value.ref (G r).1 := g1
          obtain ⟨tk2, rfl⟩ : ∃ t, _ = Value.int (G r).2.2 t := g2
          obtain ⟨e3, rd3⟩ := vals_ints rv3
          have hlk : (G r).1 ≠ kS := fun z => by rw [z, hk] at hl3; cases hl3
          have := key_size (prog := X.prog) (w := X.w) (A := X.A.in1.in1) (E := fun _ _ => False) (s := { s with heap := h, toks := tk }) I.ok.mod F hd KT hm (fun b o z => kp b o (I.bk b o z)) hr.depth (lim.keeps kp) (by obtain ⟨o, q1, q2, n, q3⟩ := hr2; exact ⟨o, kp _ _ q1, q2, n, q3⟩) (kp _ _ hl3) rd3 (by rw [List.size_toArray, e3]; omega) ho hlk
          rw [List.size_toArray, e3] at this
          exact this
  · have e1 := W.keyedOut_each (R := fun (v : Value) (r : Addr) => v = .ref r) (bs := rs) (fun r => PyData.tuple [.int ((G r).2.1.length : Nat), .int (G r).2.2, .list ((G r).2.1.map PyData.int)]) KO (each_refs rs)
    have e2 := each_refs_eq e1
    subst e2
    have hp : H (s.heap.objs.size + 1) = none := I.hok.fresh (Nat.le_succ _)
    generalize hrs' : rs.mergeSort (W.dataLe false fun r => PyData.tuple [.int ((G r).2.1.length : Nat), .int (G r).2.2, .list ((G r).2.1.map PyData.int)]) = rs' at *
    have pm2 : rs'.Perm rs := by rw [← hrs']; exact List.mergeSort_perm _ _
    refine ⟨.ref (s.heap.objs.size + 1), upd H (s.heap.objs.size + 1) (.lst (rs'.map V.ref)), I.laid (t' := tk) (h' := h') fr (Nat.le_succ _) ⟨?_, rs'.map Value.ref, c, ?_, hD⟩, rfl, q _ rs' pm2 hp⟩
    · rw [List.length_map, pm2.length_eq, sizeLine_eq]
      omega
    · exact vals_refsF rs'
end SortD
set_option Elab.async false
set_option linter.all false
set_option maxRecDepth 100000
set_option maxHeartbeats 4000000
set_option exponentiation.threshold 9000
/-! calls with keywords (keyword-only parameters), o.f += e, list.pop(), several except clauses, sorted(xs, key=f) where f tells x[0] -/
namespace C8
open PySem PySem.Spec PyProof.Rows L2
/-- a def called with n positional values and keywords ks -/
structure CalN (P : Program) (w : World) (K : PySem.W.Frag) (mg : Str → Option Value) (base : Heap) (k : Nat) (x : Str) (sp : Sp) (n : Nat) (ks : List Str) (gV : List V → List V → List V) : Prop where
  ex : ∃ (f : Addr) (fd : FuncData) (ps : List Str) (g : List Value → List Value → List Value), FnOk P w K mg base CX0 k f fd ps sp ∧ mg x = some (.ref f) ∧ PySem.W.keepIn K (.ref f) = true ∧ KBn K fd ps n ks g gV
section
variable {X : Cx} {k j n : Nat} {x : Str} {sp : Sp} {ks : List Str} {gV : List V → List V → List V} {p pos : Pos} {e : Expr} {es : List Expr} {kws : List Keyword} {t tk : TA}
theorem pe_cN (c : CalN X.prog X.w X.K X.mg X.base k x sp n ks gV) (hr : Room j X.A) (hk : k ≤ j) (hg : Gl X x) (ha : PA X (e :: es) t) (hkw : PK X kws tk)
    (hall : (backToKw pos (keywordEach kws X.env)).all (·.1.isSome) = true := by rfl) (hks : (backToKw pos (keywordEach kws X.env)).filterMap (·.1) = ks := by rfl)
    (hdb : (x == ("__debug__" : Str)) = false := by decide) (he : starEach (e :: es) X.env = (false, eval e X.env) :: starEach es X.env := by rfl)
    (hpl : ((backTo pos (starEach (e :: es) X.env)).any (·.1) || (backToKw pos (keywordEach kws X.env)).any (·.1.isNone)) = false := by rfl) :
    PE X (.Call (.Name x p) (e :: es) kws pos) (tCallN n ks.length sp gV E0 t tk) := by
  obtain ⟨f, fd, ps, g, F, hm, kp, hb⟩ := c.ex
  exact pe_callN F (hr.mono hk) hg hm kp hb pass0 ha hkw hall hks hdb he hpl
end
end C8
namespace SortD
open PySem PyProof.Rows PyProof L2 C8
/-- a def that tells x[0] -/
structure KeyT0 (st : Stmt) (x : Str) : Prop where
  body : ∃ p1 p2 p3 p4 j1, fnBody st = [.Return (some (.Subscript (.Name x p1) (.Constant (.int 0) j1 p2) p3)) p4]
  kind : (fnScope st).kind = .function
  co : (fnScope st).isCoroutine = false
  gen : (fnScope st).isGenerator = false
  loc : (fnScope st).names.lookup x = some .local
  nocell : ∀ y ∈ (fnScope st).names, y.2 ≠ .cell
  dbg : (x == ("__debug__" : Str)) = false
section
variable {prog : Program} {w : World} {A : Around} {E : Value → Shared → Prop} {s : Shared}
theorem key_first {K : W.Frag} {mg : Str → Option Value} {base : Heap} {q qual x : Str} {st : Stmt} {f : Addr} {fd : FuncData} (M : L2.Mod K mg base) (F : C8.Fun K q qual st f fd) (hb : L2.Binds K fd [x] []) (KT : KeyT0 st x) (bs : ∀ b o, base.get? b = some o → s.heap.get? b = some o) (room : A.depth < recursionLimit) (lim : s.heap.NoLimit)
    {r kS : Addr} {d : Int} {t : Tok} {us : List Value} (hr : PyProof.Rows.IsTup s.heap r (Value.int d t :: us).toArray) (hk : ∃ o, s.heap.get? kS = some o) :
    wpAny (model prog w) A (call (.ref f) [.ref r]) (fun u s₂ => ∃ h' tk', s₂ = { s with heap := h', toks := tk' } ∧ (∀ b o, s.heap.get? b = some o → h'.get? b = some o) ∧ KeyR kS h' u (.int d)) E s := by
  obtain ⟨otp, etp1, etp2, ntp, etp3⟩ := hr
  have bt := hb s [.ref r] (M.kin.keeps bs) rfl
  obtain ⟨oc, od, dV, kV, doc, pm, an, cdv, ct, osl, rfl, hf, hc⟩ := F.ex
  refine wpAny_call (codeAny_call_def (a := f) (body := fnBody st) room (bs _ _ (M.kin _ _ hf)) rfl lim (W.codeRec_of (M.kin.keeps bs) hc) rfl bt KT.nocell (fun y hy => by rw [List.mem_singleton.mp hy]; exact KT.loc) (fun h0 ns kp => ?_) KT.co KT.gen KT.kind)
  obtain ⟨env, he⟩ : ∃ env, env = callEnv (W.fnOf q qual (fnArgs st) (fnBody st) (fnScope st) dV kV doc pm an cdv ct) s.heap.objs.size f := ⟨_, rfl⟩
  have hs : env.scope = fnScope st := by rw [he]; rfl
  have hl0 : env.locals = s.heap.objs.size := by rw [he]; rfl
  rw [← he]
  obtain ⟨p1, p2, p3, p4, j1, eb⟩ := KT.body
  rw [eb]
  refine wpAny_execs_cons (wpAny_Return_some ?_)
  have hkind : env.scope.kind = .function := by rw [hs]; exact KT.kind
  have name : ∀ {A' : Around} {E' : Value → Shared → Prop} {Q' : Value → Shared → Prop} {tk : Nat} {pp : Pos}, Q' (.ref r) { s with heap := h0, toks := tk } →
      wpAny (model prog w) A' (eval (.Name x pp) env) Q' E' { s with heap := h0, toks := tk } := fun hq =>
    wpAny_Name (wpAny_loadName_local hkind (by show env.scope.names.lookup x = _; rw [hs]; exact KT.loc) (hl0 ▸ ns) (by simp) hq) KT.dbg
  have item : ∀ {A' : Around} {E' : Value → Shared → Prop} {Q' : Value → Shared → Prop} {tk : Nat} {pp pq pr : Pos} {jj : Nat} {m : Int} {j : Nat} {v : Value}, -2 ^ 63 ≤ m → m < 2 ^ 63 → seqIndex? m (Value.int d t :: us).length = some j → (Value.int d t :: us)[j]? = some v →
      (∀ tk', Q' v { s with heap := h0, toks := tk' }) → wpAny (model prog w) A' (eval (.Subscript (.Name x pp) (.Constant (.int m) jj pq) pr) env) Q' E' { s with heap := h0, toks := tk } := fun h1 h2 h3 h4 hq =>
    Subscript_ (name (wpAny_Constant_int (item_tupleT (l := Value.int d t :: us) ⟨_, kp _ _ etp1, etp2, ntp, etp3⟩ h1 h2 h3 h4 (hq _))))
  refine item (m := 0) (j := 0) (by decide) (by decide) ?_ rfl fun tk' => ?_
  · show seqIndex? 0 (us.length + 1) = some 0
    unfold seqIndex?
    simp
  · exact ⟨_, _, rfl, fun b o e => kp b o e, fun h'' k2 => ⟨_, .int _ _⟩⟩
end
/-- rows whose first is an int, sorted by it -/
def rSortI (f : Addr) : List V → List V → Hp → VK → Prop := fun vs zs H Q => ∃ (a : Addr) (rs : List Addr) (G : Addr → Int), vs = [.ref a] ∧ zs = [.ref f] ∧ H a = some (.lst (rs.map V.ref)) ∧ (∀ r ∈ rs, ∃ ws, H r = some (.tup (.int (G r) :: ws))) ∧ rs.length ≤ 100000 ∧
  ∀ (p : Addr) (rs' : List Addr), rs'.Perm rs → rs'.Pairwise (fun x y => G x ≤ G y) → H p = none → Q (.ref p) (upd H p (.lst (rs'.map V.ref)))
theorem cr_sortI {X : Cx} {k : Nat} {q qual x : Str} {st : Stmt} {f : Addr} {fd : FuncData} (F : C8.Fun X.K q qual st f fd) (hd : L2.Binds X.K fd [x] []) (KT : KeyT0 st x) (hr : Room (k + 1) X.A) : CallRK X (.builtin "sorted") [Str.ofString "key"] (rSortI f) := by
  intro pins s σ H vs zs us ws Q I r rz h
  obtain ⟨a, rs, G, rfl, rfl, ha, hrs, hlen, q⟩ := h
  obtain rfl := Vals.ref1 r
  obtain rfl := Vals.ref1 rz
  obtain ⟨hz, its, n, rv, hob⟩ := I.hok a _ ha
  have eits := vals_refs rv
  subst eits
  have lim := I.nolimit
  have hl : s.heap.IsList a (rs.map Value.ref).toArray := ⟨_, hob, rfl, n, rfl⟩
  refine sorted (kz := rs.map fun r => .int (G r)) hl (by rw [List.length_map, List.length_map]) (by rw [List.length_map, sizeLine_eq]; omega) (W.AllAlike.of fun b b' => by simp [W.alike]) (W.Sortable.others fun _ => ⟨by simp, fun _ => by simp⟩) (fun d hd2 => ?_) (fun kS hk i v k2 hv hz2 h tk kp ho => ?_) fun h' tk out c fr hD KO => ?_
  · obtain ⟨r, _, rfl⟩ := List.mem_map.mp hd2
    have := hr.units
    show X.A.units + 2 + 0 < cLine
    omega
  · rw [List.getElem?_map] at hv hz2
    cases hi : rs[i]? with
    | none => rw [hi] at hv; cases hv
    | some r =>
      rw [hi] at hv hz2
      cases hv
      cases hz2
      obtain ⟨ws, h1⟩ := hrs r (List.mem_of_getElem? hi)
      obtain ⟨_, its2, rv2, hr2⟩ := I.hok r _ h1
      cases rv2 with
      | cons g1 t1 =>
        obtain ⟨tk2, rfl⟩ : ∃ t, _ = Value.int (G r) t := g1
        exact key_first (prog := X.prog) (w := X.w) (A := X.A.in1.in1) (E := fun _ _ => False) (s := { s with heap := h, toks := tk }) I.ok.mod F hd KT (fun b o z => kp b o (I.bk b o z)) hr.depth (lim.keeps kp) (by obtain ⟨o, q1, q2, n, q3⟩ := hr2; exact ⟨o, kp _ _ q1, q2, n, q3⟩) ho
  · have e1 := W.keyedOut_each (R := fun (v : Value) (r : Addr) => v = .ref r) (bs := rs) (fun r => PyData.int (G r)) KO (each_refs rs)
    rw [W.dataLe_int] at e1
    have e2 := each_refs_eq e1
    subst e2
    have hp : H (s.heap.objs.size + 1) = none := I.hok.fresh (Nat.le_succ _)
    generalize hrs' : rs.mergeSort (fun a b => decide (G a ≤ G b)) = rs' at *
    have pm2 : rs'.Perm rs := by rw [← hrs']; exact List.mergeSort_perm _ _
    have pw : rs'.Pairwise (fun x y => G x ≤ G y) := by
      rw [← hrs']
      refine (List.pairwise_mergeSort (fun a b c h1 h2 => ?_) (fun a b => ?_) rs).imp fun h => of_decide_eq_true h
      · have h1 := of_decide_eq_true h1
        have h2 := of_decide_eq_true h2
        exact decide_eq_true (by omega)
      · rw [Bool.or_eq_true, decide_eq_true_iff, decide_eq_true_iff]
        omega
    refine ⟨.ref (s.heap.objs.size + 1), upd H (s.heap.objs.size + 1) (.lst (rs'.map V.ref)), I.laid (t' := tk) (h' := h') fr (Nat.le_succ _) ⟨?_, rs'.map Value.ref, c, ?_, hD⟩, rfl, q _ rs' pm2 pw hp⟩
    · rw [List.length_map, pm2.length_eq, sizeLine_eq]
      omega
    · exact vals_refsF rs'
end SortD
namespace Sl
open PySem L2 C8 StX
section
variable {σ : L2.St} {H : Hp} {Q : VK} {K : PySem.W.Frag} {C a : Addr} {n m : Nat} {sp : Sp} {gV : List V → List V → List V} {E : XK} {t tk : TA} {ta tv : TE} {rd : V → V → Hp → VK → Prop} {f : Str} {D : Ends} {v x : V} {vs zs : List V} {fs : List (Str × V)} {dx : Addr}
def rCN2 (n m : Nat) (sp : Sp) (gV : List V → List V → List V) (E : XK) (Q : VK) (vs zs : List V) (H : Hp) : Prop := vs.length = n ∧ zs.length = m ∧ sp (gV vs zs) H Q E
def rCN1 (n m : Nat) (sp : Sp) (gV : List V → List V → List V) (E : XK) (tk : TA) (σ : L2.St) (Q : VK) (vs : List V) (H : Hp) : Prop := tk σ H fun zs H2 => rCN2 n m sp gV E Q vs zs H2
theorem rd_callN (h : t σ H fun vs H1 => rCN1 n m sp gV E tk σ Q vs H1) : tCallN n m sp gV E t tk σ H Q := h
theorem rd_callN1 (h : tk σ H fun zs H2 => rCN2 n m sp gV E Q vs zs H2) : rCN1 n m sp gV E tk σ Q vs H := h
theorem rd_callN2 (h1 : vs.length = n) (h2 : zs.length = m) (h : sp (gV vs zs) H Q E) : rCN2 n m sp gV E Q vs zs H := ⟨h1, h2, h⟩
def rFA (K : PySem.W.Frag) (tv : TE) (rd : V → V → Hp → VK → Prop) (f : Str) (D : Ends) (σ : L2.St) (x : V) (H1 : Hp) : Prop := ∃ a C dx fs v, x = .ref a ∧ H1 a = some (.ins C dx fs) ∧ Cls K C ∧ NoAttr K C f ∧ fs.lookup f = some v ∧
  tv σ H1 fun y H2 => rd v y H2 fun z H3 => ∃ dx' fs', H3 a = some (.ins C dx' fs') ∧ fs'.length < 1000 ∧ D.nx σ (upd H3 a (.ins C dx' (putF f z fs')))
theorem rd_fldaug0 (h : ta σ H fun x H1 => rFA K tv rd f D σ x H1) : sFldAug K ta tv rd f D σ H := h
/-- o.f += an int -/
theorem rd_fldaugI {i j : Int} (e : H a = some (.ins C dx fs)) (c : Cls K C) (na : NoAttr K C f) (l : fs.lookup f = some (.int i)) (lf : fs.length < 1000) (hv : tv = fun _ H Q => Q (.int j) H) (h : D.nx σ (upd H a (.ins C dx (putF f (.int (i + j)) fs)))) : rFA K tv rAdd f D σ (.ref a) H := by
  subst hv
  exact ⟨a, C, dx, fs, _, rfl, e, c, na, l, i, j, rfl, rfl, dx, fs, e, lf, h⟩
theorem rd_pop {xs : List V} {y : V} (e : H a = some (.lst (xs ++ [y]))) (h : ∀ H', H' = upd H a (.lst xs) → H' a = some (.lst xs) → Q y H') : rPop (.ref a) [] H Q := by
  refine ⟨a, xs ++ [y], y, rfl, rfl, e, by simp, ?_⟩
  have := h _ rfl upd_same
  simpa using this
end
section
variable {σ : L2.St} {H : Hp} {K : PySem.W.Frag} {Wout : WX} {tb : WX → TS} {c cls : Value} {d : Option Addr} {D : Ends} {l : List (Value × (Addr → Value → Option Addr → TS))} {ts : Addr → Value → Option Addr → TS}
def tMany (K : PySem.W.Frag) (l : List (Value × (Addr → Value → Option Addr → TS))) (tb : WX → TS) (Wout : WX) : TS := fun D σ H => tb (wMany K Wout D l) D σ H
theorem rd_many (h : tb (wMany K Wout D l) D σ H) : tMany K l tb Wout D σ H := h
theorem rd_manyY (he : PySem.W.exmOne K cls c = some true) (h : ∀ a, H a = none → ts a cls d D σ H) : WE (wMany K Wout D ((c, ts) :: l)) σ cls d H := ⟨true, he, fun _ => h, (fun q => nomatch q)⟩
theorem rd_manyN (he : PySem.W.exmOne K cls c = some false) (h : WE (wMany K Wout D l) σ cls d H) : WE (wMany K Wout D ((c, ts) :: l)) σ cls d H := ⟨false, he, (fun q => nomatch q), fun _ => h⟩
end
end Sl
namespace L2
open PySem PySem.Spec PyProof.Rows Sl
section
variable {X : Cx} {body : List Stmt} {h₀ : ExceptHandler} {hds : List ExceptHandler} {l : List (Value × (Addr → Value → Option Addr → TS))} {pos : Pos} {tb : WX → TS} {Wout : WX}
theorem ps_manyO (hs : X.stack = X.env :: X.outer) (hf : X.env.frame = some X.env.locals) (tk : Takes X Wout)
    (hb : ∀ (W : WX) (pn : List (Addr × Obj)) (xe : Value → Shared → Prop), Takes (X.tr pn xe) W → PSs (X.tr pn xe) body (tb W))
    (hh : HdsOk X (h₀ :: hds) l) : PS X (.Try body (h₀ :: hds) [] [] pos) (tMany X.K l tb Wout) := ps_try_many hs hf tk (fun W pn xe k _ => hb W pn xe k) hh
theorem hds_cons {x : Str} {c : Value} {ts : Addr → Value → Option Addr → TS} {b₀ : Stmt} {suite : List Stmt} {np pos' : Pos} {hds : List ExceptHandler} {l : List (Value × (Addr → Value → Option Addr → TS))} (hc : Names X x c)
    (hsu : ∀ (a : Addr) (oe : Obj) (cls : Value) (d : Option Addr) (pn : List (Addr × Obj)), PSs (X.suite a ((a, oe) :: pn)) (b₀ :: suite) (ts a cls d)) (r : HdsOk X hds l) : HdsOk X (.ExceptHandler (some (.Name x np)) none (b₀ :: suite) pos' :: hds) ((c, ts) :: l) := .cons hc (fun a oe cls d pn _ _ => hsu a oe cls d pn) r
end
end L2
set_option Elab.async false
set_option linter.all false
set_option maxRecDepth 100000
set_option maxHeartbeats 4000000
/-! enumerate(list, c) with a start -/
namespace L2
open PySem PySem.Spec PyProof.Rows
def IteS (K : PySem.W.Frag) (c : Int) (a : Addr) : It :=
  ⟨fun i H => ∃ (xs : List V) (x : V), SqL K H a xs ∧ xs[i]? = some x, fun i H v H' => ∃ T x, v = .ref T ∧ H T = none ∧ H' = upd H T (.tup [.int (c + (i : Nat)), x]) ∧ ∀ xs, SqL K H a xs → xs[i]? = some x, fun i H => ∃ xs : List V, SqL K H a xs ∧ xs.length ≤ i⟩
theorem turn_enumS {P : Program} {w : World} {K : PySem.W.Frag} {elts : List Expr} {kk : Nat} {tpos : Pos} (c : Int) (a e it : Addr) :
    Turn P w K (.Tuple elts kk tpos) (IteS K c a) [e, it] e (fun i h => (∃ old, IsEnum h e it (c + ((i : Nat) : Int)) old) ∧ h.IsListIter it a i ∧ e ≠ it) where
  mem := by simp
  obj := fun i h st b hb => by
    obtain ⟨⟨old, he⟩, ⟨o, ho, hc, hd⟩, _⟩ := st
    rcases (show b = e ∨ b = it by simpa using hb) with rfl | rfl
    · exact ⟨_, he, fun v q => nomatch q⟩
    · exact ⟨o, ho, fun v q => by rw [hd] at q; cases q⟩
  keep := fun i h h' st k => let ⟨⟨old, he⟩, hi, hne⟩ := st; ⟨⟨old, k e (by simp) _ he⟩, hi.at fun o q => k it (by simp) o q, hne⟩
  item := by
    intro X hP hw hK hc i pins s σ H E I hf st hg
    subst hP hw hK
    obtain ⟨⟨old, he⟩, hit, hne⟩ := st
    obtain ⟨xs, x, hq, hx⟩ := hg
    obtain ⟨its, rv, p, hz⟩ := I.list hq
    obtain ⟨u, hu, ru⟩ := rv.get hx
    have hp : s.heap.IsList a its.toArray := p.isList
    obtain ⟨op, gp, cp, _⟩ := id hp
    obtain ⟨oi, gi, ci, _⟩ := id hit
    have hai : a ≠ it := apart_cls gp gi (by rw [cp, ci]; decide)
    have hea : e ≠ a := apart_cls he gp (by rw [cp]; show Value.type "enumerate" ≠ Value.type "list"; decide)
    have hlt : i < its.toArray.size := by
      have := (List.getElem?_eq_some_iff.mp hu).1
      simpa using this
    have hel : e < s.heap.objs.size := Heap.lt_size he
    refine wpAny_pyNext_enum_itemC (Draws.list (A := X.A.in1) (I.ok.hd hc) it a hai its.toArray) he ⟨hit, hp⟩ hlt hne (by simp [hne, hea]) fun u2 h' tk hu2 ho st2 hT hsz hk => ?_
    have hu2' : u2 = u := by
      have q : its.toArray[i]? = some u := by simpa using hu
      rw [q] at hu2
      exact (Option.some.inj hu2).symm
    subst hu2'
    refine ⟨_, rfl, (wpAny_letOwnedTupleGo_enum (s := { s with heap := h', toks := tk + 1 }) ho fun h'' he' sb => ?_)⟩
    have hT2 : h''.get? s.heap.objs.size = some { cls := .type "tuple", data := .seq #[.int (c + (i : Nat)) tk, u2] } := (sb.2 _ (Nat.ne_of_gt hel)).trans hT
    have new : ObjOk X.prog X.w (upd H s.heap.objs.size (.tup [.int (c + (i : Nat)), x])) h'' s.heap.objs.size (.tup [.int (c + (i : Nat)), x]) :=
      ⟨(show 2 ≤ sizeLine by decide), [.int (c + (i : Nat)) tk, u2], .cons ⟨tk, rfl⟩ (.cons ru .nil), ⟨_, hT2, rfl, _, rfl⟩⟩
    have I1 : Inv X pins σ (upd H s.heap.objs.size (.tup [.int (c + (i : Nat)), x])) { s with heap := h'', toks := tk + 1 } :=
      I.turnedNew (ch := [e, it]) (fun b ob hb q => (sb.2 b fun z => hb (by simp [z])).trans (hk b ob (fun z => hb (by simp [z])) (fun z => hb (by simp [z])) q)) hf (Nat.le_refl _) new
    refine ⟨.ref s.heap.objs.size, _, I1, rfl, ⟨_, x, rfl, I.hok.fresh (Nat.le_refl _), rfl, fun ys hy => by rw [I.list_inj hy hq]; exact hx⟩, ⟨⟨u2, ?_⟩, st2.1.at fun o q => (sb.2 it hne.symm).trans q, hne⟩, fun b hb => ?_⟩
    · rw [show c + ((i + 1 : Nat) : Int) = c + (i : Int) + 1 by omega]
      exact he'
    · have hb' : b < s.heap.objs.size := by
        rcases (show b = e ∨ b = it by simpa using hb) with z | z
        · rw [z]; exact hel
        · rw [z]; exact Heap.lt_size gi
      rw [upd_ne (Nat.ne_of_lt hb')]
      exact (hf b hb).1
  done := by
    intro X hP hw hK hc i pins s σ H E I hf st hg
    subst hP hw hK
    obtain ⟨⟨old, he⟩, hit, hne⟩ := st
    obtain ⟨xs, hq, hx⟩ := hg
    obtain ⟨its, rv, p, hz⟩ := I.list hq
    obtain ⟨f0, f1, f2, f3, f4, f5⟩ := hf it (by simp)
    have hl := rv.length
    have hp : s.heap.IsList a its.toArray := p.isList
    have hT : s.TypeIs (.ref e) "enumerate" := ⟨_, he, rfl⟩
    unfold pyNext
    refine wpAny_bind (wpAny_attempt (wpAny_callSpecial?_slot (name := Str.ofString "__next__") hT F.slot_enumerate_next
      (wpAny_call_entry F.slot_enumerate_next hT F.entry_enumerate_next ?_ (F.args_enumerate_next_1 _))))
    show wpAny _ _ (field (.ref e) 2 >>= _) _ _ _
    refine wpAny_bind (wpAny_field he rfl (x := .ref it) rfl ?_)
    refine wpAny_bind (wpAny_nextOf_list_end (A := X.A.in1) (I.ok.hd hc) hit hp (by simp; omega) fun h' x he' hx' => ?_)
    obtain ⟨o, ho, hc⟩ := hx'
    refine wpAny_bind (wpAny_isInstance (T := "StopIteration") (b := true) ⟨o, ho, hc⟩ isSubtype_stop ?_)
    exact wpAny_pure ⟨rfl, I.turned (t' := s.toks) (fun b o hb q => he' b o hb q) f0 f1 f3 f4 f5⟩
  self := fun A i s Q E st h => let ⟨⟨_, he⟩, _⟩ := st; wpAny_pyIter_enum he h
def iEnumS (K : PySem.W.Frag) (ta : TA) : TI := fun σ H R => ta σ H fun vs H1 => ∃ a xs c, vs = [.ref a, .int c] ∧ (-(2 ^ 63) ≤ c ∧ c < 2 ^ 63) ∧ SqL K H1 a xs ∧ R (IteS K c a) H1
theorem pi_enumS {X : Cx} {e e2 : Expr} {ta : TA} {p pos tpos : Pos} {elts : List Expr} {kk : Nat} (hg : Gl X "enumerate") (hm : X.mg "enumerate" = none) (ha : PA X [e, e2] ta)
    (hs : starEach [e, e2] X.env = (false, eval e X.env) :: starEach [e2] X.env := by rfl) (hpl : (backTo pos (starEach [e2] X.env)).any (·.1) = false := by rfl) :
    PI X (.Tuple elts kk tpos) (.Call (.Name "enumerate" p) [e, e2] [] pos) (iEnumS X.K ta) := by
  refine ⟨fun pins s σ H R I h => ?_⟩
  refine Call_ (ld_blt I hg hm boot_enumerate (PyProof.Rows.callWith_type1 (thn (ha.run pos pins s σ H _ I h) fun us s1 ⟨vs, H1, I1, r1, q1⟩ => ?_) hs hpl))
  obtain ⟨a, xs, c, ex, ⟨c0, c1⟩, hq, q⟩ := q1
  subst ex
  cases r1 with
  | cons r rr =>
    cases rr with
    | cons r2 rr =>
      cases rr
      cases r
      obtain ⟨tk, rfl⟩ : ∃ t, _ = Value.int c t := r2
      obtain ⟨its, rv, p', hz⟩ := I1.list hq
      refine enum_begins (begins_list a its.toArray) p'.isList c0 c1 fun h' he hit _ hk => wpAny_pyIter_enum he ?_
      have I2 : Inv X pins σ H1 { s1 with heap := h' } := I1.kept (t' := s1.toks) hk
      refine ⟨s1.heap.objs.size + 1, [s1.heap.objs.size + 1, s1.heap.objs.size], _, _, H1, rfl, I2, turn_enumS c a (s1.heap.objs.size + 1) s1.heap.objs.size, ⟨⟨.none, by rw [show c + ((0 : Nat) : Int) = c by omega]; exact he⟩, ⟨_, hit, rfl, rfl⟩, Nat.succ_ne_self _⟩, fun b hb => ?_, q⟩
      have hle : s1.heap.objs.size ≤ b := by
        rcases (show b = s1.heap.objs.size + 1 ∨ b = s1.heap.objs.size by simpa using hb) with z | z
        · rw [z]; exact Nat.le_add_right _ _
        · rw [z]; exact Nat.le_refl _
      exact I1.fpOk hle (I1.hok.fresh hle)
end L2
namespace Sl
open PySem L2 C8 StX
section
variable {σ : L2.St} {H H1 : Hp} {g : TG} {tb : TS} {ta : TA} {nx bk ct : L2.St → Hp → Prop} {rt : VK} {R : It → Hp → Prop} {K : PySem.W.Frag}
def enRS (K : PySem.W.Frag) (R : It → Hp → Prop) (vs : List V) (H : Hp) : Prop := ∃ a xs c, vs = [.ref a, .int c] ∧ (-(2 ^ 63) ≤ c ∧ c < 2 ^ 63) ∧ SqL K H a xs ∧ R (IteS K c a) H
theorem rd_iEnumS (h : ta σ H fun vs H1 => enRS K R vs H1) : iEnumS K ta σ H R := h
theorem rd_enRS {a : Addr} {xs : List V} {c : Int} (e : SqL K H a xs) (hc : -(2 ^ 63) ≤ c ∧ c < 2 ^ 63) (h : R (IteS K c a) H) : enRS K R [.ref a, .int c] H := ⟨a, xs, c, rfl, hc, e, h⟩
theorem forR_enumS {a : Addr} {xs : List V} {c : Int} (Pv : Nat → L2.St → Hp → Prop) (hl : ∀ i σ H, Pv i σ H → SqL K H a xs) (h0 : Pv 0 σ H)
    (hs : ∀ (i : Nat) x σ H t H', xs[i]? = some x → Pv i σ H → H t = none → Same H H' → H' t = some (.tup [.int (c + (i : Nat)), x]) → H' = upd H t (.tup [.int (c + (i : Nat)), x]) → g (.ref t) σ H' fun σ2 H2 => tb ⟨Pv (i + 1), rt, nx, Pv (i + 1)⟩ σ2 H2) (hd : ∀ σ H, Pv xs.length σ H → nx σ H) :
    ForR (IteS K c a) g tb ⟨nx, rt, bk, ct⟩ σ H := forR_gen _ xs.length Pv h0 (fun i σ H h p => ⟨xs, xs[i], hl i σ H p, by simp [h]⟩) (fun σ H p => ⟨xs, hl _ σ H p, Nat.le_refl _⟩)
      (fun i σ H x H' hi p ⟨t, y, e1, e2, e3, e4⟩ => by subst e1; subst e3; exact hs i y σ H t _ (e4 xs (hl i σ _ p)) p e2 (Same.new (Same.refl H) e2) upd_same rfl) hd
end
end Sl
set_option Elab.async false
set_option linter.all false
set_option maxRecDepth 100000
set_option maxHeartbeats 4000000
namespace Sl
open PySem L2 C8 StX
/-! ### data without lists stands when a list changes -/
mutual
inductive Dn (H : Hp) : V → PyData → Prop
  | non : Dn H .non .none
  | bl (b : Bool) : Dn H (.bl b) (.bool b)
  | int (i : Int) : Dn H (.int i) (.int i)
  | str (x : Str) : Dn H (.str x) (.str x)
  | tup {a : Addr} {xs : List V} {ds : List PyData} : H a = some (.tup xs) → DnAll H xs ds → Dn H (.ref a) (.tuple ds)
inductive DnAll (H : Hp) : List V → List PyData → Prop
  | nil : DnAll H [] []
  | cons {v : V} {vs : List V} {d : PyData} {ds : List PyData} : Dn H v d → DnAll H vs ds → DnAll H (v :: vs) (d :: ds)
end
mutual
/-- it stands where all tuples stand -/
theorem Dn.keep {H H' : Hp} (s : ∀ a xs, H a = some (.tup xs) → H' a = some (.tup xs)) : ∀ {v : V} {d : PyData}, Dn H v d → Dn H' v d
  | _, _, .non => .non
  | _, _, .bl b => .bl b
  | _, _, .int i => .int i
  | _, _, .str x => .str x
  | _, _, .tup e h => .tup (s _ _ e) (DnAll.keep s h)
theorem DnAll.keep {H H' : Hp} (s : ∀ a xs, H a = some (.tup xs) → H' a = some (.tup xs)) : ∀ {vs : List V} {ds : List PyData}, DnAll H vs ds → DnAll H' vs ds
  | _, _, .nil => .nil
  | _, _, .cons h t => .cons (Dn.keep s h) (DnAll.keep s t)
end
mutual
theorem Dn.dt {H : Hp} : ∀ {v : V} {d : PyData}, Dn H v d → Dt H v d
  | _, _, .non => .non
  | _, _, .bl b => .bl b
  | _, _, .int i => .int i
  | _, _, .str x => .str x
  | _, _, .tup e h => .tup e (DnAll.dt h)
theorem DnAll.dt {H : Hp} : ∀ {vs : List V} {ds : List PyData}, DnAll H vs ds → DtAll H vs ds
  | _, _, .nil => .nil
  | _, _, .cons h t => .cons (Dn.dt h) (DnAll.dt t)
end
theorem Dn.mono {H H' : Hp} (s : Same H H') {v : V} {d : PyData} (h : Dn H v d) : Dn H' v d := h.keep fun a xs e => s a _ e
theorem DnAll.mono {H H' : Hp} (s : Same H H') {v : List V} {d : List PyData} (h : DnAll H v d) : DnAll H' v d := h.keep fun a xs e => s a _ e
theorem keep_lst {H : Hp} {t : Addr} {xs ys : List V} (e : H t = some (.lst xs)) : ∀ a zs, H a = some (.tup zs) → upd H t (.lst ys) a = some (.tup zs) := fun a zs ea => by
  rw [upd_ne (fun q => by rw [q, e] at ea; cases ea)]
  exact ea
theorem DnAll.updL {H : Hp} {t : Addr} {xs ys : List V} (e : H t = some (.lst xs)) {vs : List V} {ds : List PyData} (h : DnAll H vs ds) : DnAll (upd H t (.lst ys)) vs ds := h.keep (keep_lst e)
theorem Dn.updL {H : Hp} {t : Addr} {xs ys : List V} (e : H t = some (.lst xs)) {v : V} {d : PyData} (h : Dn H v d) : Dn (upd H t (.lst ys)) v d := h.keep (keep_lst e)
theorem DnAll.append {H : Hp} : ∀ {vs ws : List V} {ds es : List PyData}, DnAll H vs ds → DnAll H ws es → DnAll H (vs ++ ws) (ds ++ es)
  | _, _, _, _, .nil, s => s
  | _, _, _, _, .cons h t, s => .cons h (DnAll.append t s)
theorem DnAll.length {H : Hp} : ∀ {vs : List V} {ds : List PyData}, DnAll H vs ds → vs.length = ds.length
  | _, _, .nil => rfl
  | _, _, .cons _ t => by rw [List.length_cons, List.length_cons, DnAll.length t]
theorem DnAll.intsD {H : Hp} : ∀ (ns : List Int), DnAll H (ns.map V.int) (Sl.intsD ns)
  | [] => .nil
  | n :: ns => .cons (.int n) (DnAll.intsD ns)
def triD (q : Int × Int × Int) : PyData := .tuple [.int q.1, .int q.2.1, .int q.2.2]
def pairD (q : Int × Int) : PyData := .tuple [.int q.1, .int q.2]
theorem Dn.tri {H : Hp} {t : Addr} {a b c : Int} (e : H t = some (.tup [.int a, .int b, .int c])) : Dn H (.ref t) (triD (a, b, c)) := .tup e (.cons (.int _) (.cons (.int _) (.cons (.int _) .nil)))
theorem Dn.pair {H : Hp} {t : Addr} {q : Int × Int} (e : H t = some (.tup [.int q.1, .int q.2])) : Dn H (.ref t) (pairD q) := .tup e (.cons (.int _) (.cons (.int _) .nil))
theorem Dt.tri_inv {H : Hp} {v : V} {q : Int × Int × Int} (h : Dt H v (triD q)) : ∃ t, v = .ref t ∧ H t = some (.tup [.int q.1, .int q.2.1, .int q.2.2]) := by
  unfold triD at h
  cases h with
  | tup e h =>
    cases h with
    | cons h1 h2 =>
      cases h1
      cases h2 with
      | cons h1 h2 =>
        cases h1
        cases h2 with
        | cons h1 h2 =>
          cases h1
          cases h2
          exact ⟨_, rfl, e⟩
/-! ### shapes, equality -/
theorem lay_map {α : Type} {f : α → PyData} (h : ∀ x, (f x).canLay0 = true) : ∀ l : List α, PyData.canLayAll0 (l.map f) = true
  | [] => by simp [PyData.canLayAll0]
  | x :: l => by simp [PyData.canLayAll0, h x, lay_map h l]
theorem depth_map {α : Type} {f : α → PyData} {n : Nat} (h : ∀ x, (f x).depth ≤ n) : ∀ l : List α, PyData.depthAll (l.map f) ≤ n
  | [] => by simp [PyData.depthAll]
  | x :: l => by simp only [List.map_cons, PyData.depthAll]; have := h x; have := depth_map h l; omega
theorem shaped_listMap {α : Type} {f : α → PyData} (h : ∀ x, (f x).canLay0 = true) (hd : ∀ x, (f x).depth ≤ 60) (l : List α) : SeqAt.shaped (.list (l.map f)) = true := by
  have := depth_map hd l
  refine Bool.and_eq_true_iff.mpr ⟨by simp only [PyData.canLay0]; exact lay_map h l, decide_eq_true ?_⟩
  simp only [PyData.depth]
  omega
theorem shaped_tupMap {α : Type} {f : α → PyData} (h : ∀ x, (f x).canLay0 = true) (hd : ∀ x, (f x).depth ≤ 60) (l : List α) : SeqAt.shaped (.tuple (l.map f)) = true := by
  have := depth_map hd l
  refine Bool.and_eq_true_iff.mpr ⟨by simp only [PyData.canLay0]; exact lay_map h l, decide_eq_true ?_⟩
  simp only [PyData.depth]
  omega
theorem shaped_ints (ns : List Int) : SeqAt.shaped (.list (intsD ns)) = true := shaped_listMap (fun _ => by simp [PyData.canLay0]) (fun _ => by simp [PyData.depth]) ns
theorem shaped_tris (l : List (Int × Int × Int)) : SeqAt.shaped (.list (l.map triD)) = true := shaped_listMap (fun _ => by simp [triD, PyData.canLay0, PyData.canLayAll0]) (fun _ => by simp [triD, PyData.depth, PyData.depthAll]) l
theorem shaped_pair (q : Int × Int) : SeqAt.shaped (pairD q) = true := by simp [SeqAt.shaped, pairD, PyData.canLay0, PyData.canLayAll0, PyData.depth, PyData.depthAll]
theorem shaped_pairsT (l : List (Int × Int)) : SeqAt.shaped (.tuple (l.map pairD)) = true := shaped_tupMap (fun _ => by simp [pairD, PyData.canLay0, PyData.canLayAll0]) (fun _ => by simp [pairD, PyData.depth, PyData.depthAll]) l
theorem eqv_self {d : PyData} (h : SeqAt.shaped d = true) : PyData.eqv d d = true := SeqAt.eqv_refl d (SeqAt.canLay_of_shaped h)
theorem eqv_nil (l : List PyData) : PyData.eqv (.list l) (.list []) = decide (l = []) := by
  cases l with
  | nil => simp [PyData.eqv, PyData.eqvAll]
  | cons x l => simp [PyData.eqv, PyData.eqvAll]
/-! ### isinstance against (list, tuple) -/
section
variable {H : Hp} {Q : VK} {K : PySem.W.Frag}
theorem kit_ll : PySem.W.kitAny K (.type "list") [.type "list", .type "tuple"] = some true := kitAny_cons (b := true) (kit_ty (by decide +kernel)) (fun h => nomatch h) (fun _ => rfl)
theorem kit_tt : PySem.W.kitAny K (.type "tuple") [.type "list", .type "tuple"] = some true := kitAny_cons (b := false) (kit_ty (by decide +kernel)) (fun _ => kitAny_cons (b := true) (kit_ty (by decide +kernel)) (fun h => nomatch h) (fun _ => rfl)) (fun h => nomatch h)
theorem rd_isiTL {a u : Addr} {xs : List V} (e : H a = some (.lst xs)) (eu : H u = some (.tup [.ty "list", .ty "tuple"])) (h : Q (.bl true) H) : rIsiT K [.ref a, .ref u] H Q :=
  ⟨_, u, _, _, [.type "list", .type "tuple"], true, rfl, eu, .cons (.ty _) (.cons (.ty _) .nil), .base (.lst e), kit_ll, h⟩
theorem rd_isiTT {a u : Addr} {xs : List V} (e : H a = some (.tup xs)) (eu : H u = some (.tup [.ty "list", .ty "tuple"])) (h : Q (.bl true) H) : rIsiT K [.ref a, .ref u] H Q :=
  ⟨_, u, _, _, [.type "list", .type "tuple"], true, rfl, eu, .cons (.ty _) (.cons (.ty _) .nil), .base (.tup e), kit_tt, h⟩
/-- a conditional expression of two plain values -/
theorem rd_iteV {p : Prop} [Decidable p] {σ : L2.St} {ta tb : TE} {v : V} (h1 : p → ∀ Q' : VK, Q' v H → ta σ H Q') (h2 : ¬ p → ∀ Q' : VK, Q' v H → tb σ H Q') (h : Q v H) : if decide p = true then ta σ H Q else tb σ H Q := by
  by_cases c : p
  · rw [if_pos (decide_eq_true c)]; exact h1 c Q h
  · rw [if_neg (by rw [decide_eq_false c]; exact Bool.false_ne_true)]; exact h2 c Q h
end
end Sl
set_option Elab.async false
set_option linter.all false
set_option maxRecDepth 100000
set_option maxHeartbeats 4000000
namespace Sl
open PySem L2 C8 StX
def topS (i : Nat) : Stmt := PySem.Challenge.pw_siltstore_k49_whole_rule_texts.main.body.getD i (.Pass ⟨0, 0, 0, 0⟩)
abbrev s_is_whole : Stmt := topS 8
abbrev N_is_whole : List Str := ["thing"]
abbrev P_is_whole : List Str := ["thing"]
theorem sc_is_whole : FnScope N_is_whole P_is_whole (fnScope s_is_whole) := fnScope_by (by decide +kernel)
abbrev s_is_pair : Stmt := topS 9
abbrev N_is_pair : List Str := ["thing"]
abbrev P_is_pair : List Str := ["thing"]
theorem sc_is_pair : FnScope N_is_pair P_is_pair (fnScope s_is_pair) := fnScope_by (by decide +kernel)
abbrev s_shortest : Stmt := topS 10
abbrev N_shortest : List Str := ["front", "period", "many"]
abbrev P_shortest : List Str := ["front", "period"]
theorem sc_shortest : FnScope N_shortest P_shortest (fnScope s_shortest) := fnScope_by (by decide +kernel)
abbrev s_Rule_init : Stmt := inClass (topS 11) 0
abbrev N_Rule_init : List Str := ["self", "front", "period", "told", "place", "pair"]
abbrev P_Rule_init : List Str := ["self", "front", "period"]
theorem sc_Rule_init : FnScope N_Rule_init P_Rule_init (fnScope s_Rule_init) := fnScope_by (by decide +kernel)
abbrev s_Rule_eq : Stmt := inClass (topS 11) 1
abbrev N_Rule_eq : List Str := ["self", "other"]
abbrev P_Rule_eq : List Str := ["self", "other"]
theorem sc_Rule_eq : FnScope N_Rule_eq P_Rule_eq (fnScope s_Rule_eq) := fnScope_by (by decide +kernel)
abbrev s_Rule_getitem : Stmt := inClass (topS 11) 2
abbrev N_Rule_getitem : List Str := ["self", "grade"]
abbrev P_Rule_getitem : List Str := ["self", "grade"]
theorem sc_Rule_getitem : FnScope N_Rule_getitem P_Rule_getitem (fnScope s_Rule_getitem) := fnScope_by (by decide +kernel)
abbrev s_Rule_iter : Stmt := inClass (topS 11) 3
abbrev N_Rule_iter : List Str := ["self"]
abbrev P_Rule_iter : List Str := ["self"]
theorem sc_Rule_iter : FnScope N_Rule_iter P_Rule_iter (fnScope s_Rule_iter) := fnScope_by (by decide +kernel)
abbrev s_check_rule : Stmt := topS 12
abbrev N_check_rule : List Str := ["thing"]
abbrev P_check_rule : List Str := ["thing"]
theorem sc_check_rule : FnScope N_check_rule P_check_rule (fnScope s_check_rule) := fnScope_by (by decide +kernel)
abbrev s_parts_of : Stmt := topS 14
abbrev N_parts_of : List Str := ["line", "found", "at", "end"]
abbrev P_parts_of : List Str := ["line"]
theorem sc_parts_of : FnScope N_parts_of P_parts_of (fnScope s_parts_of) := fnScope_by (by decide +kernel)
abbrev s_is_letter : Stmt := topS 15
abbrev N_is_letter : List Str := ["sign"]
abbrev P_is_letter : List Str := ["sign"]
theorem sc_is_letter : FnScope N_is_letter P_is_letter (fnScope s_is_letter) := fnScope_by (by decide +kernel)
abbrev s_Reader_init : Stmt := inClass (topS 16) 0
abbrev N_Reader_init : List Str := ["self", "line", "place"]
abbrev P_Reader_init : List Str := ["self", "line", "place"]
theorem sc_Reader_init : FnScope N_Reader_init P_Reader_init (fnScope s_Reader_init) := fnScope_by (by decide +kernel)
abbrev s_Reader_next : Stmt := inClass (topS 16) 1
abbrev N_Reader_next : List Str := ["self"]
abbrev P_Reader_next : List Str := ["self"]
theorem sc_Reader_next : FnScope N_Reader_next P_Reader_next (fnScope s_Reader_next) := fnScope_by (by decide +kernel)
abbrev s_Reader_refuse : Stmt := inClass (topS 16) 2
abbrev N_Reader_refuse : List Str := ["self", "column"]
abbrev P_Reader_refuse : List Str := ["self"]
theorem sc_Reader_refuse : FnScope N_Reader_refuse P_Reader_refuse (fnScope s_Reader_refuse) := fnScope_by (by decide +kernel)
abbrev s_Reader_has : Stmt := inClass (topS 16) 3
abbrev N_Reader_has : List Str := ["self", "part"]
abbrev P_Reader_has : List Str := ["self", "part"]
theorem sc_Reader_has : FnScope N_Reader_has P_Reader_has (fnScope s_Reader_has) := fnScope_by (by decide +kernel)
abbrev s_Reader_need : Stmt := inClass (topS 16) 4
abbrev N_Reader_need : List Str := ["self", "part"]
abbrev P_Reader_need : List Str := ["self", "part"]
theorem sc_Reader_need : FnScope N_Reader_need P_Reader_need (fnScope s_Reader_need) := fnScope_by (by decide +kernel)
abbrev s_Reader_number : Stmt := inClass (topS 16) 5
abbrev N_Reader_number : List Str := ["self", "least", "most", "word"]
abbrev P_Reader_number : List Str := ["self", "least", "most"]
theorem sc_Reader_number : FnScope N_Reader_number P_Reader_number (fnScope s_Reader_number) := fnScope_by (by decide +kernel)
abbrev s_Reader_close : Stmt := inClass (topS 16) 6
abbrev N_Reader_close : List Str := ["self"]
abbrev P_Reader_close : List Str := ["self"]
theorem sc_Reader_close : FnScope N_Reader_close P_Reader_close (fnScope s_Reader_close) := fnScope_by (by decide +kernel)
abbrev s_read_rule : Stmt := topS 17
abbrev N_read_rule : List Str := ["text", "front", "period", "lines", "place", "line", "reader", "is_late", "goal", "wait"]
abbrev P_read_rule : List Str := ["text"]
theorem sc_read_rule : FnScope N_read_rule P_read_rule (fnScope s_read_rule) := fnScope_by (by decide +kernel)
abbrev s_write_rule : Stmt := topS 18
abbrev N_write_rule : List Str := ["rule", "found", "word", "pairs", "wait", "bake"]
abbrev P_write_rule : List Str := ["rule"]
theorem sc_write_rule : FnScope N_write_rule P_write_rule (fnScope s_write_rule) := fnScope_by (by decide +kernel)
abbrev s__law_number : Stmt := topS 20
abbrev N__law_number : List Str := ["_law_script", "_law_index", "_law_cell", "_law_blend"]
abbrev P__law_number : List Str := ["_law_script", "_law_index"]
theorem sc__law_number : FnScope N__law_number P__law_number (fnScope s__law_number) := fnScope_by (by decide +kernel)
abbrev s__law_take : Stmt := topS 21
abbrev N__law_take : List Str := ["_law_draw", "_law_many"]
abbrev P__law_take : List Str := ["_law_draw", "_law_many"]
theorem sc__law_take : FnScope N__law_take P__law_take (fnScope s__law_take) := fnScope_by (by decide +kernel)
abbrev s__law_pick : Stmt := topS 22
abbrev N__law_pick : List Str := ["_law_draw", "_law_items"]
abbrev P__law_pick : List Str := ["_law_draw", "_law_items"]
theorem sc__law_pick : FnScope N__law_pick P__law_pick (fnScope s__law_pick) := fnScope_by (by decide +kernel)
abbrev s__law_pair : Stmt := topS 23
abbrev N__law_pair : List Str := ["_law_draw", "_law_bake"]
abbrev P__law_pair : List Str := ["_law_draw"]
theorem sc__law_pair : FnScope N__law_pair P__law_pair (fnScope s__law_pair) := fnScope_by (by decide +kernel)
abbrev s__law_rule : Stmt := topS 24
abbrev N__law_rule : List Str := ["_law_draw", "_law_front", "_law_turn"]
abbrev P__law_rule : List Str := ["_law_draw"]
theorem sc__law_rule : FnScope N__law_rule P__law_rule (fnScope s__law_rule) := fnScope_by (by decide +kernel)
abbrev s__law_lines : Stmt := topS 25
abbrev N__law_lines : List Str := ["_law_draw", "_law_told", "_law_found", "_law_at", "_law_word", "_law_pairs", "_law_wait", "_law_bake"]
abbrev P__law_lines : List Str := ["_law_draw", "_law_told"]
theorem sc__law_lines : FnScope N__law_lines P__law_lines (fnScope s__law_lines) := fnScope_by (by decide +kernel)
abbrev s__law_spaced : Stmt := topS 26
abbrev N__law_spaced : List Str := ["_law_draw", "_law_words", "_law_text", "_law_columns", "_law_at", "_law_word"]
abbrev P__law_spaced : List Str := ["_law_draw", "_law_words"]
theorem sc__law_spaced : FnScope N__law_spaced P__law_spaced (fnScope s__law_spaced) := fnScope_by (by decide +kernel)
abbrev s__law_laid : Stmt := topS 27
abbrev N__law_laid : List Str := ["_law_draw", "_law_lines_here", "_law_found", "_law_places", "_law_words", "_law_text", "_law_columns"]
abbrev P__law_laid : List Str := ["_law_draw", "_law_lines_here"]
theorem sc__law_laid : FnScope N__law_laid P__law_laid (fnScope s__law_laid) := fnScope_by (by decide +kernel)
abbrev s__law_due : Stmt := topS 28
abbrev N__law_due : List Str := ["_law_lines_here", "_law_places", "_law_many", "_law_counts", "_law_is_late", "_law_words", "_law_place", "_law_columns", "_law_end", "_law_known", "_law_at", "_law_word", "_law_number_here", "_law_most"]
abbrev P__law_due : List Str := ["_law_lines_here", "_law_places", "_law_many"]
theorem sc__law_due : FnScope N__law_due P__law_due (fnScope s__law_due) := fnScope_by (by decide +kernel)
abbrev s__law_is_number : Stmt := topS 29
abbrev N__law_is_number : List Str := ["_law_word", "_law_sign"]
abbrev P__law_is_number : List Str := ["_law_word"]
theorem sc__law_is_number : FnScope N__law_is_number P__law_is_number (fnScope s__law_is_number) := fnScope_by (by decide +kernel)
abbrev s__law_bent : Stmt := topS 30
abbrev N__law_bent : List Str := ["_law_draw", "_law_lines_here", "_law_found", "_law_words", "_law_kind", "_law_at", "_law_place", "_law_word"]
abbrev P__law_bent : List Str := ["_law_draw", "_law_lines_here"]
theorem sc__law_bent : FnScope N__law_bent P__law_bent (fnScope s__law_bent) := fnScope_by (by decide +kernel)
abbrev s__law_read : Stmt := topS 31
abbrev N__law_read : List Str := ["_law_text", "error"]
abbrev P__law_read : List Str := ["_law_text"]
theorem sc__law_read : FnScope N__law_read P__law_read (fnScope s__law_read) := fnScope_by (by decide +kernel)
abbrev s_law : Stmt := topS 32
abbrev N_law : List Str := ["_law_script", "_law_draw", "_law_told", "_law_rule_here", "_law_lines_here", "_law_rows", "_law_places", "_law_due_here", "_law_words", "_law_bent_here", "_law_found", "_law_place", "_law_front", "_law_wrong", "_law_text"]
abbrev P_law : List Str := ["_law_script"]
theorem sc_law : FnScope N_law P_law (fnScope s_law) := fnScope_by (by decide +kernel)
abbrev s_BadText_init : Stmt := inClass (topS 4) 0
theorem ss_BadText : SupSt2 s_BadText_init ["self", "line", "column", "__class__"] "line" "column" := ⟨NdefX.nscope_by (by decide +kernel), rfl, rfl, rfl, ⟨_, rfl, rfl⟩, by decide +kernel, by decide +kernel, by decide +kernel, by decide +kernel, by decide +kernel, ⟨_, _, _, _, _, _, _, _, _, _, _, _, _, _, _, _, rfl, fun env => ⟨_, rfl⟩⟩⟩
theorem bd_BadText : ∀ (kV doc pm : Value) (an : Option Addr) (cc cda : Addr) (ct : Value) (us : List Value), us.length = 3 → bindArgs (PySem.W.fnX "__init__" "BadText.__init__" (C8.fnArgs s_BadText_init) (C8.fnBody s_BadText_init) (C8.fnScope s_BadText_init) [("__class__", cc)] .none kV doc pm an (.ref cda) ct) ⟨us, []⟩ = pure ((["self", "line", "column"] : List Str).zip us) := fun _ _ _ _ _ _ _ us hl => match us, hl with | [_, _, _], _ => rfl
/-- what isinstance asks of an own class, without the class itself -/
structure InsF (K : PySem.W.Frag) (C : Addr) : Prop where
  ha : PySem.W.findIn K (.ref C) "__class__" = some (some (.builtin "object.__class__"))
  hn : PySem.W.specialIn K (.builtin "object.__class__") "__get__" = some (some (.builtin "getset_descriptor.__get__"))
  htk : PySem.W.takesIn K (.builtin "object.__class__") = some true
  hm : PySem.W.mroIn K C (.type "object") = some true
theorem kit_self {K : PySem.W.Frag} {C : Addr} : PySem.W.kitOne K (.ref C) (.ref C) = some true := by
  unfold PySem.W.kitOne
  rw [if_pos (by simp)]
structure TX (P : Program) (K : PySem.W.Frag) (mg : Str → Option Value) (C_Rule C_Reader C_BadText : Addr) : Prop where
  mg_Rule : mg "Rule" = some (.ref C_Rule)
  mg_Reader : mg "Reader" = some (.ref C_Reader)
  mg_BadText : mg "BadText" = some (.ref C_BadText)
  d_is_whole : ∃ f fd, C8.Def K mg "is_whole" s_is_whole f fd ∧ fd.defaults = .none
  d_is_pair : ∃ f fd, C8.Def K mg "is_pair" s_is_pair f fd ∧ fd.defaults = .none
  d_shortest : ∃ f fd, C8.Def K mg "shortest" s_shortest f fd ∧ fd.defaults = .none
  m_Rule_init : ∃ f fd, C8.Fun K "__init__" "Rule.__init__" s_Rule_init f fd ∧ fd.defaults = .none ∧ Mk K C_Rule f
  m_Rule_eq : ∃ f fd, C8.Fun K "__eq__" "Rule.__eq__" s_Rule_eq f fd ∧ fd.defaults = .none ∧ Meth K C_Rule "__eq__" f ∧ PySem.W.fnIn K f = true
  m_Rule_getitem : ∃ f fd, C8.Fun K "__getitem__" "Rule.__getitem__" s_Rule_getitem f fd ∧ fd.defaults = .none ∧ Meth K C_Rule "__getitem__" f ∧ PySem.W.fnIn K f = true
  m_Rule_iter : ∃ f fd, C8.Fun K "__iter__" "Rule.__iter__" s_Rule_iter f fd ∧ fd.defaults = .none ∧ Meth K C_Rule "__iter__" f ∧ PySem.W.fnIn K f = true
  d_check_rule : ∃ f fd, C8.Def K mg "check_rule" s_check_rule f fd ∧ fd.defaults = .none
  d_parts_of : ∃ f fd, C8.Def K mg "parts_of" s_parts_of f fd ∧ fd.defaults = .none
  d_is_letter : ∃ f fd, C8.Def K mg "is_letter" s_is_letter f fd ∧ fd.defaults = .none
  m_Reader_init : ∃ f fd, C8.Fun K "__init__" "Reader.__init__" s_Reader_init f fd ∧ fd.defaults = .none ∧ Mk K C_Reader f
  m_Reader_next : ∃ f fd, C8.Fun K "next" "Reader.next" s_Reader_next f fd ∧ fd.defaults = .none ∧ Meth K C_Reader "next" f ∧ PySem.W.fnIn K f = true
  m_Reader_refuse : ∃ f fd, C8.Fun K "refuse" "Reader.refuse" s_Reader_refuse f fd ∧ fd.defaults = .none ∧ Meth K C_Reader "refuse" f ∧ PySem.W.fnIn K f = true
  m_Reader_has : ∃ f fd, C8.Fun K "has" "Reader.has" s_Reader_has f fd ∧ fd.defaults = .none ∧ Meth K C_Reader "has" f ∧ PySem.W.fnIn K f = true
  m_Reader_need : ∃ f fd, C8.Fun K "need" "Reader.need" s_Reader_need f fd ∧ fd.defaults = .none ∧ Meth K C_Reader "need" f ∧ PySem.W.fnIn K f = true
  m_Reader_number : ∃ f fd, C8.Fun K "number" "Reader.number" s_Reader_number f fd ∧ fd.defaults = .none ∧ Meth K C_Reader "number" f ∧ PySem.W.fnIn K f = true
  m_Reader_close : ∃ f fd, C8.Fun K "close" "Reader.close" s_Reader_close f fd ∧ fd.defaults = .none ∧ Meth K C_Reader "close" f ∧ PySem.W.fnIn K f = true
  d_read_rule : ∃ f fd, C8.Def K mg "read_rule" s_read_rule f fd ∧ fd.defaults = .none
  d_write_rule : ∃ f fd, C8.Def K mg "write_rule" s_write_rule f fd ∧ fd.defaults = .none
  d__law_number : ∃ f fd, C8.Def K mg "_law_number" s__law_number f fd ∧ fd.defaults = .none
  d__law_take : ∃ f fd, C8.Def K mg "_law_take" s__law_take f fd ∧ fd.defaults = .none
  d__law_pick : ∃ f fd, C8.Def K mg "_law_pick" s__law_pick f fd ∧ fd.defaults = .none
  d__law_pair : ∃ f fd, C8.Def K mg "_law_pair" s__law_pair f fd ∧ fd.defaults = .none
  d__law_rule : ∃ f fd, C8.Def K mg "_law_rule" s__law_rule f fd ∧ fd.defaults = .none
  d__law_lines : ∃ f fd, C8.Def K mg "_law_lines" s__law_lines f fd ∧ fd.defaults = .none
  d__law_spaced : ∃ f fd, C8.Def K mg "_law_spaced" s__law_spaced f fd ∧ fd.defaults = .none
  d__law_laid : ∃ f fd, C8.Def K mg "_law_laid" s__law_laid f fd ∧ fd.defaults = .none
  d__law_due : ∃ f fd, C8.Def K mg "_law_due" s__law_due f fd ∧ fd.defaults = .none
  d__law_is_number : ∃ f fd, C8.Def K mg "_law_is_number" s__law_is_number f fd ∧ fd.defaults = .none
  d__law_bent : ∃ f fd, C8.Def K mg "_law_bent" s__law_bent f fd ∧ fd.defaults = .none
  d__law_read : ∃ f fd, C8.Def K mg "_law_read" s__law_read f fd ∧ fd.defaults = .none
  d_law : ∃ f fd, C8.Def K mg "law" s_law f fd ∧ fd.defaults = .none
  cl_Rule : Cls K C_Rule
  ic_Rule : InsF K C_Rule
  na_Rule_front : NoAttr K C_Rule "front"
  na_Rule_period : NoAttr K C_Rule "period"
  cl_Reader : Cls K C_Reader
  ic_Reader : InsF K C_Reader
  na_Reader_line : NoAttr K C_Reader "line"
  na_Reader_place : NoAttr K C_Reader "place"
  na_Reader_parts : NoAttr K C_Reader "parts"
  na_Reader_at : NoAttr K C_Reader "at"
  ne_Rule : PySem.W.findIn K (.ref C_Rule) "__ne__" = some (some (.builtin "object.__ne__"))
  nk_Rule : ∀ n, PySem.W.subIn K (.type n) (.ref C_Rule) = some false → PySem.W.kitOne K (.type n) (.ref C_Rule) = some false
  ne_Reader : PySem.W.findIn K (.ref C_Reader) "__ne__" = some (some (.builtin "object.__ne__"))
  nk_Reader : ∀ n, PySem.W.subIn K (.type n) (.ref C_Reader) = some false → PySem.W.kitOne K (.type n) (.ref C_Reader) = some false
  st_Rule : PySem.W.subIn K (.ref C_Rule) (.type "tuple") = some false
  y_BadText : XSup2 P K C_BadText "BadText.__init__" s_BadText_init "line" "column"
  b_super : mg "super" = none
  g_MOST_LAYERS : ∃ u, mg "MOST_LAYERS" = some u ∧ RelV (.int 12) u
  g_MOST_PAIRS : ∃ u, mg "MOST_PAIRS" = some u ∧ RelV (.int 6) u
  b_max : mg "max" = none
  b_min : mg "min" = none
  b_len : mg "len" = none
  b_sum : mg "sum" = none
  b_abs : mg "abs" = none
  b_int : mg "int" = none
  b_bool : mg "bool" = none
  b_isinstance : mg "isinstance" = none
  b_range : mg "range" = none
  b_enumerate : mg "enumerate" = none
  b_list : mg "list" = none
  b_tuple : mg "tuple" = none
  b_sorted : mg "sorted" = none
  b_all : mg "all" = none
  b_any : mg "any" = none
  b_dict : mg "dict" = none
  b_str : mg "str" = none
  b_zip : mg "zip" = none
  b_reversed : mg "reversed" = none
  b_set : mg "set" = none
theorem TX.g_Rule {P : Program} {K : PySem.W.Frag} {mg : Str → Option Value} {C_Rule C_Reader C_BadText : Addr} (T : TX P K mg C_Rule C_Reader C_BadText) : ∃ u, mg "Rule" = some u ∧ RelV (.ref C_Rule) u := ⟨_, T.mg_Rule, rfl⟩
theorem TX.i_Rule {P : Program} {K : PySem.W.Frag} {mg : Str → Option Value} {C_Rule C_Reader C_BadText : Addr} (T : TX P K mg C_Rule C_Reader C_BadText) : InsC K C_Rule := ⟨T.cl_Rule, T.ic_Rule.ha, T.ic_Rule.hn, T.ic_Rule.htk, T.ic_Rule.hm, kit_self⟩
theorem TX.fi_Rule {P : Program} {K : PySem.W.Frag} {mg : Str → Option Value} {C_Rule C_Reader C_BadText : Addr} (T : TX P K mg C_Rule C_Reader C_BadText) : ∀ f, PySem.W.findIn K (.ref C_Rule) "__getitem__" = some (some (.ref f)) → PySem.W.fnIn K f = true := by
  intro f h
  obtain ⟨f1, fd, _, _, m, k⟩ := T.m_Rule_getitem
  have := m.at_.symm.trans h
  cases this
  exact k
theorem TX.g_Reader {P : Program} {K : PySem.W.Frag} {mg : Str → Option Value} {C_Rule C_Reader C_BadText : Addr} (T : TX P K mg C_Rule C_Reader C_BadText) : ∃ u, mg "Reader" = some u ∧ RelV (.ref C_Reader) u := ⟨_, T.mg_Reader, rfl⟩
theorem TX.i_Reader {P : Program} {K : PySem.W.Frag} {mg : Str → Option Value} {C_Rule C_Reader C_BadText : Addr} (T : TX P K mg C_Rule C_Reader C_BadText) : InsC K C_Reader := ⟨T.cl_Reader, T.ic_Reader.ha, T.ic_Reader.hn, T.ic_Reader.htk, T.ic_Reader.hm, kit_self⟩
end Sl
set_option Elab.async false
set_option linter.all false
set_option maxRecDepth 100000
set_option maxHeartbeats 4000000
/-! the head by one kernel run, its facts as one Bool of a part of the heap -/
namespace HdY
open PySem PySem.Spec PyProof.Rows L2
/-- a list's spine made plain, then handed on -/
def plainL {α β : Type} : List α → (List α → β) → β
  | [], k => k []
  | a :: l, k => plainL l fun r => k (a :: r)
theorem plainL_eq {α β : Type} : ∀ (l : List α) (k : List α → β), plainL l k = k l
  | [], _ => rfl
  | a :: l, k => plainL_eq l fun r => k (a :: r)
/-- the __init__ of an own error (its closure holds the class) -/
structure SupD where
  cls : Str
  qual : Str
  params : Arguments
  body : List Stmt
  scope : Scope
abbrev FnS : Type := Option (Str × Str × Arguments × FuncBody × Scope × Addr × List Str × Value × Addr)
def supAt (K : PySem.W.Frag) (x : Str) : Addr := He.ma K (He.ga K x) "__init__"
def fnS (K : PySem.W.Frag) (f : Addr) : FnS := match K.lookup f with
  | some o => (match o.data with
    | .func d => some (d.name, d.qualname, d.params, d.body, d.scope, d.globals, d.closure.map (·.1), d.defaults, d.builtins)
    | _ => none)
  | none => none
def SupD.val (d : SupD) : FnS := some ("__init__", d.qual, d.params, .stmts d.body, d.scope, mainGlobals, ["__class__"], Value.none, builtinsNs)
abbrev AlY : Type := Bool × List He.FnW × List FnS
def obsY (fn : List He.DefD) (sn : List SupD) (ex : PySem.W.Frag → Bool) (K : PySem.W.Frag) : AlY := (ex K && fn.all fun d => d.ok K, fn.map fun d => He.fnW K d.at_, sn.map fun d => fnS K (supAt K d.cls))
def valY (fn : List He.DefD) (sn : List SupD) : AlY := (true, fn.map He.DefD.val, sn.map SupD.val)
def SaysY (fn : List He.DefD) (sn : List SupD) (ex : PySem.W.Frag → Bool) (K : PySem.W.Frag) : Prop := obsY fn sn ex K = valY fn sn
def obsG (as : List Addr) (fn : List He.DefD) (sn : List SupD) (ex : PySem.W.Frag → Bool) (g : Addr → Option Obj) : AlY := plainL (He.frG g as) (obsY fn sn ex)
def hookY (as : List Addr) (fn : List He.DefD) (sn : List SupD) (ex : PySem.W.Frag → Bool) : PySem.W.Hook where
  α := AlY
  obs := fun s => obsG as fn sn ex s.heap.get?
  val := fun _ => valY fn sn
  says := fun _ h => ∃ K : PySem.W.Frag, K.In h ∧ SaysY fn sn ex K
  of := fun _ s e => ⟨He.frG s.heap.get? as, He.frG_in, (plainL_eq (He.frG s.heap.get? as) (obsY fn sn ex)).symm.trans e⟩
  keeps := fun _ _ _ ⟨K, hK, c⟩ k => ⟨K, PySem.W.Frag.In.keeps hK k, c⟩
theorem obsG_eq {as : List Addr} {fn : List He.DefD} {sn : List SupD} {ex : PySem.W.Frag → Bool} {g : Addr → Option Obj} {s : Shared} (h : ∀ a, g a = s.heap.get? a) : obsG as fn sn ex g = (hookY as fn sn ex).obs s := by
  have e : g = s.heap.get? := funext h
  rw [e] <;> rfl
section
variable {fn : List He.DefD} {sn : List SupD} {ex : PySem.W.Frag → Bool} {K : PySem.W.Frag} {h : Heap} {mg : Str → Option Value}
theorem SaysY.ba (c : SaysY fn sn ex K) : ex K = true ∧ (fn.all fun d => d.ok K) = true := He.ba (congrArg (fun z : AlY => z.1) c)
theorem SaysY.def_ (c : SaysY fn sn ex K) (i : Nat) {d : He.DefD} (h : fn[i]? = some d) : ∃ fd, FunD K d.name d.qual d.params d.body d.scope (d.dvs K) (d.kws K) (He.fAd K d.at_) fd := by
  have e : fn.map (fun d => He.fnW K d.at_) = fn.map He.DefD.val := congrArg (fun z : AlY => z.2.1) c
  have e2 : (fn.map fun d => He.fnW K d.at_)[i]? = (fn.map He.DefD.val)[i]? := by rw [e]
  rw [List.getElem?_map, List.getElem?_map, h] at e2
  exact He.DefD.funD (Option.some.inj e2) (List.all_eq_true.mp c.ba.2 d (List.mem_of_getElem? h))
theorem SaysY.sup (c : SaysY fn sn ex K) (i : Nat) {d : SupD} (h : sn[i]? = some d) : fnS K (supAt K d.cls) = d.val := by
  have e : sn.map (fun d => fnS K (supAt K d.cls)) = sn.map SupD.val := congrArg (fun z : AlY => z.2.2) c
  have e2 : (sn.map fun d => fnS K (supAt K d.cls))[i]? = (sn.map SupD.val)[i]? := by rw [e]
  rw [List.getElem?_map, List.getElem?_map, h] at e2
  exact Option.some.inj e2
theorem at_ {l : List Bool} (h : l.all id = true) (i : Nat) {b : Bool} (e : l[i]? = some b) : b = true := List.all_eq_true.mp h b (List.mem_of_getElem? e)
theorem dec {p : Prop} [Decidable p] (h : decide p = true) : p := of_decide_eq_true h
theorem globs {l : List Bool} : l.all id = true → l.all id = true := id
/-! ### the facts -/
section
variable {x qual m : Str} {st : Stmt} {f C D : Addr} {dvs : List V} {kws : List (Str × V)}
theorem fun_of {fd : FuncData} (F : FunD K x qual (C8.fnArgs st) (C8.fnBody st) (C8.fnScope st) dvs kws f fd) : C8.Fun K x qual st f fd := by
  obtain ⟨oc, od, dV, kV, doc, pm, an, cdv, ct, osl, e, l, c, _, _⟩ := F.ex
  exact ⟨oc, od, dV, kV, doc, pm, an, cdv, ct, osl, e, l, c⟩
theorem dfl_none {fd : FuncData} (F : FunD K x qual (C8.fnArgs st) (C8.fnBody st) (C8.fnScope st) [] kws f fd) : fd.defaults = .none := by
  obtain ⟨oc, od, dV, kV, doc, pm, an, cdv, ct, osl, e, l, c, hD, _⟩ := F.ex
  rw [e]
  rcases hD with ⟨_, z⟩ | ⟨z, _⟩
  · exact z
  · exact absurd rfl z
theorem fn_in {fd : FuncData} (F : FunD K x qual (C8.fnArgs st) (C8.fnBody st) (C8.fnScope st) dvs kws f fd) : PySem.W.fnIn K f = true := by
  obtain ⟨oc, od, dV, kV, doc, pm, an, cdv, ct, osl, e, l, _⟩ := F.ex
  unfold PySem.W.fnIn
  rw [l]
theorem dmk (F : ∃ fd, FunD K x x (C8.fnArgs st) (C8.fnBody st) (C8.fnScope st) [] [] f fd) (g : mg x = some (.ref f)) : ∃ f fd, C8.Def K mg x st f fd ∧ fd.defaults = .none := by
  obtain ⟨fd, F⟩ := F
  exact ⟨f, fd, ⟨fun_of F, g, F.kp⟩, dfl_none F⟩
theorem mmk (F : ∃ fd, FunD K x qual (C8.fnArgs st) (C8.fnBody st) (C8.fnScope st) [] [] f fd) (M : Meth K C x f) : ∃ f fd, C8.Fun K x qual st f fd ∧ fd.defaults = .none ∧ Meth K C x f ∧ PySem.W.fnIn K f = true := by
  obtain ⟨fd, F⟩ := F
  exact ⟨f, fd, fun_of F, dfl_none F, M, fn_in F⟩
theorem mkmk (F : ∃ fd, FunD K "__init__" qual (C8.fnArgs st) (C8.fnBody st) (C8.fnScope st) [] [] f fd) (M : Mk K C f) : ∃ f fd, C8.Fun K "__init__" qual st f fd ∧ fd.defaults = .none ∧ Mk K C f := by
  obtain ⟨fd, F⟩ := F
  exact ⟨f, fd, fun_of F, dfl_none F, M⟩
theorem kit_self0 {C D : Addr} (h1 : PySem.W.isClsIn K D = true) (h2 : PySem.W.typeIn K (.ref D) = some (.type "type")) (t : Value) (hn : (t == (Value.ref D)) = false) : PySem.W.kitOne K t (.ref D) = PySem.W.subIn K t (.ref D) := by
  have e2 : ((PySem.W.clsIn K D).isSome && PySem.W.typeIn K (.ref D) == some (.type "type")) = true := by
    have h1' : (PySem.W.clsIn K D).isSome = true := h1
    rw [h1', h2] <;> rfl
  unfold PySem.W.kitOne
  rw [if_neg (by rw [hn]; exact Bool.false_ne_true)]
  show (if ((PySem.W.clsIn K D).isSome && PySem.W.typeIn K (.ref D) == some (.type "type")) = true then PySem.W.subIn K t (.ref D) else none) = _
  rw [if_pos e2]
/-- is D a class of the text, a plain type -/
def clsB (K : PySem.W.Frag) (D : Addr) : Bool := PySem.W.isClsIn K D && decide (PySem.W.typeIn K (.ref D) = some (.type "type"))
theorem up_of (h : clsB K D = true) (h3 : decide (PySem.W.subIn K (.ref C) (.ref D) = some true) = true) : PySem.W.kitOne K (.ref C) (.ref D) = some true := by
  obtain ⟨h1, h2⟩ := He.ba h
  by_cases c : ((Value.ref C) == (Value.ref D)) = true
  · unfold PySem.W.kitOne
    rw [if_pos c]
  · rw [kit_self0 (C := C) h1 (dec h2) _ (by simpa using c)]
    exact dec h3
theorem upF_of (h : clsB K D = true) (h3 : decide (PySem.W.subIn K (.ref C) (.ref D) = some false) = true) (hn : (!((Value.ref C) == (Value.ref D))) = true) : PySem.W.kitOne K (.ref C) (.ref D) = some false := by
  obtain ⟨h1, h2⟩ := He.ba h
  rw [kit_self0 (C := C) h1 (dec h2) _ (by simpa using hn)]
  exact dec h3
theorem nk_of (h : clsB K D = true) (n : String) (h3 : PySem.W.subIn K (.type n) (.ref D) = some false) : PySem.W.kitOne K (.type n) (.ref D) = some false := by
  obtain ⟨h1, h2⟩ := He.ba h
  rw [kit_self0 (C := D) h1 (dec h2) _ (by simp)]
  exact h3
/-- what isinstance asks of an own class -/
def insB (K : PySem.W.Frag) (C : Addr) : Bool := He.eqO (PySem.W.findIn K (.ref C) "__class__") (some (some (.builtin "object.__class__"))) && (He.eqO (PySem.W.specialIn K (.builtin "object.__class__") "__get__") (some (some (.builtin "getset_descriptor.__get__"))) && (decide (PySem.W.takesIn K (.builtin "object.__class__") = some true) && decide (PySem.W.mroIn K C (.type "object") = some true)))
theorem int_of (X : K.In h) (G : h.Ns mainGlobals mg) {x : Str} {i : Int} (c : (He.Fa.int x i).ok K = true) : ∃ u, mg x = some u ∧ RelV (.int i) u := by
  obtain ⟨t, e⟩ := He.int_ok X G c
  exact ⟨_, e, t, rfl⟩
theorem str_of (X : K.In h) (G : h.Ns mainGlobals mg) {x z : Str} (c : (He.Fa.str x z).ok K = true) : ∃ u, mg x = some u ∧ RelV (.str z) u := by
  obtain ⟨t, e⟩ := He.str_ok X G c
  exact ⟨_, e, t, rfl⟩
end
end
end HdY
set_option Elab.async false
set_option linter.all false
set_option maxRecDepth 100000
set_option maxHeartbeats 4000000
/-! the facts of an own error whose __init__ calls super's -/
namespace HdY
open PySem PySem.Spec PyProof.Rows L2
section
variable {P : Program} {fn : List He.DefD} {sn : List SupD} {ex : PySem.W.Frag → Bool} {K : PySem.W.Frag} {h : Heap} {mg : Str → Option Value}
/-- the class object has the form that an own error's has -/
def exObj (C : Addr) (o : Option Obj) : Bool := match o with
  | some o => (match o.cls, o.data, o.slots.toList with
    | .type t, .cls cd, [_, _, _, _, some (.builtin n), _] => (match cd.mro with
      | .ref E :: bm => decide (t = "type") && (decide (E = C) && (decide (n = "ValueError.__new__") && (cd.hasDict && (!cd.hasDel && PySem.HandSPX.refsVE bm))))
      | _ => false)
    | _, _, _ => false)
  | none => false
theorem exObj_ok {C : Addr} {o : Option Obj} (c : exObj C o = true) : ∃ nm q N bs bm sn sub ab col dd k0 k1 k2 k3 k5, o = some (excClassObj nm q C N bs bm true sn sub ab col dd k0 k1 k2 k3 k5 "ValueError.__new__") ∧ PySem.HandSPX.refsVE bm = true := by
  cases o with
  | none => cases c
  | some o =>
    obtain ⟨oc, od, dt, sl⟩ := o
    unfold exObj at c
    dsimp only at c
    split at c
    · rename_i t cd y0 y1 y2 y3 n y5 e
      split at c
      · rename_i E bm em
        obtain ⟨c1, c⟩ := He.ba c
        obtain ⟨c2, c⟩ := He.ba c
        obtain ⟨c3, c⟩ := He.ba c
        obtain ⟨c4, c⟩ := He.ba c
        obtain ⟨c5, c6⟩ := He.ba c
        have c1 := of_decide_eq_true c1
        have c2 := of_decide_eq_true c2
        have c3 := of_decide_eq_true c3
        obtain ⟨f1, f2, f3, f4, f5, f6, f7, f8, f9, f10, f11⟩ := cd
        have d5 : f11 = false := by simpa using c5
        have d4 : f6 = true := c4
        have em : f3 = .ref E :: bm := em
        clear c4 c5
        subst c1 c2 c3 em d4 d5
        have e2 : sl = #[y0, y1, y2, y3, some (.builtin "ValueError.__new__"), y5] := Array.toList_inj.mp e
        subst e2
        exact ⟨f1, f5, f4, f2, bm, f7, f8, f9, f10, od, y0, y1, y2, y3, y5, rfl, c6⟩
      · cases c
    · cases c
def cellOf (K : PySem.W.Frag) (f : Addr) : Addr := match K.lookup f with
  | some o => (match o.data with
    | .func d => (match d.closure with
      | [(_, a)] => a
      | _ => 0)
    | _ => 0)
  | none => 0
def codeAt (K : PySem.W.Frag) (f : Addr) : Addr := match K.lookup f with
  | some o => (match o.data with
    | .func d => (match d.code with
      | .ref a => a
      | _ => 0)
    | _ => 0)
  | none => 0
def isRef (v : Value) : Bool := match v with
  | .ref _ => true
  | _ => false
def codeRefB (K : PySem.W.Frag) (f : Addr) : Bool := match K.lookup f with
  | some o => (match o.data with
    | .func d => isRef d.code
    | _ => false)
  | none => false
def fileB (K : PySem.W.Frag) (P : Program) (a : Addr) : Bool := match K.lookup a with
  | some o => (match o.data with
    | .fields vs => (match (vs[2]? : Option Value) with
      | some (.str file _) => (P.main.file : Str) == file
      | _ => false)
    | _ => false)
  | none => false
def cellB (K : PySem.W.Frag) (a C : Addr) : Bool := match K.lookup a with
  | some o => (match o.data with
    | .cell (some (.ref c)) => decide (c = C)
    | _ => false)
  | none => false
/-- all that an own error's facts ask -/
def supL (P : Program) (K : PySem.W.Frag) (x q : Str) : List Bool := [
  exObj (He.ga K x) (K.lookup (He.ga K x)),
  He.eqO (PySem.W.findIn K (.ref (He.ga K x)) "__setattr__") (some (some (.builtin "object.__setattr__"))),
  decide (PySem.W.subIn K (.ref (He.ga K x)) (.type "BaseException") = some true),
  decide (PySem.W.typeIn K (.ref (He.ga K x)) = some (.type "type")),
  PySem.W.keepIn K (.ref (He.ga K x)),
  He.eqO (PySem.W.findIn K (.ref (He.ga K x)) "__init__") (some (some (.ref (supAt K x)))),
  codeRefB K (supAt K x),
  PySem.W.codeIn K (.ref (codeAt K (supAt K x))) q,
  fileB K P (codeAt K (supAt K x)),
  cellB K (cellOf K (supAt K x)) (He.ga K x),
  decide (PySem.W.typeIn K (.ref (supAt K x)) = some (.type "function")),
  !(P.main.scope.names.lookup ("super" : Str)).isSome,
  decide (PySem.W.mroIn K (He.ga K x) (.ref (He.ga K x)) = some true),
  He.eqO (PySem.W.ks_superIn K (He.ga K x) (He.ga K x) "__init__") (some (some (.builtin "ValueError.__init__"))),
  decide (PySem.W.subIn K (.ref (He.ga K x)) (.type "ValueError") = some true),
  He.eqO (PySem.W.nsIn K cStatics "thirdparty.any") (some none),
  He.eqO (PySem.W.findIn K (.ref (He.ga K x)) "place") (some none),
  xfB K (He.ga K x),
  PySem.W.isClsIn K (He.ga K x),
  decide (PySem.W.subIn K (.ref (He.ga K x)) (.ref (He.ga K x)) = some true)]
theorem sup_of {x q : Str} {st : Stmt} (c : (supL P K x q).all id = true) (e : fnS K (supAt K x) = SupD.val ⟨x, q, C8.fnArgs st, C8.fnBody st, C8.fnScope st⟩)
    (bd : ∀ (kV doc pm : Value) (an : Option Addr) (cc cda : Addr) (ct : Value) (us : List Value), us.length = 2 → bindArgs (PySem.W.fnX "__init__" q (C8.fnArgs st) (C8.fnBody st) (C8.fnScope st) [("__class__", cc)] .none kV doc pm an (.ref cda) ct) ⟨us, []⟩ = pure ((["self", "place"] : List Str).zip us)) : XSup P K (He.ga K x) q st := by
  have g : ∀ i {b : Bool}, (supL P K x q)[i]? = some b → b = true := fun i _ h => at_ c i h
  obtain ⟨nm, q', N, bs, bm, sn, sub, ab, col, dd, k0, k1, k2, k3, k5, c1, c2⟩ := exObj_ok (g 0 rfl)
  obtain ⟨oc, od, dt, osl, ef⟩ : ∃ oc od dt osl, K.lookup (supAt K x) = some ⟨oc, od, dt, osl⟩ := by
    cases z : K.lookup (supAt K x) with
    | none =>
      unfold fnS at e
      rw [z] at e
      cases e
    | some o => exact ⟨o.cls, o.dict, o.data, o.slots, rfl⟩
  have g6 := g 6 rfl
  have g7 := g 7 rfl
  have g8 := g 8 rfl
  have g9 := g 9 rfl
  unfold codeRefB at g6
  unfold fnS at e
  rw [ef] at e g6
  cases dt with
  | func d =>
    have hc : ∃ cda, d.code = .ref cda := by
      have g6 : isRef d.code = true := g6
      cases z : d.code with
      | ref a => exact ⟨a, rfl⟩
      | _ => rw [z] at g6; cases g6
    obtain ⟨cda, hcda⟩ := hc
    have hk : codeAt K (supAt K x) = cda := by
      unfold codeAt
      rw [ef]
      show (match d.code with | .ref a => a | _ => 0) = cda
      rw [hcda]
    rw [hk] at g7 g8
    obtain ⟨n1, n2, n3, n4, n5, n6, n7, n8, n9, n10, n11, n12, n13, n14, n15⟩ := d
    have e2 : (some (n1, n2, n3, n4, n5, n6, n7.map (·.1), n8, n15) : FnS) = (some (("__init__" : Str), q, C8.fnArgs st, FuncBody.stmts (C8.fnBody st), C8.fnScope st, mainGlobals, ([("__class__" : Str)] : List Str), Value.none, builtinsNs) : FnS) := e
    simp only [Option.some.injEq, Prod.mk.injEq] at e2
    obtain ⟨h1, h2, h3, h4, h5, h6, h7, h8, h9⟩ := e2
    obtain ⟨cc, hcc⟩ : ∃ cc : Addr, n7 = [(("__class__" : Str), cc)] := by
      cases n7 with
      | nil => cases h7
      | cons a r =>
        cases r with
        | nil =>
          obtain ⟨a1, a2⟩ := a
          have : a1 = ("__class__" : Str) := (List.cons.inj h7).1
          rw [this]
          exact ⟨a2, rfl⟩
        | cons b r => exact absurd (congrArg List.length h7) (by simp)
    have hcda : n13 = .ref cda := hcda
    subst hcc
    have hcell : cellOf K (supAt K x) = cc := by
      unfold cellOf
      rw [ef]
    rw [hcell] at g9
    subst h1 h2 h3 h4 h5 h6 h8 h9 hcda
    obtain ⟨ccl, cdd, vs, ccs, file, tf, l4, v5, f6⟩ : ∃ ccl cdd vs ccs file tf, K.lookup cda = some ⟨ccl, cdd, .fields vs, ccs⟩ ∧ vs[2]? = some (.str file tf) ∧ ((P.main.file : Str) == file) = true := by
      unfold fileB at g8
      cases z : K.lookup cda with
      | none => rw [z] at g8; cases g8
      | some o =>
        obtain ⟨c1, c2, c3, c4⟩ := o
        rw [z] at g8
        cases c3 with
        | fields vs =>
          have g8 : (match (vs[2]? : Option Value) with | some (.str file _) => (P.main.file : Str) == file | _ => false) = true := g8
          cases z2 : vs[2]? with
          | none => rw [z2] at g8; cases g8
          | some v =>
            rw [z2] at g8
            cases v with
            | str file tf => exact ⟨c1, c2, vs, c4, file, tf, rfl, z2, g8⟩
            | _ => cases g8
        | _ => cases g8
    obtain ⟨cl, cld, csl, f7⟩ : ∃ cl cld csl, K.lookup cc = some ⟨cl, cld, .cell (some (.ref (He.ga K x))), csl⟩ := by
      unfold cellB at g9
      cases z : K.lookup cc with
      | none => rw [z] at g9; cases g9
      | some o =>
        obtain ⟨c1, c2, c3, c4⟩ := o
        rw [z] at g9
        cases c3 with
        | cell v =>
          cases v with
          | none => cases g9
          | some v =>
            cases v with
            | ref a =>
              have g9 : a = He.ga K x := of_decide_eq_true g9
              subst g9
              exact ⟨c1, c2, c4, rfl⟩
            | _ => cases g9
        | _ => cases g9
    have s1 : (P.main.scope.names.lookup ("super" : Str)).isSome = false := by
      have := g 11 rfl
      simpa using this
    exact Sl.xsupk c1 c2 (He.eqO_ok (g 1 rfl)) (dec (g 2 rfl)) (dec (g 3 rfl)) (g 4 rfl) (He.eqO_ok (g 5 rfl)) ef g7 l4 v5 f6 f7 (dec (g 10 rfl)) s1 (dec (g 12 rfl)) (He.eqO_ok (g 13 rfl)) (dec (g 14 rfl)) (He.eqO_ok (g 15 rfl)) (He.eqO_ok (g 16 rfl)) (g 17 rfl) (g 18 rfl) (dec (g 19 rfl)) bd
  | _ => cases g6
end
end HdY
set_option Elab.async false
set_option linter.all false
set_option maxRecDepth 100000
set_option maxHeartbeats 4000000
/-! the facts of an own error with two words -/
namespace HdY
open PySem PySem.Spec PyProof.Rows L2
section
variable {P : Program} {fn : List He.DefD} {sn : List SupD} {ex : PySem.W.Frag → Bool} {K : PySem.W.Frag} {h : Heap} {mg : Str → Option Value}
/-- all that an own error's facts ask -/
def supL2 (P : Program) (K : PySem.W.Frag) (x q y1 y2 : Str) : List Bool := [
  exObj (He.ga K x) (K.lookup (He.ga K x)),
  He.eqO (PySem.W.findIn K (.ref (He.ga K x)) "__setattr__") (some (some (.builtin "object.__setattr__"))),
  decide (PySem.W.subIn K (.ref (He.ga K x)) (.type "BaseException") = some true),
  decide (PySem.W.typeIn K (.ref (He.ga K x)) = some (.type "type")),
  PySem.W.keepIn K (.ref (He.ga K x)),
  He.eqO (PySem.W.findIn K (.ref (He.ga K x)) "__init__") (some (some (.ref (supAt K x)))),
  codeRefB K (supAt K x),
  PySem.W.codeIn K (.ref (codeAt K (supAt K x))) q,
  fileB K P (codeAt K (supAt K x)),
  cellB K (cellOf K (supAt K x)) (He.ga K x),
  decide (PySem.W.typeIn K (.ref (supAt K x)) = some (.type "function")),
  !(P.main.scope.names.lookup ("super" : Str)).isSome,
  decide (PySem.W.mroIn K (He.ga K x) (.ref (He.ga K x)) = some true),
  He.eqO (PySem.W.ks_superIn K (He.ga K x) (He.ga K x) "__init__") (some (some (.builtin "ValueError.__init__"))),
  decide (PySem.W.subIn K (.ref (He.ga K x)) (.type "ValueError") = some true),
  He.eqO (PySem.W.nsIn K cStatics "thirdparty.any") (some none),
  He.eqO (PySem.W.findIn K (.ref (He.ga K x)) y1) (some none),
  He.eqO (PySem.W.findIn K (.ref (He.ga K x)) y2) (some none),
  xfB K (He.ga K x),
  PySem.W.isClsIn K (He.ga K x),
  decide (PySem.W.subIn K (.ref (He.ga K x)) (.ref (He.ga K x)) = some true)]
theorem sup_of2 {x q y1 y2 : Str} {st : Stmt} (c : (supL2 P K x q y1 y2).all id = true) (e : fnS K (supAt K x) = SupD.val ⟨x, q, C8.fnArgs st, C8.fnBody st, C8.fnScope st⟩)
    (bd : ∀ (kV doc pm : Value) (an : Option Addr) (cc cda : Addr) (ct : Value) (us : List Value), us.length = 3 → bindArgs (PySem.W.fnX "__init__" q (C8.fnArgs st) (C8.fnBody st) (C8.fnScope st) [("__class__", cc)] .none kV doc pm an (.ref cda) ct) ⟨us, []⟩ = pure ((["self", y1, y2] : List Str).zip us)) : XSup2 P K (He.ga K x) q st y1 y2 := by
  have g : ∀ i {b : Bool}, (supL2 P K x q y1 y2)[i]? = some b → b = true := fun i _ h => at_ c i h
  obtain ⟨nm, q', N, bs, bm, sn, sub, ab, col, dd, k0, k1, k2, k3, k5, c1, c2⟩ := exObj_ok (g 0 rfl)
  obtain ⟨oc, od, dt, osl, ef⟩ : ∃ oc od dt osl, K.lookup (supAt K x) = some ⟨oc, od, dt, osl⟩ := by
    cases z : K.lookup (supAt K x) with
    | none =>
      unfold fnS at e
      rw [z] at e
      cases e
    | some o => exact ⟨o.cls, o.dict, o.data, o.slots, rfl⟩
  have g6 := g 6 rfl
  have g7 := g 7 rfl
  have g8 := g 8 rfl
  have g9 := g 9 rfl
  unfold codeRefB at g6
  unfold fnS at e
  rw [ef] at e g6
  cases dt with
  | func d =>
    have hc : ∃ cda, d.code = .ref cda := by
      have g6 : isRef d.code = true := g6
      cases z : d.code with
      | ref a => exact ⟨a, rfl⟩
      | _ => rw [z] at g6; cases g6
    obtain ⟨cda, hcda⟩ := hc
    have hk : codeAt K (supAt K x) = cda := by
      unfold codeAt
      rw [ef]
      show (match d.code with | .ref a => a | _ => 0) = cda
      rw [hcda]
    rw [hk] at g7 g8
    obtain ⟨n1, n2, n3, n4, n5, n6, n7, n8, n9, n10, n11, n12, n13, n14, n15⟩ := d
    have e2 : (some (n1, n2, n3, n4, n5, n6, n7.map (·.1), n8, n15) : FnS) = (some (("__init__" : Str), q, C8.fnArgs st, FuncBody.stmts (C8.fnBody st), C8.fnScope st, mainGlobals, ([("__class__" : Str)] : List Str), Value.none, builtinsNs) : FnS) := e
    simp only [Option.some.injEq, Prod.mk.injEq] at e2
    obtain ⟨h1, h2, h3, h4, h5, h6, h7, h8, h9⟩ := e2
    obtain ⟨cc, hcc⟩ : ∃ cc : Addr, n7 = [(("__class__" : Str), cc)] := by
      cases n7 with
      | nil => cases h7
      | cons a r =>
        cases r with
        | nil =>
          obtain ⟨a1, a2⟩ := a
          have : a1 = ("__class__" : Str) := (List.cons.inj h7).1
          rw [this]
          exact ⟨a2, rfl⟩
        | cons b r => exact absurd (congrArg List.length h7) (by simp)
    have hcda : n13 = .ref cda := hcda
    subst hcc
    have hcell : cellOf K (supAt K x) = cc := by
      unfold cellOf
      rw [ef]
    rw [hcell] at g9
    subst h1 h2 h3 h4 h5 h6 h8 h9 hcda
    obtain ⟨ccl, cdd, vs, ccs, file, tf, l4, v5, f6⟩ : ∃ ccl cdd vs ccs file tf, K.lookup cda = some ⟨ccl, cdd, .fields vs, ccs⟩ ∧ vs[2]? = some (.str file tf) ∧ ((P.main.file : Str) == file) = true := by
      unfold fileB at g8
      cases z : K.lookup cda with
      | none => rw [z] at g8; cases g8
      | some o =>
        obtain ⟨c1, c2, c3, c4⟩ := o
        rw [z] at g8
        cases c3 with
        | fields vs =>
          have g8 : (match (vs[2]? : Option Value) with | some (.str file _) => (P.main.file : Str) == file | _ => false) = true := g8
          cases z2 : vs[2]? with
          | none => rw [z2] at g8; cases g8
          | some v =>
            rw [z2] at g8
            cases v with
            | str file tf => exact ⟨c1, c2, vs, c4, file, tf, rfl, z2, g8⟩
            | _ => cases g8
        | _ => cases g8
    obtain ⟨cl, cld, csl, f7⟩ : ∃ cl cld csl, K.lookup cc = some ⟨cl, cld, .cell (some (.ref (He.ga K x))), csl⟩ := by
      unfold cellB at g9
      cases z : K.lookup cc with
      | none => rw [z] at g9; cases g9
      | some o =>
        obtain ⟨c1, c2, c3, c4⟩ := o
        rw [z] at g9
        cases c3 with
        | cell v =>
          cases v with
          | none => cases g9
          | some v =>
            cases v with
            | ref a =>
              have g9 : a = He.ga K x := of_decide_eq_true g9
              subst g9
              exact ⟨c1, c2, c4, rfl⟩
            | _ => cases g9
        | _ => cases g9
    have s1 : (P.main.scope.names.lookup ("super" : Str)).isSome = false := by
      have := g 11 rfl
      simpa using this
    exact Sl.xsupk2 c1 c2 (He.eqO_ok (g 1 rfl)) (dec (g 2 rfl)) (dec (g 3 rfl)) (g 4 rfl) (He.eqO_ok (g 5 rfl)) ef g7 l4 v5 f6 f7 (dec (g 10 rfl)) s1 (dec (g 12 rfl)) (He.eqO_ok (g 13 rfl)) (dec (g 14 rfl)) (He.eqO_ok (g 15 rfl)) (He.eqO_ok (g 16 rfl)) (He.eqO_ok (g 17 rfl)) (g 18 rfl) (g 19 rfl) (dec (g 20 rfl)) bd
  | _ => cases g6
end
end HdY
set_option Elab.async false
set_option linter.all false
set_option maxRecDepth 100000
set_option maxHeartbeats 0
namespace Sl
open PySem PySem.Spec PyProof.Rows L2
abbrev HdPg : Program := (PySem.Challenge.rw_siltstore_k49_whole_rule_texts).prog
def HdCk0 (K : PySem.W.Frag) : List Bool := [
  (He.Fa.glo "Rule").ok K,
  (He.Fa.glo "Reader").ok K,
  (He.Fa.glo "BadText").ok K,
  (He.Fa.glo "is_whole").ok K,
  (He.Fa.glo "is_pair").ok K,
  (He.Fa.glo "shortest").ok K,
  (He.Fa.mkr "Rule").ok K,
  (He.Fa.meth "Rule" "__eq__").ok K,
  (He.Fa.meth "Rule" "__getitem__").ok K,
  (He.Fa.meth "Rule" "__iter__").ok K,
  (He.Fa.glo "check_rule").ok K,
  (He.Fa.glo "parts_of").ok K,
  (He.Fa.glo "is_letter").ok K,
  (He.Fa.mkr "Reader").ok K,
  (He.Fa.meth "Reader" "next").ok K,
  (He.Fa.meth "Reader" "refuse").ok K,
  (He.Fa.meth "Reader" "has").ok K,
  (He.Fa.meth "Reader" "need").ok K,
  (He.Fa.meth "Reader" "number").ok K,
  (He.Fa.meth "Reader" "close").ok K,
  (He.Fa.glo "read_rule").ok K,
  (He.Fa.glo "write_rule").ok K,
  (He.Fa.glo "_law_number").ok K,
  (He.Fa.glo "_law_take").ok K,
  (He.Fa.glo "_law_pick").ok K,
  (He.Fa.glo "_law_pair").ok K,
  (He.Fa.glo "_law_rule").ok K,
  (He.Fa.glo "_law_lines").ok K,
  (He.Fa.glo "_law_spaced").ok K,
  (He.Fa.glo "_law_laid").ok K]
def HdCk1 (K : PySem.W.Frag) : List Bool := [
  (He.Fa.glo "_law_due").ok K,
  (He.Fa.glo "_law_is_number").ok K,
  (He.Fa.glo "_law_bent").ok K,
  (He.Fa.glo "_law_read").ok K,
  (He.Fa.glo "law").ok K,
  (He.Fa.cls "Rule").ok K,
  HdY.insB K (He.ga K "Rule"),
  (He.Fa.noat "Rule" "front").ok K,
  (He.Fa.noat "Rule" "period").ok K,
  (He.Fa.cls "Reader").ok K,
  HdY.insB K (He.ga K "Reader"),
  (He.Fa.noat "Reader" "line").ok K,
  (He.Fa.noat "Reader" "place").ok K,
  (He.Fa.noat "Reader" "parts").ok K,
  (He.Fa.noat "Reader" "at").ok K,
  He.eqO (PySem.W.findIn K (.ref (He.ga K "Rule")) "__ne__") (some (some (.builtin "object.__ne__"))),
  HdY.clsB K (He.ga K "Rule"),
  He.eqO (PySem.W.findIn K (.ref (He.ga K "Reader")) "__ne__") (some (some (.builtin "object.__ne__"))),
  HdY.clsB K (He.ga K "Reader"),
  decide (PySem.W.subIn K (.ref (He.ga K "Rule")) (.type "tuple") = some false),
  (HdY.supL2 HdPg K "BadText" "BadText.__init__" "line" "column").all id,
  (He.Fa.free "super").ok K,
  (He.Fa.int "MOST_LAYERS" 12).ok K,
  (He.Fa.int "MOST_PAIRS" 6).ok K,
  (He.Fa.free "max").ok K,
  (He.Fa.free "min").ok K,
  (He.Fa.free "len").ok K,
  (He.Fa.free "sum").ok K,
  (He.Fa.free "abs").ok K,
  (He.Fa.free "int").ok K]
def HdCk2 (K : PySem.W.Frag) : List Bool := [
  (He.Fa.free "bool").ok K,
  (He.Fa.free "isinstance").ok K,
  (He.Fa.free "range").ok K,
  (He.Fa.free "enumerate").ok K,
  (He.Fa.free "list").ok K,
  (He.Fa.free "tuple").ok K,
  (He.Fa.free "sorted").ok K,
  (He.Fa.free "all").ok K,
  (He.Fa.free "any").ok K,
  (He.Fa.free "dict").ok K,
  (He.Fa.free "str").ok K,
  (He.Fa.free "zip").ok K,
  (He.Fa.free "reversed").ok K,
  (He.Fa.free "set").ok K]
def HdCkA (K : PySem.W.Frag) : Bool := (HdCk0 K).all id && ((HdCk1 K).all id && ((HdCk2 K).all id))
def HdFn0 : List He.DefD := [
  ⟨("is_whole", none), "is_whole", "is_whole", C8.fnArgs s_is_whole, C8.fnBody s_is_whole, C8.fnScope s_is_whole, [], []⟩,
  ⟨("is_pair", none), "is_pair", "is_pair", C8.fnArgs s_is_pair, C8.fnBody s_is_pair, C8.fnScope s_is_pair, [], []⟩,
  ⟨("shortest", none), "shortest", "shortest", C8.fnArgs s_shortest, C8.fnBody s_shortest, C8.fnScope s_shortest, [], []⟩,
  ⟨("Rule", some "__init__"), "__init__", "Rule.__init__", C8.fnArgs s_Rule_init, C8.fnBody s_Rule_init, C8.fnScope s_Rule_init, [], []⟩,
  ⟨("Rule", some "__eq__"), "__eq__", "Rule.__eq__", C8.fnArgs s_Rule_eq, C8.fnBody s_Rule_eq, C8.fnScope s_Rule_eq, [], []⟩,
  ⟨("Rule", some "__getitem__"), "__getitem__", "Rule.__getitem__", C8.fnArgs s_Rule_getitem, C8.fnBody s_Rule_getitem, C8.fnScope s_Rule_getitem, [], []⟩,
  ⟨("Rule", some "__iter__"), "__iter__", "Rule.__iter__", C8.fnArgs s_Rule_iter, C8.fnBody s_Rule_iter, C8.fnScope s_Rule_iter, [], []⟩,
  ⟨("check_rule", none), "check_rule", "check_rule", C8.fnArgs s_check_rule, C8.fnBody s_check_rule, C8.fnScope s_check_rule, [], []⟩,
  ⟨("parts_of", none), "parts_of", "parts_of", C8.fnArgs s_parts_of, C8.fnBody s_parts_of, C8.fnScope s_parts_of, [], []⟩,
  ⟨("is_letter", none), "is_letter", "is_letter", C8.fnArgs s_is_letter, C8.fnBody s_is_letter, C8.fnScope s_is_letter, [], []⟩,
  ⟨("Reader", some "__init__"), "__init__", "Reader.__init__", C8.fnArgs s_Reader_init, C8.fnBody s_Reader_init, C8.fnScope s_Reader_init, [], []⟩,
  ⟨("Reader", some "next"), "next", "Reader.next", C8.fnArgs s_Reader_next, C8.fnBody s_Reader_next, C8.fnScope s_Reader_next, [], []⟩,
  ⟨("Reader", some "refuse"), "refuse", "Reader.refuse", C8.fnArgs s_Reader_refuse, C8.fnBody s_Reader_refuse, C8.fnScope s_Reader_refuse, [], []⟩,
  ⟨("Reader", some "has"), "has", "Reader.has", C8.fnArgs s_Reader_has, C8.fnBody s_Reader_has, C8.fnScope s_Reader_has, [], []⟩,
  ⟨("Reader", some "need"), "need", "Reader.need", C8.fnArgs s_Reader_need, C8.fnBody s_Reader_need, C8.fnScope s_Reader_need, [], []⟩,
  ⟨("Reader", some "number"), "number", "Reader.number", C8.fnArgs s_Reader_number, C8.fnBody s_Reader_number, C8.fnScope s_Reader_number, [], []⟩,
  ⟨("Reader", some "close"), "close", "Reader.close", C8.fnArgs s_Reader_close, C8.fnBody s_Reader_close, C8.fnScope s_Reader_close, [], []⟩,
  ⟨("read_rule", none), "read_rule", "read_rule", C8.fnArgs s_read_rule, C8.fnBody s_read_rule, C8.fnScope s_read_rule, [], []⟩,
  ⟨("write_rule", none), "write_rule", "write_rule", C8.fnArgs s_write_rule, C8.fnBody s_write_rule, C8.fnScope s_write_rule, [], []⟩,
  ⟨("_law_number", none), "_law_number", "_law_number", C8.fnArgs s__law_number, C8.fnBody s__law_number, C8.fnScope s__law_number, [], []⟩]
def HdFn1 : List He.DefD := [
  ⟨("_law_take", none), "_law_take", "_law_take", C8.fnArgs s__law_take, C8.fnBody s__law_take, C8.fnScope s__law_take, [], []⟩,
  ⟨("_law_pick", none), "_law_pick", "_law_pick", C8.fnArgs s__law_pick, C8.fnBody s__law_pick, C8.fnScope s__law_pick, [], []⟩,
  ⟨("_law_pair", none), "_law_pair", "_law_pair", C8.fnArgs s__law_pair, C8.fnBody s__law_pair, C8.fnScope s__law_pair, [], []⟩,
  ⟨("_law_rule", none), "_law_rule", "_law_rule", C8.fnArgs s__law_rule, C8.fnBody s__law_rule, C8.fnScope s__law_rule, [], []⟩,
  ⟨("_law_lines", none), "_law_lines", "_law_lines", C8.fnArgs s__law_lines, C8.fnBody s__law_lines, C8.fnScope s__law_lines, [], []⟩,
  ⟨("_law_spaced", none), "_law_spaced", "_law_spaced", C8.fnArgs s__law_spaced, C8.fnBody s__law_spaced, C8.fnScope s__law_spaced, [], []⟩,
  ⟨("_law_laid", none), "_law_laid", "_law_laid", C8.fnArgs s__law_laid, C8.fnBody s__law_laid, C8.fnScope s__law_laid, [], []⟩,
  ⟨("_law_due", none), "_law_due", "_law_due", C8.fnArgs s__law_due, C8.fnBody s__law_due, C8.fnScope s__law_due, [], []⟩,
  ⟨("_law_is_number", none), "_law_is_number", "_law_is_number", C8.fnArgs s__law_is_number, C8.fnBody s__law_is_number, C8.fnScope s__law_is_number, [], []⟩,
  ⟨("_law_bent", none), "_law_bent", "_law_bent", C8.fnArgs s__law_bent, C8.fnBody s__law_bent, C8.fnScope s__law_bent, [], []⟩,
  ⟨("_law_read", none), "_law_read", "_law_read", C8.fnArgs s__law_read, C8.fnBody s__law_read, C8.fnScope s__law_read, [], []⟩,
  ⟨("law", none), "law", "law", C8.fnArgs s_law, C8.fnBody s_law, C8.fnScope s_law, [], []⟩]
def HdFn : List He.DefD := HdFn0 ++ (HdFn1)
def HdSn : List HdY.SupD := [⟨"BadText", "BadText.__init__", C8.fnArgs s_BadText_init, C8.fnBody s_BadText_init, C8.fnScope s_BadText_init⟩]
def HdNm0 : List Str := ["_wall", "SiltError", "BadRule", "BadText", "MOST_LAYERS", "MOST_PAIRS", "is_whole", "is_pair", "shortest", "Rule", "check_rule", "parts_of", "is_letter", "Reader", "read_rule", "write_rule", "_law_number", "_law_take", "_law_pick", "_law_pair", "_law_rule", "_law_lines", "_law_spaced", "_law_laid", "_law_due", "_law_is_number", "_law_bent", "_law_read"]
def HdNm : List Str := HdNm0
def HdAs : List Addr := List.range' 0 1600
abbrev HdRow : PySem.W.OpenRow := PySem.W.OpenLaw.row PySem.Challenge.rw_siltstore_k49_whole_rule_texts
abbrev HdView : Program := PySem.W.view HdRow.prog [32]
abbrev HdHook : PySem.W.Hook := HdY.hookY HdAs HdFn HdSn HdCkA
def HdOb (s : PySem.W.SharedT) : HdY.AlY := HdY.obsG HdAs HdFn HdSn HdCkA (HandSHeadRun.getT s)
theorem runH (w : World) : HandSHeadRun.RunEq HdRow HdView HdHook HdOb 30000 HdNm w := by
  intro os
  kernel_rfl
end Sl
section
open PySem PySem.W PySem.Calls PyProof.Rows
theorem Sl.headH {k : Nat} (hr : L2.Room k callerA) (F : ∀ (w : World) (mg : PySem.Str → Option Value) (fa : Addr) (h : Heap) (K : Frag), K.In h → HdY.SaysY Sl.HdFn Sl.HdSn Sl.HdCkA K → h.Ns mainGlobals mg → mg "law" = some (.ref fa) →
    ∃ (fd : FuncData) (sp : L2.Sp), (∀ (s : Shared) (u : Value), BindsTo s fd ⟨[u], []⟩ [("_law_script", u)]) ∧ (∀ (H : L2.Hp) (a : Addr) (ns : List Int), ns.length ≤ 63 → L2.Only H → L2.SqL K H a (ns.map L2.V.int) → sp [.ref a] H (fun v _ => v = .bl true) fun _ _ _ => False) ∧
      ∀ base : Heap, K.In base → base.Ns mainGlobals mg → L2.FnOk Sl.HdPg w K mg base C8.CX0 k fa fd ["_law_script"] sp) : PySem.Challenge.rw_siltstore_k49_whole_rule_texts.Holds := by
  w_on; o_law
  refine HandSHeadRun.head_any (r := Sl.HdRow) (q := Sl.HdView) (H := Sl.HdHook) (ob := Sl.HdOb) (M := 30000) (loose := Sl.HdNm) (d := HandSHeadRun.topDef Sl.HdRow.prog 32) (kwd := []) (fun s => HdY.obsG_eq (HandSHeadRun.getT_eq s)) (by kernel_rfl) (fun s => by kernel_rfl) Sl.runH (by kernel_rfl) (by kernel_rfl) (by kernel_rfl) (by rfl) (by first | assumption | decide +kernel) (by decide +kernel) ⟨rfl, rfl, rfl, rfl, rfl, by decide +kernel⟩ ?hw ?hc
  case hw => w_witness2
  case hc =>
    refine L2.walk_ofE (l := PySem.Challenge.rw_siltstore_k49_whole_rule_texts) (n := 63) (k := k) (x := "_law_script") (CX := C8.CX0) rfl (by decide) (by kernel_rfl) hr ?F (fun _ _ _ _ z => z)
    intro w mg fa h Y G hmg0
    obtain ⟨K, KX, c⟩ := Y
    have hmg : mg ("law" : PySem.Str) = some (.ref fa) := by
      have e : (HandSHeadRun.topDef Sl.HdRow.prog 32).name = ("law" : PySem.Str) := by kernel_rfl
      rw [← e]
      exact hmg0
    obtain ⟨fd, sp, hb, hsp, hF⟩ := F w mg fa h K KX c G hmg
    exact ⟨K, fd, sp, KX, hb, hsp, hF⟩
end
set_option Elab.async false
set_option linter.all false
set_option maxRecDepth 100000
set_option maxHeartbeats 4000000
set_option exponentiation.threshold 9000
/-! readings for texts of lines: split, join, int of a text, slices of texts -/
namespace Sl
open PySem L2 C8 StX
section
variable {σ : L2.St} {H : Hp} {Q : VK} {K : PySem.W.Frag} {to te : TE}
def rSplitM : V → List V → Hp → VK → Prop := fun x xs H Q => ∃ a b, x = .str a ∧ xs = [.str b] ∧ (b.length == 0) = false ∧ a.length + 2 ≤ sizeLine ∧ rNewStrs (Txt.split a b) H Q
def rJoinM (K : PySem.W.Frag) : V → List V → Hp → VK → Prop := fun x xs H Q => ∃ a p, ∃ ys : List Str, x = .str a ∧ xs = [.ref p] ∧ (SqL K H p (ys.map V.str) ∨ SqT K H p (ys.map V.str)) ∧ (ys.map (·.length)).sum + ys.length * a.length ≤ 16777216 ∧ Q (.str (Txt.join a ys)) H
theorem pe_splitX {X : Cx} {o e : Expr} {apos pos : Pos} (ho : PE X o to) (he : PE X e te) (hs : starEach [e] X.env = [(false, eval e X.env)] := by rfl) (hbase : attributeBase o "split" X.env (eval o X.env) = eval o X.env := by rfl) (hline : (apos.endLine == pos.line) = true := by rfl) :
    PE X (.Call (.Attribute o "split" apos) [e] [] pos) (tM1 rSplitM to te) := pe_split ho he hs hbase hline
theorem pe_joinX {X : Cx} {o e : Expr} {apos pos : Pos} (ho : PE X o to) (he : PE X e te) (hs : starEach [e] X.env = [(false, eval e X.env)] := by rfl) (hbase : attributeBase o "join" X.env (eval o X.env) = eval o X.env := by rfl) (hline : (apos.endLine == pos.line) = true := by rfl) :
    PE X (.Call (.Attribute o "join" apos) [e] [] pos) (tM1 (rJoinM X.K) to te) := pe_join ho he hs hbase hline
def tM1s (r : V → List V → Hp → VK → Prop) (te : TE) (σ : L2.St) (Q : VK) (x : V) (H1 : Hp) : Prop := (∃ a, x = .str a) ∧ te σ H1 fun y H2 => r x [y] H2 Q
theorem rd_tM1 {r : V → List V → Hp → VK → Prop} (h : to σ H fun x H1 => tM1s r te σ Q x H1) : tM1 r to te σ H Q := h
theorem rd_tM1s {r : V → List V → Hp → VK → Prop} {a : Str} (h : te σ H fun y H2 => r (.str a) [y] H2 Q) : tM1s r te σ Q (.str a) H := ⟨⟨a, rfl⟩, h⟩
theorem rd_splitM {a b : Str} (h1 : (b.length == 0) = false) (h2 : a.length ≤ 100000) (h : ∀ p H', H p = none → Same H H' → H' p = some (.lst ((Txt.split a b).map V.str)) → Q (.ref p) H') : rSplitM (.str a) [.str b] H Q :=
  ⟨a, b, rfl, rfl, h1, Nat.le_trans (Nat.add_le_add_right h2 2) (by decide), fun p hp => h p _ hp (Same.new (Same.refl H) hp) upd_same⟩
theorem rd_joinM {a : Str} {p : Addr} {ys : List Str} (e : H p = some (.lst (ys.map V.str))) (l : (ys.map (·.length)).sum + ys.length * a.length ≤ 16777216) (h : Q (.str (Txt.join a ys)) H) : rJoinM K (.str a) [.ref p] H Q := ⟨a, p, ys, rfl, rfl, .inl (SqL.of e), l, h⟩
def rIntS : List V → Hp → VK → Prop := fun xs H Q => ∃ a n, xs = [.str a] ∧ PySem.intText? a = some n ∧ a.length ≤ 640 ∧ Q (.int n) H
theorem cr_intS {X : Cx} : CallR X (.type "int") rIntS := call_int_str
theorem rd_intS {a : Str} {n : Int} (e : PySem.intText? a = some n) (l : a.length ≤ 640) (h : Q (.int n) H) : rIntS [.str a] H Q := ⟨a, n, rfl, e, l, h⟩
theorem rd_slTx {z : Str} {lo hi : Option Int} (l : z.length ≤ 100000) (h : Q (.str (cutS z lo hi)) H) : rSlS (.str z) lo hi H Q := ⟨z, rfl, Nat.le_trans l (by decide), h⟩
theorem cutS_nat {z : Str} {a b : Nat} (ha : a ≤ z.length) (hb : b ≤ z.length) : (cutS z (some (a : Int)) (some (b : Int))).cps.toList = (z.cps.toList.drop a).take (b - a) := by
  unfold cutS
  rw [HT.sIx_nat, HT.sIx_nat, Nat.min_eq_left ha, Nat.min_eq_left hb]
end
end Sl
set_option Elab.async false
set_option linter.all false
set_option maxRecDepth 100000
set_option maxHeartbeats 4000000
set_option exponentiation.threshold 9000
/-! readings for texts that are written: blanks, text += text, one sign in a text, join within a comprehension -/
namespace Sl
open PySem L2 C8 StX PySem.Spec PyProof.Rows
theorem rep_one (c : Nat) : ∀ (n : Nat) (acc : Array Nat), (List.replicate n #[c]).foldl (· ++ ·) acc = acc ++ (List.replicate n c).toArray
  | 0, acc => by simp
  | n + 1, acc => by
    rw [List.replicate_succ, List.foldl_cons, rep_one c n]
    apply Array.ext'
    simp [List.replicate_succ]
/-- one sign, some times -/
def rMulB : R2 := fun x y H Q => ∃ (c n : Nat), x = .str ⟨#[c]⟩ ∧ y = .int (n : Nat) ∧ n ≤ 100 ∧ Q (.str ⟨(List.replicate n c).toArray⟩) H
theorem op_mulB {X : Cx} : OpR X (binaryOp .Mult) rMulB := by
  intro pins s σ H x y v u Q I rx ry h
  obtain ⟨c, n, rfl, rfl, n1, q⟩ := h
  obtain ⟨t, rfl⟩ := rx
  obtain ⟨t', rfl⟩ := ry
  have ez : (⟨#[c]⟩ : Str).length = 1 := rfl
  refine PySem.P.mul_str (by rw [decide_eq_false (by omega), decide_eq_false (by omega)]; rfl) (fun h1 h2 => ?_) (fun _ _ => ?_) ?_
  · rw [ez]
    have h2 : (1 : Int) ≤ (2 ^ 63 - 1) / (n : Nat) := (Int.le_ediv_iff_mul_le (by omega)).mpr (by omega)
    omega
  · refine decide_eq_false (Nat.not_lt.mpr (Nat.le_trans (m := 10000) ?_ (by decide)))
    rw [ez, Int.toNat_natCast]
    omega
  · match n, n1 with
    | 0, _ =>
      rw [if_pos (by decide)]
      refine ⟨by decide, ⟨.str _, H, I.tok _, ⟨_, rfl⟩, ?_⟩⟩
      exact q
    | 1, _ =>
      rw [if_neg (by decide), if_pos (by rfl)]
      exact ⟨.str _, H, I, ⟨_, rfl⟩, q⟩
    | n + 2, n1 =>
      rw [if_neg (by omega), if_neg (by
        rw [show (((n + 2 : Nat) : Int) == 1) = false from beq_eq_false_iff_ne.mpr (by omega), ez]
        decide)]
      rw [Int.toNat_natCast]
      have e : (⟨(List.replicate (n + 2) (⟨#[c]⟩ : Str).cps).foldl (· ++ ·) #[]⟩ : Str) = ⟨(List.replicate (n + 2) c).toArray⟩ := by
        show (⟨(List.replicate (n + 2) #[c]).foldl (· ++ ·) #[]⟩ : Str) = _
        rw [rep_one]
        simp
      rw [e]
      refine ⟨?_, ⟨.str _, H, I.tok _, ⟨_, rfl⟩, q⟩⟩
      show (List.replicate (n + 2) c).toArray.size ≤ _
      rw [List.size_toArray, List.length_replicate]
      exact Nat.le_trans n1 (by decide)
theorem ip_addS {X : Cx} : PIp X .Add rAddS := iop_add_str
def rInSg : R2 := fun x y H Q => ∃ (c : Nat) (z : Str), x = .str ⟨#[c]⟩ ∧ y = .str z ∧ Q (.bl (decide (c ∈ z.cps.toList))) H
theorem op_inSg {X : Cx} : OpR X (compareOp .In) rInSg := op_in_sign
theorem pe_joinXK {X : Cx} {o e : Expr} {to te : TE} {apos pos : Pos} (K : PySem.W.Frag) (ho : PE X o to) (he : PE X e te) (eK : X.K = K := by rfl) (hs : starEach [e] X.env = [(false, eval e X.env)] := by rfl) (hbase : attributeBase o "join" X.env (eval o X.env) = eval o X.env := by rfl) (hline : (apos.endLine == pos.line) = true := by rfl) :
    PE X (.Call (.Attribute o "join" apos) [e] [] pos) (tM1 (rJoinM K) to te) := eK ▸ pe_joinX ho he hs hbase hline
section
variable {H : Hp} {Q : VK} {K : PySem.W.Frag}
theorem rd_mulB {c n : Nat} {z : Str} {k : Int} (e : z = ⟨#[c]⟩) (hk : k = (n : Nat)) (l : n ≤ 100) (h : Q (.str ⟨(List.replicate n c).toArray⟩) H) : rMulB (.str z) (.int k) H Q := ⟨c, n, by rw [e], by rw [hk], l, h⟩
theorem rd_inSg {c : Nat} {z : Str} (h : Q (.bl (decide (c ∈ z.cps.toList))) H) : rInSg (.str ⟨#[c]⟩) (.str z) H Q := ⟨c, z, rfl, rfl, h⟩
end
end Sl
set_option linter.all false
set_option Elab.async false
/-! lines of words: the words and signs of a line and where each begins -/
namespace SiltT
def isL (c : Nat) : Bool := decide (97 ≤ c) && decide (c ≤ 122)
def isD (c : Nat) : Bool := decide (48 ≤ c) && decide (c ≤ 57)
/-- how many signs go on with the one that has been met -/
def runN (c : Nat) (r : List Nat) : Nat := if isL c = true then (r.takeWhile isL).length else if isD c = true then (r.takeWhile isD).length else 0
def toks (a : Nat) : List Nat → List (List Nat × Nat)
  | [] => []
  | c :: r => if c = 35 then [] else (if c = 32 then [] else [(c :: r.take (runN c r), a + 1)]) ++ toks (a + 1 + runN c r) (r.drop (runN c r))
termination_by l => l.length
decreasing_by simp only [List.length_drop, List.length_cons]; omega
theorem toks_cons (a c : Nat) (r : List Nat) : toks a (c :: r) = if c = 35 then [] else (if c = 32 then [] else [(c :: r.take (runN c r), a + 1)]) ++ toks (a + 1 + runN c r) (r.drop (runN c r)) := by rw [toks]
theorem toks_nil (a : Nat) : toks a [] = [] := by rw [toks]
/-- one word or sign -/
def isTok : List Nat → Bool
  | [] => false
  | c :: r => !decide (c = 35) && !decide (c = 32) && (if isL c = true then r.all isL else if isD c = true then r.all isD else r.isEmpty)
/-- nothing goes on here -/
def stopB : List Nat → Bool
  | [] => true
  | c :: _ => !isL c && !isD c
theorem take_run {f : Nat → Bool} : ∀ {w r : List Nat}, w.all f = true → (∀ c t, r = c :: t → f c = false) → (w ++ r).takeWhile f = w
  | [], [], _, _ => rfl
  | [], c :: t, _, h => by
    rw [List.nil_append, List.takeWhile_cons, h c t rfl]
    rfl
  | x :: w, r, hw, h => by
    rw [List.all_cons, Bool.and_eq_true] at hw
    rw [List.cons_append, List.takeWhile_cons, hw.1, if_pos rfl, take_run hw.2 h]
theorem run_tok {c : Nat} {w r : List Nat} (h : isTok (c :: w) = true) (s : stopB r = true) : runN c (w ++ r) = w.length := by
  have h : (!decide (c = 35) && !decide (c = 32) && (if isL c = true then w.all isL else if isD c = true then w.all isD else w.isEmpty)) = true := h
  rw [Bool.and_eq_true] at h
  have h := h.2
  have sl : ∀ x t, r = x :: t → isL x = false ∧ isD x = false := fun x t e => by
    subst e
    have s : (!isL x && !isD x) = true := s
    rw [Bool.and_eq_true, Bool.not_eq_true', Bool.not_eq_true'] at s
    exact s
  unfold runN
  by_cases c1 : isL c = true
  · rw [if_pos c1] at h ⊢
    rw [take_run h fun x t e => (sl x t e).1]
  · rw [if_neg c1] at h ⊢
    by_cases c2 : isD c = true
    · rw [if_pos c2] at h ⊢
      rw [take_run h fun x t e => (sl x t e).2]
    · rw [if_neg c2] at h ⊢
      rw [List.isEmpty_iff.mp h]
      rfl
theorem toks_word {a : Nat} {w r : List Nat} (h : isTok w = true) (s : stopB r = true) : toks a (w ++ r) = (w, a + 1) :: toks (a + w.length) r := by
  cases w with
  | nil => cases h
  | cons c w =>
    have e := run_tok h s
    have h : (!decide (c = 35) && !decide (c = 32) && (if isL c = true then w.all isL else if isD c = true then w.all isD else w.isEmpty)) = true := h
    rw [Bool.and_eq_true, Bool.and_eq_true, Bool.not_eq_true', Bool.not_eq_true'] at h
    show toks a (c :: (w ++ r)) = _
    rw [toks_cons, if_neg (of_decide_eq_false h.1.1), if_neg (of_decide_eq_false h.1.2), e, List.take_left, List.drop_left, show a + 1 + w.length = a + (c :: w).length by rw [List.length_cons]; omega]
    rfl
theorem toks_space (a : Nat) (r : List Nat) : toks a (32 :: r) = toks (a + 1) r := by
  have e : runN 32 r = 0 := rfl
  rw [toks_cons, if_neg (by decide), if_pos rfl, e]
  rfl
theorem toks_spaces (a : Nat) (r : List Nat) : ∀ k, toks a (List.replicate k 32 ++ r) = toks (a + k) r := by
  intro k
  induction k generalizing a with
  | zero => rfl
  | succ k ih =>
    show toks a (32 :: (List.replicate k 32 ++ r)) = _
    rw [toks_space, ih, show a + 1 + k = a + (k + 1) by omega]
theorem toks_hash (a : Nat) (r : List Nat) : toks a (35 :: r) = [] := by rw [toks_cons, if_pos rfl]
/-- words with blanks behind them -/
def layL (ws : List (List Nat × Nat)) : List Nat := ws.flatMap fun w => w.1 ++ List.replicate w.2 32
def colsL : Nat → List (List Nat × Nat) → List Nat
  | _, [] => []
  | a, w :: r => (a + 1) :: colsL (a + w.1.length + w.2) r
/-- blanks stand behind each word but the last one -/
def sepB : List (List Nat × Nat) → Bool
  | [] => true
  | [_] => true
  | w :: x :: r => decide (1 ≤ w.2) && sepB (x :: r)
/-- nothing, or a remark -/
def remB : List Nat → Bool
  | [] => true
  | c :: _ => decide (c = 35)
theorem toks_rem {a : Nat} {r : List Nat} (h : remB r = true) : toks a r = [] := by
  cases r with
  | nil => exact toks_nil a
  | cons c t =>
    have h : c = 35 := of_decide_eq_true h
    rw [h]
    exact toks_hash a t
theorem stop_rem {r : List Nat} (h : remB r = true) : stopB r = true := by
  cases r with
  | nil => rfl
  | cons c t =>
    have h : c = 35 := of_decide_eq_true h
    rw [h]
    rfl
theorem toks_lay {rem : List Nat} (hr : remB rem = true) : ∀ {ws : List (List Nat × Nat)} {a : Nat}, (∀ w ∈ ws, isTok w.1 = true) → sepB ws = true → toks a (layL ws ++ rem) = (ws.map (·.1)).zip (colsL a ws)
  | [], a, _, _ => by
    show toks a rem = []
    exact toks_rem hr
  | [w], a, hw, _ => by
    have h1 := hw w List.mem_cons_self
    have e : layL [w] ++ rem = w.1 ++ (List.replicate w.2 32 ++ rem) := by simp [layL]
    have s : stopB (List.replicate w.2 32 ++ rem) = true := by
      cases w.2 with
      | zero => exact stop_rem hr
      | succ n => rfl
    rw [e, toks_word h1 s, toks_spaces, toks_rem hr]
    rfl
  | w :: x :: r, a, hw, hs => by
    have h1 := hw w List.mem_cons_self
    have hs : (decide (1 ≤ w.2) && sepB (x :: r)) = true := hs
    rw [Bool.and_eq_true, decide_eq_true_iff] at hs
    have ih := toks_lay hr (ws := x :: r) (a := a + w.1.length + w.2) (fun y hy => hw y (List.mem_cons_of_mem _ hy)) hs.2
    have e : layL (w :: x :: r) ++ rem = w.1 ++ (List.replicate w.2 32 ++ (layL (x :: r) ++ rem)) := by
      show (w.1 ++ List.replicate w.2 32 ++ layL (x :: r)) ++ rem = _
      rw [List.append_assoc, List.append_assoc]
    have s : stopB (List.replicate w.2 32 ++ (layL (x :: r) ++ rem)) = true := by
      obtain ⟨n, hn⟩ : ∃ n, w.2 = n + 1 := ⟨w.2 - 1, by omega⟩
      rw [hn]
      rfl
    rw [e, toks_word h1 s, toks_spaces, ih]
    rfl
/-- a whole line: blanks, words, a remark -/
theorem toks_line {k : Nat} {rem : List Nat} {ws : List (List Nat × Nat)} (hr : remB rem = true) (hw : ∀ w ∈ ws, isTok w.1 = true) (hs : sepB ws = true) : toks 0 (List.replicate k 32 ++ (layL ws ++ rem)) = (ws.map (·.1)).zip (colsL k ws) := by
  rw [toks_spaces, toks_lay hr hw hs, Nat.zero_add]
end SiltT
set_option linter.all false
set_option Elab.async false
/-! rules told by lines of words: the first word that does not fit, or the rule -/
namespace SiltT
open PySem
/-- a whole number without needless signs -/
def numB : List Nat → Bool
  | [] => false
  | c :: r => isD c && (!(decide (r ≠ []) && decide (c = 48)) && decide (r.length ≤ 17))
def valD (w : List Nat) : Nat := NumText.digitsVal w
def wFirst : List Nat := [102, 105, 114, 115, 116]
def wThen : List Nat := [116, 104, 101, 110]
def wAt : List Nat := [97, 116]
def wBake : List Nat := [98, 97, 107, 101]
def numIn (w : List Nat) (lo hi : Nat) : Bool := numB w && (decide (lo ≤ valD w) && decide (valD w ≤ hi))
/-- the first word of a line that does not fit -/
def rowE (late full : Bool) (ws : List (List Nat)) : Option Nat :=
  if full = true then some 0 else if ws.getD 0 [] ≠ (if late = true then wThen else wFirst) then some 0 else if ws.getD 1 [] ≠ wAt then some 1
  else if numIn (ws.getD 2 []) 2 12 = false then some 2 else if ws.getD 3 [] ≠ wBake then some 3 else if numIn (ws.getD 4 []) 2 (valD (ws.getD 2 [])) = false then some 4
  else if ws.getD 5 [] ≠ [] then some 5 else none
def rowQ (ws : List (List Nat)) : Nat × Nat := (valD (ws.getD 2 []), valD (ws.getD 4 []))
def lateB (pe : List (Nat × Nat)) (ws : List (List Nat)) : Bool := decide (pe ≠ []) || decide (ws.getD 0 [] = wThen)
def colL (z : List Nat) (ts : List (List Nat × Nat)) (i : Nat) : Nat := match ts[i]? with
  | some w => w.2
  | none => z.length + 1
/-- the lines read one after another: the place of what does not fit, or front and period -/
def readL (fr pe : List (Nat × Nat)) (pl : Nat) : List (List Nat) → Sum (Nat × Nat) (List (Nat × Nat) × List (Nat × Nat))
  | [] => if pe = [] then .inl (pl, 1) else .inr (fr, pe)
  | z :: r => if toks 0 z = [] then readL fr pe (pl + 1) r else
    match rowE (lateB pe ((toks 0 z).map (·.1))) (decide ((if lateB pe ((toks 0 z).map (·.1)) = true then pe else fr).length = 6)) ((toks 0 z).map (·.1)) with
    | some i => .inl (pl, colL z (toks 0 z) i)
    | none => if lateB pe ((toks 0 z).map (·.1)) = true then readL fr (pe ++ [rowQ ((toks 0 z).map (·.1))]) (pl + 1) r else readL (fr ++ [rowQ ((toks 0 z).map (·.1))]) pe (pl + 1) r
/-- a pair that a rule may have -/
def okPair (q : Nat × Nat) : Prop := 2 ≤ q.2 ∧ q.2 ≤ q.1 ∧ q.1 ≤ 12
theorem num_in {w : List Nat} {lo hi : Nat} (h : numIn w lo hi = true) : lo ≤ valD w ∧ valD w ≤ hi := by
  unfold numIn at h
  rw [Bool.and_eq_true, Bool.and_eq_true, decide_eq_true_iff, decide_eq_true_iff] at h
  exact h.2
theorem row_ok {late full : Bool} {ws : List (List Nat)} (h : rowE late full ws = none) : okPair (rowQ ws) ∧ full = false := by
  unfold rowE at h
  by_cases h0 : full = true
  · rw [if_pos h0] at h
    cases h
  rw [if_neg h0] at h
  by_cases h1 : ws.getD 0 [] ≠ (if late = true then wThen else wFirst)
  · rw [if_pos h1] at h
    cases h
  rw [if_neg h1] at h
  by_cases h2 : ws.getD 1 [] ≠ wAt
  · rw [if_pos h2] at h
    cases h
  rw [if_neg h2] at h
  by_cases h3 : numIn (ws.getD 2 []) 2 12 = false
  · rw [if_pos h3] at h
    cases h
  rw [if_neg h3] at h
  by_cases h4 : ws.getD 3 [] ≠ wBake
  · rw [if_pos h4] at h
    cases h
  rw [if_neg h4] at h
  by_cases h5 : numIn (ws.getD 4 []) 2 (valD (ws.getD 2 [])) = false
  · rw [if_pos h5] at h
    cases h
  rw [if_neg h5] at h
  have e2 : numIn (ws.getD 2 []) 2 12 = true := by simpa using h3
  have e4 : numIn (ws.getD 4 []) 2 (valD (ws.getD 2 [])) = true := by simpa using h5
  exact ⟨⟨(num_in e4).1, (num_in e4).2, (num_in e2).2⟩, by simpa using h0⟩
/-- what is read is a rule's -/
theorem read_ok : ∀ {ls : List (List Nat)} {fr pe f p : List (Nat × Nat)} {pl : Nat}, (∀ q ∈ fr, okPair q) → (∀ q ∈ pe, okPair q) → fr.length ≤ 6 → pe.length ≤ 6 → readL fr pe pl ls = .inr (f, p) → (∀ q ∈ f, okPair q) ∧ (∀ q ∈ p, okPair q) ∧ f.length ≤ 6 ∧ p.length ≤ 6 ∧ p ≠ []
  | [], fr, pe, f, p, pl, h1, h2, h3, h4, h => by
    unfold readL at h
    split at h
    · cases h
    · rename_i ne
      cases h
      exact ⟨h1, h2, h3, h4, ne⟩
  | z :: r, fr, pe, f, p, pl, h1, h2, h3, h4, h => by
    unfold readL at h
    split at h
    · exact read_ok h1 h2 h3 h4 h
    split at h
    · cases h
    rename_i e
    obtain ⟨o, fl⟩ := row_ok e
    have fl := of_decide_eq_false fl
    have snoc : ∀ {l : List (Nat × Nat)}, (∀ q ∈ l, okPair q) → ∀ q ∈ l ++ [rowQ ((toks 0 z).map (·.1))], okPair q := fun hl q hq => by
      rcases List.mem_append.mp hq with g | g
      · exact hl q g
      · rw [List.mem_singleton.mp g]
        exact o
    split at h
    · rename_i c
      rw [if_pos c] at fl
      exact read_ok h1 (snoc h2) h3 (by rw [List.length_append]; simp only [List.length_cons, List.length_nil]; omega) h
    · rename_i c
      rw [if_neg c] at fl
      exact read_ok (snoc h1) h2 (by rw [List.length_append]; simp only [List.length_cons, List.length_nil]; omega) h4 h
theorem run_len (c : Nat) (r : List Nat) : runN c r ≤ r.length := by
  unfold runN
  split
  · exact (List.takeWhile_sublist _).length_le
  · split
    · exact (List.takeWhile_sublist _).length_le
    · exact Nat.zero_le _
theorem take_tw {f : Nat → Bool} : ∀ r : List Nat, (r.take (r.takeWhile f).length).all f = true
  | [] => rfl
  | x :: r => by
    rw [List.takeWhile_cons]
    cases q : f x with
    | false => rfl
    | true =>
      rw [if_pos rfl, List.length_cons, List.take_succ_cons, List.all_cons, q, Bool.true_and]
      exact take_tw r
/-- each word that is found is one -/
theorem tok_run {c : Nat} {r : List Nat} (h1 : c ≠ 35) (h2 : c ≠ 32) : isTok (c :: r.take (runN c r)) = true := by
  show (!decide (c = 35) && !decide (c = 32) && (if isL c = true then (r.take (runN c r)).all isL else if isD c = true then (r.take (runN c r)).all isD else (r.take (runN c r)).isEmpty)) = true
  rw [decide_eq_false h1, decide_eq_false h2, Bool.not_false, Bool.true_and, Bool.true_and]
  unfold runN
  by_cases a : isL c = true
  · rw [if_pos a, if_pos a]
    exact take_tw r
  · rw [if_neg a, if_neg a]
    by_cases b : isD c = true
    · rw [if_pos b, if_pos b]
      exact take_tw r
    · rw [if_neg b, if_neg b]
      rfl
theorem toks_ok : ∀ (n a : Nat) (l : List Nat), l.length ≤ n → (toks a l).length ≤ l.length ∧ ∀ w ∈ toks a l, isTok w.1 = true ∧ w.1.length ≤ l.length
  | _, a, [], _ => by
    rw [toks_nil]
    exact ⟨Nat.le_refl _, fun w hw => by cases hw⟩
  | 0, a, c :: r, h => by cases h
  | n + 1, a, c :: r, h => by
    rw [List.length_cons] at h
    have rl := run_len c r
    have ih := toks_ok n (a + 1 + runN c r) (r.drop (runN c r)) (by rw [List.length_drop]; omega)
    rw [List.length_drop] at ih
    rw [toks_cons]
    by_cases c1 : c = 35
    · rw [if_pos c1]
      exact ⟨Nat.zero_le _, fun w hw => by cases hw⟩
    · rw [if_neg c1]
      by_cases c2 : c = 32
      · rw [if_pos c2, List.nil_append, List.length_cons]
        exact ⟨by omega, fun w hw => ⟨(ih.2 w hw).1, by have := (ih.2 w hw).2; omega⟩⟩
      · rw [if_neg c2, List.length_append, List.length_cons]
        refine ⟨by simp only [List.length_cons, List.length_nil]; omega, fun w hw => ?_⟩
        rcases List.mem_append.mp hw with g | g
        · rw [List.mem_singleton.mp g]
          refine ⟨tok_run c1 c2, ?_⟩
          show (c :: r.take (runN c r)).length ≤ r.length + 1
          rw [List.length_cons, List.length_take]
          omega
        · refine ⟨(ih.2 w g).1, ?_⟩
          have h3 := (ih.2 w g).2
          have h4 : (c :: r).length = r.length + 1 := rfl
          simp only [List.length_cons] at h4 ⊢
          omega
end SiltT
set_option linter.all false
set_option Elab.async false
/-! texts of rules that the law lays, and what it says of them -/
namespace SiltT
open PySem
def RowOk (r : List Nat) : Prop := r.length ≤ 300 ∧ ∀ c ∈ r, 32 ≤ c ∧ c < 127
/-- lines of words laid into rows: the rows and where the words are -/
inductive LaidR : Nat → List (List (List Nat)) → List (List Nat) → List (Nat × List Nat × Nat) → Prop
  | nil (pl : Nat) : LaidR pl [] [] []
  | junk {pl : Nat} {ls : List (List (List Nat))} {j : List Nat} {rows : List (List Nat)} {ps : List (Nat × List Nat × Nat)} : toks 0 j = [] → RowOk j → LaidR (pl + 1) ls rows ps → LaidR pl ls (j :: rows) ps
  | line {pl : Nat} {ws : List (List Nat)} {ls : List (List (List Nat))} {row cols : List Nat} {rows : List (List Nat)} {ps : List (Nat × List Nat × Nat)} : toks 0 row = ws.zip cols → cols.length = ws.length → RowOk row → LaidR (pl + 1) ls rows ps → LaidR pl (ws :: ls) (row :: rows) ((pl, cols, row.length + 1) :: ps)
theorem LaidR.append {pl : Nat} {ls ls2 : List (List (List Nat))} {rows rows2 : List (List Nat)} {ps ps2 : List (Nat × List Nat × Nat)} (h : LaidR pl ls rows ps) : LaidR (pl + rows.length) ls2 rows2 ps2 → LaidR pl (ls ++ ls2) (rows ++ rows2) (ps ++ ps2) := by
  induction h with
  | nil pl => exact fun g => g
  | junk h1 h2 _ ih => exact fun g => .junk h1 h2 (ih (by rw [List.length_cons] at g; rw [Nat.add_assoc, Nat.add_comm 1]; exact g))
  | line h1 h2 h3 _ ih => exact fun g => .line h1 h2 h3 (ih (by rw [List.length_cons] at g; rw [Nat.add_assoc, Nat.add_comm 1]; exact g))
theorem LaidR.ok {pl : Nat} {ls : List (List (List Nat))} {rows : List (List Nat)} {ps : List (Nat × List Nat × Nat)} (h : LaidR pl ls rows ps) : (∀ r ∈ rows, RowOk r) ∧ ps.length = ls.length := by
  induction h with
  | nil pl => exact ⟨(fun r h => by cases h), rfl⟩
  | junk h1 h2 _ ih =>
    refine ⟨fun r hr => ?_, ih.2⟩
    rcases List.mem_cons.mp hr with e | e
    · rw [e]; exact h2
    · exact ih.1 r e
  | line h1 h2 h3 _ ih =>
    refine ⟨fun r hr => ?_, by rw [List.length_cons, List.length_cons, ih.2]⟩
    rcases List.mem_cons.mp hr with e | e
    · rw [e]; exact h3
    · exact ih.1 r e
def lateW (late : Bool) (ws : List (List Nat)) : Bool := late || decide (ws.getD 0 [] = wThen)
/-- the law's own word on lines: the place of what does not fit -/
def dueL (many nf nt : Nat) (late : Bool) : List (List (List Nat)) → List (Nat × List Nat × Nat) → Option (Nat × Nat)
  | ws :: ls, p :: ps =>
    match rowE (lateW late ws) (decide ((if lateW late ws = true then nt else nf) = 6)) ws with
    | some j => some (p.1, (p.2.1 ++ [p.2.2]).getD (min j ws.length) 0)
    | none => if lateW late ws = true then dueL many nf (nt + 1) true ls ps else dueL many (nf + 1) nt false ls ps
  | _, _ => if nt = 0 then some (many + 1, 1) else none
theorem zip_fst {ws : List (List Nat)} {cols : List Nat} (h : cols.length = ws.length) : (ws.zip cols).map (·.1) = ws := by
  rw [List.map_fst_zip]
  omega
theorem col_due {ws : List (List Nat)} {row cols : List Nat} (h : cols.length = ws.length) (j : Nat) : colL row (ws.zip cols) j = (cols ++ [row.length + 1]).getD (min j ws.length) 0 := by
  unfold colL
  rcases Nat.lt_or_ge j ws.length with g | g
  · have e : (ws.zip cols)[j]? = some (ws[j], cols[j]'(by omega)) := by
      rw [List.getElem?_zip_eq_some]
      exact ⟨List.getElem?_eq_getElem g, List.getElem?_eq_getElem (by omega)⟩
    rw [e, Nat.min_eq_left (by omega), List.getD_eq_getElem?_getD, List.getElem?_append_left (by omega), List.getElem?_eq_getElem (by omega)]
    rfl
  · have e : (ws.zip cols)[j]? = none := by
      rw [List.getElem?_eq_none]
      rw [List.length_zip]
      omega
    rw [e, Nat.min_eq_right g, List.getD_eq_getElem?_getD, List.getElem?_append_right (by omega), h, Nat.sub_self]
    rfl
/-- a line's numbers fit -/
def FitL (ws : List (List Nat)) : Prop := numIn (ws.getD 2 []) 2 12 = true ∧ numIn (ws.getD 4 []) 2 (valD (ws.getD 2 [])) = true
theorem row_fit {late full : Bool} {ws : List (List Nat)} (h : rowE late full ws = none) : FitL ws ∧ ws.getD 0 [] = (if late = true then wThen else wFirst) := by
  unfold rowE at h
  by_cases h0 : full = true
  · rw [if_pos h0] at h
    cases h
  rw [if_neg h0] at h
  by_cases h1 : ws.getD 0 [] ≠ (if late = true then wThen else wFirst)
  · rw [if_pos h1] at h
    cases h
  rw [if_neg h1] at h
  by_cases h2 : ws.getD 1 [] ≠ wAt
  · rw [if_pos h2] at h
    cases h
  rw [if_neg h2] at h
  by_cases h3 : numIn (ws.getD 2 []) 2 12 = false
  · rw [if_pos h3] at h
    cases h
  rw [if_neg h3] at h
  by_cases h4 : ws.getD 3 [] ≠ wBake
  · rw [if_pos h4] at h
    cases h
  rw [if_neg h4] at h
  by_cases h5 : numIn (ws.getD 4 []) 2 (valD (ws.getD 2 [])) = false
  · rw [if_pos h5] at h
    cases h
  exact ⟨⟨by simpa using h3, by simpa using h5⟩, Decidable.of_not_not h1⟩
/-- what is read is what the law says -/
theorem read_due {pl : Nat} {ls : List (List (List Nat))} {rows : List (List Nat)} {ps : List (Nat × List Nat × Nat)} (h : LaidR pl ls rows ps) : ∀ (many : Nat) (fr pe : List (Nat × Nat)), (∀ ws ∈ ls, ws ≠ []) → many + 1 = pl + rows.length →
    (∀ p, dueL many fr.length pe.length (decide (pe ≠ [])) ls ps = some p → readL fr pe pl rows = .inl p) ∧
    (dueL many fr.length pe.length (decide (pe ≠ [])) ls ps = none → ∃ A B, ls = A ++ B ∧ (pe ≠ [] → A = []) ∧ (∀ ws ∈ A, ws.getD 0 [] = wFirst ∧ FitL ws) ∧ (∀ ws ∈ B, ws.getD 0 [] = wThen ∧ FitL ws) ∧ readL fr pe pl rows = .inr (fr ++ A.map rowQ, pe ++ B.map rowQ)) := by
  induction h with
  | nil pl =>
    intro many fr pe _ hm
    have e : dueL many fr.length pe.length (decide (pe ≠ [])) [] [] = if pe.length = 0 then some (many + 1, 1) else none := rfl
    have er : readL fr pe pl [] = if pe = [] then .inl (pl, 1) else .inr (fr, pe) := by unfold readL; rfl
    rw [e, er]
    by_cases c : pe = []
    · rw [if_pos c, if_pos (by rw [c]; rfl)]
      refine ⟨fun p hp => ?_, fun hp => by cases hp⟩
      cases hp
      have hm : many + 1 = pl + 0 := hm
      rw [hm]
      rfl
    · rw [if_neg c, if_neg (fun z => c (List.length_eq_zero_iff.mp z))]
      exact ⟨(fun p hp => by cases hp), fun _ => ⟨[], [], rfl, fun _ => rfl, (fun w h => by cases h), (fun w h => by cases h), by simp⟩⟩
  | junk h1 h2 _ ih =>
    rename_i pl ls j rows ps _
    intro many fr pe hn hm
    have er : readL fr pe pl (j :: rows) = readL fr pe (pl + 1) rows := by rw [readL, if_pos h1]
    rw [er]
    exact ih many fr pe hn (by rw [List.length_cons] at hm; omega)
  | line h1 h2 h3 _ ih =>
    rename_i pl ws ls row cols rows ps _
    intro many fr pe hn hm
    have hws : ws ≠ [] := hn ws List.mem_cons_self
    have hz : toks 0 row ≠ [] := fun z => by
      rw [h1] at z
      have := congrArg List.length z
      rw [List.length_zip, h2, Nat.min_self, List.length_nil] at this
      exact hws (List.length_eq_zero_iff.mp this)
    have ew : (toks 0 row).map (·.1) = ws := by rw [h1, zip_fst h2]
    have el : lateB pe ws = lateW (decide (pe ≠ [])) ws := rfl
    obtain ⟨late, elt⟩ : ∃ late, late = lateW (decide (pe ≠ [])) ws := ⟨_, rfl⟩
    have efl : (decide ((if late = true then pe else fr).length = 6)) = decide ((if late = true then pe.length else fr.length) = 6) := by cases late <;> rfl
    have er : readL fr pe pl (row :: rows) = match rowE late (decide ((if late = true then pe.length else fr.length) = 6)) ws with
      | some i => .inl (pl, colL row (toks 0 row) i)
      | none => if late = true then readL fr (pe ++ [rowQ ws]) (pl + 1) rows else readL (fr ++ [rowQ ws]) pe (pl + 1) rows := by
      (rw [readL, if_neg hz, ew, el, ← elt, efl]) <;>
        (cases rowE late (decide ((if late = true then pe.length else fr.length) = 6)) ws <;> rfl)
    have ed : dueL many fr.length pe.length (decide (pe ≠ [])) (ws :: ls) ((pl, cols, row.length + 1) :: ps) = match rowE late (decide ((if late = true then pe.length else fr.length) = 6)) ws with
      | some j => some (pl, (cols ++ [row.length + 1]).getD (min j ws.length) 0)
      | none => if late = true then dueL many fr.length (pe.length + 1) true ls ps else dueL many (fr.length + 1) pe.length false ls ps := by
      rw [dueL, ← elt]
    rw [er, ed]
    have hm' : many + 1 = (pl + 1) + rows.length := by rw [List.length_cons] at hm; omega
    have hn' : ∀ ws ∈ ls, ws ≠ [] := fun w hw => hn w (List.mem_cons_of_mem _ hw)
    cases q : rowE late (decide ((if late = true then pe.length else fr.length) = 6)) ws with
    | some j =>
      refine ⟨fun p hp => ?_, fun hp => by cases hp⟩
      cases hp
      show Sum.inl (pl, colL row (toks 0 row) j) = _
      rw [h1, col_due h2]
    | none =>
      obtain ⟨fit, w0⟩ := row_fit q
      cases el2 : late with
      | true =>
        rw [el2] at w0
        have ih := ih many fr (pe ++ [rowQ ws]) hn' hm'
        rw [show decide (pe ++ [rowQ ws] ≠ []) = true from decide_eq_true (by simp), show (pe ++ [rowQ ws]).length = pe.length + 1 by simp] at ih
        refine ⟨ih.1, fun hp => ?_⟩
        obtain ⟨A, B, e1, e2, e3, e4, e5⟩ := ih.2 hp
        obtain rfl : A = [] := e2 (by simp)
        refine ⟨[], ws :: B, by rw [e1]; rfl, fun _ => rfl, (fun w h => by cases h), fun w hw => ?_, ?_⟩
        · rcases List.mem_cons.mp hw with e | e
          · rw [e]; exact ⟨w0, fit⟩
          · exact e4 w e
        · show readL fr (pe ++ [rowQ ws]) (pl + 1) rows = _
          rw [e5, List.append_assoc]
          rfl
      | false =>
        rw [el2] at w0 elt
        have hpe : pe = [] := by
          unfold lateW at elt
          have := (Bool.or_eq_false_iff.mp elt.symm).1
          exact Decidable.of_not_not (of_decide_eq_false this)
        have ih := ih many (fr ++ [rowQ ws]) pe hn' hm'
        rw [show decide (pe ≠ []) = false from decide_eq_false (fun z => z hpe), show (fr ++ [rowQ ws]).length = fr.length + 1 by simp] at ih
        refine ⟨ih.1, fun hp => ?_⟩
        obtain ⟨A, B, e1, e2, e3, e4, e5⟩ := ih.2 hp
        refine ⟨ws :: A, B, by rw [e1]; rfl, fun z => absurd hpe z, fun w hw => ?_, e4, ?_⟩
        · rcases List.mem_cons.mp hw with e | e
          · rw [e]; exact ⟨w0, fit⟩
          · exact e3 w e
        · show readL (fr ++ [rowQ ws]) pe (pl + 1) rows = _
          rw [e5, List.append_assoc]
          rfl
/-! the lines of a rule -/
def digI (i : Int) : List Nat := [48 + i.toNat]
def lineW (w : List Nat) (q : Int × Int) : List (List Nat) := [w, wAt, digI q.1, wBake, digI q.2]
def linesW (f q : List (Int × Int)) : List (List (List Nat)) := f.map (lineW wFirst) ++ q.map (lineW wThen)
def natP (q : Int × Int) : Nat × Nat := (q.1.toNat, q.2.toNat)
/-- pairs of one figure -/
def OkN (q : Int × Int) : Prop := 2 ≤ q.2 ∧ q.2 ≤ q.1 ∧ q.1 ≤ 9
theorem num_ten : ∀ a, a < 10 → 2 ≤ a → numIn [48 + a] 2 12 = true := by decide
theorem num_two : ∀ a, a < 10 → ∀ b, b < 10 → 2 ≤ b → b ≤ a → numIn [48 + b] 2 (valD [48 + a]) = true := by decide
theorem val_ten : ∀ a, a < 10 → valD [48 + a] = a := by decide
theorem line_fit {w : List Nat} {q : Int × Int} {late : Bool} (h : OkN q) (hw : w = (if late = true then wThen else wFirst)) : rowE late false (lineW w q) = none := by
  obtain ⟨h1, h2, h3⟩ := h
  unfold rowE
  rw [if_neg Bool.false_ne_true, if_neg (fun z => z hw), if_neg (fun z => z rfl), if_neg, if_neg (fun z => z rfl), if_neg, if_neg (fun z => z rfl)]
  · show ¬ numIn [48 + q.2.toNat] 2 (valD [48 + q.1.toNat]) = false
    rw [num_two _ (by omega) _ (by omega) (by omega) (by omega)]
    decide
  · show ¬ numIn [48 + q.1.toNat] 2 12 = false
    rw [num_ten _ (by omega) (by omega)]
    decide
theorem row_line {w : List Nat} {q : Int × Int} (h : OkN q) : rowQ (lineW w q) = natP q := by
  obtain ⟨h1, h2, h3⟩ := h
  show (valD [48 + q.1.toNat], valD [48 + q.2.toNat]) = _
  rw [val_ten _ (by omega), val_ten _ (by omega)]
  rfl
theorem due_then (many nf : Nat) : ∀ (q : List (Int × Int)) (nt : Nat) (late : Bool) (ps : List (Nat × List Nat × Nat)), (∀ x ∈ q, OkN x) → nt + q.length ≤ 6 → 0 < nt + q.length → ps.length = q.length → dueL many nf nt late (q.map (lineW wThen)) ps = none
  | [], nt, late, ps, _, _, h0, _ => by
    show (if nt = 0 then some (many + 1, 1) else none) = none
    rw [if_neg (by simp at h0; omega)]
  | x :: q, nt, late, [], _, _, _, hl => by cases hl
  | x :: q, nt, late, p :: ps, ok, hn, h0, hl => by
    have el : lateW late (lineW wThen x) = true := by
      show (late || decide (wThen = wThen)) = true
      rw [decide_eq_true rfl, Bool.or_true]
    rw [List.length_cons] at hn
    have ef : decide ((if true = true then nt else nf) = 6) = false := decide_eq_false (by rw [if_pos rfl]; omega)
    rw [List.map_cons, dueL, el, ef, line_fit (late := true) (w := wThen) (ok x List.mem_cons_self) rfl]
    show dueL many nf (nt + 1) true (q.map (lineW wThen)) ps = none
    exact due_then many nf q (nt + 1) true ps (fun y hy => ok y (List.mem_cons_of_mem _ hy)) (by omega) (by omega) (by simpa using hl)
theorem due_lines (many : Nat) (q : List (Int × Int)) : ∀ (f : List (Int × Int)) (nf : Nat) (ps : List (Nat × List Nat × Nat)), (∀ x ∈ f, OkN x) → (∀ x ∈ q, OkN x) → nf + f.length ≤ 6 → q.length ≤ 6 → q ≠ [] → ps.length = f.length + q.length → dueL many nf 0 false (linesW f q) ps = none
  | [], nf, ps, _, okq, _, hq, hne, hl => due_then many nf q 0 false ps okq (by omega) (by have := List.length_pos_iff.mpr hne; omega) (by simpa using hl)
  | x :: f, nf, [], _, _, _, _, _, hl => by simp at hl; omega
  | x :: f, nf, p :: ps, okf, okq, hn, hq, hne, hl => by
    have el : lateW false (lineW wFirst x) = false := by
      show (false || decide (wFirst = wThen)) = false
      decide
    rw [List.length_cons] at hn
    have ef : decide ((if false = true then 0 else nf) = 6) = false := decide_eq_false (by rw [if_neg Bool.false_ne_true]; omega)
    show dueL many nf 0 false (lineW wFirst x :: linesW f q) (p :: ps) = none
    rw [dueL, el, ef, line_fit (late := false) (w := wFirst) (okf x List.mem_cons_self) rfl]
    show dueL many (nf + 1) 0 false (linesW f q) ps = none
    exact due_lines many q f (nf + 1) ps (fun y hy => okf y (List.mem_cons_of_mem _ hy)) okq (by omega) hq hne (by simp at hl; omega)
theorem then_first : wThen ≠ wFirst := by decide
/-- what is read of a rule's lines is the rule -/
theorem read_lines {f q : List (Int × Int)} {rows : List (List Nat)} {ps : List (Nat × List Nat × Nat)} (h : LaidR 1 (linesW f q) rows ps) (okf : ∀ x ∈ f, OkN x) (okq : ∀ x ∈ q, OkN x) (lf : f.length ≤ 6) (lq : q.length ≤ 6) (hne : q ≠ []) : readL [] [] 1 rows = .inr (f.map natP, q.map natP) := by
  have hps := h.ok.2
  have hd := due_lines rows.length q f 0 ps okf okq (by omega) lq hne (by rw [hps]; simp [linesW])
  obtain ⟨A, B, e1, _, e3, e4, e5⟩ := (read_due h rows.length [] [] (fun ws hw => by
    unfold linesW at hw
    rcases List.mem_append.mp hw with g | g
    · obtain ⟨x, _, rfl⟩ := List.mem_map.mp g
      simp [lineW]
    · obtain ⟨x, _, rfl⟩ := List.mem_map.mp g
      simp [lineW]) (by omega)).2 hd
  rw [e5]
  have key : ∀ (A f : List (List (List Nat))) (B q : List (List (List Nat))), f ++ q = A ++ B → (∀ ws ∈ A, ws.getD 0 [] = wFirst) → (∀ ws ∈ B, ws.getD 0 [] = wThen) → (∀ ws ∈ f, ws.getD 0 [] = wFirst) → (∀ ws ∈ q, ws.getD 0 [] = wThen) → f = A ∧ q = B := by
    intro A
    induction A with
    | nil =>
      intro f B q e _ hB hf hq
      cases f with
      | nil => exact ⟨rfl, e⟩
      | cons x f =>
        have e : x :: (f ++ q) = B := e
        have h1 := hf x List.mem_cons_self
        have h2 := hB x (by rw [← e]; exact List.mem_cons_self)
        exact absurd (h2.symm.trans h1) then_first
    | cons a A ih =>
      intro f B q e hA hB hf hq
      cases f with
      | nil =>
        have e : q = a :: (A ++ B) := e
        have h1 := hA a List.mem_cons_self
        have h2 := hq a (by rw [e]; exact List.mem_cons_self)
        exact absurd (h2.symm.trans h1) then_first
      | cons x f =>
        have e : x :: (f ++ q) = a :: (A ++ B) := e
        obtain ⟨e1, e2⟩ := List.cons.inj e
        obtain ⟨h1, h2⟩ := ih f B q e2 (fun w hw => hA w (List.mem_cons_of_mem _ hw)) hB (fun w hw => hf w (List.mem_cons_of_mem _ hw)) hq
        exact ⟨by rw [e1, h1], h2⟩
  obtain ⟨k1, k2⟩ := key A _ B _ e1 (fun w hw => (e3 w hw).1) (fun w hw => (e4 w hw).1) (fun w hw => by
    obtain ⟨x, _, rfl⟩ := List.mem_map.mp hw
    rfl) (fun w hw => by
    obtain ⟨x, _, rfl⟩ := List.mem_map.mp hw
    rfl)
  rw [← k1, ← k2, List.nil_append, List.nil_append, List.map_map, List.map_map]
  congr 2
  · exact List.map_congr_left fun x hx => row_line (okf x hx)
  · exact List.map_congr_left fun x hx => row_line (okq x hx)
/-! numbers as the law tells them -/
def lawNum (w : List Nat) : Bool := w.all isD && ((decide (w = [48]) || decide (w.head? ≠ some 48)) && decide (w.length < 19))
theorem law_num {w : List Nat} (h : isTok w = true) : lawNum w = numB w := by
  cases w with
  | nil => cases h
  | cons c r =>
    have h : (!decide (c = 35) && !decide (c = 32) && (if isL c = true then r.all isL else if isD c = true then r.all isD else r.isEmpty)) = true := h
    rw [Bool.and_eq_true] at h
    have h := h.2
    show ((c :: r).all isD && ((decide (c :: r = [48]) || decide ((c :: r).head? ≠ some 48)) && decide ((c :: r).length < 19))) = (isD c && (!(decide (r ≠ []) && decide (c = 48)) && decide (r.length ≤ 17)))
    rw [List.all_cons, List.length_cons]
    by_cases d : isD c = true
    · have nl : ¬ isL c = true := fun q => by
        unfold isL at q
        unfold isD at d
        rw [Bool.and_eq_true, decide_eq_true_iff, decide_eq_true_iff] at q d
        omega
      rw [if_neg nl, if_pos d] at h
      rw [d, h]
      have e1 : decide (r.length + 1 < 19) = decide (r.length ≤ 17) := by
        by_cases z : r.length ≤ 17
        · rw [decide_eq_true z, decide_eq_true (by omega)]
        · rw [decide_eq_false z, decide_eq_false (by omega)]
      rw [e1]
      have e2 : (decide (c :: r = [48]) || decide ((c :: r).head? ≠ some 48)) = !(decide (r ≠ []) && decide (c = 48)) := by
        by_cases z : c = 48
        · subst z
          by_cases y : r = [] <;> simp [y]
        · simp [z]
      rw [e2, Bool.true_and]
    · rw [Bool.eq_false_iff.mpr d]
      rfl
end SiltT
set_option linter.all false
set_option Elab.async false
/-! rows: words with blanks and remarks -/
namespace SiltT
theorem lay_snoc (ws : List (List Nat × Nat)) (w : List Nat × Nat) : layL (ws ++ [w]) = layL ws ++ (w.1 ++ List.replicate w.2 32) := by
  unfold layL
  rw [List.flatMap_append]
  simp
theorem cols_snoc : ∀ (ws : List (List Nat × Nat)) (a : Nat) (w : List Nat × Nat), colsL a (ws ++ [w]) = colsL a ws ++ [a + (layL ws).length + 1]
  | [], a, w => rfl
  | x :: ws, a, w => by
    show (a + 1) :: colsL (a + x.1.length + x.2) (ws ++ [w]) = (a + 1) :: (colsL (a + x.1.length + x.2) ws ++ [a + (layL (x :: ws)).length + 1])
    rw [cols_snoc ws]
    have e : (layL (x :: ws)).length = x.1.length + x.2 + (layL ws).length := by
      show (x.1 ++ List.replicate x.2 32 ++ layL ws).length = _
      simp
      omega
    rw [e, show a + x.1.length + x.2 + (layL ws).length + 1 = a + (x.1.length + x.2 + (layL ws).length) + 1 by omega]
theorem cols_len : ∀ (ws : List (List Nat × Nat)) (a : Nat), (colsL a ws).length = ws.length
  | [], a => rfl
  | x :: ws, a => by
    show (colsL (a + x.1.length + x.2) ws).length + 1 = ws.length + 1
    rw [cols_len ws]
theorem sep_of : ∀ {ws : List (List Nat × Nat)}, (∀ j w, ws[j]? = some w → j + 1 < ws.length → 1 ≤ w.2) → sepB ws = true
  | [], _ => rfl
  | [_], _ => rfl
  | w :: x :: r, h => by
    show (decide (1 ≤ w.2) && sepB (x :: r)) = true
    rw [decide_eq_true (h 0 w rfl (by simp)), Bool.true_and]
    exact sep_of fun j y hy hl => h (j + 1) y (by simpa using hy) (by simp at hl ⊢; omega)
/-- a word that may stand in a row -/
def OkWd (w : List Nat) : Prop := isTok w = true ∧ w.length ≤ 10 ∧ ∀ c ∈ w, 33 ≤ c ∧ c < 127
theorem lay_len {ws : List (List Nat × Nat)} (h : ∀ w ∈ ws, w.1.length ≤ 10 ∧ w.2 ≤ 2) : (layL ws).length ≤ 12 * ws.length := by
  induction ws with
  | nil => exact Nat.zero_le _
  | cons x r ih =>
    have h1 := h x List.mem_cons_self
    have h2 := ih fun w hw => h w (List.mem_cons_of_mem _ hw)
    show (x.1 ++ List.replicate x.2 32 ++ layL r).length ≤ 12 * (r.length + 1)
    rw [List.length_append, List.length_append, List.length_replicate]
    omega
theorem lay_ch {ws : List (List Nat × Nat)} (h : ∀ w ∈ ws, ∀ c ∈ w.1, 33 ≤ c ∧ c < 127) : ∀ c ∈ layL ws, 32 ≤ c ∧ c < 127 := fun c hc => by
  unfold layL at hc
  obtain ⟨w, hw, hc⟩ := List.mem_flatMap.mp hc
  rcases List.mem_append.mp hc with g | g
  · have := h w hw c g
    omega
  · rw [(List.mem_replicate.mp g).2]
    omega
def remsL : List (List Nat) := [[], [], [35, 32, 115, 111], [35]]
def junkL : List (List Nat) := [[], [32, 32, 32], [35, 32, 116, 104, 101, 110, 32, 97, 116, 32, 50], [32, 35]]
theorem junk_ok {j : List Nat} (h : j ∈ junkL) : toks 0 j = [] ∧ RowOk j := by
  unfold junkL at h
  have h : j = [] ∨ j = [32, 32, 32] ∨ j = [35, 32, 116, 104, 101, 110, 32, 97, 116, 32, 50] ∨ j = [32, 35] := by simpa using h
  rcases h with rfl | rfl | rfl | rfl
  · exact ⟨toks_nil 0, by decide, by decide⟩
  · exact ⟨by rw [toks_space, toks_space, toks_space, toks_nil], by decide, by decide⟩
  · exact ⟨toks_hash 0 _, by decide, by decide⟩
  · exact ⟨by rw [toks_space, toks_hash], by decide, by decide⟩
/-- a row of a line -/
theorem row_laid {k : Nat} {wsn : List (List Nat × Nat)} {ws : List (List Nat)} {rem : List Nat} (e : wsn.map (·.1) = ws) (hs : sepB wsn = true) (hk : k ≤ 2) (hg : ∀ w ∈ wsn, w.2 ≤ 2) (hl : ws.length ≤ 10) (ok : ∀ w ∈ ws, OkWd w) (hr : rem ∈ remsL) (pl : Nat) :
    LaidR pl [ws] [List.replicate k 32 ++ layL wsn ++ rem] [(pl, colsL k wsn, (List.replicate k 32 ++ layL wsn ++ rem).length + 1)] := by
  have hrem : remB rem = true ∧ rem.length ≤ 4 ∧ ∀ c ∈ rem, 32 ≤ c ∧ c < 127 := by
    unfold remsL at hr
    have hr : rem = [] ∨ rem = [35, 32, 115, 111] ∨ rem = [35] := by simpa using hr
    rcases hr with rfl | rfl | rfl <;> decide
  have okn : ∀ w ∈ wsn, OkWd w.1 := fun w hw => ok w.1 (by rw [← e]; exact List.mem_map.mpr ⟨w, hw, rfl⟩)
  have ln : wsn.length = ws.length := by rw [← e, List.length_map]
  refine .line ?_ (by rw [cols_len, ln]) ⟨?_, ?_⟩ (.nil _)
  · rw [List.append_assoc, toks_line hrem.1 (fun w hw => (okn w hw).1) hs, e]
  · have := lay_len (ws := wsn) fun w hw => ⟨(okn w hw).2.1, hg w hw⟩
    rw [List.length_append, List.length_append, List.length_replicate]
    omega
  · intro c hc
    rcases List.mem_append.mp hc with g | g
    · rcases List.mem_append.mp g with g | g
      · rw [(List.mem_replicate.mp g).2]
        omega
      · exact lay_ch (fun w hw => (okn w hw).2.2) c g
    · exact hrem.2.2 c g
end SiltT
set_option linter.all false
set_option Elab.async false
/-! front and period as short as can be -/
namespace SiltT
section
variable {α : Type} [DecidableEq α]
def repQ (q : List α) (i : Nat) : Bool := decide (q.length % (i + 1) = 0) && decide (q = (List.replicate (q.length / (i + 1)) (q.take (i + 1))).flatten)
def perL (q : List α) : List α := match (List.range q.length).find? (repQ q) with
  | some i => q.take (i + 1)
  | none => q
def turnN : Nat → List α → List α → List α × List α
  | 0, f, q => (f, q)
  | n + 1, f, q => match f.getLast?, q.getLast? with
    | some x, some y => if x = y then turnN n f.dropLast (y :: q.dropLast) else (f, q)
    | _, _ => (f, q)
/-- the shortest front and period that tell the same -/
def shN (f q : List α) : List α × List α := turnN f.length f (perL q)
theorem per_at {q : List α} {i : Nat} (h : repQ q i = true) (hi : i < q.length) (n : ∀ j, j < i → repQ q j = false) : perL q = q.take (i + 1) := by
  have e : (List.range q.length).find? (repQ q) = some i := by
    rw [List.find?_range_eq_some]
    exact ⟨h, List.mem_range.mpr hi, fun j hj => by rw [n j hj]; rfl⟩
  unfold perL
  rw [e]
theorem per_no {q : List α} (n : ∀ j, j < q.length → repQ q j = false) : perL q = q := by
  have e : (List.range q.length).find? (repQ q) = none := by
    rw [List.find?_range_eq_none]
    intro j hj
    rw [n j hj]
    rfl
  unfold perL
  rw [e]
theorem turn_nil (n : Nat) (q : List α) : turnN n [] q = ([], q) := by
  cases n <;> rfl
theorem turn_snoc (n : Nat) (f q : List α) (x y : α) : turnN (n + 1) (f ++ [x]) (q ++ [y]) = if x = y then turnN n f (y :: q) else (f ++ [x], q ++ [y]) := by
  show (match (f ++ [x]).getLast?, (q ++ [y]).getLast? with
    | some x', some y' => if x' = y' then turnN n (f ++ [x]).dropLast (y' :: (q ++ [y]).dropLast) else (f ++ [x], q ++ [y])
    | _, _ => (f ++ [x], q ++ [y])) = _
  rw [List.getLast?_concat, List.getLast?_concat, List.dropLast_concat, List.dropLast_concat]
theorem per_one (a : α) : perL [a] = [a] := by
  rw [per_at (i := 0) (by simp [repQ]) (by simp) (fun j h => by omega)]
  rfl
theorem per_two (a b : α) : perL [a, b] = if a = b then [a] else [a, b] := by
  by_cases c : a = b
  · rw [if_pos c, per_at (i := 0) (by simp [repQ, c, List.replicate]) (by simp) (fun j h => by omega)]
    rfl
  · rw [if_neg c, per_at (i := 1) (by simp [repQ, List.replicate]) (by simp) (fun j h => by
      obtain rfl : j = 0 := by omega
      simp [repQ, List.replicate, Ne.symm c])]
    rfl
/-- what is the shortest stays -/
theorem sh_idem {f q : List α} (hf : f.length ≤ 2) (hq : q.length ≤ 2) (hn : q ≠ []) : shN (shN f q).1 (shN f q).2 = shN f q := by
  have one : ∀ (a : α) (f : List α), f.length ≤ 2 → shN (turnN f.length f [a]).1 (turnN f.length f [a]).2 = turnN f.length f [a] := fun a f hf => by
    match f, hf with
    | [], _ => simp [turnN, shN, per_one]
    | [x], _ => by_cases c : x = a <;> simp [turnN, shN, per_one, c]
    | [x, y], _ =>
      by_cases c : y = a
      · by_cases d : x = a <;> simp [turnN, shN, per_one, c, d]
      · simp [turnN, shN, per_one, c]
  match q, hq, hn with
  | [a], _, _ =>
    have e : shN f [a] = turnN f.length f [a] := by unfold shN; rw [per_one]
    rw [e]
    exact one a f hf
  | [a, b], _, _ =>
    by_cases c : a = b
    · have e : shN f [a, b] = turnN f.length f [a] := by unfold shN; rw [per_two, if_pos c]
      rw [e]
      exact one a f hf
    · have c' : ¬ b = a := fun h => c h.symm
      match f, hf with
      | [], _ => simp [turnN, shN, per_two, c]
      | [x], _ => by_cases d : x = b <;> simp [turnN, shN, per_two, c, c', d]
      | [x, y], _ =>
        by_cases d : y = b
        · by_cases e : x = a <;> simp [turnN, shN, per_two, c, c', d, e]
        · simp [turnN, shN, per_two, c, c', d]
theorem turn_len : ∀ (n : Nat) (f q : List α), (turnN n f q).1.length ≤ f.length ∧ (turnN n f q).2.length = q.length
  | 0, f, q => ⟨Nat.le_refl _, rfl⟩
  | n + 1, f, q => by
    unfold turnN
    split
    · rename_i x y e1 e2
      split
      · have h := turn_len n f.dropLast (y :: q.dropLast)
        have hq : q ≠ [] := fun z => by rw [z] at e2; cases e2
        have := List.length_pos_iff.mpr hq
        refine ⟨Nat.le_trans h.1 (by rw [List.length_dropLast]; omega), ?_⟩
        rw [h.2, List.length_cons, List.length_dropLast]
        omega
      · exact ⟨Nat.le_refl _, rfl⟩
    · exact ⟨Nat.le_refl _, rfl⟩
theorem turn_mem : ∀ (n : Nat) (f q : List α), (∀ x ∈ (turnN n f q).1, x ∈ f) ∧ ∀ x ∈ (turnN n f q).2, x ∈ q
  | 0, f, q => ⟨fun _ h => h, fun _ h => h⟩
  | n + 1, f, q => by
    unfold turnN
    split
    · rename_i x y e1 e2
      split
      · have h := turn_mem n f.dropLast (y :: q.dropLast)
        refine ⟨fun z hz => (List.dropLast_sublist f).subset (h.1 z hz), fun z hz => ?_⟩
        rcases List.mem_cons.mp (h.2 z hz) with g | g
        · rw [g]
          exact List.mem_of_getLast? e2
        · exact (List.dropLast_sublist q).subset g
      · exact ⟨fun _ h => h, fun _ h => h⟩
    · exact ⟨fun _ h => h, fun _ h => h⟩
theorem per_mem (q : List α) : (∀ x ∈ perL q, x ∈ q) ∧ (perL q).length ≤ q.length := by
  unfold perL
  split
  · exact ⟨fun x h => List.mem_of_mem_take h, by rw [List.length_take]; omega⟩
  · exact ⟨fun _ h => h, Nat.le_refl _⟩
theorem sh_ne {f q : List α} (h : q ≠ []) : (shN f q).2 ≠ [] := fun z => by
  have g := turn_len f.length f (perL q)
  have e : (shN f q).2.length = (perL q).length := g.2
  rw [z] at e
  have hp : perL q = [] := List.length_eq_zero_iff.mp e.symm
  unfold perL at hp
  split at hp
  · have := congrArg List.length hp
    rw [List.length_take, List.length_nil] at this
    have := List.length_pos_iff.mpr h
    omega
  · exact h hp
theorem sh_mem (f q : List α) : (∀ x ∈ (shN f q).1, x ∈ f) ∧ (∀ x ∈ (shN f q).2, x ∈ q) ∧ (shN f q).1.length ≤ f.length ∧ (shN f q).2.length ≤ q.length := by
  have h := turn_mem f.length f (perL q)
  have g := turn_len f.length f (perL q)
  have p := per_mem q
  exact ⟨h.1, fun x hx => p.1 x (h.2 x hx), g.1, by unfold shN; rw [g.2]; exact p.2⟩
end
end SiltT
/-! Plain mathematics of rules: pairs by grades, sizes, digits. No program in sight. -/
set_option linter.all false
namespace Silt
abbrev Pr := Nat → Int × Int
structure Good (p : Pr) : Prop where
  lo : ∀ g, 2 ≤ (p g).2
  le : ∀ g, (p g).2 ≤ (p g).1
  hi : ∀ g, (p g).1 ≤ 12
/-- the rule without its first k grades -/
def tl (p : Pr) (k : Nat) : Pr := fun g => p (g + k)
theorem Good.tl {p : Pr} (h : Good p) (k : Nat) : Good (tl p k) := ⟨fun g => h.lo _, fun g => h.le _, fun g => h.hi _⟩
theorem tl_tl (p : Pr) (j k : Nat) : tl (tl p j) k = tl p (j + k) := by
  funext g; simp only [tl]; congr 1; omega
theorem tl_zero (p : Pr) : tl p 0 = p := rfl
def size (p : Pr) : Nat → Int
  | 0 => 1
  | g + 1 => size p g * (p g).2
def owed (p : Pr) : Nat → Int
  | 0 => 0
  | g + 1 => owed p g + size p g * ((p g).1 - (p g).2)
theorem size_pos {p : Pr} (h : Good p) : ∀ g, 0 < size p g
  | 0 => by show (0 : Int) < 1; decide
  | g + 1 => Int.mul_pos (size_pos h g) (by have := h.lo g; omega)
theorem owed_nn {p : Pr} (h : Good p) : ∀ g, 0 ≤ owed p g
  | 0 => by show (0 : Int) ≤ 0; decide
  | g + 1 => by
    have h1 := owed_nn h g
    have h2 := size_pos h g
    have h3 := h.le g
    have h4 : 0 ≤ size p g * ((p g).1 - (p g).2) := Int.mul_nonneg (by omega) (by omega)
    show 0 ≤ owed p g + size p g * ((p g).1 - (p g).2)
    omega
theorem size_tl (p : Pr) : ∀ g, size p (g + 1) = (p 0).2 * size (tl p 1) g
  | 0 => by simp [size]
  | g + 1 => by
    show size p (g + 1) * (p (g + 1)).2 = (p 0).2 * (size (tl p 1) g * (p (g + 1)).2)
    rw [size_tl p g, Int.mul_assoc]
theorem owed_tl (p : Pr) : ∀ g, owed p (g + 1) = ((p 0).1 - (p 0).2) + (p 0).2 * owed (tl p 1) g
  | 0 => by simp [owed, size]
  | g + 1 => by
    show owed p (g + 1) + size p (g + 1) * ((p (g + 1)).1 - (p (g + 1)).2) = _ + (p 0).2 * (owed (tl p 1) g + size (tl p 1) g * ((p (g + 1)).1 - (p (g + 1)).2))
    rw [owed_tl p g, size_tl p g, Int.mul_add, Int.mul_assoc]
    omega
def made (p : Pr) (g : Nat) (d : Int) : Int := max 0 ((d - owed p g) / size p g)
theorem made_nn (p : Pr) (g : Nat) (d : Int) : 0 ≤ made p g d := by unfold made; omega
/-- how many layers of the next grade there have been, of so many -/
def late (p : Pr) (d : Int) : Int := max 0 ((d - (p 0).1 + (p 0).2) / (p 0).2)
theorem made_zero (p : Pr) {d : Int} (h : 0 ≤ d) : made p 0 d = d := by simp [made, owed, size]; omega
theorem made_one (p : Pr) (d : Int) : made p 1 d = late p d := by
  simp only [made, late, owed, size]
  have e : d - (0 + 1 * ((p 0).1 - (p 0).2)) = d - (p 0).1 + (p 0).2 := by omega
  rw [e, Int.one_mul]
theorem ediv_shift {a b o s : Int} (hb : 0 < b) (hs : 0 < s) : (a - b * o) / (b * s) = (a / b - o) / s := by
  rw [← Int.ediv_ediv_of_nonneg (by omega : (0:Int) ≤ b)]
  congr 1
  have : a - b * o = a + b * (-o) := by rw [Int.mul_neg]; omega
  rw [this, Int.add_mul_ediv_left _ _ (by omega : b ≠ 0)]
  omega
theorem neg_ediv_le {a s : Int} (ha : a ≤ 0) (hs : 0 < s) : a / s ≤ 0 := by
  have := Int.ediv_le_ediv hs ha
  simpa using this
/-- the rule without its first grade, on the day that is the number of layers of grade 1 -/
theorem made_tl {p : Pr} (h : Good p) (g : Nat) (d : Int) : made p (g + 1) d = made (tl p 1) g (late p d) := by
  have hb : 0 < (p 0).2 := by have := h.lo 0; omega
  have hs := size_pos (h.tl 1) g
  have ho := owed_nn (h.tl 1) g
  unfold made
  rw [size_tl, owed_tl]
  have e : d - ((p 0).1 - (p 0).2 + (p 0).2 * owed (tl p 1) g) = (d - (p 0).1 + (p 0).2) - (p 0).2 * owed (tl p 1) g := by omega
  rw [e, ediv_shift hb hs]
  unfold late
  by_cases q : 0 ≤ (d - (p 0).1 + (p 0).2) / (p 0).2
  · have e2 : max 0 ((d - (p 0).1 + (p 0).2) / (p 0).2) = (d - (p 0).1 + (p 0).2) / (p 0).2 := by omega
    rw [e2]
  · have e2 : max 0 ((d - (p 0).1 + (p 0).2) / (p 0).2) = 0 := by omega
    rw [e2]
    have q1 := neg_ediv_le (a := (d - (p 0).1 + (p 0).2) / (p 0).2 - owed (tl p 1) g) (by omega) hs
    have q2 := neg_ediv_le (a := 0 - owed (tl p 1) g) (by omega) hs
    omega
theorem late_lt {p : Pr} (h : Good p) {d : Int} (hd : 0 < d) : late p d < d := by
  have h1 := h.lo 0
  have h2 := h.le 0
  unfold late
  have : (d - (p 0).1 + (p 0).2) / (p 0).2 < d := by
    refine Int.ediv_lt_of_lt_mul (by omega) ?_
    have : d * 2 ≤ d * (p 0).2 := Int.mul_le_mul_of_nonneg_left h1 (by omega)
    omega
  omega
theorem late_nn (p : Pr) (d : Int) : 0 ≤ late p d := by unfold late; omega
/-- the next grade's number from this one's -/
theorem made_next {p : Pr} (h : Good p) : ∀ (g : Nat) (d : Int), 0 ≤ d → made p (g + 1) d = late (tl p g) (made p g d)
  | 0, d, hd => by rw [made_one, made_zero p hd]; rfl
  | g + 1, d, hd => by
    rw [made_tl h (g + 1), made_next (h.tl 1) g _ (late_nn p d), made_tl h g, tl_tl, Nat.add_comm 1 g]
/-! ### digits -/
def digF : Nat → Pr → Int → List Int
  | 0, _, _ => []
  | n + 1, p, d => if d ≤ 0 then [] else (d - (p 0).2 * late p d) :: digF n (tl p 1) (late p d)
def digits (p : Pr) (d : Int) : List Int := digF d.toNat p d
theorem digF_more : ∀ (n m : Nat) (p : Pr) (d : Int), Good p → d ≤ n → d ≤ m → digF n p d = digF m p d
  | 0, 0, _, _, _, _, _ => rfl
  | 0, m + 1, p, d, _, h, _ => by show [] = if d ≤ 0 then [] else _; rw [if_pos (by omega)]
  | n + 1, 0, p, d, _, _, h => by show (if d ≤ 0 then [] else _) = []; rw [if_pos (by omega)]
  | n + 1, m + 1, p, d, g, h, h' => by
    show (if d ≤ 0 then [] else _) = (if d ≤ 0 then [] else _)
    by_cases c : d ≤ 0
    · rw [if_pos c, if_pos c]
    · rw [if_neg c, if_neg c]
      have := late_lt g (d := d) (by omega)
      rw [digF_more n m (tl p 1) (late p d) (g.tl 1) (by omega) (by omega)]
theorem digits_eq {p : Pr} (g : Good p) (d : Int) : digits p d = if d ≤ 0 then [] else (d - (p 0).2 * late p d) :: digits (tl p 1) (late p d) := by
  unfold digits
  by_cases c : d ≤ 0
  · rw [if_pos c]
    have : d.toNat = 0 := by omega
    rw [this]; rfl
  · rw [if_neg c]
    obtain ⟨n, hn⟩ : ∃ n, d.toNat = n + 1 := ⟨d.toNat - 1, by omega⟩
    rw [hn]
    show (if d ≤ 0 then [] else _) = _
    rw [if_neg c]
    have := late_lt g (d := d) (by omega)
    have := late_nn p d
    rw [digF_more n (late p d).toNat (tl p 1) (late p d) (g.tl 1) (by omega) (by omega)]
theorem digits_zero (p : Pr) {d : Int} (h : d ≤ 0) : digits p d = [] := by
  unfold digits
  have : d.toNat = 0 := by omega
  rw [this]; rfl
theorem digits_pos {p : Pr} (g : Good p) {d : Int} (h : 0 < d) : digits p d = (d - (p 0).2 * late p d) :: digits (tl p 1) (late p d) := by
  rw [digits_eq g, if_neg (by omega)]
/-- the digit's bounds -/
theorem digit_lt {p : Pr} (g : Good p) {d : Int} (h : 0 < d) : d - (p 0).2 * late p d < (p 0).1 ∧ 0 ≤ d - (p 0).2 * late p d ∧ (0 < late p d → (p 0).1 - (p 0).2 ≤ d - (p 0).2 * late p d) ∧ (late p d = 0 → 1 ≤ d - (p 0).2 * late p d) := by
  have h1 := g.lo 0
  have h2 := g.le 0
  unfold late
  generalize (p 0).1 = w at *
  generalize (p 0).2 = b at *
  have e1 := Int.emod_add_mul_ediv (d - w + b) b
  have e2 := Int.emod_nonneg (d - w + b) (by omega : b ≠ 0)
  have e3 := Int.emod_lt_of_pos (d - w + b) (by omega : 0 < b)
  by_cases q : 0 ≤ (d - w + b) / b
  · have e : max 0 ((d - w + b) / b) = (d - w + b) / b := by omega
    rw [e]
    refine ⟨by omega, by omega, by omega, fun z => ?_⟩
    rw [z] at e1 ⊢
    omega
  · have e : max 0 ((d - w + b) / b) = 0 := by omega
    rw [e]
    have : (d - w + b) / b ≤ -1 := by omega
    have : b * ((d - w + b) / b) ≤ b * (-1) := Int.mul_le_mul_of_nonneg_left this (by omega)
    refine ⟨by omega, by omega, by omega, by omega⟩
/-- what digits are worth -/
def value (p : Pr) : List Int → Int
  | [] => 0
  | x :: xs => x + (p 0).2 * value (tl p 1) xs
theorem value_digF : ∀ (n : Nat) (p : Pr) (d : Int), Good p → 0 ≤ d → d ≤ n → value p (digF n p d) = d
  | 0, _, _, _, _, _ => by show (0 : Int) = _; omega
  | n + 1, p, d, g, h0, h => by
    show value p (if d ≤ 0 then [] else _) = d
    by_cases c : d ≤ 0
    · rw [if_pos c]; show (0 : Int) = _; omega
    · rw [if_neg c]
      show _ + (p 0).2 * value (tl p 1) _ = d
      have := late_lt g (d := d) (by omega)
      rw [value_digF n (tl p 1) (late p d) (g.tl 1) (late_nn p d) (by omega)]
      omega
theorem value_digits {p : Pr} (g : Good p) {d : Int} (h : 0 ≤ d) : value p (digits p d) = d := value_digF _ p d g h (by omega)
/-- the digits of a day are fit to be told -/
def Valid (p : Pr) : List Int → Prop
  | [] => True
  | [x] => 1 ≤ x ∧ x < (p 0).1
  | x :: y :: ys => (p 0).1 - (p 0).2 ≤ x ∧ x < (p 0).1 ∧ Valid (tl p 1) (y :: ys)
theorem valid_digF : ∀ (n : Nat) (p : Pr) (d : Int), Good p → 0 ≤ d → d ≤ n → Valid p (digF n p d)
  | 0, _, _, _, _, _ => trivial
  | n + 1, p, d, g, h0, h => by
    show Valid p (if d ≤ 0 then [] else _)
    by_cases c : d ≤ 0
    · rw [if_pos c]; trivial
    · rw [if_neg c]
      have b := digit_lt g (d := d) (by omega)
      have l := late_lt g (d := d) (by omega)
      have l0 := late_nn p d
      have ih := valid_digF n (tl p 1) (late p d) (g.tl 1) l0 (by omega)
      cases e : digF n (tl p 1) (late p d) with
      | nil =>
        have v := value_digF n (tl p 1) (late p d) (g.tl 1) l0 (by omega)
        rw [e] at v
        have v' : late p d = 0 := v.symm
        exact ⟨b.2.2.2 v', b.1⟩
      | cons y ys =>
        rw [e] at ih
        have : 0 < late p d := by
          rcases Int.lt_or_eq_of_le l0 with q | q
          · exact q
          · rw [← q] at e
            cases n <;> simp [digF] at e
        exact ⟨b.2.2.1 this, b.1, ih⟩
theorem valid_digits {p : Pr} (g : Good p) {d : Int} (h : 0 ≤ d) : Valid p (digits p d) := valid_digF _ p d g h (by omega)
theorem digits_nil {p : Pr} (g : Good p) {d : Int} (h : 0 ≤ d) : digits p d = [] ↔ d = 0 := by
  constructor
  · intro e
    have v := value_digits g h
    rw [e] at v
    exact v.symm
  · intro e; exact digits_zero p (by omega)
end Silt
set_option linter.all false
namespace Silt
theorem size_ge {p : Pr} (h : Good p) : ∀ g : Nat, ((2 ^ g : Nat) : Int) ≤ size p g
  | 0 => by simp [size]
  | g + 1 => by
    have h1 := size_ge h g
    have h2 := h.lo g
    show _ ≤ size p g * (p g).2
    have e : ((2 ^ (g + 1) : Nat) : Int) = ((2 ^ g : Nat) : Int) * 2 := by rw [Nat.pow_succ]; omega
    rw [e]
    exact Int.mul_le_mul h1 h2 (by omega) (by have := size_pos h g; omega)
theorem lt_two_pow' (g : Nat) : (g : Int) < ((2 ^ g : Nat) : Int) := by
  have := @Nat.lt_two_pow_self g
  omega
theorem made_pos {p : Pr} (h : Good p) {g : Nat} {d : Int} (hm : 0 < made p g d) : size p g ≤ d := by
  have h1 := size_pos h g
  have h2 := owed_nn h g
  unfold made at hm
  have h3 : 1 ≤ (d - owed p g) / size p g := by omega
  have h4 := Int.ediv_mul_le (d - owed p g) (by omega : size p g ≠ 0)
  have h5 : 1 * size p g ≤ (d - owed p g) / size p g * size p g := Int.mul_le_mul_of_nonneg_right h3 (by omega)
  omega
theorem made_le {p : Pr} (h : Good p) (g : Nat) {d : Int} (hd : 0 ≤ d) : made p g d ≤ d := by
  have h1 := size_pos h g
  have h2 := owed_nn h g
  unfold made
  have h3 : (d - owed p g) / size p g ≤ d := by
    by_cases q : 0 ≤ (d - owed p g) / size p g
    · have h4 := Int.ediv_mul_le (d - owed p g) (by omega : size p g ≠ 0)
      have h5 : (d - owed p g) / size p g * 1 ≤ (d - owed p g) / size p g * size p g := Int.mul_le_mul_of_nonneg_left (by omega) q
      omega
    · omega
  omega
/-! ### bakes -/
def isBaked (p : Pr) (g : Nat) (d : Int) : Bool := decide (owed p (g + 1) + size p (g + 1) ≤ d) && decide ((d - owed p (g + 1)) % size p (g + 1) = 0)
theorem isBaked_iff {p : Pr} {g : Nat} {d : Int} : isBaked p g d = true ↔ owed p (g + 1) + size p (g + 1) ≤ d ∧ (d - owed p (g + 1)) % size p (g + 1) = 0 := by
  unfold isBaked
  rw [Bool.and_eq_true, decide_eq_true_iff, decide_eq_true_iff]
theorem isBaked_size {p : Pr} (h : Good p) {g : Nat} {d : Int} (b : isBaked p g d = true) : size p (g + 1) ≤ d := by
  have := (isBaked_iff.mp b).1
  have := owed_nn h (g + 1)
  omega
theorem isBaked_lt {p : Pr} (h : Good p) {g : Nat} {d : Int} (b : isBaked p g d = true) : (g : Int) + 1 < d := by
  have h1 := isBaked_size h b
  have h2 := size_ge h (g + 1)
  have h3 := lt_two_pow' (g + 1)
  omega
def bkF : Nat → Pr → Int → Nat → List Int
  | 0, _, _, _ => []
  | n + 1, p, d, g => if isBaked p g d then (g : Int) :: bkF n p d (g + 1) else []
def bakedL (p : Pr) (d : Int) : List Int := bkF d.toNat p d 0
theorem bkF_step {p : Pr} (h : Good p) {n g : Nat} {d : Int} (hn : n = d.toNat - g) : bkF n p d g = if isBaked p g d then (g : Int) :: bkF (d.toNat - (g + 1)) p d (g + 1) else [] := by
  cases n with
  | zero =>
    show [] = _
    by_cases c : isBaked p g d = true
    · have := isBaked_lt h c; omega
    · rw [if_neg c]
  | succ n =>
    show (if isBaked p g d then (g : Int) :: bkF n p d (g + 1) else []) = _
    have : n = d.toNat - (g + 1) := by omega
    rw [this]
theorem bkF_len : ∀ (n : Nat) (p : Pr) (d : Int) (g : Nat), (bkF n p d g).length ≤ n
  | 0, _, _, _ => Nat.le_refl _
  | n + 1, p, d, g => by
    show (if isBaked p g d then (g : Int) :: bkF n p d (g + 1) else []).length ≤ _
    split
    · rw [List.length_cons]; have := bkF_len n p d (g + 1); omega
    · exact Nat.zero_le _
def nextBaked (p : Pr) (g : Nat) (d : Int) : Int := owed p (g + 1) + size p (g + 1) * max 1 ((d - owed p (g + 1)) / size p (g + 1) + 1)
/-- the bakes of the rule without its first grade -/
theorem isBaked_tl {p : Pr} (h : Good p) {d : Int} (b : isBaked p 0 d = true) (g : Nat) : isBaked p (g + 1) d = isBaked (tl p 1) g (late p d) := by
  have hb : 0 < (p 0).2 := by have := h.lo 0; omega
  obtain ⟨b1, b2⟩ := isBaked_iff.mp b
  have e1 : owed p (0 + 1) = (p 0).1 - (p 0).2 := by simp [owed, size]
  have e2 : size p (0 + 1) = (p 0).2 := by simp [size]
  rw [e1, e2] at b1 b2
  obtain ⟨q, hq⟩ := Int.dvd_of_emod_eq_zero b2
  have hl : late p d = q := by
    unfold late
    have : d - (p 0).1 + (p 0).2 = (p 0).2 * q := by omega
    rw [this, Int.mul_ediv_cancel_left _ (by omega)]
    have : 1 ≤ q := by
      have : (p 0).2 * 1 ≤ (p 0).2 * q := by omega
      exact Int.le_of_mul_le_mul_left this hb
    omega
  rw [hl]
  unfold isBaked
  rw [size_tl, owed_tl]
  have hd : d = (p 0).1 - (p 0).2 + (p 0).2 * q := by omega
  have hs := size_pos (h.tl 1) (g + 1)
  congr 1
  · congr 1
    apply propext
    constructor
    · intro z
      have : (p 0).2 * (owed (tl p 1) (g + 1) + size (tl p 1) (g + 1)) ≤ (p 0).2 * q := by rw [Int.mul_add]; omega
      exact Int.le_of_mul_le_mul_left this hb
    · intro z
      have : (p 0).2 * (owed (tl p 1) (g + 1) + size (tl p 1) (g + 1)) ≤ (p 0).2 * q := Int.mul_le_mul_of_nonneg_left z (by omega)
      rw [Int.mul_add] at this
      omega
  · congr 1
    have : d - ((p 0).1 - (p 0).2 + (p 0).2 * owed (tl p 1) (g + 1)) = (p 0).2 * (q - owed (tl p 1) (g + 1)) := by rw [Int.mul_sub]; omega
    rw [this, Int.mul_emod_mul_of_pos _ _ hb]
    apply propext
    constructor
    · intro z
      rcases Int.mul_eq_zero.mp z with z | z
      · omega
      · exact z
    · intro z; rw [z, Int.mul_zero]
/-- grade 0 is baked on a day just if there comes one more layer of grade 1 -/
theorem isBaked_zero {p : Pr} (h : Good p) {d : Int} (hd : 0 ≤ d) : isBaked p 0 d = decide (made p 1 (max 0 (d - 1)) < late p d) := by
  have hb : 2 ≤ (p 0).2 := h.lo 0
  have hw := h.le 0
  rw [made_one]
  have e1 : owed p (0 + 1) = (p 0).1 - (p 0).2 := by simp [owed, size]
  have e2 : size p (0 + 1) = (p 0).2 := by simp [size]
  unfold isBaked late
  rw [e1, e2]
  generalize (p 0).2 = b at *
  generalize (p 0).1 = w at *
  have hb0 : 0 < b := by omega
  rw [← Bool.decide_and]
  congr 1
  apply propext
  have f1 := Int.emod_add_mul_ediv (d - (w - b)) b
  have f2 := Int.emod_nonneg (d - (w - b)) (by omega : b ≠ 0)
  have f3 := Int.emod_lt_of_pos (d - (w - b)) hb0
  have ed : d - w + b = d - (w - b) := by omega
  rw [ed]
  generalize hq : (d - (w - b)) / b = q at *
  generalize hr : (d - (w - b)) % b = r at *
  by_cases hd1 : 1 ≤ d
  · have em : max 0 (d - 1) = d - 1 := by omega
    rw [em]
    have eq2 : (d - 1 - w + b) / b = if r = 0 then q - 1 else q := by
      by_cases c : r = 0
      · rw [if_pos c]
        have : d - 1 - w + b = (b - 1) + b * (q - 1) := by rw [Int.mul_sub]; omega
        rw [this, Int.add_mul_ediv_left _ _ (by omega : b ≠ 0), Int.ediv_eq_zero_of_lt (by omega) (by omega)]
        omega
      · rw [if_neg c]
        have : d - 1 - w + b = (r - 1) + b * q := by omega
        rw [this, Int.add_mul_ediv_left _ _ (by omega : b ≠ 0), Int.ediv_eq_zero_of_lt (by omega) (by omega)]
        omega
    rw [eq2]
    constructor
    · rintro ⟨z1, z2⟩
      rw [if_pos z2]
      have : b * 1 ≤ b * q := by omega
      have := Int.le_of_mul_le_mul_left this hb0
      omega
    · intro z
      by_cases c : r = 0
      · rw [if_pos c] at z
        have : 1 ≤ q := by omega
        have : b * 1 ≤ b * q := Int.mul_le_mul_of_nonneg_left this (by omega)
        exact ⟨by omega, c⟩
      · rw [if_neg c] at z; omega
  · have : d = 0 := by omega
    subst this
    constructor
    · rintro ⟨z1, _⟩; omega
    · intro z
      exfalso
      have em : max 0 ((0 : Int) - 1) = 0 := by omega
      rw [em, ed] at z
      omega
theorem bkF_shift {p q : Pr} {d e : Int} (s : ∀ g, isBaked p (g + 1) d = isBaked q g e) : ∀ (n g : Nat), bkF n p d (g + 1) = (bkF n q e g).map (· + 1)
  | 0, _ => rfl
  | n + 1, g => by
    show (if isBaked p (g + 1) d then (((g + 1 : Nat)) : Int) :: bkF n p d (g + 1 + 1) else []) = List.map _ (if isBaked q g e then (g : Int) :: bkF n q e (g + 1) else [])
    rw [s g]
    by_cases c : isBaked q g e = true
    · rw [if_pos c, if_pos c, bkF_shift s n (g + 1)]
      rfl
    · rw [if_neg c, if_neg c]; rfl
theorem bkF_fuel {p : Pr} (h : Good p) {d : Int} : ∀ (n m g : Nat), d ≤ n + g → d ≤ m + g → bkF n p d g = bkF m p d g
  | 0, 0, _, _, _ => rfl
  | 0, m + 1, g, hn, _ => by
    show [] = if isBaked p g d then _ else []
    by_cases c : isBaked p g d = true
    · have := isBaked_lt h c; omega
    · rw [if_neg c]
  | n + 1, 0, g, _, hm => by
    show (if isBaked p g d then _ else []) = []
    by_cases c : isBaked p g d = true
    · have := isBaked_lt h c; omega
    · rw [if_neg c]
  | n + 1, m + 1, g, hn, hm => by
    show (if isBaked p g d then (g : Int) :: bkF n p d (g + 1) else []) = if isBaked p g d then (g : Int) :: bkF m p d (g + 1) else []
    rw [bkF_fuel h n m (g + 1) (by omega) (by omega)]
theorem bakedL_tl {p : Pr} (h : Good p) {d : Int} (hd : 0 ≤ d) : bakedL p d = if made p 1 (max 0 (d - 1)) < late p d then 0 :: (bakedL (tl p 1) (late p d)).map (· + 1) else [] := by
  unfold bakedL
  rw [bkF_step h (g := 0) (by omega)]
  rw [isBaked_zero h hd]
  by_cases c : made p 1 (max 0 (d - 1)) < late p d
  · rw [if_pos (decide_eq_true c), if_pos c]
    have b : isBaked p 0 d = true := by rw [isBaked_zero h hd]; exact decide_eq_true c
    have l0 := late_nn p d
    have l1 := late_lt h (d := d) (by have := isBaked_lt h b; omega)
    rw [bkF_shift (fun g => isBaked_tl h b g), bkF_fuel (h.tl 1) (d.toNat - (0 + 1)) (late p d).toNat 0 (by omega) (by omega)]
    rfl
  · rw [if_neg (by rw [decide_eq_false c]; decide), if_neg c]
/-! ### work -/
def workF : Nat → Pr → Int → Int
  | 0, _, _ => 0
  | n + 1, p, d => if late p d ≤ 0 then 0 else (p 0).2 * late p d + (p 0).2 * workF n (tl p 1) (late p d)
def work (p : Pr) (d : Int) : Int := workF d.toNat p d
theorem workF_more : ∀ (n m : Nat) (p : Pr) (d : Int), Good p → d ≤ n → d ≤ m → workF n p d = workF m p d
  | 0, 0, _, _, _, _, _ => rfl
  | 0, m + 1, p, d, g, h, _ => by
    show (0 : Int) = if late p d ≤ 0 then 0 else _
    have : late p d ≤ 0 := by
      have h1 := g.lo 0
      have h2 := g.le 0
      have := neg_ediv_le (a := d - (p 0).1 + (p 0).2) (s := (p 0).2) (by omega) (by omega)
      unfold late; omega
    rw [if_pos this]
  | n + 1, 0, p, d, g, _, h => by
    show (if late p d ≤ 0 then 0 else _) = (0 : Int)
    have : late p d ≤ 0 := by
      have h1 := g.lo 0
      have h2 := g.le 0
      have := neg_ediv_le (a := d - (p 0).1 + (p 0).2) (s := (p 0).2) (by omega) (by omega)
      unfold late; omega
    rw [if_pos this]
  | n + 1, m + 1, p, d, g, h, h' => by
    show (if late p d ≤ 0 then 0 else _) = (if late p d ≤ 0 then 0 else _)
    by_cases c : late p d ≤ 0
    · rw [if_pos c, if_pos c]
    · rw [if_neg c, if_neg c]
      have hd : 0 < d := by
        rcases Int.lt_or_le 0 d with q | q
        · exact q
        · exfalso
          have h1 := g.lo 0
          have h2 := g.le 0
          have := neg_ediv_le (a := d - (p 0).1 + (p 0).2) (s := (p 0).2) (by omega) (by omega)
          unfold late at c; omega
      have := late_lt g hd
      rw [workF_more n m (tl p 1) (late p d) (g.tl 1) (by omega) (by omega)]
theorem work_eq {p : Pr} (g : Good p) {d : Int} (hd : 0 ≤ d) : work p d = (p 0).2 * late p d + (p 0).2 * work (tl p 1) (late p d) := by
  unfold work
  by_cases c : d = 0
  · subst c
    have h1 := g.lo 0
    have h2 := g.le 0
    have := neg_ediv_le (a := 0 - (p 0).1 + (p 0).2) (s := (p 0).2) (by omega) (by omega)
    have e : late p 0 = 0 := by unfold late; omega
    rw [e]
    simp [workF]
  · obtain ⟨n, hn⟩ : ∃ n, d.toNat = n + 1 := ⟨d.toNat - 1, by omega⟩
    rw [hn]
    show (if late p d ≤ 0 then 0 else _) = _
    have l1 := late_lt g (d := d) (by omega)
    have l0 := late_nn p d
    by_cases c : late p d ≤ 0
    · rw [if_pos c]
      have e : late p d = 0 := by omega
      rw [e]
      simp [workF]
    · rw [if_neg c, workF_more n (late p d).toNat (tl p 1) (late p d) (g.tl 1) (by omega) (by omega)]
/-! ### the value of digits, digit by digit -/
theorem value_take : ∀ (ds : List Int) (p : Pr) (i : Nat) (x : Int), ds[i]? = some x → value p (ds.take (i + 1)) = value p (ds.take i) + x * size p i
  | [], _, _, _, h => by simp at h
  | y :: ys, p, 0, x, h => by
    simp at h; subst h
    simp [value, size]
  | y :: ys, p, i + 1, x, h => by
    have h' : ys[i]? = some x := by simpa using h
    show y + (p 0).2 * value (tl p 1) (ys.take (i + 1)) = y + (p 0).2 * value (tl p 1) (ys.take i) + x * size p (i + 1)
    rw [value_take ys (tl p 1) i x h', size_tl, Int.mul_add]
    have : (p 0).2 * (x * size (tl p 1) i) = x * ((p 0).2 * size (tl p 1) i) := by
      rw [← Int.mul_assoc, Int.mul_comm (p 0).2 x, Int.mul_assoc]
    omega
theorem valid_get : ∀ (ds : List Int) (p : Pr) (i : Nat) (x : Int), Valid p ds → ds[i]? = some x → x < (p i).1 ∧ (if i + 1 = ds.length then 1 else (p i).1 - (p i).2) ≤ x
  | [], _, _, _, _, h => by simp at h
  | [y], p, 0, x, v, h => by
    simp at h; subst h
    exact ⟨v.2, by simpa using v.1⟩
  | [y], p, i + 1, x, v, h => by simp at h
  | y :: z :: zs, p, 0, x, v, h => by
    simp at h; subst h
    refine ⟨v.2.1, ?_⟩
    rw [if_neg (by simp)]
    exact v.1
  | y :: z :: zs, p, i + 1, x, v, h => by
    have h' : (z :: zs)[i]? = some x := by simpa using h
    have q := valid_get (z :: zs) (tl p 1) i x v.2.2 h'
    refine ⟨q.1, ?_⟩
    have e : (i + 1 + 1 = (y :: z :: zs).length) ↔ (i + 1 = (z :: zs).length) := by simp
    by_cases c : i + 1 = (z :: zs).length
    · rw [if_pos (e.mpr c)]; rw [if_pos c] at q; exact q.2
    · rw [if_neg (fun w => c (e.mp w))]; rw [if_neg c] at q; exact q.2
/-! ### first days with so many layers -/
def fwF : Nat → Pr → Int → List Int
  | 0, _, _ => []
  | n + 1, p, m => if m ≤ 0 then [] else min m ((p 0).1 - 1) :: fwF n (tl p 1) (m - min m ((p 0).1 - 1))
def fwL (p : Pr) (m : Int) : List Int := fwF m.toNat p m
def firstWith (p : Pr) (m : Int) : Int := value p (fwL p m)
theorem fwF_more : ∀ (n k : Nat) (p : Pr) (m : Int), Good p → m ≤ n → m ≤ k → fwF n p m = fwF k p m
  | 0, 0, _, _, _, _, _ => rfl
  | 0, k + 1, p, m, _, h, _ => by show [] = if m ≤ 0 then [] else _; rw [if_pos (by omega)]
  | n + 1, 0, p, m, _, _, h => by show (if m ≤ 0 then [] else _) = []; rw [if_pos (by omega)]
  | n + 1, k + 1, p, m, g, h, h' => by
    show (if m ≤ 0 then [] else _) = (if m ≤ 0 then [] else _)
    by_cases c : m ≤ 0
    · rw [if_pos c, if_pos c]
    · rw [if_neg c, if_neg c]
      have h1 := g.lo 0
      have h2 := g.le 0
      rw [fwF_more n k (tl p 1) _ (g.tl 1) (by omega) (by omega)]
theorem fwL_pos {p : Pr} (g : Good p) {m : Int} (h : 0 < m) : fwL p m = min m ((p 0).1 - 1) :: fwL (tl p 1) (m - min m ((p 0).1 - 1)) := by
  unfold fwL
  obtain ⟨n, hn⟩ : ∃ n, m.toNat = n + 1 := ⟨m.toNat - 1, by omega⟩
  rw [hn]
  show (if m ≤ 0 then [] else _) = _
  have h1 := g.lo 0
  have h2 := g.le 0
  rw [if_neg (by omega), fwF_more n (m - min m ((p 0).1 - 1)).toNat (tl p 1) _ (g.tl 1) (by omega) (by omega)]
theorem fwL_zero (p : Pr) {m : Int} (h : m ≤ 0) : fwL p m = [] := by
  unfold fwL
  have : m.toNat = 0 := by omega
  rw [this]; rfl
theorem fwF_valid : ∀ (n : Nat) (p : Pr) (m : Int), Good p → m ≤ n → Valid p (fwF n p m)
  | 0, _, _, _, _ => trivial
  | n + 1, p, m, g, h => by
    show Valid p (if m ≤ 0 then [] else _)
    have h1 := g.lo 0
    have h2 := g.le 0
    by_cases c : m ≤ 0
    · rw [if_pos c]; trivial
    · rw [if_neg c]
      have ih := fwF_valid n (tl p 1) (m - min m ((p 0).1 - 1)) (g.tl 1) (by omega)
      cases e : fwF n (tl p 1) (m - min m ((p 0).1 - 1)) with
      | nil => exact ⟨by omega, by omega⟩
      | cons y ys =>
        rw [e] at ih
        have : ¬ (m - min m ((p 0).1 - 1) ≤ 0) := by
          intro z
          cases n with
          | zero => simp [fwF] at e
          | succ n => simp [fwF, if_pos z] at e
        exact ⟨by omega, by omega, ih⟩
theorem fwL_valid {p : Pr} (g : Good p) (m : Int) : Valid p (fwL p m) := fwF_valid _ p m g (by omega)
theorem fwF_len : ∀ (n : Nat) (p : Pr) (m : Int), (fwF n p m).length ≤ n
  | 0, _, _ => Nat.le_refl _
  | n + 1, p, m => by
    show (if m ≤ 0 then [] else _).length ≤ _
    split
    · exact Nat.zero_le _
    · rw [List.length_cons]; have := fwF_len n (tl p 1) (m - min m ((p 0).1 - 1)); omega
theorem fwL_len (p : Pr) (m : Int) : (fwL p m).length ≤ m.toNat := fwF_len _ p m
theorem firstWith_tl {p : Pr} (g : Good p) {m : Int} (h : (p 0).1 - 1 < m) : firstWith p m = ((p 0).1 - 1) + (p 0).2 * firstWith (tl p 1) (m - ((p 0).1 - 1)) := by
  have h1 := g.lo 0
  have h2 := g.le 0
  unfold firstWith
  rw [fwL_pos g (by omega)]
  have e : min m ((p 0).1 - 1) = (p 0).1 - 1 := by omega
  rw [e]
  rfl
end Silt
set_option linter.all false
namespace Silt
/-- what digits from grade k on are worth -/
def sv (p : Pr) : Nat → List Int → Int
  | _, [] => 0
  | k, x :: xs => size p k * x + sv p (k + 1) xs
theorem sv_tl (p : Pr) : ∀ (k : Nat) (xs : List Int), sv p (k + 1) xs = (p 0).2 * sv (tl p 1) k xs
  | _, [] => by simp [sv]
  | k, x :: xs => by
    show size p (k + 1) * x + sv p (k + 1 + 1) xs = (p 0).2 * (size (tl p 1) k * x + sv (tl p 1) (k + 1) xs)
    rw [sv_tl p (k + 1) xs, size_tl, Int.mul_add, Int.mul_assoc]
theorem value_sv : ∀ (xs : List Int) (p : Pr), value p xs = sv p 0 xs
  | [], _ => rfl
  | x :: xs, p => by
    show x + (p 0).2 * value (tl p 1) xs = size p 0 * x + sv p (0 + 1) xs
    rw [value_sv xs (tl p 1), sv_tl]
    simp [size]
/-! ### layers -/
def lyN (last s : Int) (k : Nat) (n : Nat) : List (Int × Int × Int) := (List.range n).map fun (i : Nat) => (last + (i : Int) * s + 1, last + (i : Int) * s + s, (k : Int))
theorem lyN_succ (last s : Int) (k n : Nat) : lyN last s k (n + 1) = lyN last s k n ++ [(last + (n : Int) * s + 1, last + (n : Int) * s + s, (k : Int))] := by
  unfold lyN
  rw [List.range_succ, List.map_append]
  rfl
def LY (p : Pr) : Nat → List Int → List (Int × Int × Int) × Int
  | _, [] => ([], 0)
  | k, x :: xs => ((LY p (k + 1) xs).1 ++ lyN (LY p (k + 1) xs).2 (size p k) k x.toNat, (LY p (k + 1) xs).2 + (x.toNat : Int) * size p k)
def layersL (p : Pr) (d : Int) : List (Int × Int × Int) := (LY p 0 (digits p d)).1
def upL (b : Int) (r : Int × Int × Int) : Int × Int × Int := ((r.1 - 1) * b + 1, r.2.1 * b, r.2.2 + 1)
theorem LY_tl (p : Pr) : ∀ (k : Nat) (xs : List Int), LY p (k + 1) xs = ((LY (tl p 1) k xs).1.map (upL (p 0).2), (LY (tl p 1) k xs).2 * (p 0).2)
  | _, [] => by simp [LY]
  | k, x :: xs => by
    show ((LY p (k + 1 + 1) xs).1 ++ lyN (LY p (k + 1 + 1) xs).2 (size p (k + 1)) (k + 1) x.toNat, (LY p (k + 1 + 1) xs).2 + (x.toNat : Int) * size p (k + 1)) =
      (List.map (upL (p 0).2) ((LY (tl p 1) (k + 1) xs).1 ++ lyN (LY (tl p 1) (k + 1) xs).2 (size (tl p 1) k) k x.toNat), ((LY (tl p 1) (k + 1) xs).2 + (x.toNat : Int) * size (tl p 1) k) * (p 0).2)
    rw [LY_tl p (k + 1) xs, size_tl, List.map_append]
    generalize (LY (tl p 1) (k + 1) xs).2 = l
    generalize size (tl p 1) k = s
    generalize (p 0).2 = b
    have e1 : ∀ i : Int, i * (b * s) = i * s * b := fun i => by rw [Int.mul_comm b s, Int.mul_assoc]
    congr 1
    · congr 1
      unfold lyN
      rw [List.map_map]
      refine List.map_congr_left fun i _ => ?_
      show _ = ((l + (i : Int) * s + 1 - 1) * b + 1, (l + (i : Int) * s + s) * b, (k : Int) + 1)
      have h1 : l * b + (i : Int) * (b * s) + 1 = (l + (i : Int) * s + 1 - 1) * b + 1 := by
        rw [e1]
        have : l + (i : Int) * s + 1 - 1 = l + (i : Int) * s := by omega
        rw [this, Int.add_mul]
      have h2 : l * b + (i : Int) * (b * s) + b * s = (l + (i : Int) * s + s) * b := by
        rw [e1, Int.add_mul, Int.add_mul, Int.mul_comm b s]
      have h3 : (((k + 1 : Nat)) : Int) = (k : Int) + 1 := by omega
      rw [h1, h2, h3]
    · rw [e1, Int.add_mul]
theorem layersL_tl {p : Pr} (g : Good p) {d : Int} (hd : 0 ≤ d) : ∃ r, layersL p d = (layersL (tl p 1) (late p d)).map (upL (p 0).2) ++ r := by
  unfold layersL
  by_cases c : d ≤ 0
  · have e : d = 0 := by omega
    subst e
    have h1 := g.lo 0
    have h2 := g.le 0
    have := neg_ediv_le (a := 0 - (p 0).1 + (p 0).2) (s := (p 0).2) (by omega) (by omega)
    have e : late p 0 = 0 := by unfold late; omega
    rw [e, digits_zero p (by omega), digits_zero (tl p 1) (by omega)]
    exact ⟨[], rfl⟩
  · rw [digits_pos g (by omega)]
    exact ⟨lyN (LY p 1 (digits (tl p 1) (late p d))).2 (size p 0) 0 (d - (p 0).2 * late p d).toNat, by
      show (LY p (0 + 1) (digits (tl p 1) (late p d))).1 ++ _ = _
      rw [LY_tl]⟩
theorem LY_len (p : Pr) : ∀ (k : Nat) (xs : List Int), (∀ x ∈ xs, x ≤ 12) → (LY p k xs).1.length ≤ 12 * xs.length
  | _, [], _ => by simp [LY]
  | k, x :: xs, h => by
    show ((LY p (k + 1) xs).1 ++ lyN (LY p (k + 1) xs).2 (size p k) k x.toNat).length ≤ _
    rw [List.length_append, List.length_cons]
    have h1 := LY_len p (k + 1) xs fun y hy => h y (List.mem_cons_of_mem _ hy)
    have h2 := h x List.mem_cons_self
    have h3 : (lyN (LY p (k + 1) xs).2 (size p k) k x.toNat).length = x.toNat := by unfold lyN; simp
    omega
/-! ### places -/
def PL (p : Pr) (day : Int) : Nat → List Int → Sum (Int × Int) (Int × Int)
  | _, [] => .inr (0, 0)
  | k, x :: xs => match PL p day (k + 1) xs with
    | .inl r => .inl r
    | .inr (l, n) => if day ≤ l + size p k * x then .inl ((k : Int), n + (day - l - 1) / size p k) else .inr (l + size p k * x, n + x)
theorem PL_step {p : Pr} {day : Int} {k : Nat} {x : Int} {xs : List Int} {l n : Int} (h : PL p day (k + 1) xs = .inr (l, n)) :
    PL p day k (x :: xs) = if day ≤ l + size p k * x then .inl ((k : Int), n + (day - l - 1) / size p k) else .inr (l + size p k * x, n + x) := by
  unfold PL
  rw [h]
theorem PL_keep {p : Pr} {day : Int} {k : Nat} {x : Int} {xs : List Int} {r : Int × Int} (h : PL p day (k + 1) xs = .inl r) : PL p day k (x :: xs) = .inl r := by
  unfold PL
  rw [h]
/-- found at a grade: found -/
theorem PL_down {p : Pr} {day : Int} {r : Int × Int} {ds : List Int} : ∀ (j : Nat), j ≤ ds.length → PL p day j (ds.drop j) = .inl r → PL p day 0 ds = .inl r
  | 0, _, h => by simpa using h
  | j + 1, hj, h => by
    refine PL_down j (by omega) ?_
    rw [List.drop_eq_getElem_cons (by omega : j < ds.length)]
    exact PL_keep h
theorem PL_sv {p : Pr} {day : Int} : ∀ (k : Nat) (xs : List Int) (l n : Int), PL p day k xs = .inr (l, n) → l = sv p k xs ∧ (xs = [] ∨ l < day)
  | _, [], l, n, h => by
    have h' : (0, 0) = (l, n) := Sum.inr.inj h
    exact ⟨(Prod.mk.inj h').1.symm, .inl rfl⟩
  | k, x :: xs, l, n, h => by
    cases e : PL p day (k + 1) xs with
    | inl r => rw [PL_keep e] at h; cases h
    | inr r =>
      obtain ⟨l1, n1⟩ := r
      rw [PL_step e] at h
      have q := PL_sv (k + 1) xs l1 n1 e
      by_cases c : day ≤ l1 + size p k * x
      · rw [if_pos c] at h; cases h
      · rw [if_neg c] at h
        have h' := Prod.mk.inj (Sum.inr.inj h)
        refine ⟨?_, .inr (by omega)⟩
        show l = size p k * x + sv p (k + 1) xs
        rw [← h'.1, q.1]; omega
theorem sv_nn {p : Pr} (g : Good p) : ∀ (k : Nat) (xs : List Int), (∀ x ∈ xs, 0 ≤ x) → 0 ≤ sv p k xs
  | _, [], _ => Int.le_refl _
  | k, x :: xs, h => by
    have h1 := sv_nn g (k + 1) xs fun y hy => h y (List.mem_cons_of_mem _ hy)
    have h2 : 0 ≤ size p k * x := Int.mul_nonneg (by have := size_pos g k; omega) (h x List.mem_cons_self)
    show 0 ≤ size p k * x + sv p (k + 1) xs
    omega
theorem PL_inl_le {p : Pr} (g : Good p) {day : Int} : ∀ (k : Nat) (xs : List Int) (r : Int × Int), (∀ x ∈ xs, 0 ≤ x) → PL p day k xs = .inl r → day ≤ sv p k xs ∧ (k : Int) ≤ r.1
  | _, [], r, _, h => by cases h
  | k, x :: xs, r, hx, h => by
    have h2 : 0 ≤ size p k * x := Int.mul_nonneg (by have := size_pos g k; omega) (hx x List.mem_cons_self)
    show day ≤ size p k * x + sv p (k + 1) xs ∧ _
    cases e : PL p day (k + 1) xs with
    | inl r1 =>
      rw [PL_keep e] at h
      cases h
      have q := PL_inl_le g (k + 1) xs r (fun y hy => hx y (List.mem_cons_of_mem _ hy)) e
      omega
    | inr r1 =>
      obtain ⟨l1, n1⟩ := r1
      rw [PL_step e] at h
      have q := PL_sv (k + 1) xs l1 n1 e
      by_cases c : day ≤ l1 + size p k * x
      · rw [if_pos c] at h
        have h' := Sum.inl.inj h
        rw [← h']
        exact ⟨by omega, Int.le_refl _⟩
      · rw [if_neg c] at h; cases h
theorem PL_tl {p : Pr} (g : Good p) (day : Int) : ∀ (k : Nat) (xs : List Int), PL p day (k + 1) xs = match PL (tl p 1) ((day + (p 0).2 - 1) / (p 0).2) k xs with
    | .inl (gr, n) => .inl (gr + 1, n)
    | .inr (l, n) => .inr ((p 0).2 * l, n)
  | _, [] => by simp [PL]
  | k, x :: xs => by
    have ih := PL_tl g day (k + 1) xs
    have hb := g.lo 0
    cases e : PL (tl p 1) ((day + (p 0).2 - 1) / (p 0).2) (k + 1) xs with
    | inl r =>
      obtain ⟨gr, n⟩ := r
      rw [e] at ih
      rw [PL_keep ih, PL_keep e]
    | inr r =>
      obtain ⟨l, n⟩ := r
      rw [e] at ih
      rw [PL_step ih, PL_step e, size_tl]
      have hs := size_pos (g.tl 1) k
      generalize size (tl p 1) k = s at *
      generalize (p 0).2 = b at *
      have hb0 : 0 < b := by omega
      have f1 := Int.emod_add_mul_ediv (day + b - 1) b
      have f2 := Int.emod_nonneg (day + b - 1) (by omega : b ≠ 0)
      have f3 := Int.emod_lt_of_pos (day + b - 1) hb0
      generalize hq : (day + b - 1) / b = q at *
      generalize hr : (day + b - 1) % b = r at *
      have e1 : b * l + b * s * x = b * (l + s * x) := by rw [Int.mul_add, Int.mul_assoc]
      have hc : (day ≤ b * l + b * s * x) ↔ (q ≤ l + s * x) := by
        rw [e1]
        constructor
        · intro z
          have : b * q < b * (l + s * x + 1) := by rw [Int.mul_add]; omega
          have := Int.lt_of_mul_lt_mul_left this (by omega)
          omega
        · intro z
          have : b * q ≤ b * (l + s * x) := Int.mul_le_mul_of_nonneg_left z (by omega)
          omega
      by_cases c : q ≤ l + s * x
      · rw [if_pos c, if_pos (hc.mpr c)]
        have e2 : (day - b * l - 1) / (b * s) = (q - l - 1) / s := by
          have e3 : day - b * l - 1 = (day - 1) - b * l := by omega
          rw [e3, ediv_shift hb0 hs]
          congr 1
          have : day - 1 = (r - (0 : Int)) + b * (q - 1) := by rw [Int.mul_sub]; omega
          rw [this, Int.add_mul_ediv_left _ _ (by omega : b ≠ 0), Int.sub_zero, Int.ediv_eq_zero_of_lt f2 f3]
          omega
        rw [e2]
        have : (((k + 1 : Nat)) : Int) = (k : Int) + 1 := by omega
        rw [this]
      · rw [if_neg c, if_neg (fun z => c (hc.mp z)), e1]
theorem valid_le {p : Pr} (g : Good p) {ds : List Int} (v : Valid p ds) : ∀ x ∈ ds, 0 ≤ x ∧ x ≤ 12 := by
  intro x hx
  obtain ⟨i, hi, e⟩ := List.mem_iff_getElem.mp hx
  have q := valid_get ds p i x v (by rw [List.getElem?_eq_getElem hi, e])
  have h1 := g.lo i
  have h2 := g.le i
  have h3 := g.hi i
  refine ⟨?_, by omega⟩
  have := q.2
  split at this <;> omega
theorem digits_len {p : Pr} (g : Good p) : ∀ (n : Nat) (d : Int), 0 ≤ d → d < ((2 ^ n : Nat) : Int) → (digits p d).length ≤ n
  | 0, d, h0, h => by
    have : d = 0 := by simp at h; omega
    subst this
    rw [digits_zero p (by omega)]
    exact Nat.le_refl _
  | n + 1, d, h0, h => by
    by_cases c : d ≤ 0
    · rw [digits_zero p c]; exact Nat.zero_le _
    · rw [digits_pos g (by omega), List.length_cons]
      have l0 := late_nn p d
      have l2 : late p d * 2 ≤ d := by
        have h1 := g.lo 0
        have h2 := g.le 0
        unfold late
        by_cases q : 0 ≤ (d - (p 0).1 + (p 0).2) / (p 0).2
        · have e : max 0 ((d - (p 0).1 + (p 0).2) / (p 0).2) = (d - (p 0).1 + (p 0).2) / (p 0).2 := by omega
          rw [e]
          have e3 := Int.ediv_mul_le (d - (p 0).1 + (p 0).2) (by omega : (p 0).2 ≠ 0)
          have e4 : (d - (p 0).1 + (p 0).2) / (p 0).2 * 2 ≤ (d - (p 0).1 + (p 0).2) / (p 0).2 * (p 0).2 := Int.mul_le_mul_of_nonneg_left h1 q
          omega
        · have e : max 0 ((d - (p 0).1 + (p 0).2) / (p 0).2) = 0 := by omega
          rw [e]; omega
      have e : ((2 ^ (n + 1) : Nat) : Int) = ((2 ^ n : Nat) : Int) * 2 := by rw [Nat.pow_succ]; omega
      rw [e] at h
      have := digits_len (g.tl 1) n (late p d) l0 (by omega)
      omega
end Silt
set_option linter.all false
namespace Silt
/-- the item of a grade, told by a front and a period -/
def atO {α : Type} (f q : List α) (g : Nat) : Option α := if g < f.length then f[g]? else q[(g - f.length) % q.length]?
theorem atO_some {α : Type} {f q : List α} (hq : q ≠ []) (g : Nat) : ∃ x, atO f q g = some x ∧ (x ∈ f ∨ x ∈ q) := by
  unfold atO
  by_cases c : g < f.length
  · rw [if_pos c, List.getElem?_eq_getElem c]
    exact ⟨_, rfl, .inl (List.getElem_mem c)⟩
  · rw [if_neg c]
    have h0 : 0 < q.length := List.length_pos_iff.mpr hq
    have h1 : (g - f.length) % q.length < q.length := Nat.mod_lt _ h0
    rw [List.getElem?_eq_getElem h1]
    exact ⟨_, rfl, .inr (List.getElem_mem h1)⟩
/-- the last of the front goes ahead of the period -/
theorem atO_turn {α : Type} (f q : List α) (x : α) (g : Nat) : atO f (x :: q) g = atO (f ++ [x]) (q ++ [x]) g := by
  unfold atO
  rw [List.length_append, List.length_singleton, List.length_append, List.length_singleton, List.length_cons]
  by_cases c : g < f.length
  · rw [if_pos c, if_pos (by omega), List.getElem?_append_left c]
  · rw [if_neg c]
    by_cases c2 : g = f.length
    · subst c2
      rw [if_pos (by omega), Nat.sub_self, Nat.zero_mod, List.getElem?_append_right (Nat.le_refl _), Nat.sub_self]
      rfl
    · rw [if_neg (by omega)]
      obtain ⟨j, hj⟩ : ∃ j, g - f.length = j + 1 := ⟨g - f.length - 1, by omega⟩
      have hj2 : g - (f.length + 1) = j := by omega
      rw [hj, hj2]
      have hn : 0 < q.length + 1 := Nat.succ_pos _
      have hlt := Nat.mod_lt j hn
      by_cases c3 : j % (q.length + 1) = q.length
      · have e : (j + 1) % (q.length + 1) = 0 := by
          rw [Nat.add_mod, c3]
          by_cases z : q.length = 0
          · rw [z]
          · rw [Nat.mod_eq_of_lt (by omega : 1 < q.length + 1), Nat.mod_self]
        rw [e, c3, List.getElem?_append_right (Nat.le_refl _), Nat.sub_self]
        rfl
      · have e : (j + 1) % (q.length + 1) = j % (q.length + 1) + 1 := by
          rw [Nat.add_mod]
          by_cases z : q.length = 0
          · rw [z] at hlt c3; omega
          · rw [Nat.mod_eq_of_lt (by omega : 1 < q.length + 1), Nat.mod_eq_of_lt (by omega)]
        rw [e, List.getElem?_cons_succ, List.getElem?_append_left (by omega)]
theorem flat_get {α : Type} (r : List α) (h : r ≠ []) : ∀ (k i : Nat), i < k * r.length → (List.replicate k r).flatten[i]? = r[i % r.length]?
  | 0, i, hi => by simp at hi
  | k + 1, i, hi => by
    have h0 : 0 < r.length := List.length_pos_iff.mpr h
    rw [List.replicate_succ, List.flatten_cons]
    by_cases c : i < r.length
    · rw [List.getElem?_append_left c, Nat.mod_eq_of_lt c]
    · rw [List.getElem?_append_right (by omega), flat_get r h k (i - r.length) (by rw [Nat.succ_mul] at hi; omega)]
      congr 1
      rw [Nat.mod_eq_sub_mod (by omega : i ≥ r.length)]
theorem flat_len {α : Type} (r : List α) (k : Nat) : (List.replicate k r).flatten.length = k * r.length := by
  induction k with
  | zero => simp
  | succ k ih => rw [List.replicate_succ, List.flatten_cons, List.length_append, ih, Nat.succ_mul]; omega
/-- a period told several times over -/
theorem atO_rep {α : Type} (f r : List α) (h : r ≠ []) {k : Nat} (hk : 0 < k) (g : Nat) : atO f r g = atO f (List.replicate k r).flatten g := by
  unfold atO
  by_cases c : g < f.length
  · rw [if_pos c, if_pos c]
  · rw [if_neg c, if_neg c, flat_len]
    have h0 : 0 < r.length := List.length_pos_iff.mpr h
    have h1 : (g - f.length) % (k * r.length) < k * r.length := Nat.mod_lt _ (Nat.mul_pos hk h0)
    rw [flat_get r h k _ h1, Nat.mod_mul_left_mod]
end Silt
set_option Elab.async false
set_option linter.all false
set_option maxRecDepth 100000
set_option maxHeartbeats 4000000
namespace Sl
open PySem L2 C8 StX Silt
local macro_rules | `(tactic| walk_at "side") => `(tactic| first
  | exact cdivw (by omega) (by omega)
  | exact cmulw (by omega) (by omega) (by omega) (by omega)
  | exact Or.inr ⟨by omega, by omega⟩
  | exact Or.inl ⟨by omega, by omega⟩
  | omega
  | exact ⟨by omega, by omega, by decide⟩
  | decide)
local macro_rules | `(tactic| walk_at "rd1") => `(tactic| first
  | with_reducible refine rd_seq ?_
  | with_reducible refine rd_asg ?_
  | with_reducible refine rd_drop ?_
  | with_reducible refine rd_ret ?_
  | with_reducible refine rd_retN ?_
  | with_reducible refine rd_ifS ?_
  | ((with_reducible refine rd_var0 ?_); refine ⟨_, rfl, ?_⟩)
  | with_reducible refine rd_c ?_
  | with_reducible refine rd_op ?_
  | with_reducible refine rd_un ?_
  | with_reducible refine rd_I0 ?_
  | with_reducible refine rd_U ?_
  | ((with_reducible refine rd_I ?c ?_); (case c => walk_at "side"))
  | with_reducible refine rd_ipI ?_
  | with_reducible refine rd_eqI ?_
  | with_reducible refine rd_neI ?_
  | with_reducible refine rd_test ?_
  | with_reducible refine rd_tB ?_
  | with_reducible refine rd_bl ?_
  | with_reducible refine rd_not ?_
  | with_reducible refine rd_and ?_
  | with_reducible refine rd_or ?_
  | with_reducible refine rd_andV ?_
  | with_reducible refine rd_orV ?_
  | with_reducible refine rd_notV ?_
  | with_reducible refine rd_ifE ?_
  | with_reducible refine rd_chain ?_
  | with_reducible refine rd_chain3 ?_
  | with_reducible refine rd_nil ?_
  | with_reducible refine rd_cons ?_
  | with_reducible refine rd_call ?_
  | with_reducible refine rd_CB ?_
  | with_reducible refine rd_par ?_
  | with_reducible refine rd_par2 ?_
  | with_reducible refine rd_par3 ?_
  | with_reducible refine rd_par4 ?_
  | ((with_reducible refine rd_aug0 ?_); refine ⟨_, rfl, ?_⟩)
  | with_reducible refine rd_gname ?_
  | with_reducible refine rd_gcons ?_
  | with_reducible refine rd_gnil ?_
  | with_reducible refine rd_max ?_
  | with_reducible refine rd_min ?_
  | with_reducible refine rd_int1 ?_
  | with_reducible refine rd_abs ?_
  | with_reducible refine rd_lst ?_
  | with_reducible refine rd_tup ?_
  | with_reducible refine rd_bm ?_
  | with_reducible refine rd_fld0 ?_
  | with_reducible refine rd_sl0 ?_
  | with_reducible refine rd_noP ?_
  | with_reducible refine rd_part ?_
  | with_reducible refine rd_part2 ?_
  | with_reducible refine rd_meth0 ?_
  | with_reducible refine rd_star ?_
  | with_reducible refine rd_for ?_
  | with_reducible refine rd_rng1 ?_
  | with_reducible refine rd_rng2 ?_
  | with_reducible refine rd_rng3 ?_
  | with_reducible refine rd_iList ?_
  | with_reducible refine rd_iTup ?_
  | with_reducible refine rd_iEnum ?_
  | with_reducible refine rd_lc ?_
  | with_reducible refine rd_yes ?_
  | with_reducible refine rd_augS ?_
  | with_reducible refine rd_drawNew ?_
  | with_reducible refine rd_make0 ?_
  | with_reducible refine rd_next ?_
  | with_reducible refine rd_break ?_
  | with_reducible refine rd_cont ?_
  | with_reducible refine rd_iteTT ?_
  | with_reducible refine rd_iteFF ?_
  | with_reducible refine rd_iteNTT ?_
  | with_reducible refine rd_iteNFF ?_
  | with_reducible refine rd_con0 ?_
  | with_reducible refine rd_truO0 ?_
  | with_reducible refine rd_gfld0 ?_
  | with_reducible refine rd_dc ?_
  | with_reducible refine rd_iKeys ?_
  | with_reducible refine rd_dget0 ?_
  | with_reducible refine rd_dput0 ?_
  | with_reducible refine rd_dnot0 ?_
  | with_reducible refine rd_iEnumT ?_
  | with_reducible refine rd_raP0 ?_
  | with_reducible refine rd_xf0 ?_
  | with_reducible refine rd_cKw ?_
  | with_reducible refine rd_iStr ?_
  | with_reducible refine rd_gSub ?_
  | with_reducible refine rd_asgG ?_)
local macro_rules | `(tactic| walk_at "rd") => `(tactic| repeat walk_at "rd1")
local macro_rules | `(tactic| walk_at "len") => `(tactic| first
  | (intro vs H Q E h; obtain ⟨h2, _⟩ := h; rw [h2]; rfl)
  | (intro vs H Q E h; obtain ⟨_, h2, _⟩ := h; rw [h2]; rfl)
  | (intro vs H Q E h; obtain ⟨_, _, h2, _⟩ := h; rw [h2]; rfl)
  | (intro vs H Q E h; obtain ⟨_, _, _, h2, _⟩ := h; rw [h2]; rfl)
  | (intro vs H Q E h; obtain ⟨_, _, _, _, h2, _⟩ := h; rw [h2]; rfl)
  | (intro vs H Q E h; obtain ⟨_, _, _, _, _, h2, _⟩ := h; rw [h2]; rfl)
  | (intro vs H Q E h; obtain ⟨_, _, _, _, _, _, h2, _⟩ := h; rw [h2]; rfl)
  | (intro vs H Q E h; obtain ⟨_, _, _, _, _, _, _, h2, _⟩ := h; rw [h2]; rfl)
  | (intro vs H Q E h; obtain ⟨_, _, _, _, _, _, _, _, h2, _⟩ := h; rw [h2]; rfl)
  | (intro vs H Q E h; obtain ⟨_, _, _, _, _, _, _, _, _, h2, _⟩ := h; rw [h2]; rfl)
  | (intro vs H Q E h; obtain ⟨_, _, _, _, _, _, _, _, _, _, h2, _⟩ := h; rw [h2]; rfl)
  | (intro vs H Q E h; obtain ⟨_, _, _, _, _, _, _, _, _, _, _, h2, _⟩ := h; rw [h2]; rfl)
  | (intro vs H Q E h; obtain ⟨_, _, _, _, _, _, _, _, _, _, _, _, h2, _⟩ := h; rw [h2]; rfl))
section
variable {σ : L2.St} {H H' : Hp} {Q : VK} {K : PySem.W.Frag} {te : TE} {v : V} {f : Str}
theorem rd_isiI {i : Int} (h : Q (.bl true) H) : rIsi K [.int i, .ty "int"] H Q := ⟨_, _, _, _, true, rfl, .ty _, .base (.int i), kit_ty (by decide +kernel), h⟩
theorem rd_isiIB {i : Int} (h : Q (.bl false) H) : rIsi K [.int i, .ty "bool"] H Q := ⟨_, _, _, _, false, rfl, .ty _, .base (.int i), kit_ty (by decide +kernel), h⟩
theorem rd_isiT {a : Addr} {xs : List V} (e : H a = some (.tup xs)) (h : Q (.bl true) H) : rIsi K [.ref a, .ty "tuple"] H Q := ⟨_, _, _, _, true, rfl, .ty _, .base (.tup e), kit_ty (by decide +kernel), h⟩
end
/-! ### the data -/
def pairsD (l : List (Int × Int)) : List PyData := l.map pairD
def atp (f q : List (Int × Int)) : Pr := fun g => if g < f.length then f.getD g (0, 0) else q.getD ((g - f.length) % q.length) (0, 0)
def rf (t1 t2 : Addr) : List (Str × V) := [("front", .ref t1), ("period", .ref t2)]
theorem rf_front (t1 t2 : Addr) : (rf t1 t2).lookup ("front" : Str) = some (.ref t1) := by rfl
theorem rf_period (t1 t2 : Addr) : (rf t1 t2).lookup ("period" : Str) = some (.ref t2) := by rfl
/-- an instance at a whose front and period are the tuples of f and q -/
def RuleAt (C : Addr) (H : Hp) (a : Addr) (f q : List PyData) : Prop := ∃ dx t1 t2, H a = some (.ins C dx (rf t1 t2)) ∧ Dt H (.ref t1) (.tuple f) ∧ Dt H (.ref t2) (.tuple q)
theorem RuleAt.mono {C : Addr} {H H' : Hp} {a : Addr} {f q : List PyData} (s : Same H H') (h : RuleAt C H a f q) : RuleAt C H' a f q := by
  obtain ⟨dx, t1, t2, e, h1, h2⟩ := h
  exact ⟨dx, t1, t2, s _ _ e, h1.mono s, h2.mono s⟩
/-- a rule -/
def RuleP (C : Addr) (H : Hp) (a : Addr) (p : Pr) : Prop := ∃ f q, RuleAt C H a (pairsD f) (pairsD q) ∧ q ≠ [] ∧ p = atp f q ∧ Good p
theorem RuleP.mono {C : Addr} {H H' : Hp} {a : Addr} {p : Pr} (s : Same H H') (h : RuleP C H a p) : RuleP C H' a p := by
  obtain ⟨f, q, h1, h2, h3, h4⟩ := h
  exact ⟨f, q, h1.mono s, h2, h3, h4⟩
theorem RuleP.good {C : Addr} {H : Hp} {a : Addr} {p : Pr} (h : RuleP C H a p) : Good p := by obtain ⟨_, _, _, _, _, g⟩ := h; exact g
theorem RuleP.ins {C : Addr} {H : Hp} {a : Addr} {p : Pr} (h : RuleP C H a p) : ∃ dx t1 t2, H a = some (.ins C dx (rf t1 t2)) := by
  obtain ⟨_, _, ⟨dx, t1, t2, e, _, _⟩, _⟩ := h
  exact ⟨dx, t1, t2, e⟩
theorem Dt.tup_inv {H : Hp} {t : Addr} {ds : List PyData} (h : Dt H (.ref t) (.tuple ds)) : ∃ xs, H t = some (.tup xs) ∧ DtAll H xs ds := by
  cases h with
  | tup e h => exact ⟨_, e, h⟩
theorem Dt.lst_inv {H : Hp} {t : Addr} {ds : List PyData} (h : Dt H (.ref t) (.list ds)) : ∃ xs, H t = some (.lst xs) ∧ DtAll H xs ds := by
  cases h with
  | lst e h => exact ⟨_, e, h⟩
theorem Dt.pair_inv {H : Hp} {v : V} {q : Int × Int} (h : Dt H v (pairD q)) : ∃ t, v = .ref t ∧ H t = some (.tup [.int q.1, .int q.2]) := by
  unfold pairD at h
  cases h with
  | tup e h =>
    cases h with
    | cons h1 h2 =>
      cases h1
      cases h2 with
      | cons h1 h2 =>
        cases h1
        cases h2
        exact ⟨_, rfl, e⟩
theorem atI_nat' {α : Type} {xs : List α} {i : Nat} {x : α} (h : xs[i]? = some x) : atI xs (i : Int) = some x := by
  exact atI_nat h
/-! ### promises -/
def spWhole : Sp := fun vs H Q _ => ∃ i : Int, vs = [.int i] ∧ Q (.bl true) H
def spChkR (C : Addr) : Sp := fun vs H Q _ => ∃ a p, vs = [.ref a] ∧ RuleP C H a p ∧ Q .non H
def spChkN : Sp := fun vs H Q _ => ∃ i j : Int, vs = [.int i, .int j] ∧ j ≤ i ∧ Q .non H
def spGet (C : Addr) : Sp := fun vs H Q _ => ∃ (a : Addr) (p : Pr) (g : Int), vs = [.ref a, .int g] ∧ RuleP C H a p ∧ 0 ≤ g ∧ ∀ t, H t = some (.tup [.int (p g.toNat).1, .int (p g.toNat).2]) → Q (.ref t) H
section
variable {P : Program} {w : World} {K : PySem.W.Frag} {mg : Str → Option Value} {base : Heap} {C_Rule C_Reader C_BadText : Addr}
theorem cal_is_whole (T : TX P K mg C_Rule C_Reader C_BadText) : Cal P w K mg base 1 "is_whole" spWhole [] := by
  obtain ⟨f0, fd, D, dn⟩ := T.d_is_whole
  refine cal0 D (D.fn.binds dn fun _ _ _ _ _ _ us hl => match us, hl with | [_], _ => rfl) .nil sc_is_whole (by walk_at "len") (fun cdv A outer s H vs Q E hr h => ?_)
  obtain ⟨i, rfl, k⟩ := h
  refine ⟨_, (pss_one (ps_ret (pe_and (pe_callB call_isi (by rfl) T.b_isinstance (by decide +kernel) (pa_cons (pv 0) (pa_cons (pe_bltn (v := .ty "int") (u := .type "int") rfl T.b_int (by decide +kernel) rfl) pa_nil))) (pe_one (pe_not (pe_callB call_isi (by rfl) T.b_isinstance (by decide +kernel) (pa_cons (pv 0) (pa_cons (pe_bltn (v := .ty "bool") (u := .type "bool") rfl T.b_bool (by decide +kernel) rfl) pa_nil)))))))), ?_⟩
  walk_at "rd"
  refine rd_isiI ?_
  walk_at "rd"
  refine rd_isiIB ?_
  walk_at "rd"
  exact k
theorem cal_check_rule (T : TX P K mg C_Rule C_Reader C_BadText) : Cal P w K mg base 1 "check_rule" (spChkR C_Rule) [] := by
  obtain ⟨f0, fd, D, dn⟩ := T.d_check_rule
  refine cal0 D (D.fn.binds dn fun _ _ _ _ _ _ us hl => match us, hl with | [_], _ => rfl) .nil sc_check_rule (by walk_at "len") (fun cdv A outer s H vs Q E hr h => ?_)
  obtain ⟨a, p, rfl, hp, k⟩ := h
  obtain ⟨dx, t1, t2, e⟩ := hp.ins
  refine ⟨_, (pss_one (ps_if (pt_not (pt_val (pe_callB (cr_isC T.i_Rule) (by rfl) T.b_isinstance (by decide +kernel) (pa_cons (pv 0) (pa_cons (pe_gc rfl T.g_Rule) pa_nil))))) (pss_one ps_never) pss_nil)), ?_⟩
  walk_at "rd"
  refine rd_isC e ?_
  walk_at "rd"
  exact k
end
section
variable {P : Program} {w : World} {K : PySem.W.Frag} {mg : Str → Option Value} {base : Heap} {C_Rule C_Reader C_BadText : Addr}
theorem met_Rule_getitem (T : TX P K mg C_Rule C_Reader C_BadText) : Met P w K mg base 1 C_Rule "__getitem__" (spGet C_Rule) [] := by
  obtain ⟨f0, fd, D, dn, me, _⟩ := T.m_Rule_getitem
  refine met0 T.cl_Rule me D (D.binds dn fun _ _ _ _ _ _ us hl => match us, hl with | [_, _], _ => rfl) sc_Rule_getitem (by walk_at "len") (fun cdv A outer s H vs Q E hr h => ?_)
  obtain ⟨a, p, g, rfl, ⟨f, q, ⟨dx, t1, t2, e, h1, h2⟩, hq, rfl, gd⟩, hg, k⟩ := h
  obtain ⟨xs1, e1, d1⟩ := h1.tup_inv
  obtain ⟨xs2, e2, d2⟩ := h2.tup_inv
  have l1 : xs1.length = f.length := by rw [d1.length]; simp [pairsD]
  have l2 : xs2.length = q.length := by rw [d2.length]; simp [pairsD]
  have q0 : 0 < q.length := by cases q with | nil => exact absurd rfl hq | cons _ _ => exact Nat.succ_pos _
  obtain ⟨n, rfl⟩ : ∃ n : Nat, g = n := ⟨g.toNat, by omega⟩
  simp only [Int.toNat_natCast] at k
  refine ⟨_, (pss_cons (ps_if (pt_cmpR op_lt (pv 1) (pe_callB cr_lenS (by rfl) T.b_len (by decide +kernel) (pa_cons (pe_fld (pv 0) rfl) pa_nil)) (nomark _)) (pss_one (ps_ret (pe_ix ix_tup (pe_fld (pv 0) rfl) (pv 1) (fun _ _ => rfl)))) pss_nil)
      (pss_one (ps_ret (pe_ix ix_tup (pe_fld (pv 0) rfl) (pe_op op_modN (pe_op op_sub (pv 1) (pe_callB cr_lenS (by rfl) T.b_len (by decide +kernel) (pa_cons (pe_fld (pv 0) rfl) pa_nil))) (pe_callB cr_lenS (by rfl) T.b_len (by decide +kernel) (pa_cons (pe_fld (pv 0) rfl) pa_nil))) (fun _ _ => rfl))))), ?_⟩
  walk_at "rd"
  refine rd_fld e T.cl_Rule T.na_Rule_front (rf_front _ _) ?_
  walk_at "rd"
  refine rd_lenT e1 ?_
  walk_at "rd"
  refine rd_ite (fun c => ?_) (fun c => ?_)
  · walk_at "rd"
    refine rd_fld e T.cl_Rule T.na_Rule_front (rf_front _ _) ?_
    walk_at "rd"
    have hn : n < f.length := by omega
    obtain ⟨v, hv, dv⟩ := d1.get (i := n) (d := pairD (f[n])) (by simp [pairsD, hn])
    obtain ⟨t, rfl, et⟩ := dv.pair_inv
    refine rd_ixT e1 (atI_nat' hv) (k t ?_)
    rw [et]
    simp [atp, hn, List.getD_eq_getElem?_getD]
  · walk_at "rd"
    refine rd_fld e T.cl_Rule T.na_Rule_period (rf_period _ _) ?_
    walk_at "rd"
    refine rd_fld e T.cl_Rule T.na_Rule_front (rf_front _ _) ?_
    walk_at "rd"
    refine rd_lenT e1 ?_
    walk_at "rd"
    refine rd_fld e T.cl_Rule T.na_Rule_period (rf_period _ _) ?_
    walk_at "rd"
    refine rd_lenT e2 ?_
    walk_at "rd"
    have hn : ¬ n < f.length := by omega
    have hm : ((n : Int) - (xs1.length : Int)).fmod (xs2.length : Int) = (((n - f.length) % q.length : Nat) : Int) := by
      rw [l1, l2, Int.fmod_eq_emod_of_nonneg _ (by omega)]
      rw [show (n : Int) - (f.length : Int) = ((n - f.length : Nat) : Int) by omega]
      exact (Int.natCast_emod _ _).symm
    rw [hm]
    have hlt : (n - f.length) % q.length < q.length := Nat.mod_lt _ q0
    obtain ⟨v, hv, dv⟩ := d2.get (i := (n - f.length) % q.length) (d := pairD (q[(n - f.length) % q.length])) (by simp [pairsD, hlt])
    obtain ⟨t, rfl, et⟩ := dv.pair_inv
    refine rd_ixT e2 (atI_nat' hv) (k t ?_)
    rw [et]
    simp [atp, hn, hlt, List.getD_eq_getElem?_getD]
end
end Sl
set_option Elab.async false
set_option linter.all false
set_option maxRecDepth 100000
set_option maxHeartbeats 4000000
set_option exponentiation.threshold 9000
namespace Sl
open PySem L2 C8 StX Silt
local macro_rules | `(tactic| walk_at "side") => `(tactic| first
  | exact cdivw (by omega) (by omega)
  | exact cmulw (by omega) (by omega) (by omega) (by omega)
  | exact Or.inr ⟨by omega, by omega⟩
  | exact Or.inl ⟨by omega, by omega⟩
  | omega
  | exact ⟨by omega, by omega, by decide⟩
  | decide)
local macro_rules | `(tactic| walk_at "rd1") => `(tactic| first
  | with_reducible refine rd_seq ?_
  | with_reducible refine rd_asg ?_
  | with_reducible refine rd_drop ?_
  | with_reducible refine rd_ret ?_
  | with_reducible refine rd_retN ?_
  | with_reducible refine rd_ifS ?_
  | ((with_reducible refine rd_var0 ?_); refine ⟨_, rfl, ?_⟩)
  | with_reducible refine rd_c ?_
  | with_reducible refine rd_op ?_
  | with_reducible refine rd_un ?_
  | with_reducible refine rd_I0 ?_
  | with_reducible refine rd_U ?_
  | ((with_reducible refine rd_I ?c ?_); (case c => walk_at "side"))
  | with_reducible refine rd_ipI ?_
  | with_reducible refine rd_eqI ?_
  | with_reducible refine rd_neI ?_
  | with_reducible refine rd_test ?_
  | with_reducible refine rd_tB ?_
  | with_reducible refine rd_bl ?_
  | with_reducible refine rd_not ?_
  | with_reducible refine rd_and ?_
  | with_reducible refine rd_or ?_
  | with_reducible refine rd_andV ?_
  | with_reducible refine rd_orV ?_
  | with_reducible refine rd_notV ?_
  | with_reducible refine rd_ifE ?_
  | with_reducible refine rd_chain ?_
  | with_reducible refine rd_chain3 ?_
  | with_reducible refine rd_nil ?_
  | with_reducible refine rd_cons ?_
  | with_reducible refine rd_call ?_
  | with_reducible refine rd_CB ?_
  | with_reducible refine rd_par ?_
  | with_reducible refine rd_par2 ?_
  | with_reducible refine rd_par3 ?_
  | with_reducible refine rd_par4 ?_
  | ((with_reducible refine rd_aug0 ?_); refine ⟨_, rfl, ?_⟩)
  | with_reducible refine rd_gname ?_
  | with_reducible refine rd_gcons ?_
  | with_reducible refine rd_gnil ?_
  | with_reducible refine rd_max ?_
  | with_reducible refine rd_min ?_
  | with_reducible refine rd_int1 ?_
  | with_reducible refine rd_abs ?_
  | with_reducible refine rd_lst ?_
  | with_reducible refine rd_tup ?_
  | with_reducible refine rd_bm ?_
  | with_reducible refine rd_fld0 ?_
  | with_reducible refine rd_sl0 ?_
  | with_reducible refine rd_noP ?_
  | with_reducible refine rd_part ?_
  | with_reducible refine rd_part2 ?_
  | with_reducible refine rd_meth0 ?_
  | with_reducible refine rd_star ?_
  | with_reducible refine rd_for ?_
  | with_reducible refine rd_rng1 ?_
  | with_reducible refine rd_rng2 ?_
  | with_reducible refine rd_rng3 ?_
  | with_reducible refine rd_iList ?_
  | with_reducible refine rd_iTup ?_
  | with_reducible refine rd_iEnum ?_
  | with_reducible refine rd_lc ?_
  | with_reducible refine rd_yes ?_
  | with_reducible refine rd_augS ?_
  | with_reducible refine rd_drawNew ?_
  | with_reducible refine rd_make0 ?_
  | with_reducible refine rd_next ?_
  | with_reducible refine rd_break ?_
  | with_reducible refine rd_cont ?_
  | with_reducible refine rd_iteTT ?_
  | with_reducible refine rd_iteFF ?_
  | with_reducible refine rd_iteNTT ?_
  | with_reducible refine rd_iteNFF ?_
  | with_reducible refine rd_con0 ?_
  | with_reducible refine rd_truO0 ?_
  | with_reducible refine rd_gfld0 ?_
  | with_reducible refine rd_dc ?_
  | with_reducible refine rd_iKeys ?_
  | with_reducible refine rd_dget0 ?_
  | with_reducible refine rd_dput0 ?_
  | with_reducible refine rd_dnot0 ?_
  | with_reducible refine rd_iEnumT ?_
  | with_reducible refine rd_raP0 ?_
  | with_reducible refine rd_xf0 ?_
  | with_reducible refine rd_cKw ?_
  | with_reducible refine rd_iStr ?_
  | with_reducible refine rd_gSub ?_
  | with_reducible refine rd_asgG ?_)
local macro_rules | `(tactic| walk_at "rd") => `(tactic| repeat walk_at "rd1")
local macro_rules | `(tactic| walk_at "len") => `(tactic| first
  | (intro vs H Q E h; obtain ⟨h2, _⟩ := h; rw [h2]; rfl)
  | (intro vs H Q E h; obtain ⟨_, h2, _⟩ := h; rw [h2]; rfl)
  | (intro vs H Q E h; obtain ⟨_, _, h2, _⟩ := h; rw [h2]; rfl)
  | (intro vs H Q E h; obtain ⟨_, _, _, h2, _⟩ := h; rw [h2]; rfl)
  | (intro vs H Q E h; obtain ⟨_, _, _, _, h2, _⟩ := h; rw [h2]; rfl)
  | (intro vs H Q E h; obtain ⟨_, _, _, _, _, h2, _⟩ := h; rw [h2]; rfl)
  | (intro vs H Q E h; obtain ⟨_, _, _, _, _, _, h2, _⟩ := h; rw [h2]; rfl)
  | (intro vs H Q E h; obtain ⟨_, _, _, _, _, _, _, h2, _⟩ := h; rw [h2]; rfl)
  | (intro vs H Q E h; obtain ⟨_, _, _, _, _, _, _, _, h2, _⟩ := h; rw [h2]; rfl)
  | (intro vs H Q E h; obtain ⟨_, _, _, _, _, _, _, _, _, h2, _⟩ := h; rw [h2]; rfl)
  | (intro vs H Q E h; obtain ⟨_, _, _, _, _, _, _, _, _, _, h2, _⟩ := h; rw [h2]; rfl)
  | (intro vs H Q E h; obtain ⟨_, _, _, _, _, _, _, _, _, _, _, h2, _⟩ := h; rw [h2]; rfl)
  | (intro vs H Q E h; obtain ⟨_, _, _, _, _, _, _, _, _, _, _, _, h2, _⟩ := h; rw [h2]; rfl))
/-- a grade -/
abbrev Gr (g : Int) : Prop := 0 ≤ g ∧ g ≤ 2100
/-- a day, a number -/
abbrev Dy (d : Int) : Prop := 0 ≤ d ∧ d ≤ DD
theorem size_le {p : Pr} (h : Good p) : ∀ g : Nat, size p g ≤ ((12 ^ g : Nat) : Int)
  | 0 => by simp [size]
  | g + 1 => by
    have h1 := size_le h g
    have h2 := size_pos h g
    have h3 : (p g).2 ≤ 12 := by have := h.le g; have := h.hi g; omega
    have h4 := h.lo g
    show size p g * (p g).2 ≤ _
    have e : ((12 ^ (g + 1) : Nat) : Int) = ((12 ^ g : Nat) : Int) * 12 := by rw [Nat.pow_succ]; omega
    rw [e]
    exact Int.mul_le_mul h1 h3 (by omega) (by omega)
theorem owed_le {p : Pr} (h : Good p) : ∀ g : Nat, owed p g ≤ ((12 ^ (g + 1) : Nat) : Int) - 12
  | 0 => by simp [owed]
  | g + 1 => by
    have h1 := owed_le h g
    have h2 := size_le h g
    have h2' := size_pos h g
    have h3 : (p g).1 - (p g).2 ≤ 10 := by have := h.lo g; have := h.hi g; omega
    have h4 : 0 ≤ (p g).1 - (p g).2 := by have := h.le g; omega
    show owed p g + size p g * ((p g).1 - (p g).2) ≤ _
    have h5 : size p g * ((p g).1 - (p g).2) ≤ ((12 ^ g : Nat) : Int) * 10 := Int.mul_le_mul h2 h3 h4 (by omega)
    have e : ((12 ^ (g + 1 + 1) : Nat) : Int) = ((12 ^ g : Nat) : Int) * 144 := by rw [Nat.pow_succ, Nat.pow_succ]; omega
    have e1 : ((12 ^ (g + 1) : Nat) : Int) = ((12 ^ g : Nat) : Int) * 12 := by rw [Nat.pow_succ]; omega
    rw [e]
    rw [e1] at h1
    omega
theorem pow12 {g : Nat} (h : g ≤ 2200) : 12 ^ g ≤ BBn := by
  unfold BBn
  have h1 : (12 : Nat) ^ g ≤ 12 ^ 2200 := Nat.pow_le_pow_right (by decide) h
  have h2 : (12 : Nat) ^ 2200 ≤ 16 ^ 2200 := Nat.pow_le_pow_left (by decide) _
  have h3 : (16 : Nat) ^ 2200 = 2 ^ 8800 := (Nat.pow_mul 2 4 2200).symm
  have h4 : (2 : Nat) ^ 8800 ≤ 2 ^ 8900 := Nat.pow_le_pow_right (by decide) (by decide)
  exact Nat.le_trans h1 (Nat.le_trans h2 (h3 ▸ h4))
theorem size_bb {p : Pr} (h : Good p) {g : Nat} (hg : g ≤ 2200) : size p g ≤ BB := by
  have h1 := size_le h g
  have h2 := pow12 hg
  unfold BB
  omega
theorem owed_bb {p : Pr} (h : Good p) {g : Nat} (hg : g ≤ 2199) : owed p g ≤ BB := by
  have h1 := owed_le h g
  have h2 := pow12 (g := g + 1) (by omega)
  unfold BB
  omega
def spSize (C : Addr) : Sp := fun vs H Q _ => ∃ (a : Addr) (p : Pr) (g : Int), vs = [.ref a, .int g] ∧ RuleP C H a p ∧ (0 ≤ g ∧ g ≤ 2101) ∧ Q (.int (size p g.toNat)) H
def spOwed (C : Addr) : Sp := fun vs H Q _ => ∃ (a : Addr) (p : Pr) (g : Int), vs = [.ref a, .int g] ∧ RuleP C H a p ∧ (0 ≤ g ∧ g ≤ 2101) ∧ ∀ H', Same H H' → Q (.int (owed p g.toNat)) H'
def spMade (C : Addr) : Sp := fun vs H Q _ => ∃ (a : Addr) (p : Pr) (g d : Int), vs = [.ref a, .int g, .int d] ∧ RuleP C H a p ∧ Gr g ∧ Dy d ∧ ∀ H', Same H H' → Q (.int (made p g.toNat d)) H'
section
variable {P : Program} {w : World} {K : PySem.W.Frag} {mg : Str → Option Value} {base : Heap} {C_Rule C_Reader C_BadText : Addr}
end
end Sl
set_option Elab.async false
set_option linter.all false
set_option maxRecDepth 100000
set_option maxHeartbeats 4000000
set_option exponentiation.threshold 9000
namespace Sl
open PySem L2 C8 StX Silt
local macro_rules | `(tactic| walk_at "side") => `(tactic| first
  | exact cdivw (by omega) (by omega)
  | exact cmulw (by omega) (by omega) (by omega) (by omega)
  | exact Or.inr ⟨by omega, by omega⟩
  | exact Or.inl ⟨by omega, by omega⟩
  | omega
  | exact ⟨by omega, by omega, by decide⟩
  | decide)
local macro_rules | `(tactic| walk_at "rd1") => `(tactic| first
  | with_reducible refine rd_seq ?_
  | with_reducible refine rd_asg ?_
  | with_reducible refine rd_drop ?_
  | with_reducible refine rd_ret ?_
  | with_reducible refine rd_retN ?_
  | with_reducible refine rd_ifS ?_
  | ((with_reducible refine rd_var0 ?_); refine ⟨_, rfl, ?_⟩)
  | with_reducible refine rd_c ?_
  | with_reducible refine rd_op ?_
  | with_reducible refine rd_un ?_
  | with_reducible refine rd_I0 ?_
  | with_reducible refine rd_U ?_
  | ((with_reducible refine rd_I ?c ?_); (case c => walk_at "side"))
  | with_reducible refine rd_ipI ?_
  | with_reducible refine rd_eqI ?_
  | with_reducible refine rd_neI ?_
  | with_reducible refine rd_test ?_
  | with_reducible refine rd_tB ?_
  | with_reducible refine rd_bl ?_
  | with_reducible refine rd_not ?_
  | with_reducible refine rd_and ?_
  | with_reducible refine rd_or ?_
  | with_reducible refine rd_andV ?_
  | with_reducible refine rd_orV ?_
  | with_reducible refine rd_notV ?_
  | with_reducible refine rd_ifE ?_
  | with_reducible refine rd_chain ?_
  | with_reducible refine rd_chain3 ?_
  | with_reducible refine rd_nil ?_
  | with_reducible refine rd_cons ?_
  | with_reducible refine rd_call ?_
  | with_reducible refine rd_CB ?_
  | with_reducible refine rd_par ?_
  | with_reducible refine rd_par2 ?_
  | with_reducible refine rd_par3 ?_
  | with_reducible refine rd_par4 ?_
  | ((with_reducible refine rd_aug0 ?_); refine ⟨_, rfl, ?_⟩)
  | with_reducible refine rd_gname ?_
  | with_reducible refine rd_gcons ?_
  | with_reducible refine rd_gnil ?_
  | with_reducible refine rd_max ?_
  | with_reducible refine rd_min ?_
  | with_reducible refine rd_int1 ?_
  | with_reducible refine rd_abs ?_
  | with_reducible refine rd_lst ?_
  | with_reducible refine rd_tup ?_
  | with_reducible refine rd_bm ?_
  | with_reducible refine rd_fld0 ?_
  | with_reducible refine rd_sl0 ?_
  | with_reducible refine rd_noP ?_
  | with_reducible refine rd_part ?_
  | with_reducible refine rd_part2 ?_
  | with_reducible refine rd_meth0 ?_
  | with_reducible refine rd_star ?_
  | with_reducible refine rd_for ?_
  | with_reducible refine rd_rng1 ?_
  | with_reducible refine rd_rng2 ?_
  | with_reducible refine rd_rng3 ?_
  | with_reducible refine rd_iList ?_
  | with_reducible refine rd_iTup ?_
  | with_reducible refine rd_iEnum ?_
  | with_reducible refine rd_lc ?_
  | with_reducible refine rd_yes ?_
  | with_reducible refine rd_augS ?_
  | with_reducible refine rd_drawNew ?_
  | with_reducible refine rd_make0 ?_
  | with_reducible refine rd_next ?_
  | with_reducible refine rd_break ?_
  | with_reducible refine rd_cont ?_
  | with_reducible refine rd_iteTT ?_
  | with_reducible refine rd_iteFF ?_
  | with_reducible refine rd_iteNTT ?_
  | with_reducible refine rd_iteNFF ?_
  | with_reducible refine rd_con0 ?_
  | with_reducible refine rd_truO0 ?_
  | with_reducible refine rd_gfld0 ?_
  | with_reducible refine rd_dc ?_
  | with_reducible refine rd_iKeys ?_
  | with_reducible refine rd_dget0 ?_
  | with_reducible refine rd_dput0 ?_
  | with_reducible refine rd_dnot0 ?_
  | with_reducible refine rd_iEnumT ?_
  | with_reducible refine rd_raP0 ?_
  | with_reducible refine rd_xf0 ?_
  | with_reducible refine rd_cKw ?_
  | with_reducible refine rd_iStr ?_
  | with_reducible refine rd_gSub ?_
  | with_reducible refine rd_asgG ?_)
local macro_rules | `(tactic| walk_at "rd") => `(tactic| repeat walk_at "rd1")
local macro_rules | `(tactic| walk_at "len") => `(tactic| first
  | (intro vs H Q E h; obtain ⟨h2, _⟩ := h; rw [h2]; rfl)
  | (intro vs H Q E h; obtain ⟨_, h2, _⟩ := h; rw [h2]; rfl)
  | (intro vs H Q E h; obtain ⟨_, _, h2, _⟩ := h; rw [h2]; rfl)
  | (intro vs H Q E h; obtain ⟨_, _, _, h2, _⟩ := h; rw [h2]; rfl)
  | (intro vs H Q E h; obtain ⟨_, _, _, _, h2, _⟩ := h; rw [h2]; rfl)
  | (intro vs H Q E h; obtain ⟨_, _, _, _, _, h2, _⟩ := h; rw [h2]; rfl)
  | (intro vs H Q E h; obtain ⟨_, _, _, _, _, _, h2, _⟩ := h; rw [h2]; rfl)
  | (intro vs H Q E h; obtain ⟨_, _, _, _, _, _, _, h2, _⟩ := h; rw [h2]; rfl)
  | (intro vs H Q E h; obtain ⟨_, _, _, _, _, _, _, _, h2, _⟩ := h; rw [h2]; rfl)
  | (intro vs H Q E h; obtain ⟨_, _, _, _, _, _, _, _, _, h2, _⟩ := h; rw [h2]; rfl)
  | (intro vs H Q E h; obtain ⟨_, _, _, _, _, _, _, _, _, _, h2, _⟩ := h; rw [h2]; rfl)
  | (intro vs H Q E h; obtain ⟨_, _, _, _, _, _, _, _, _, _, _, h2, _⟩ := h; rw [h2]; rfl)
  | (intro vs H Q E h; obtain ⟨_, _, _, _, _, _, _, _, _, _, _, _, h2, _⟩ := h; rw [h2]; rfl))
theorem len_bound {n : Nat} {c : Int} (h0 : 1 ≤ c) (h : c * ((2 ^ n : Nat) : Int) ≤ DD) : n ≤ 2000 := by
  have h1 : ((2 ^ n : Nat) : Int) ≤ DD := by
    have : 1 * ((2 ^ n : Nat) : Int) ≤ c * ((2 ^ n : Nat) : Int) := Int.mul_le_mul_of_nonneg_right h0 (Int.natCast_nonneg _)
    omega
  unfold DD DDn at h1
  have h2 : (2 : Nat) ^ n ≤ 2 ^ 2000 := by
    generalize (2 : Nat) ^ 2000 = b at *
    omega
  exact (Nat.pow_le_pow_iff_right (by decide)).mp h2
theorem late_half {p : Pr} (h : Good p) {d : Int} (hd : 0 ≤ d) : late p d * 2 ≤ d := by
  have h1 := h.lo 0
  have h2 := h.le 0
  unfold late
  by_cases q : 0 ≤ (d - (p 0).1 + (p 0).2) / (p 0).2
  · have e : max 0 ((d - (p 0).1 + (p 0).2) / (p 0).2) = (d - (p 0).1 + (p 0).2) / (p 0).2 := by omega
    rw [e]
    have e3 := Int.ediv_mul_le (d - (p 0).1 + (p 0).2) (by omega : (p 0).2 ≠ 0)
    have e4 : (d - (p 0).1 + (p 0).2) / (p 0).2 * 2 ≤ (d - (p 0).1 + (p 0).2) / (p 0).2 * (p 0).2 := Int.mul_le_mul_of_nonneg_left h1 q
    omega
  · have e : max 0 ((d - (p 0).1 + (p 0).2) / (p 0).2) = 0 := by omega
    rw [e]; omega
theorem late_tl (p : Pr) (g : Nat) (d : Int) : late (tl p g) d = max 0 ((d - (p g).1 + (p g).2) / (p g).2) := by
  unfold late tl; simp only [Nat.zero_add]
theorem tl_at (p : Pr) (g : Nat) : tl p g 0 = p g := by unfold tl; simp only [Nat.zero_add]
def spDigits (C : Addr) : Sp := fun vs H Q _ => ∃ (a : Addr) (p : Pr) (d : Int), vs = [.ref a, .int d] ∧ RuleP C H a p ∧ Dy d ∧ ∀ H' t, Same H H' → H t = none → H' t = some (.lst ((digits p d).map V.int)) → Q (.ref t) H'
section
variable {P : Program} {w : World} {K : PySem.W.Frag} {mg : Str → Option Value} {base : Heap} {C_Rule C_Reader C_BadText : Addr}
end
end Sl
set_option Elab.async false
set_option linter.all false
set_option maxRecDepth 100000
set_option maxHeartbeats 4000000
set_option exponentiation.threshold 9000
namespace Sl
open PySem L2 C8 StX Silt
local macro_rules | `(tactic| walk_at "side") => `(tactic| first
  | exact cdivw (by omega) (by omega)
  | exact cmulw (by omega) (by omega) (by omega) (by omega)
  | exact Or.inr ⟨by omega, by omega⟩
  | exact Or.inl ⟨by omega, by omega⟩
  | omega
  | exact ⟨by omega, by omega, by decide⟩
  | decide)
local macro_rules | `(tactic| walk_at "rd1") => `(tactic| first
  | with_reducible refine rd_seq ?_
  | with_reducible refine rd_asg ?_
  | with_reducible refine rd_drop ?_
  | with_reducible refine rd_ret ?_
  | with_reducible refine rd_retN ?_
  | with_reducible refine rd_ifS ?_
  | ((with_reducible refine rd_var0 ?_); refine ⟨_, rfl, ?_⟩)
  | with_reducible refine rd_c ?_
  | with_reducible refine rd_op ?_
  | with_reducible refine rd_un ?_
  | with_reducible refine rd_I0 ?_
  | with_reducible refine rd_U ?_
  | ((with_reducible refine rd_I ?c ?_); (case c => walk_at "side"))
  | with_reducible refine rd_ipI ?_
  | with_reducible refine rd_eqI ?_
  | with_reducible refine rd_neI ?_
  | with_reducible refine rd_test ?_
  | with_reducible refine rd_tB ?_
  | with_reducible refine rd_bl ?_
  | with_reducible refine rd_not ?_
  | with_reducible refine rd_and ?_
  | with_reducible refine rd_or ?_
  | with_reducible refine rd_andV ?_
  | with_reducible refine rd_orV ?_
  | with_reducible refine rd_notV ?_
  | with_reducible refine rd_ifE ?_
  | with_reducible refine rd_chain ?_
  | with_reducible refine rd_chain3 ?_
  | with_reducible refine rd_nil ?_
  | with_reducible refine rd_cons ?_
  | with_reducible refine rd_call ?_
  | with_reducible refine rd_CB ?_
  | with_reducible refine rd_par ?_
  | with_reducible refine rd_par2 ?_
  | with_reducible refine rd_par3 ?_
  | with_reducible refine rd_par4 ?_
  | ((with_reducible refine rd_aug0 ?_); refine ⟨_, rfl, ?_⟩)
  | with_reducible refine rd_gname ?_
  | with_reducible refine rd_gcons ?_
  | with_reducible refine rd_gnil ?_
  | with_reducible refine rd_max ?_
  | with_reducible refine rd_min ?_
  | with_reducible refine rd_int1 ?_
  | with_reducible refine rd_abs ?_
  | with_reducible refine rd_lst ?_
  | with_reducible refine rd_tup ?_
  | with_reducible refine rd_bm ?_
  | with_reducible refine rd_fld0 ?_
  | with_reducible refine rd_sl0 ?_
  | with_reducible refine rd_noP ?_
  | with_reducible refine rd_part ?_
  | with_reducible refine rd_part2 ?_
  | with_reducible refine rd_meth0 ?_
  | with_reducible refine rd_star ?_
  | with_reducible refine rd_for ?_
  | with_reducible refine rd_rng1 ?_
  | with_reducible refine rd_rng2 ?_
  | with_reducible refine rd_rng3 ?_
  | with_reducible refine rd_iList ?_
  | with_reducible refine rd_iTup ?_
  | with_reducible refine rd_iEnum ?_
  | with_reducible refine rd_lc ?_
  | with_reducible refine rd_yes ?_
  | with_reducible refine rd_augS ?_
  | with_reducible refine rd_drawNew ?_
  | with_reducible refine rd_make0 ?_
  | with_reducible refine rd_next ?_
  | with_reducible refine rd_break ?_
  | with_reducible refine rd_cont ?_
  | with_reducible refine rd_iteTT ?_
  | with_reducible refine rd_iteFF ?_
  | with_reducible refine rd_iteNTT ?_
  | with_reducible refine rd_iteNFF ?_
  | with_reducible refine rd_con0 ?_
  | with_reducible refine rd_truO0 ?_
  | with_reducible refine rd_gfld0 ?_
  | with_reducible refine rd_dc ?_
  | with_reducible refine rd_iKeys ?_
  | with_reducible refine rd_dget0 ?_
  | with_reducible refine rd_dput0 ?_
  | with_reducible refine rd_dnot0 ?_
  | with_reducible refine rd_iEnumT ?_
  | with_reducible refine rd_raP0 ?_
  | with_reducible refine rd_xf0 ?_
  | with_reducible refine rd_cKw ?_
  | with_reducible refine rd_iStr ?_
  | with_reducible refine rd_gSub ?_
  | with_reducible refine rd_asgG ?_)
local macro_rules | `(tactic| walk_at "rd") => `(tactic| repeat walk_at "rd1")
local macro_rules | `(tactic| walk_at "len") => `(tactic| first
  | (intro vs H Q E h; obtain ⟨h2, _⟩ := h; rw [h2]; rfl)
  | (intro vs H Q E h; obtain ⟨_, h2, _⟩ := h; rw [h2]; rfl)
  | (intro vs H Q E h; obtain ⟨_, _, h2, _⟩ := h; rw [h2]; rfl)
  | (intro vs H Q E h; obtain ⟨_, _, _, h2, _⟩ := h; rw [h2]; rfl)
  | (intro vs H Q E h; obtain ⟨_, _, _, _, h2, _⟩ := h; rw [h2]; rfl)
  | (intro vs H Q E h; obtain ⟨_, _, _, _, _, h2, _⟩ := h; rw [h2]; rfl)
  | (intro vs H Q E h; obtain ⟨_, _, _, _, _, _, h2, _⟩ := h; rw [h2]; rfl)
  | (intro vs H Q E h; obtain ⟨_, _, _, _, _, _, _, h2, _⟩ := h; rw [h2]; rfl)
  | (intro vs H Q E h; obtain ⟨_, _, _, _, _, _, _, _, h2, _⟩ := h; rw [h2]; rfl)
  | (intro vs H Q E h; obtain ⟨_, _, _, _, _, _, _, _, _, h2, _⟩ := h; rw [h2]; rfl)
  | (intro vs H Q E h; obtain ⟨_, _, _, _, _, _, _, _, _, _, h2, _⟩ := h; rw [h2]; rfl)
  | (intro vs H Q E h; obtain ⟨_, _, _, _, _, _, _, _, _, _, _, h2, _⟩ := h; rw [h2]; rfl)
  | (intro vs H Q E h; obtain ⟨_, _, _, _, _, _, _, _, _, _, _, _, h2, _⟩ := h; rw [h2]; rfl))
theorem two_le_dd {n : Nat} (h : ((2 ^ n : Nat) : Int) ≤ DD) : n ≤ 2000 := len_bound (c := 1) (by decide) (by omega)
theorem grade_le {p : Pr} (h : Good p) {g : Nat} {d : Int} (hs : size p g ≤ d) (hd : d ≤ DD) : g ≤ 2000 := two_le_dd (Int.le_trans (size_ge h g) (Int.le_trans hs hd))
def spIsBaked (C : Addr) : Sp := fun vs H Q _ => ∃ (a : Addr) (p : Pr) (g d : Int), vs = [.ref a, .int g, .int d] ∧ RuleP C H a p ∧ Gr g ∧ Dy d ∧ ∀ H', Same H H' → Q (.bl (isBaked p g.toNat d)) H'
def spBaked (C : Addr) : Sp := fun vs H Q _ => ∃ (a : Addr) (p : Pr) (d : Int), vs = [.ref a, .int d] ∧ RuleP C H a p ∧ Dy d ∧ ∀ H' t, Same H H' → H t = none → H' t = some (.lst ((bakedL p d).map V.int)) → Q (.ref t) H'
def spNextBaked (C : Addr) : Sp := fun vs H Q _ => ∃ (a : Addr) (p : Pr) (g d : Int), vs = [.ref a, .int g, .int d] ∧ RuleP C H a p ∧ Gr g ∧ Dy d ∧ ∀ H', Same H H' → Q (.int (nextBaked p g.toNat d)) H'
def spCount (C : Addr) : Sp := fun vs H Q _ => ∃ (a : Addr) (p : Pr) (d : Int), vs = [.ref a, .int d] ∧ RuleP C H a p ∧ Dy d ∧ ∀ H', Same H H' → Q (.int (digits p d).sum) H'
def spWork (C : Addr) : Sp := fun vs H Q _ => ∃ (a : Addr) (p : Pr) (d : Int), vs = [.ref a, .int d] ∧ RuleP C H a p ∧ Dy d ∧ ∀ H', Same H H' → Q (.int (work p d)) H'
section
variable {P : Program} {w : World} {K : PySem.W.Frag} {mg : Str → Option Value} {base : Heap} {C_Rule C_Reader C_BadText : Addr}
end
end Sl
set_option Elab.async false
set_option linter.all false
set_option maxRecDepth 100000
set_option maxHeartbeats 4000000
set_option exponentiation.threshold 9000
namespace Sl
open PySem L2 C8 StX Silt
local macro_rules | `(tactic| walk_at "side") => `(tactic| first
  | exact cdivw (by omega) (by omega)
  | exact cmulw (by omega) (by omega) (by omega) (by omega)
  | exact Or.inr ⟨by omega, by omega⟩
  | exact Or.inl ⟨by omega, by omega⟩
  | omega
  | exact ⟨by omega, by omega, by decide⟩
  | decide)
local macro_rules | `(tactic| walk_at "rd1") => `(tactic| first
  | with_reducible refine rd_seq ?_
  | with_reducible refine rd_asg ?_
  | with_reducible refine rd_drop ?_
  | with_reducible refine rd_ret ?_
  | with_reducible refine rd_retN ?_
  | with_reducible refine rd_ifS ?_
  | ((with_reducible refine rd_var0 ?_); refine ⟨_, rfl, ?_⟩)
  | with_reducible refine rd_c ?_
  | with_reducible refine rd_op ?_
  | with_reducible refine rd_un ?_
  | with_reducible refine rd_I0 ?_
  | with_reducible refine rd_U ?_
  | ((with_reducible refine rd_I ?c ?_); (case c => walk_at "side"))
  | with_reducible refine rd_ipI ?_
  | with_reducible refine rd_eqI ?_
  | with_reducible refine rd_neI ?_
  | with_reducible refine rd_test ?_
  | with_reducible refine rd_tB ?_
  | with_reducible refine rd_bl ?_
  | with_reducible refine rd_not ?_
  | with_reducible refine rd_and ?_
  | with_reducible refine rd_or ?_
  | with_reducible refine rd_andV ?_
  | with_reducible refine rd_orV ?_
  | with_reducible refine rd_notV ?_
  | with_reducible refine rd_ifE ?_
  | with_reducible refine rd_chain ?_
  | with_reducible refine rd_chain3 ?_
  | with_reducible refine rd_nil ?_
  | with_reducible refine rd_cons ?_
  | with_reducible refine rd_call ?_
  | with_reducible refine rd_CB ?_
  | with_reducible refine rd_par ?_
  | with_reducible refine rd_par2 ?_
  | with_reducible refine rd_par3 ?_
  | with_reducible refine rd_par4 ?_
  | ((with_reducible refine rd_aug0 ?_); refine ⟨_, rfl, ?_⟩)
  | with_reducible refine rd_gname ?_
  | with_reducible refine rd_gcons ?_
  | with_reducible refine rd_gnil ?_
  | with_reducible refine rd_max ?_
  | with_reducible refine rd_min ?_
  | with_reducible refine rd_int1 ?_
  | with_reducible refine rd_abs ?_
  | with_reducible refine rd_lst ?_
  | with_reducible refine rd_tup ?_
  | with_reducible refine rd_bm ?_
  | with_reducible refine rd_fld0 ?_
  | with_reducible refine rd_sl0 ?_
  | with_reducible refine rd_noP ?_
  | with_reducible refine rd_part ?_
  | with_reducible refine rd_part2 ?_
  | with_reducible refine rd_meth0 ?_
  | with_reducible refine rd_star ?_
  | with_reducible refine rd_for ?_
  | with_reducible refine rd_rng1 ?_
  | with_reducible refine rd_rng2 ?_
  | with_reducible refine rd_rng3 ?_
  | with_reducible refine rd_iList ?_
  | with_reducible refine rd_iTup ?_
  | with_reducible refine rd_iEnum ?_
  | with_reducible refine rd_lc ?_
  | with_reducible refine rd_yes ?_
  | with_reducible refine rd_augS ?_
  | with_reducible refine rd_drawNew ?_
  | with_reducible refine rd_make0 ?_
  | with_reducible refine rd_next ?_
  | with_reducible refine rd_break ?_
  | with_reducible refine rd_cont ?_
  | with_reducible refine rd_iteTT ?_
  | with_reducible refine rd_iteFF ?_
  | with_reducible refine rd_iteNTT ?_
  | with_reducible refine rd_iteNFF ?_
  | with_reducible refine rd_con0 ?_
  | with_reducible refine rd_truO0 ?_
  | with_reducible refine rd_gfld0 ?_
  | with_reducible refine rd_dc ?_
  | with_reducible refine rd_iKeys ?_
  | with_reducible refine rd_dget0 ?_
  | with_reducible refine rd_dput0 ?_
  | with_reducible refine rd_dnot0 ?_
  | with_reducible refine rd_iEnumT ?_
  | with_reducible refine rd_raP0 ?_
  | with_reducible refine rd_xf0 ?_
  | with_reducible refine rd_cKw ?_
  | with_reducible refine rd_iStr ?_
  | with_reducible refine rd_gSub ?_
  | with_reducible refine rd_asgG ?_)
local macro_rules | `(tactic| walk_at "rd") => `(tactic| repeat walk_at "rd1")
local macro_rules | `(tactic| walk_at "len") => `(tactic| first
  | (intro vs H Q E h; obtain ⟨h2, _⟩ := h; rw [h2]; rfl)
  | (intro vs H Q E h; obtain ⟨_, h2, _⟩ := h; rw [h2]; rfl)
  | (intro vs H Q E h; obtain ⟨_, _, h2, _⟩ := h; rw [h2]; rfl)
  | (intro vs H Q E h; obtain ⟨_, _, _, h2, _⟩ := h; rw [h2]; rfl)
  | (intro vs H Q E h; obtain ⟨_, _, _, _, h2, _⟩ := h; rw [h2]; rfl)
  | (intro vs H Q E h; obtain ⟨_, _, _, _, _, h2, _⟩ := h; rw [h2]; rfl)
  | (intro vs H Q E h; obtain ⟨_, _, _, _, _, _, h2, _⟩ := h; rw [h2]; rfl)
  | (intro vs H Q E h; obtain ⟨_, _, _, _, _, _, _, h2, _⟩ := h; rw [h2]; rfl)
  | (intro vs H Q E h; obtain ⟨_, _, _, _, _, _, _, _, h2, _⟩ := h; rw [h2]; rfl)
  | (intro vs H Q E h; obtain ⟨_, _, _, _, _, _, _, _, _, h2, _⟩ := h; rw [h2]; rfl)
  | (intro vs H Q E h; obtain ⟨_, _, _, _, _, _, _, _, _, _, h2, _⟩ := h; rw [h2]; rfl)
  | (intro vs H Q E h; obtain ⟨_, _, _, _, _, _, _, _, _, _, _, h2, _⟩ := h; rw [h2]; rfl)
  | (intro vs H Q E h; obtain ⟨_, _, _, _, _, _, _, _, _, _, _, _, h2, _⟩ := h; rw [h2]; rfl))
def spDayOf (C : Addr) : Sp := fun vs H Q _ => ∃ (a t : Addr) (p : Pr) (ds : List Int), vs = [.ref a, .ref t] ∧ RuleP C H a p ∧ H t = some (.lst (ds.map V.int)) ∧ Valid p ds ∧ ds.length ≤ 2100 ∧ ∀ H', Same H H' → Q (.int (value p ds)) H'
def spFirstWith (C : Addr) : Sp := fun vs H Q _ => ∃ (a : Addr) (p : Pr) (m : Int), vs = [.ref a, .int m] ∧ RuleP C H a p ∧ (0 ≤ m ∧ m ≤ 2000) ∧ ∀ H', Same H H' → Q (.int (firstWith p m)) H'
def spLayers (C : Addr) : Sp := fun vs H Q _ => ∃ (a : Addr) (p : Pr) (d : Int), vs = [.ref a, .int d] ∧ RuleP C H a p ∧ Dy d ∧ ∀ H' t, Same H H' → H t = none → Dt H' (.ref t) (.list ((layersL p d).map triD)) → Q (.ref t) H'
def spPlace (C : Addr) : Sp := fun vs H Q _ => ∃ (a : Addr) (p : Pr) (day now : Int), vs = [.ref a, .int day, .int now] ∧ RuleP C H a p ∧ 1 ≤ day ∧ day ≤ now ∧ now ≤ DD ∧
  ∀ H' t r, Same H H' → PL p day 0 (digits p now) = .inl r → H' t = some (.tup [.int r.1, .int r.2]) → Q (.ref t) H'
theorem dd_len {p : Pr} (g : Good p) {d : Int} (h0 : 0 ≤ d) (h : d ≤ DD) : (digits p d).length ≤ 2001 := by
  refine digits_len g 2001 d h0 ?_
  unfold DD DDn at h
  have e : (2 : Nat) ^ 2001 = 2 ^ 2000 + 2 ^ 2000 := by rw [Nat.pow_succ, Nat.mul_two]
  have : (0 : Nat) < 2 ^ 2000 := Nat.pow_pos (by decide)
  rw [e]
  generalize (2 : Nat) ^ 2000 = b at *
  omega
section
variable {P : Program} {w : World} {K : PySem.W.Frag} {mg : Str → Option Value} {base : Heap} {C_Rule C_Reader C_BadText : Addr}
end
end Sl
set_option Elab.async false
set_option linter.all false
set_option maxRecDepth 100000
set_option maxHeartbeats 4000000
namespace Sl
open PySem L2 C8 StX Silt
local macro_rules | `(tactic| walk_at "side") => `(tactic| first
  | exact cdivw (by omega) (by omega)
  | exact cmulw (by omega) (by omega) (by omega) (by omega)
  | exact Or.inr ⟨by omega, by omega⟩
  | exact Or.inl ⟨by omega, by omega⟩
  | omega
  | exact ⟨by omega, by omega, by decide⟩
  | decide)
local macro_rules | `(tactic| walk_at "rd1") => `(tactic| first
  | with_reducible refine rd_seq ?_
  | with_reducible refine rd_asg ?_
  | with_reducible refine rd_drop ?_
  | with_reducible refine rd_ret ?_
  | with_reducible refine rd_retN ?_
  | with_reducible refine rd_ifS ?_
  | ((with_reducible refine rd_var0 ?_); refine ⟨_, rfl, ?_⟩)
  | with_reducible refine rd_c ?_
  | with_reducible refine rd_op ?_
  | with_reducible refine rd_un ?_
  | with_reducible refine rd_I0 ?_
  | with_reducible refine rd_U ?_
  | ((with_reducible refine rd_I ?c ?_); (case c => walk_at "side"))
  | with_reducible refine rd_ipI ?_
  | with_reducible refine rd_eqI ?_
  | with_reducible refine rd_neI ?_
  | with_reducible refine rd_test ?_
  | with_reducible refine rd_tB ?_
  | with_reducible refine rd_bl ?_
  | with_reducible refine rd_not ?_
  | with_reducible refine rd_and ?_
  | with_reducible refine rd_or ?_
  | with_reducible refine rd_andV ?_
  | with_reducible refine rd_orV ?_
  | with_reducible refine rd_notV ?_
  | with_reducible refine rd_ifE ?_
  | with_reducible refine rd_chain ?_
  | with_reducible refine rd_chain3 ?_
  | with_reducible refine rd_nil ?_
  | with_reducible refine rd_cons ?_
  | with_reducible refine rd_call ?_
  | with_reducible refine rd_CB ?_
  | with_reducible refine rd_par ?_
  | with_reducible refine rd_par2 ?_
  | with_reducible refine rd_par3 ?_
  | with_reducible refine rd_par4 ?_
  | ((with_reducible refine rd_aug0 ?_); refine ⟨_, rfl, ?_⟩)
  | with_reducible refine rd_gname ?_
  | with_reducible refine rd_gcons ?_
  | with_reducible refine rd_gnil ?_
  | with_reducible refine rd_max ?_
  | with_reducible refine rd_min ?_
  | with_reducible refine rd_int1 ?_
  | with_reducible refine rd_abs ?_
  | with_reducible refine rd_lst ?_
  | with_reducible refine rd_tup ?_
  | with_reducible refine rd_bm ?_
  | with_reducible refine rd_fld0 ?_
  | with_reducible refine rd_sl0 ?_
  | with_reducible refine rd_noP ?_
  | with_reducible refine rd_part ?_
  | with_reducible refine rd_part2 ?_
  | with_reducible refine rd_meth0 ?_
  | with_reducible refine rd_star ?_
  | with_reducible refine rd_for ?_
  | with_reducible refine rd_rng1 ?_
  | with_reducible refine rd_rng2 ?_
  | with_reducible refine rd_rng3 ?_
  | with_reducible refine rd_iList ?_
  | with_reducible refine rd_iTup ?_
  | with_reducible refine rd_iEnum ?_
  | with_reducible refine rd_lc ?_
  | with_reducible refine rd_yes ?_
  | with_reducible refine rd_augS ?_
  | with_reducible refine rd_drawNew ?_
  | with_reducible refine rd_make0 ?_
  | with_reducible refine rd_next ?_
  | with_reducible refine rd_break ?_
  | with_reducible refine rd_cont ?_
  | with_reducible refine rd_iteTT ?_
  | with_reducible refine rd_iteFF ?_
  | with_reducible refine rd_iteNTT ?_
  | with_reducible refine rd_iteNFF ?_
  | with_reducible refine rd_con0 ?_
  | with_reducible refine rd_truO0 ?_
  | with_reducible refine rd_gfld0 ?_
  | with_reducible refine rd_dc ?_
  | with_reducible refine rd_iKeys ?_
  | with_reducible refine rd_dget0 ?_
  | with_reducible refine rd_dput0 ?_
  | with_reducible refine rd_dnot0 ?_
  | with_reducible refine rd_iEnumT ?_
  | with_reducible refine rd_raP0 ?_
  | with_reducible refine rd_xf0 ?_
  | with_reducible refine rd_cKw ?_
  | with_reducible refine rd_iStr ?_
  | with_reducible refine rd_gSub ?_
  | with_reducible refine rd_asgG ?_)
local macro_rules | `(tactic| walk_at "rd") => `(tactic| repeat walk_at "rd1")
local macro_rules | `(tactic| walk_at "len") => `(tactic| first
  | (intro vs H Q E h; obtain ⟨h2, _⟩ := h; rw [h2]; rfl)
  | (intro vs H Q E h; obtain ⟨_, h2, _⟩ := h; rw [h2]; rfl)
  | (intro vs H Q E h; obtain ⟨_, _, h2, _⟩ := h; rw [h2]; rfl)
  | (intro vs H Q E h; obtain ⟨_, _, _, h2, _⟩ := h; rw [h2]; rfl)
  | (intro vs H Q E h; obtain ⟨_, _, _, _, h2, _⟩ := h; rw [h2]; rfl)
  | (intro vs H Q E h; obtain ⟨_, _, _, _, _, h2, _⟩ := h; rw [h2]; rfl)
  | (intro vs H Q E h; obtain ⟨_, _, _, _, _, _, h2, _⟩ := h; rw [h2]; rfl)
  | (intro vs H Q E h; obtain ⟨_, _, _, _, _, _, _, h2, _⟩ := h; rw [h2]; rfl)
  | (intro vs H Q E h; obtain ⟨_, _, _, _, _, _, _, _, h2, _⟩ := h; rw [h2]; rfl)
  | (intro vs H Q E h; obtain ⟨_, _, _, _, _, _, _, _, _, h2, _⟩ := h; rw [h2]; rfl)
  | (intro vs H Q E h; obtain ⟨_, _, _, _, _, _, _, _, _, _, h2, _⟩ := h; rw [h2]; rfl)
  | (intro vs H Q E h; obtain ⟨_, _, _, _, _, _, _, _, _, _, _, h2, _⟩ := h; rw [h2]; rfl)
  | (intro vs H Q E h; obtain ⟨_, _, _, _, _, _, _, _, _, _, _, _, h2, _⟩ := h; rw [h2]; rfl))
/-- things told as data: equal just if they are the same -/
structure EncOk {α : Type} [DecidableEq α] (enc : α → PyData) : Prop where
  eq : ∀ x y, PyData.eqv (enc x) (enc y) = decide (x = y)
  lay : ∀ x, (enc x).canLay0 = true
  dep : ∀ x, (enc x).depth ≤ 60
theorem EncOk.all {α : Type} [DecidableEq α] {enc : α → PyData} (E : EncOk enc) : ∀ l m : List α, PyData.eqvAll (l.map enc) (m.map enc) = decide (l = m)
  | [], [] => by simp [PyData.eqvAll]
  | [], _ :: _ => by simp [PyData.eqvAll]
  | _ :: _, [] => by simp [PyData.eqvAll]
  | x :: l, y :: m => by
    simp only [List.map_cons, PyData.eqvAll, E.eq, E.all l m, List.cons.injEq]
    rw [← Bool.decide_and]
theorem EncOk.tup {α : Type} [DecidableEq α] {enc : α → PyData} (E : EncOk enc) (l m : List α) : PyData.eqv (.tuple (l.map enc)) (.tuple (m.map enc)) = decide (l = m) := by
  simp only [PyData.eqv]; exact E.all l m
theorem EncOk.shT {α : Type} [DecidableEq α] {enc : α → PyData} (E : EncOk enc) (l : List α) : SeqAt.shaped (.tuple (l.map enc)) = true := shaped_tupMap E.lay E.dep l
theorem EncOk.sh {α : Type} [DecidableEq α] {enc : α → PyData} (E : EncOk enc) (x : α) : SeqAt.shaped (enc x) = true := by
  have := E.dep x
  exact Bool.and_eq_true_iff.mpr ⟨E.lay x, decide_eq_true (by omega)⟩
theorem enc_pair : EncOk pairD := ⟨fun x y => by
  obtain ⟨a, b⟩ := x
  obtain ⟨c, d⟩ := y
  simp only [pairD, PyData.eqv, PyData.eqvAll, Bool.and_true, Prod.mk.injEq]
  rw [Bool.beq_eq_decide_eq, Bool.beq_eq_decide_eq, ← Bool.decide_and], fun _ => by simp [pairD, PyData.canLay0, PyData.canLayAll0], fun _ => by simp [pairD, PyData.depth, PyData.depthAll]⟩
theorem enc_int : EncOk PyData.int := ⟨fun x y => by simp only [PyData.eqv]; exact Bool.beq_eq_decide_eq x y, fun _ => by simp [PyData.canLay0], fun _ => by simp [PyData.depth]⟩
theorem DnAll.take {H : Hp} : ∀ {vs : List V} {ds : List PyData} (n : Nat), DnAll H vs ds → DnAll H (vs.take n) (ds.take n)
  | _, _, 0, _ => .nil
  | _, _, _ + 1, .nil => .nil
  | _, _, n + 1, .cons h t => .cons h (DnAll.take n t)
theorem DnAll.rep {H : Hp} {vs : List V} {ds : List PyData} (h : DnAll H vs ds) : ∀ k : Nat, DnAll H (List.replicate k vs).flatten (List.replicate k ds).flatten
  | 0 => .nil
  | k + 1 => by rw [List.replicate_succ, List.replicate_succ, List.flatten_cons, List.flatten_cons]; exact h.append (h.rep k)
theorem DnAll.get {H : Hp} : ∀ {vs : List V} {ds : List PyData} {i : Nat} {d : PyData}, DnAll H vs ds → ds[i]? = some d → ∃ v, vs[i]? = some v ∧ Dn H v d
  | _, _, _, _, .nil, h => by simp at h
  | _, _, 0, _, .cons h _, e => by simp at e; subst e; exact ⟨_, rfl, h⟩
  | _, _, i + 1, _, .cons _ t, e => by
    obtain ⟨v, h1, h2⟩ := DnAll.get (i := i) t (by simpa using e)
    exact ⟨v, by simpa using h1, h2⟩
theorem Dn.tup_inv {H : Hp} {t : Addr} {ds : List PyData} (h : Dn H (.ref t) (.tuple ds)) : ∃ xs, H t = some (.tup xs) ∧ DnAll H xs ds := by
  cases h with
  | tup e h => exact ⟨_, e, h⟩
theorem cut_take {xs : List V} {m : Nat} : cutV xs none (some (m : Int)) = xs.take m := by
  unfold cutV
  rw [HT.sIx_none, HT.sIx_nat, List.drop_zero, Nat.sub_zero]
  by_cases c : m ≤ xs.length
  · rw [Nat.min_eq_left c]
  · rw [Nat.min_eq_right (by omega), List.take_of_length_le (Nat.le_refl _), List.take_of_length_le (by omega)]
theorem cut_front {xs : List V} {x : V} : cutV (xs ++ [x]) none (some (-1)) = xs := by
  unfold cutV
  have e : HT.sIx (xs ++ [x]).length (xs ++ [x]).length (some (-1)) = xs.length := by
    show (if (-1 : Int) < 0 then ((-1 : Int) + ((xs ++ [x]).length : Int)).toNat else min (-1 : Int).toNat (xs ++ [x]).length) = _
    rw [if_pos (by decide), List.length_append, List.length_singleton]
    omega
  rw [e, HT.sIx_none, List.drop_zero, Nat.sub_zero]
  simp
theorem rd_repTA {K : PySem.W.Frag} {H : Hp} {Q : VK} {p : Addr} {xs : List V} {k : Nat} (e : H p = some (.tup xs)) (hne : xs ≠ []) (hk : 0 < k) (h1 : k ≤ 1000) (h2 : xs.length ≤ 1000)
    (h : ∀ r H', Same H H' → H' r = some (.tup (List.replicate k xs).flatten) → Q (.ref r) H') : rOr (rRepT1 K) (rRepT K) (.ref p) (.int k) H Q := by
  by_cases c : k = 1
  · subst c
    exact .inl ⟨p, xs, rfl, rfl, SqT.of e, h p H (Same.refl H) (by simpa using e)⟩
  · refine .inr ⟨p, k, xs, rfl, rfl, SqT.of e, hne, by omega, by omega, h2, fun r hr => h r _ (Same.new (Same.refl H) hr) ?_⟩
    rw [Int.toNat_natCast]
    exact upd_same
/-- front and period as short as may be; what is told stays -/
def spShortest : Sp := fun vs H Q _ => ∃ (t1 t2 : Addr) (α : Type) (_ : DecidableEq α) (enc : α → PyData) (f q : List α), vs = [.ref t1, .ref t2] ∧ EncOk enc ∧ Dn H (.ref t1) (.tuple (f.map enc)) ∧ Dn H (.ref t2) (.tuple (q.map enc)) ∧ q ≠ [] ∧ f.length ≤ 6 ∧ q.length ≤ 6 ∧
  ∀ H' t s1 s2 (f' q' : List α), Same H H' → H' t = some (.tup [.ref s1, .ref s2]) → Dn H' (.ref s1) (.tuple (f'.map enc)) → Dn H' (.ref s2) (.tuple (q'.map enc)) → q' ≠ [] → (∀ g, atO f' q' g = atO f q g) → Q (.ref t) H'
section
variable {P : Program} {w : World} {K : PySem.W.Frag} {mg : Str → Option Value} {base : Heap} {C_Rule C_Reader C_BadText : Addr}
theorem cal_shortest (T : TX P K mg C_Rule C_Reader C_BadText) : Cal P w K mg base 1 "shortest" spShortest [] := by
  obtain ⟨f0, fd, D, dn⟩ := T.d_shortest
  refine cal0 D (D.fn.binds dn fun _ _ _ _ _ _ us hl => match us, hl with | [_, _], _ => rfl) .nil sc_shortest (by walk_at "len") (fun cdv A outer s H vs Q E hr h => ?_)
  obtain ⟨t1, t2, α, _, enc, f, q, rfl, E, h1, h2, hq, hf6, hq6, k⟩ := h
  obtain ⟨xs2, e2, d2⟩ := h2.tup_inv
  have l2 : xs2.length = q.length := by rw [d2.length, List.length_map]
  have q0 : 0 < q.length := List.length_pos_iff.mpr hq
  refine ⟨_, (pss_cut (ps_for PassesOwn.never rfl (pi_range2 rfl T.b_range (pa_cons pe_int (pa_cons (pe_op op_add (pe_callB cr_lenS (by rfl) T.b_len (by decide +kernel) (pa_cons (pv 1) pa_nil)) pe_int) pa_nil))) (pg_n 2 sc_shortest.nd) (pss_one (ps_if (PW.pt (pw_and (pt_cmpR op_eq (pe_op op_modN (pe_callB cr_lenS (by rfl) T.b_len (by decide +kernel) (pa_cons (pv 1) pa_nil)) (pv 2)) pe_int (nomark _)) (pw_and1 (pt_cmpR (op_eqD hr.units) (pv 1) (pe_op op_repTA (pe_slice sl_tupA (pv 1) po_none (po_some (pv 2))) (pe_op op_fdivW (pe_callB cr_lenS (by rfl) T.b_len (by decide +kernel) (pa_cons (pv 1) pa_nil)) (pv 2))) (nomark _))))) (pss_cons (ps_s 1 sc_shortest.nd (pe_slice sl_tupA (pv 1) po_none (po_some (pv 2))))
      (pss_one ps_break)) pss_nil)))
      (pss_cons (ps_while PassesOwn.never (PW.pt (pw_and (pt_cmpR (op_neD hr.units) (pv 0) (pe_tup pa_nil) (nomark _)) (pw_and1 (pt_cmpR (op_eqD hr.units) (pe_ix ix_tup (pv 0) (pe_un un_neg pe_int) (fun _ _ => rfl)) (pe_ix ix_tup (pv 1) (pe_un un_neg pe_int) (fun _ _ => rfl)) (nomark _))))) (pss_one (ps_par (i := 0) (j := 1) rfl sc_shortest.nd rfl rfl (by decide) rfl rfl (pa_cons (pe_slice sl_tupA (pv 0) po_none (po_some (pe_un un_neg pe_int))) (pa_cons (pe_tup (pa_cons (pe_ix ix_tup (pv 1) (pe_un un_neg pe_int) (fun _ _ => rfl)) (pa_star (pe_slice sl_tupA (pv 1) po_none (po_some (pe_un un_neg pe_int))) pa_nil))) pa_nil)) (by rfl))))
      (pss_one (ps_ret (pe_tup (pa_cons (pv 0) (pa_cons (pv 1) pa_nil))))))), ?_⟩
  refine ⟨fun σ' H' => ∃ (t2' : Addr) (q' : List α) (v : Option V), Same H H' ∧ Dn H' (.ref t2') (.tuple (q'.map enc)) ∧ q' ≠ [] ∧ (∀ g, atO f q' g = atO f q g) ∧ q'.length ≤ 6 ∧ σ' = [some (.ref t1), some (.ref t2'), v], ?_, ?_⟩
  · walk_at "rd"
    refine rd_lenT e2 ?_
    walk_at "rd"
    refine rd_rgR2 (by omega) ?_
    refine forR_rng (fun i σ H' => ∃ v, Same H H' ∧ σ = [some (.ref t1), some (.ref t2), v]) ⟨none, Same.refl _, rfl⟩ ?_ ?_
    · rintro i σ H' hi ⟨v, s1, rfl⟩
      walk_at "rd"
      refine rd_lenT (s1 _ _ e2) ?_
      walk_at "rd"
      refine rd_ite (fun c1 => ?_) (fun c1 => ?_)
      · walk_at "rd"
        refine rd_slA (s1 _ _ e2) fun p2 H2 s2 ep2 => ?_
        have em : (1 : Int) + (i : Int) = ((i + 1 : Nat) : Int) := by omega
        rw [em, cut_take] at ep2
        have s12 := s1.trans s2
        have hile : i + 1 ≤ q.length := by omega
        walk_at "rd"
        refine rd_lenT (s12 _ _ e2) ?_
        walk_at "rd"
        rw [em, l2] at c1 ⊢
        rw [Int.fmod_eq_emod_of_nonneg _ (by omega), ← Int.natCast_emod] at c1
        have c1' : q.length % (i + 1) = 0 := by omega
        obtain ⟨kk, hkk⟩ := Nat.dvd_of_mod_eq_zero c1'
        have hkd : ((q.length : Int)) / ((i + 1 : Nat) : Int) = (kk : Int) := by
          rw [← Int.natCast_ediv, hkk, Nat.mul_div_cancel_left _ (Nat.succ_pos _)]
        have b7 := bb_pos
        walk_at "rd"
        rw [hkd]
        have hk0 : 0 < kk := by
          rcases Nat.eq_zero_or_pos kk with z | z
          · rw [z] at hkk; omega
          · exact z
        have dtk := (d2.take (i + 1)).mono s12
        rw [← List.map_take] at dtk
        have eqf : (List.replicate kk ((q.take (i + 1)).map enc)).flatten = (List.replicate kk (q.take (i + 1))).flatten.map enc := by rw [List.map_flatten, List.map_replicate]
        have hr : q.take (i + 1) ≠ [] := by
          intro z
          have := congrArg List.length z
          rw [List.length_take, List.length_nil] at this
          omega
        refine rd_repTA ep2 (by intro z; have := congrArg List.length z; rw [List.length_take, List.length_nil] at this; omega) hk0 (by rw [hkk] at hq6; have : 1 * kk ≤ (i + 1) * kk := Nat.mul_le_mul_right _ (by omega); omega) (by rw [List.length_take]; omega) fun r H3 s3 er => ?_
        refine rd_eqD ((h2.mono (s12.trans s3)).dt) (Dn.dt (.tup er ((dtk.rep kk).mono s3))) (E.shT q) (by rw [eqf]; exact E.shT _) ?_
        rw [eqf, E.tup]
        walk_at "rd"
        refine rd_ite (fun c2 => ?_) (fun c2 => ?_)
        · walk_at "rd"
          refine rd_slA ((s12.trans s3) _ _ e2) fun p4 H4 s4 ep4 => ?_
          rw [cut_take] at ep4
          walk_at "rd"
          refine ⟨p4, q.take (i + 1), _, (s12.trans s3).trans s4, .tup ep4 (by rw [List.map_take]; exact (d2.take (i + 1)).mono ((s12.trans s3).trans s4)), hr, fun g => ?_, by rw [List.length_take]; omega, rfl⟩
          rw [atO_rep f _ hr hk0, ← c2]
        · walk_at "rd"
          exact ⟨_, s12.trans s3, rfl⟩
      · exact ⟨_, s1, rfl⟩
    · rintro σ H' ⟨v, s1, rfl⟩
      exact ⟨t2, q, v, s1, h2.mono s1, hq, fun _ => rfl, hq6, rfl⟩
  · rintro σ0 H0 ⟨t2', q', v0, s0, dq0, hq0, hat0, hl0, rfl⟩
    walk_at "rd"
    refine rd_while (fun n σ H' => ∃ (u1 u2 : Addr) (f1 q1 : List α) (v : Option V), n = f1.length ∧ Same H H' ∧ Dn H' (.ref u1) (.tuple (f1.map enc)) ∧ Dn H' (.ref u2) (.tuple (q1.map enc)) ∧ q1 ≠ [] ∧ (∀ g, atO f1 q1 g = atO f q g) ∧ q1.length ≤ 6 ∧
      σ = [some (.ref u1), some (.ref u2), v]) _ ⟨t1, t2', f, q', v0, rfl, s0, h1.mono s0, dq0, hq0, hat0, hl0, rfl⟩ ?_
    rintro n σ H' ⟨u1, u2, f1, q1, v, rfl, s1, du1, du2, hq1, hat1, hl1, rfl⟩
    walk_at "rd"
    refine rd_newT (by simp) fun w H2 _ s2 ew _ => ?_
    refine rd_neD (d := .tuple (f1.map enc)) (e := .tuple ([].map enc)) ((du1.mono s2).dt) (.tup ew .nil) (E.shT f1) (E.shT []) ?_
    rw [E.tup]
    walk_at "rd"
    have out : ∀ H3, Same H2 H3 → (tRet (tTup (tCons (tVar 0) (tCons (tVar 1) tNil)))) { nx := fun x H' => Q .non H', rt := Q } [some (.ref u1), some (.ref u2), v] H3 := by
      intro H3 s3
      walk_at "rd"
      refine rd_newT (by simp) fun w4 H4 _ s4 ew4 _ => ?_
      have s := (s2.trans s3).trans s4
      exact k H4 w4 u1 u2 f1 q1 (s1.trans s) ew4 (du1.mono s) (du2.mono s) hq1 hat1
    refine rd_iteN (fun c1 => ?_) (fun c1 => ?_)
    · -- the front is not empty
      obtain ⟨f2, x, rfl⟩ : ∃ f2 x, f1 = f2 ++ [x] := ⟨f1.dropLast, f1.getLast c1, (List.dropLast_concat_getLast c1).symm⟩
      obtain ⟨q2, y, rfl⟩ : ∃ q2 y, q1 = q2 ++ [y] := ⟨q1.dropLast, q1.getLast hq1, (List.dropLast_concat_getLast hq1).symm⟩
      obtain ⟨xs1, e1, d1⟩ := du1.tup_inv
      obtain ⟨ys1, e3, d3⟩ := du2.tup_inv
      rw [List.map_append] at d1 d3
      have split : ∀ {H0 : Hp} {vs : List V} {ds : List PyData} {d : PyData}, DnAll H0 vs (ds ++ [d]) → ∃ vs' v, vs = vs' ++ [v] ∧ DnAll H0 vs' ds ∧ Dn H0 v d := by
        intro H0 vs ds
        induction ds generalizing vs with
        | nil =>
          intro d h
          cases h with
          | cons h t => cases t; exact ⟨[], _, rfl, .nil, h⟩
        | cons a ds ih =>
          intro d h
          cases h with
          | cons h t =>
            obtain ⟨vs', v, rfl, h2, h3⟩ := ih t
            exact ⟨_ :: vs', v, rfl, .cons h h2, h3⟩
      obtain ⟨vs1, v1, rfl, da1, db1⟩ := split d1
      obtain ⟨vs3, v3, rfl, da3, db3⟩ := split d3
      walk_at "rd"
      refine rd_ixT (s2 _ _ e1) (atI_last _ _) ?_
      walk_at "rd"
      refine rd_ixT (s2 _ _ e3) (atI_last _ _) ?_
      refine rd_eqD ((db1.mono s2).dt) ((db3.mono s2).dt) (E.sh x) (E.sh y) ?_
      rw [E.eq]
      walk_at "rd"
      refine rd_ite (fun c2 => ?_) (fun c2 => ?_)
      · subst c2
        refine rd_whN ?_
        walk_at "rd"
        refine rd_slA (s2 _ _ e1) fun p3 H3 s3 ep3 => ?_
        rw [cut_front] at ep3
        walk_at "rd"
        refine rd_ixT ((s2.trans s3) _ _ e3) (atI_last _ _) ?_
        walk_at "rd"
        refine rd_slA ((s2.trans s3) _ _ e3) fun p4 H4 s4 ep4 => ?_
        rw [cut_front] at ep4
        refine ⟨p4, _, rfl, .inl (SqT.of ep4), ?_⟩
        walk_at "rd"
        have l3 := da3.length
        rw [List.length_map] at l3
        rw [List.length_append, List.length_singleton] at hl1
        refine rd_newT (by simp; omega) fun w5 H5 _ s5 ew5 _ => ?_
        walk_at "rd"
        have s25 := ((s2.trans s3).trans s4).trans s5
        refine ⟨f2.length, by rw [List.length_append, List.length_singleton]; omega, p3, w5, f2, x :: q2, v, rfl, s1.trans s25, .tup ((s4.trans s5) _ _ ep3) (da1.mono s25), .tup ew5 ?_, by simp, fun g => ?_, by rw [List.length_cons]; omega, rfl⟩
        · rw [List.append_nil]
          exact .cons (db3.mono s25) (da3.mono s25)
        · rw [atO_turn]; exact hat1 g
      · exact out H2 (Same.refl _)
    · refine rd_iteFF ?_
      exact out H2 (Same.refl _)
end
end Sl
set_option Elab.async false
set_option linter.all false
set_option maxRecDepth 100000
set_option maxHeartbeats 4000000
namespace Sl
open PySem L2 C8 StX Silt
local macro_rules | `(tactic| walk_at "side") => `(tactic| first
  | exact cdivw (by omega) (by omega)
  | exact cmulw (by omega) (by omega) (by omega) (by omega)
  | exact Or.inr ⟨by omega, by omega⟩
  | exact Or.inl ⟨by omega, by omega⟩
  | omega
  | exact ⟨by omega, by omega, by decide⟩
  | decide)
local macro_rules | `(tactic| walk_at "rd1") => `(tactic| first
  | with_reducible refine rd_seq ?_
  | with_reducible refine rd_asg ?_
  | with_reducible refine rd_drop ?_
  | with_reducible refine rd_ret ?_
  | with_reducible refine rd_retN ?_
  | with_reducible refine rd_ifS ?_
  | ((with_reducible refine rd_var0 ?_); refine ⟨_, rfl, ?_⟩)
  | with_reducible refine rd_c ?_
  | with_reducible refine rd_op ?_
  | with_reducible refine rd_un ?_
  | with_reducible refine rd_I0 ?_
  | with_reducible refine rd_U ?_
  | ((with_reducible refine rd_I ?c ?_); (case c => walk_at "side"))
  | with_reducible refine rd_ipI ?_
  | with_reducible refine rd_eqI ?_
  | with_reducible refine rd_neI ?_
  | with_reducible refine rd_test ?_
  | with_reducible refine rd_tB ?_
  | with_reducible refine rd_bl ?_
  | with_reducible refine rd_not ?_
  | with_reducible refine rd_and ?_
  | with_reducible refine rd_or ?_
  | with_reducible refine rd_andV ?_
  | with_reducible refine rd_orV ?_
  | with_reducible refine rd_notV ?_
  | with_reducible refine rd_ifE ?_
  | with_reducible refine rd_chain ?_
  | with_reducible refine rd_chain3 ?_
  | with_reducible refine rd_nil ?_
  | with_reducible refine rd_cons ?_
  | with_reducible refine rd_call ?_
  | with_reducible refine rd_CB ?_
  | with_reducible refine rd_par ?_
  | with_reducible refine rd_par2 ?_
  | with_reducible refine rd_par3 ?_
  | with_reducible refine rd_par4 ?_
  | ((with_reducible refine rd_aug0 ?_); refine ⟨_, rfl, ?_⟩)
  | with_reducible refine rd_gname ?_
  | with_reducible refine rd_gcons ?_
  | with_reducible refine rd_gnil ?_
  | with_reducible refine rd_max ?_
  | with_reducible refine rd_min ?_
  | with_reducible refine rd_int1 ?_
  | with_reducible refine rd_abs ?_
  | with_reducible refine rd_lst ?_
  | with_reducible refine rd_tup ?_
  | with_reducible refine rd_bm ?_
  | with_reducible refine rd_fld0 ?_
  | with_reducible refine rd_sl0 ?_
  | with_reducible refine rd_noP ?_
  | with_reducible refine rd_part ?_
  | with_reducible refine rd_part2 ?_
  | with_reducible refine rd_meth0 ?_
  | with_reducible refine rd_star ?_
  | with_reducible refine rd_for ?_
  | with_reducible refine rd_rng1 ?_
  | with_reducible refine rd_rng2 ?_
  | with_reducible refine rd_rng3 ?_
  | with_reducible refine rd_iList ?_
  | with_reducible refine rd_iTup ?_
  | with_reducible refine rd_iEnum ?_
  | with_reducible refine rd_lc ?_
  | with_reducible refine rd_yes ?_
  | with_reducible refine rd_augS ?_
  | with_reducible refine rd_drawNew ?_
  | with_reducible refine rd_make0 ?_
  | with_reducible refine rd_next ?_
  | with_reducible refine rd_break ?_
  | with_reducible refine rd_cont ?_
  | with_reducible refine rd_iteTT ?_
  | with_reducible refine rd_iteFF ?_
  | with_reducible refine rd_iteNTT ?_
  | with_reducible refine rd_iteNFF ?_
  | with_reducible refine rd_con0 ?_
  | with_reducible refine rd_truO0 ?_
  | with_reducible refine rd_gfld0 ?_
  | with_reducible refine rd_dc ?_
  | with_reducible refine rd_iKeys ?_
  | with_reducible refine rd_dget0 ?_
  | with_reducible refine rd_dput0 ?_
  | with_reducible refine rd_dnot0 ?_
  | with_reducible refine rd_iEnumT ?_
  | with_reducible refine rd_raP0 ?_
  | with_reducible refine rd_xf0 ?_
  | with_reducible refine rd_cKw ?_
  | with_reducible refine rd_iStr ?_
  | with_reducible refine rd_gSub ?_
  | with_reducible refine rd_asgG ?_)
local macro_rules | `(tactic| walk_at "rd") => `(tactic| repeat walk_at "rd1")
local macro_rules | `(tactic| walk_at "len") => `(tactic| first
  | (intro vs H Q E h; obtain ⟨h2, _⟩ := h; rw [h2]; rfl)
  | (intro vs H Q E h; obtain ⟨_, h2, _⟩ := h; rw [h2]; rfl)
  | (intro vs H Q E h; obtain ⟨_, _, h2, _⟩ := h; rw [h2]; rfl)
  | (intro vs H Q E h; obtain ⟨_, _, _, h2, _⟩ := h; rw [h2]; rfl)
  | (intro vs H Q E h; obtain ⟨_, _, _, _, h2, _⟩ := h; rw [h2]; rfl)
  | (intro vs H Q E h; obtain ⟨_, _, _, _, _, h2, _⟩ := h; rw [h2]; rfl)
  | (intro vs H Q E h; obtain ⟨_, _, _, _, _, _, h2, _⟩ := h; rw [h2]; rfl)
  | (intro vs H Q E h; obtain ⟨_, _, _, _, _, _, _, h2, _⟩ := h; rw [h2]; rfl)
  | (intro vs H Q E h; obtain ⟨_, _, _, _, _, _, _, _, h2, _⟩ := h; rw [h2]; rfl)
  | (intro vs H Q E h; obtain ⟨_, _, _, _, _, _, _, _, _, h2, _⟩ := h; rw [h2]; rfl)
  | (intro vs H Q E h; obtain ⟨_, _, _, _, _, _, _, _, _, _, h2, _⟩ := h; rw [h2]; rfl)
  | (intro vs H Q E h; obtain ⟨_, _, _, _, _, _, _, _, _, _, _, h2, _⟩ := h; rw [h2]; rfl)
  | (intro vs H Q E h; obtain ⟨_, _, _, _, _, _, _, _, _, _, _, _, h2, _⟩ := h; rw [h2]; rfl))
/-- a list or a tuple -/
def Seq (H : Hp) (a : Addr) (xs : List V) : Prop := H a = some (.lst xs) ∨ H a = some (.tup xs)
theorem Seq.mono {H H' : Hp} {a : Addr} {xs : List V} (s : Same H H') (h : Seq H a xs) : Seq H' a xs := h.elim (fun e => .inl (s _ _ e)) fun e => .inr (s _ _ e)
section
variable {σ : L2.St} {H : Hp} {Q : VK} {K : PySem.W.Frag} {QS : L2.St → Hp → Prop} {v : V}
theorem Seq.star {a : Addr} {xs : List V} (h : Seq H a xs) : SqT K H a xs ∨ SqL K H a xs := h.elim (fun e => .inr (SqL.of e)) fun e => .inl (SqT.of e)
theorem rd_isiTS {a u : Addr} {xs : List V} (e : Seq H a xs) (eu : H u = some (.tup [.ty "list", .ty "tuple"])) (h : Q (.bl true) H) : rIsiT K [.ref a, .ref u] H Q :=
  e.elim (fun e => rd_isiTL e eu h) fun e => rd_isiTT e eu h
theorem rd_lenQ {a : Addr} {xs : List V} (e : Seq H a xs) (h : Q (.int xs.length) H) : rLenS K [.ref a] H Q := e.elim (fun e => rd_lenL e h) fun e => rd_lenT e h
theorem rd_tupOfS {a : Addr} {xs : List V} (e : Seq H a xs) (h : ∀ p H', Same H H' → H' p = some (.tup xs) → Q (.ref p) H') : rTupOf K [.ref a] H Q :=
  e.elim (fun e => rd_tupOfL e fun p H' _ s ep _ => h p H' s ep) fun e => rd_tupOfT e (h a H (Same.refl H) e)
def rGFld (K : PySem.W.Frag) (f : Str) (v : V) (QS : L2.St → Hp → Prop) (σ : L2.St) (x : V) (H1 : Hp) : Prop := ∃ a C dx fs, x = .ref a ∧ H1 a = some (.ins C dx fs) ∧ Cls K C ∧ NoAttr K C f ∧ fs.length < 1000 ∧ QS σ (upd H1 a (.ins C dx (putF f v fs)))
theorem rd_gfld0 {to : TE} {f : Str} (h : to σ H fun x H1 => rGFld K f v QS σ x H1) : gFld K to f v σ H QS := h
theorem rd_gfld {f : Str} {a C dx : Addr} {fs : List (Str × V)} (e : H a = some (.ins C dx fs)) (c : Cls K C) (n : NoAttr K C f) (l : fs.length < 1000) (h : ∀ H', H' = upd H a (.ins C dx (putF f v fs)) → H' a = some (.ins C dx (putF f v fs)) → QS σ H') : rGFld K f v QS σ (.ref a) H :=
  ⟨a, C, dx, fs, rfl, e, c, n, l, h _ rfl upd_same⟩
end
theorem put_rf (t1 t2 : Addr) : putF "period" (.ref t2) (putF "front" (.ref t1) []) = rf t1 t2 := by
  have h : ¬ (("front" : Str) = "period") := by decide +kernel
  show (if ("front" : Str) = "period" then [(("front" : Str), V.ref t2)] else (("front" : Str), V.ref t1) :: putF "period" (V.ref t2) []) = rf t1 t2
  rw [if_neg h]
  rfl
/-- behind the two stores of __init__ -/
theorem ruleAt_made {H H1 H2 : Hp} {C dx self t1 t2 : Addr} {f q : List PyData} {fs : List (Str × V)} (e : H self = some (.ins C dx [])) (e1 : H1 = upd H self (.ins C dx (putF "front" (.ref t1) []))) (e2 : H2 = upd H1 self (.ins C dx (putF "period" (.ref t2) (putF "front" (.ref t1) []))))
    (d1 : Dn H (.ref t1) (.tuple f)) (d2 : Dn H (.ref t2) (.tuple q)) : RuleAt C H2 self f q := by
  have k : ∀ a xs, H a = some (.tup xs) → H2 a = some (.tup xs) := fun a xs ea => by
    have hne : a ≠ self := fun z => by rw [z, e] at ea; cases ea
    rw [e2, upd_ne hne, e1, upd_ne hne]
    exact ea
  exact ⟨dx, t1, t2, by rw [e2, put_rf]; exact upd_same, (d1.keep k).dt, (d2.keep k).dt⟩
theorem same_made {H0 H H1 H2 : Hp} {self : Addr} {o1 o2 : HO} (s : Same H0 H) (h0 : H0 self = none) (e1 : H1 = upd H self o1) (e2 : H2 = upd H1 self o2) : Same H0 H2 := by
  rw [e2, e1]
  exact Same.mut (Same.mut s h0) h0
/-- pairs that may be told -/
def OkP (q : Int × Int) : Prop := 2 ≤ q.2 ∧ q.2 ≤ q.1 ∧ q.1 ≤ 6
theorem atp_atO (f q : List (Int × Int)) (g : Nat) : atp f q g = (atO f q g).getD (0, 0) := by
  unfold atp atO
  by_cases c : g < f.length
  · rw [if_pos c, if_pos c, List.getD_eq_getElem?_getD]
  · rw [if_neg c, if_neg c, List.getD_eq_getElem?_getD]
theorem good_of {f q : List (Int × Int)} (hq : q ≠ []) (hf : ∀ x ∈ f, OkP x) (hp : ∀ x ∈ q, OkP x) : Good (atp f q) := by
  have h : ∀ g, OkP (atp f q g) := fun g => by
    obtain ⟨x, e, hx⟩ := atO_some (f := f) hq g
    rw [atp_atO, e]
    exact hx.elim (hf x) (hp x)
  exact ⟨fun g => (h g).1, fun g => (h g).2.1, fun g => Int.le_trans (h g).2.2 (by decide)⟩
theorem atp_six {f q : List (Int × Int)} (hq : q ≠ []) (hf : ∀ x ∈ f, OkP x) (hp : ∀ x ∈ q, OkP x) (g : Nat) : (atp f q g).1 ≤ 6 := by
  obtain ⟨x, e, hx⟩ := atO_some (f := f) hq g
  rw [atp_atO, e]
  exact (hx.elim (hf x) (hp x)).2.2
def spPair : Sp := fun vs H Q _ => ∃ (t : Addr) (q : Int × Int), vs = [.ref t] ∧ H t = some (.tup [.int q.1, .int q.2]) ∧ OkP q ∧ Q (.bl true) H
def spRule (C : Addr) : Sp := fun vs H Q _ => ∃ (self dx fl pl : Addr) (H0 : Hp) (xs1 xs2 : List V) (f q : List (Int × Int)), vs = [.ref self, .ref fl, .ref pl] ∧ Same H0 H ∧ H0 self = none ∧ H self = some (.ins C dx []) ∧
  Seq H fl xs1 ∧ Seq H pl xs2 ∧ DnAll H xs1 (pairsD f) ∧ DnAll H xs2 (pairsD q) ∧ f.length ≤ 6 ∧ q.length ≤ 6 ∧ q ≠ [] ∧ (∀ x ∈ f, OkP x) ∧ (∀ x ∈ q, OkP x) ∧
  ∀ H', Same H0 H' → RuleP C H' self (atp f q) → Q .non H'
section
variable {P : Program} {w : World} {K : PySem.W.Frag} {mg : Str → Option Value} {base : Heap} {C_Rule C_Reader C_BadText : Addr}
theorem cal_is_pair (T : TX P K mg C_Rule C_Reader C_BadText) : Cal P w K mg base 2 "is_pair" spPair [] := by
  obtain ⟨f0, fd, D, dn⟩ := T.d_is_pair
  have G_is_whole := cal_is_whole (P := P) (w := w) (base := base) T
  refine cal0 D (D.fn.binds dn fun _ _ _ _ _ _ us hl => match us, hl with | [_], _ => rfl) .nil sc_is_pair (by walk_at "len") (fun cdv A outer s H vs Q E hr h => ?_)
  obtain ⟨t, q, rfl, e, ⟨o1, o2, o3⟩, k⟩ := h
  refine ⟨_, (pss_cons (ps_if (PW.pt (pw_or (pt_not (pt_val (pe_callB call_isi (by rfl) T.b_isinstance (by decide +kernel) (pa_cons (pv 0) (pa_cons (pe_bltn (v := .ty "tuple") (u := .type "tuple") rfl T.b_tuple (by decide +kernel) rfl) pa_nil))))) (pw_or (pt_cmpR op_ne (pe_callB cr_lenS (by rfl) T.b_len (by decide +kernel) (pa_cons (pv 0) pa_nil)) pe_int (nomark _)) (pw_or (pt_not (pt_val (pe_c G_is_whole hr (by decide) rfl (pa_cons (pe_ix ix_tup (pv 0) pe_int (fun _ _ => rfl)) pa_nil)))) (pw_or1 (pt_not (pt_val (pe_c G_is_whole hr (by decide) rfl (pa_cons (pe_ix ix_tup (pv 0) pe_int (fun _ _ => rfl)) pa_nil))))))))) (pss_one (ps_ret pe_bl)) pss_nil)
      (pss_one (ps_ret (pe_chain3 op_le op_le op_le pe_int (pe_ix ix_tup (pv 0) pe_int (fun _ _ => rfl)) (pe_ix ix_tup (pv 0) pe_int (fun _ _ => rfl)) (pe_gc rfl T.g_MOST_LAYERS))))), ?_⟩
  walk_at "rd"
  refine rd_isiT e ?_
  walk_at "rd"
  refine rd_lenT e ?_
  walk_at "rd"
  refine rd_iteNF (by simp) ?_
  walk_at "rd"
  refine rd_ixT e (by rfl) ?_
  walk_at "rd"
  refine ⟨_, rfl, ?_⟩
  walk_at "rd"
  refine rd_ixT e (by rfl) ?_
  walk_at "rd"
  refine ⟨_, rfl, ?_⟩
  walk_at "rd"
  refine rd_ixT e (by rfl) ?_
  walk_at "rd"
  refine rd_iteT o1 ?_
  walk_at "rd"
  refine rd_ixT e (by rfl) ?_
  walk_at "rd"
  refine rd_iteT o2 ?_
  walk_at "rd"
  rw [decide_eq_true (Int.le_trans o3 (by decide) : q.1 ≤ 12)]
  exact k
theorem mak_Rule_init (T : TX P K mg C_Rule C_Reader C_BadText) : Mak P w K mg base 3 "Rule" C_Rule (spRule C_Rule) [] := by
  obtain ⟨f0, fd, D, dn, mk⟩ := T.m_Rule_init
  have G_is_pair := cal_is_pair (P := P) (w := w) (base := base) T
  have G_shortest := cal_shortest (P := P) (w := w) (base := base) T
  refine mak0 mk T.mg_Rule D (D.binds dn fun _ _ _ _ _ _ us hl => match us, hl with | [_, _, _], _ => rfl) .nil sc_Rule_init (by walk_at "len") (fun cdv A outer s H vs Q E hr h => ?_)
  obtain ⟨self, dx, fl, pl, H0, xs1, xs2, f, q, rfl, s0, h0, eS, sf, sp, df, dq, lf, lq, hq, okf, okq, k⟩ := h
  have l1 : xs1.length = f.length := by rw [df.length]; simp [pairsD]
  have l2 : xs2.length = q.length := by rw [dq.length]; simp [pairsD]
  have q0 : 0 < q.length := List.length_pos_iff.mpr hq
  refine ⟨_, (pss_cons (ps_for PassesOwn.never rfl (pi_tup (pe_tup (pa_cons (pv 1) (pa_cons (pv 2) pa_nil)))) (pg_n 3 sc_Rule_init.nd) (pss_one (ps_if (PW.pt (pw_or (pt_not (pt_val (pe_callB call_isiT (by rfl) T.b_isinstance (by decide +kernel) (pa_cons (pv 3) (pa_cons (pe_tup (pa_cons (pe_bltn (v := .ty "list") (u := .type "list") rfl T.b_list (by decide +kernel) rfl) (pa_cons (pe_bltn (v := .ty "tuple") (u := .type "tuple") rfl T.b_tuple (by decide +kernel) rfl) pa_nil))) pa_nil))))) (pw_or1 (pt_cmpR op_gt (pe_callB cr_lenS (by rfl) T.b_len (by decide +kernel) (pa_cons (pv 3) pa_nil)) (pe_gc rfl T.g_MOST_PAIRS) (nomark _))))) (pss_one ps_never) pss_nil)))
      (pss_cons (ps_if (pt_cmpR op_eq (pe_callB cr_lenS (by rfl) T.b_len (by decide +kernel) (pa_cons (pv 2) pa_nil)) pe_int (nomark _)) (pss_one ps_never) pss_nil)
      (pss_cons (ps_for PassesOwn.never rfl (pi_enum (by rfl) T.b_enumerate (pa_cons (pe_lst (pa_star (pv 1) (pa_star (pv 2) pa_nil))) pa_nil)) (pg_tup rfl (pgs_cons (pg_n 4 sc_Rule_init.nd) (pgs_cons (pg_n 5 sc_Rule_init.nd) pgs_nil))) (pss_one (ps_if (pt_not (pt_val (pe_c G_is_pair hr (by decide) rfl (pa_cons (pv 5) pa_nil)))) (pss_one ps_never) pss_nil)))
      (pss_one (ps_asg (pe_c G_shortest hr (by decide) rfl (pa_cons (pe_callTy cr_tupOf (by rfl) T.b_tuple (by decide +kernel) (pa_cons (pv 1) pa_nil)) (pa_cons (pe_callTy cr_tupOf (by rfl) T.b_tuple (by decide +kernel) (pa_cons (pv 2) pa_nil)) pa_nil))) (pg_tup rfl (pgs_cons (pg_attr (pv 0)) (pgs_cons (pg_attr (pv 0)) pgs_nil)))))))), ?_⟩
  walk_at "rd"
  refine rd_newT (by simp) fun u H1 _ s1 eu _ => ?_
  refine rd_tpR (SqT.of eu) ?_
  refine forR_tup (xs := [.ref fl, .ref pl]) (fun i σ H' => ∃ v, Same H1 H' ∧ σ = [some (.ref self), some (.ref fl), some (.ref pl), v, none, none]) (fun i σ H' ⟨v, s, _⟩ => SqT.of (s _ _ eu)) ⟨none, Same.refl _, rfl⟩ ?_ ?_
  · rintro i x σ H' hi ⟨v, s2, rfl⟩
    obtain ⟨b, ys, rfl, hb, hlb⟩ : ∃ b ys, x = V.ref b ∧ Seq H b ys ∧ ys.length ≤ 6 := by
      match i, hi with
      | 0, hi => cases hi; exact ⟨fl, xs1, rfl, sf, by omega⟩
      | 1, hi => cases hi; exact ⟨pl, xs2, rfl, sp, by omega⟩
      | i + 2, hi => simp at hi
    walk_at "rd"
    refine rd_newT (by simp) fun u2 H3 _ s3 eu2 _ => ?_
    walk_at "rd"
    refine rd_isiTS (hb.mono ((s1.trans s2).trans s3)) eu2 ?_
    walk_at "rd"
    refine rd_lenQ (hb.mono ((s1.trans s2).trans s3)) ?_
    walk_at "rd"
    refine rd_iteF (by omega) ?_
    walk_at "rd"
    exact ⟨_, s2.trans s3, rfl⟩
  · rintro σ H' ⟨v, s2, rfl⟩
    have s12 := s1.trans s2
    walk_at "rd"
    refine rd_lenQ (sp.mono s12) ?_
    walk_at "rd"
    refine rd_iteF (by omega) ?_
    walk_at "rd"
    refine ⟨_, _, rfl, (sf.mono s12).star, ?_⟩
    walk_at "rd"
    refine ⟨_, _, rfl, (sp.mono s12).star, ?_⟩
    walk_at "rd"
    rw [List.append_nil]
    refine rd_newL (by rw [List.length_append]; omega) fun L H3 _ s3 eL _ => ?_
    walk_at "rd"
    refine rd_enR (SqL.of eL) ?_
    refine forR_enum (xs := xs1 ++ xs2) (fun i σ H' => ∃ v4 v5, Same H3 H' ∧ σ = [some (.ref self), some (.ref fl), some (.ref pl), v, v4, v5]) (fun i σ H' ⟨_, _, s, _⟩ => SqL.of (s _ _ eL)) ⟨none, none, Same.refl _, rfl⟩ ?_ ?_
    · rintro i x σ H' t H4 hi ⟨v4, v5, s4, rfl⟩ _ s5 et _
      have dall : DnAll H4 (xs1 ++ xs2) ((f ++ q).map pairD) := by
        rw [List.map_append]
        exact (df.append dq).mono (((s12.trans s3).trans s4).trans s5)
      have hil : i < (xs1 ++ xs2).length := (List.getElem?_eq_some_iff.mp hi).1
      have hif : i < (f ++ q).length := by rw [List.length_append] at hil ⊢; omega
      obtain ⟨y, hy, dy⟩ := dall.get (i := i) (d := pairD (f ++ q)[i]) (by rw [List.getElem?_map, List.getElem?_eq_getElem hif]; rfl)
      rw [hi] at hy
      cases hy
      obtain ⟨tp, rfl, etp⟩ := dy.dt.pair_inv
      have ok : OkP (f ++ q)[i] := by
        have := List.getElem_mem hif
        rcases List.mem_append.mp this with z | z
        · exact okf _ z
        · exact okq _ z
      refine rd_gtup et rfl ?_
      walk_at "rd"
      refine ⟨tp, _, rfl, etp, ok, ?_⟩
      walk_at "rd"
      exact ⟨_, _, s4.trans s5, rfl⟩
    · rintro σ H' ⟨v4, v5, s4, rfl⟩
      have s14 := (s12.trans s3).trans s4
      walk_at "rd"
      refine rd_tupOfS (sf.mono s14) fun p1 H5 s5 ep1 => ?_
      walk_at "rd"
      refine rd_tupOfS (sp.mono (s14.trans s5)) fun p2 H6 s6 ep2 => ?_
      walk_at "rd"
      have s16 := (s14.trans s5).trans s6
      refine ⟨p1, p2, Int × Int, inferInstance, pairD, f, q, rfl, enc_pair, .tup (s6 _ _ ep1) (df.mono s16), .tup ep2 (dq.mono s16), hq, lf, lq, fun H7 t r1 r2 f' q' s7 et d1 d2 hq' hat => ?_⟩
      have s17 := s16.trans s7
      refine rd_gtup et rfl ?_
      refine rd_gcons ?_
      refine rd_gfld0 ?_
      walk_at "rd"
      refine rd_gfld (s17 _ _ eS) T.cl_Rule T.na_Rule_front (by decide) fun H8 e8 e8' => ?_
      refine rd_gcons ?_
      refine rd_gfld0 ?_
      walk_at "rd"
      refine rd_gfld e8' T.cl_Rule T.na_Rule_period (by show 1 < 1000; decide) fun H9 e9 e9' => ?_
      walk_at "rd"
      have hr := ruleAt_made (fs := []) (s17 _ _ eS) e8 e9 d1 d2
      have heq : atp f q = atp f' q' := by
        funext g
        rw [atp_atO, atp_atO, hat]
      exact k H9 (same_made (s0.trans s17) h0 e8 e9) ⟨f', q', hr, hq', heq, good_of hq okf okq⟩
end
end Sl
set_option Elab.async false
set_option linter.all false
set_option maxRecDepth 100000
set_option maxHeartbeats 8000000
set_option exponentiation.threshold 9000
namespace Sl
open PySem L2 C8 StX SiltT
local macro_rules | `(tactic| walk_at "side") => `(tactic| first
  | exact cdivw (by omega) (by omega)
  | exact cmulw (by omega) (by omega) (by omega) (by omega)
  | exact Or.inr ⟨by omega, by omega⟩
  | exact Or.inl ⟨by omega, by omega⟩
  | omega
  | exact ⟨by omega, by omega, by decide⟩
  | decide)
local macro_rules | `(tactic| walk_at "rd1") => `(tactic| first
  | with_reducible refine rd_seq ?_
  | with_reducible refine rd_asg ?_
  | with_reducible refine rd_drop ?_
  | with_reducible refine rd_ret ?_
  | with_reducible refine rd_retN ?_
  | with_reducible refine rd_ifS ?_
  | ((with_reducible refine rd_var0 ?_); refine ⟨_, rfl, ?_⟩)
  | with_reducible refine rd_c ?_
  | with_reducible refine rd_op ?_
  | with_reducible refine rd_un ?_
  | with_reducible refine rd_I0 ?_
  | with_reducible refine rd_U ?_
  | ((with_reducible refine rd_I ?c ?_); (case c => walk_at "side"))
  | with_reducible refine rd_ipI ?_
  | with_reducible refine rd_eqI ?_
  | with_reducible refine rd_neI ?_
  | with_reducible refine rd_test ?_
  | with_reducible refine rd_tB ?_
  | with_reducible refine rd_bl ?_
  | with_reducible refine rd_not ?_
  | with_reducible refine rd_and ?_
  | with_reducible refine rd_or ?_
  | with_reducible refine rd_andV ?_
  | with_reducible refine rd_orV ?_
  | with_reducible refine rd_notV ?_
  | with_reducible refine rd_ifE ?_
  | with_reducible refine rd_chain ?_
  | with_reducible refine rd_chain3 ?_
  | with_reducible refine rd_nil ?_
  | with_reducible refine rd_cons ?_
  | with_reducible refine rd_call ?_
  | with_reducible refine rd_CB ?_
  | with_reducible refine rd_par ?_
  | with_reducible refine rd_par2 ?_
  | with_reducible refine rd_par3 ?_
  | with_reducible refine rd_par4 ?_
  | ((with_reducible refine rd_aug0 ?_); refine ⟨_, rfl, ?_⟩)
  | with_reducible refine rd_gname ?_
  | with_reducible refine rd_gcons ?_
  | with_reducible refine rd_gnil ?_
  | with_reducible refine rd_max ?_
  | with_reducible refine rd_min ?_
  | with_reducible refine rd_int1 ?_
  | with_reducible refine rd_abs ?_
  | with_reducible refine rd_lst ?_
  | with_reducible refine rd_tup ?_
  | with_reducible refine rd_bm ?_
  | with_reducible refine rd_fld0 ?_
  | with_reducible refine rd_sl0 ?_
  | with_reducible refine rd_noP ?_
  | with_reducible refine rd_part ?_
  | with_reducible refine rd_part2 ?_
  | with_reducible refine rd_meth0 ?_
  | with_reducible refine rd_star ?_
  | with_reducible refine rd_for ?_
  | with_reducible refine rd_rng1 ?_
  | with_reducible refine rd_rng2 ?_
  | with_reducible refine rd_rng3 ?_
  | with_reducible refine rd_iList ?_
  | with_reducible refine rd_iTup ?_
  | with_reducible refine rd_iEnum ?_
  | with_reducible refine rd_lc ?_
  | with_reducible refine rd_yes ?_
  | with_reducible refine rd_augS ?_
  | with_reducible refine rd_drawNew ?_
  | with_reducible refine rd_make0 ?_
  | with_reducible refine rd_next ?_
  | with_reducible refine rd_break ?_
  | with_reducible refine rd_cont ?_
  | with_reducible refine rd_iteTT ?_
  | with_reducible refine rd_iteFF ?_
  | with_reducible refine rd_iteNTT ?_
  | with_reducible refine rd_iteNFF ?_
  | with_reducible refine rd_con0 ?_
  | with_reducible refine rd_truO0 ?_
  | with_reducible refine rd_gfld0 ?_
  | with_reducible refine rd_dc ?_
  | with_reducible refine rd_iKeys ?_
  | with_reducible refine rd_dget0 ?_
  | with_reducible refine rd_dput0 ?_
  | with_reducible refine rd_dnot0 ?_
  | with_reducible refine rd_iEnumT ?_
  | with_reducible refine rd_raP0 ?_
  | with_reducible refine rd_xf0 ?_
  | with_reducible refine rd_cKw ?_
  | with_reducible refine rd_iStr ?_
  | with_reducible refine rd_gSub ?_
  | with_reducible refine rd_asgG ?_)
local macro_rules | `(tactic| walk_at "rd") => `(tactic| repeat walk_at "rd1")
local macro_rules | `(tactic| walk_at "len") => `(tactic| first
  | (intro vs H Q E h; obtain ⟨h2, _⟩ := h; rw [h2]; rfl)
  | (intro vs H Q E h; obtain ⟨_, h2, _⟩ := h; rw [h2]; rfl)
  | (intro vs H Q E h; obtain ⟨_, _, h2, _⟩ := h; rw [h2]; rfl)
  | (intro vs H Q E h; obtain ⟨_, _, _, h2, _⟩ := h; rw [h2]; rfl)
  | (intro vs H Q E h; obtain ⟨_, _, _, _, h2, _⟩ := h; rw [h2]; rfl)
  | (intro vs H Q E h; obtain ⟨_, _, _, _, _, h2, _⟩ := h; rw [h2]; rfl)
  | (intro vs H Q E h; obtain ⟨_, _, _, _, _, _, h2, _⟩ := h; rw [h2]; rfl)
  | (intro vs H Q E h; obtain ⟨_, _, _, _, _, _, _, h2, _⟩ := h; rw [h2]; rfl)
  | (intro vs H Q E h; obtain ⟨_, _, _, _, _, _, _, _, h2, _⟩ := h; rw [h2]; rfl)
  | (intro vs H Q E h; obtain ⟨_, _, _, _, _, _, _, _, _, h2, _⟩ := h; rw [h2]; rfl)
  | (intro vs H Q E h; obtain ⟨_, _, _, _, _, _, _, _, _, _, h2, _⟩ := h; rw [h2]; rfl)
  | (intro vs H Q E h; obtain ⟨_, _, _, _, _, _, _, _, _, _, _, h2, _⟩ := h; rw [h2]; rfl)
  | (intro vs H Q E h; obtain ⟨_, _, _, _, _, _, _, _, _, _, _, _, h2, _⟩ := h; rw [h2]; rfl))
/-! rules told just as they are kept -/
def OkW (q : Int × Int) : Prop := 2 ≤ q.2 ∧ q.2 ≤ q.1 ∧ q.1 ≤ 12
/-- the rule that front and period tell -/
def RuleS (C : Addr) (H : Hp) (a : Addr) (f q : List (Int × Int)) : Prop := RuleAt C H a (pairsD (shN f q).1) (pairsD (shN f q).2)
theorem RuleS.mono {C : Addr} {H H' : Hp} {a : Addr} {f q : List (Int × Int)} (s : Same H H') (h : RuleS C H a f q) : RuleS C H' a f q := RuleAt.mono s h
def spPairW : Sp := fun vs H Q _ => ∃ (t : Addr) (q : Int × Int), vs = [.ref t] ∧ H t = some (.tup [.int q.1, .int q.2]) ∧ OkW q ∧ Q (.bl true) H
def spShortW : Sp := fun vs H Q _ => ∃ (t1 t2 : Addr) (f q : List (Int × Int)), vs = [.ref t1, .ref t2] ∧ Dn H (.ref t1) (.tuple (f.map pairD)) ∧ Dn H (.ref t2) (.tuple (q.map pairD)) ∧ q ≠ [] ∧ f.length ≤ 6 ∧ q.length ≤ 6 ∧
  ∀ H' t s1 s2, Same H H' → H' t = some (.tup [.ref s1, .ref s2]) → Dn H' (.ref s1) (.tuple ((shN f q).1.map pairD)) → Dn H' (.ref s2) (.tuple ((shN f q).2.map pairD)) → Q (.ref t) H'
def spRuleW (C : Addr) : Sp := fun vs H Q _ => ∃ (self dx fl pl : Addr) (H0 : Hp) (xs1 xs2 : List V) (f q : List (Int × Int)), vs = [.ref self, .ref fl, .ref pl] ∧ Same H0 H ∧ H0 self = none ∧ H self = some (.ins C dx []) ∧
  Seq H fl xs1 ∧ Seq H pl xs2 ∧ DnAll H xs1 (pairsD f) ∧ DnAll H xs2 (pairsD q) ∧ f.length ≤ 6 ∧ q.length ≤ 6 ∧ q ≠ [] ∧ (∀ x ∈ f, OkW x) ∧ (∀ x ∈ q, OkW x) ∧
  ∀ H', Same H0 H' → RuleS C H' self f q → Q .non H'
def spChkRu (C : Addr) : Sp := fun vs H Q _ => ∃ a dx fs, vs = [.ref a] ∧ H a = some (.ins C dx fs) ∧ Q .non H
def spREqW (C : Addr) : Sp := fun vs H Q _ => ∃ (a b : Addr) (f q : List (Int × Int)), vs = [.ref a, .ref b] ∧ RuleS C H a f q ∧ RuleS C H b f q ∧ ∀ H', Same H H' → Q (.bl true) H'
theorem find_lt {q : List (Int × Int)} {i : Nat} (h : repQ q i = true) : q.length % (i + 1) = 0 ∧ q = (List.replicate (q.length / (i + 1)) (q.take (i + 1))).flatten := by
  unfold repQ at h
  rw [Bool.and_eq_true, decide_eq_true_iff, decide_eq_true_iff] at h
  exact h
section
variable {P : Program} {w : World} {K : PySem.W.Frag} {mg : Str → Option Value} {base : Heap} {C_Rule C_Reader C_BadText : Addr}
theorem cal_is_pair_w (T : TX P K mg C_Rule C_Reader C_BadText) : Cal P w K mg base 2 "is_pair" spPairW [] := by
  obtain ⟨f0, fd, D, dn⟩ := T.d_is_pair
  have G_is_whole := cal_is_whole (P := P) (w := w) (base := base) T
  refine cal0 D (D.fn.binds dn fun _ _ _ _ _ _ us hl => match us, hl with | [_], _ => rfl) .nil sc_is_pair (by walk_at "len") (fun cdv A outer s H vs Q E hr h => ?_)
  obtain ⟨t, q, rfl, e, ⟨o1, o2, o3⟩, k⟩ := h
  refine ⟨_, (pss_cons (ps_if (PW.pt (pw_or (pt_not (pt_val (pe_callB call_isi (by rfl) T.b_isinstance (by decide +kernel) (pa_cons (pv 0) (pa_cons (pe_bltn (v := .ty "tuple") (u := .type "tuple") rfl T.b_tuple (by decide +kernel) rfl) pa_nil))))) (pw_or (pt_cmpR op_ne (pe_callB cr_lenS (by rfl) T.b_len (by decide +kernel) (pa_cons (pv 0) pa_nil)) pe_int (nomark _)) (pw_or (pt_not (pt_val (pe_c G_is_whole hr (by decide) rfl (pa_cons (pe_ix ix_tup (pv 0) pe_int (fun _ _ => rfl)) pa_nil)))) (pw_or1 (pt_not (pt_val (pe_c G_is_whole hr (by decide) rfl (pa_cons (pe_ix ix_tup (pv 0) pe_int (fun _ _ => rfl)) pa_nil))))))))) (pss_one (ps_ret pe_bl)) pss_nil)
      (pss_one (ps_ret (pe_chain3 op_le op_le op_le pe_int (pe_ix ix_tup (pv 0) pe_int (fun _ _ => rfl)) (pe_ix ix_tup (pv 0) pe_int (fun _ _ => rfl)) (pe_gc rfl T.g_MOST_LAYERS))))), ?_⟩
  walk_at "rd"
  refine rd_isiT e ?_
  walk_at "rd"
  refine rd_lenT e ?_
  walk_at "rd"
  refine rd_iteNF (by simp) ?_
  walk_at "rd"
  refine rd_ixT e (by rfl) ?_
  walk_at "rd"
  refine ⟨_, rfl, ?_⟩
  walk_at "rd"
  refine rd_ixT e (by rfl) ?_
  walk_at "rd"
  refine ⟨_, rfl, ?_⟩
  walk_at "rd"
  refine rd_ixT e (by rfl) ?_
  walk_at "rd"
  refine rd_iteT o1 ?_
  walk_at "rd"
  refine rd_ixT e (by rfl) ?_
  walk_at "rd"
  refine rd_iteT o2 ?_
  walk_at "rd"
  rw [decide_eq_true (o3 : q.1 ≤ 12)]
  exact k
theorem cal_shortest_w (T : TX P K mg C_Rule C_Reader C_BadText) : Cal P w K mg base 1 "shortest" spShortW [] := by
  obtain ⟨f0, fd, D, dn⟩ := T.d_shortest
  refine cal0 D (D.fn.binds dn fun _ _ _ _ _ _ us hl => match us, hl with | [_, _], _ => rfl) .nil sc_shortest (by walk_at "len") (fun cdv A outer s H vs Q E hr h => ?_)
  obtain ⟨t1, t2, f, q, rfl, h1, h2, hq, hf6, hq6, k⟩ := h
  obtain ⟨xs2, e2, d2⟩ := h2.tup_inv
  have l2 : xs2.length = q.length := by rw [d2.length, List.length_map]
  have q0 : 0 < q.length := List.length_pos_iff.mpr hq
  have E := enc_pair
  refine ⟨_, (pss_cut (ps_for PassesOwn.never rfl (pi_range2 rfl T.b_range (pa_cons pe_int (pa_cons (pe_op op_add (pe_callB cr_lenS (by rfl) T.b_len (by decide +kernel) (pa_cons (pv 1) pa_nil)) pe_int) pa_nil))) (pg_n 2 sc_shortest.nd) (pss_one (ps_if (PW.pt (pw_and (pt_cmpR op_eq (pe_op op_modN (pe_callB cr_lenS (by rfl) T.b_len (by decide +kernel) (pa_cons (pv 1) pa_nil)) (pv 2)) pe_int (nomark _)) (pw_and1 (pt_cmpR (op_eqD hr.units) (pv 1) (pe_op op_repTA (pe_slice sl_tupA (pv 1) po_none (po_some (pv 2))) (pe_op op_fdivW (pe_callB cr_lenS (by rfl) T.b_len (by decide +kernel) (pa_cons (pv 1) pa_nil)) (pv 2))) (nomark _))))) (pss_cons (ps_s 1 sc_shortest.nd (pe_slice sl_tupA (pv 1) po_none (po_some (pv 2))))
      (pss_one ps_break)) pss_nil)))
      (pss_cons (ps_while PassesOwn.never (PW.pt (pw_and (pt_cmpR (op_neD hr.units) (pv 0) (pe_tup pa_nil) (nomark _)) (pw_and1 (pt_cmpR (op_eqD hr.units) (pe_ix ix_tup (pv 0) (pe_un un_neg pe_int) (fun _ _ => rfl)) (pe_ix ix_tup (pv 1) (pe_un un_neg pe_int) (fun _ _ => rfl)) (nomark _))))) (pss_one (ps_par (i := 0) (j := 1) rfl sc_shortest.nd rfl rfl (by decide) rfl rfl (pa_cons (pe_slice sl_tupA (pv 0) po_none (po_some (pe_un un_neg pe_int))) (pa_cons (pe_tup (pa_cons (pe_ix ix_tup (pv 1) (pe_un un_neg pe_int) (fun _ _ => rfl)) (pa_star (pe_slice sl_tupA (pv 1) po_none (po_some (pe_un un_neg pe_int))) pa_nil))) pa_nil)) (by rfl))))
      (pss_one (ps_ret (pe_tup (pa_cons (pv 0) (pa_cons (pv 1) pa_nil))))))), ?_⟩
  refine ⟨fun σ' H' => ∃ (t2' : Addr) (v : Option V), Same H H' ∧ Dn H' (.ref t2') (.tuple ((perL q).map pairD)) ∧ σ' = [some (.ref t1), some (.ref t2'), v], ?_, ?_⟩
  · walk_at "rd"
    refine rd_lenT e2 ?_
    walk_at "rd"
    refine rd_rgR2 (by omega) ?_
    refine forR_rng (fun i σ H' => ∃ v, Same H H' ∧ σ = [some (.ref t1), some (.ref t2), v] ∧ ∀ j, j < i → repQ q j = false) ⟨none, Same.refl _, rfl, fun j h => by omega⟩ ?_ ?_
    · rintro i σ H' hi ⟨v, s1, rfl, no⟩
      have hile : i + 1 ≤ q.length := by omega
      walk_at "rd"
      refine rd_lenT (s1 _ _ e2) ?_
      walk_at "rd"
      have em : (1 : Int) + (i : Int) = ((i + 1 : Nat) : Int) := by omega
      rw [em, l2]
      rw [Int.fmod_eq_emod_of_nonneg _ (by omega), ← Int.natCast_emod]
      have next : repQ q i = false → ∀ j, j < i + 1 → repQ q j = false := fun z j hj => by
        rcases Nat.lt_or_ge j i with g | g
        · exact no j g
        · obtain rfl : j = i := by omega
          exact z
      refine rd_ite (fun c1 => ?_) (fun c1 => ?_)
      · walk_at "rd"
        refine rd_slA (s1 _ _ e2) fun p2 H2 s2 ep2 => ?_
        rw [cut_take] at ep2
        have s12 := s1.trans s2
        walk_at "rd"
        refine rd_lenT (s12 _ _ e2) ?_
        rw [l2]
        walk_at "rd"
        have c1' : q.length % (i + 1) = 0 := by omega
        obtain ⟨kk, hkk⟩ := Nat.dvd_of_mod_eq_zero c1'
        have hkd : ((q.length : Int)) / ((i + 1 : Nat) : Int) = (kk : Int) := by
          rw [← Int.natCast_ediv, hkk, Nat.mul_div_cancel_left _ (Nat.succ_pos _)]
        have hkn : q.length / (i + 1) = kk := by rw [hkk, Nat.mul_div_cancel_left _ (Nat.succ_pos _)]
        have b7 := bb_pos
        walk_at "rd"
        rw [hkd]
        have hk0 : 0 < kk := by
          rcases Nat.eq_zero_or_pos kk with z | z
          · rw [z] at hkk; omega
          · exact z
        have dtk := (d2.take (i + 1)).mono s12
        rw [← List.map_take] at dtk
        have eqf : (List.replicate kk ((q.take (i + 1)).map pairD)).flatten = (List.replicate kk (q.take (i + 1))).flatten.map pairD := by rw [List.map_flatten, List.map_replicate]
        have hr : q.take (i + 1) ≠ [] := by
          intro z
          have := congrArg List.length z
          rw [List.length_take, List.length_nil] at this
          omega
        refine rd_repTA ep2 (by intro z; have := congrArg List.length z; rw [List.length_take, List.length_nil] at this; omega) hk0 (by rw [hkk] at hq6; have : 1 * kk ≤ (i + 1) * kk := Nat.mul_le_mul_right _ (by omega); omega) (by rw [List.length_take]; omega) fun r H3 s3 er => ?_
        refine rd_eqD ((h2.mono (s12.trans s3)).dt) (Dn.dt (.tup er ((dtk.rep kk).mono s3))) (E.shT q) (by rw [eqf]; exact E.shT _) ?_
        rw [eqf, E.tup]
        walk_at "rd"
        refine rd_ite (fun c2 => ?_) (fun c2 => ?_)
        · have yes : repQ q i = true := by
            unfold repQ
            rw [decide_eq_true c1', hkn, decide_eq_true c2]
            rfl
          walk_at "rd"
          refine rd_slA ((s12.trans s3) _ _ e2) fun p4 H4 s4 ep4 => ?_
          rw [cut_take] at ep4
          walk_at "rd"
          refine ⟨p4, _, (s12.trans s3).trans s4, ?_, rfl⟩
          rw [per_at yes (by omega) no]
          exact .tup ep4 (by rw [List.map_take]; exact (d2.take (i + 1)).mono ((s12.trans s3).trans s4))
        · walk_at "rd"
          refine ⟨_, s12.trans s3, rfl, next ?_⟩
          unfold repQ
          rw [hkn, decide_eq_false c2, Bool.and_false]
      · walk_at "rd"
        refine ⟨_, s1, rfl, next ?_⟩
        unfold repQ
        rw [decide_eq_false (fun z => c1 (by omega)), Bool.false_and]
    · rintro σ H' ⟨v, s1, rfl, no⟩
      refine ⟨t2, v, s1, ?_, rfl⟩
      rw [per_no fun j hj => no j (by omega)]
      exact h2.mono s1
  · rintro σ0 H0 ⟨t2', v0, s0, dq0, rfl⟩
    have hp6 := (per_mem q).2
    walk_at "rd"
    refine rd_while (fun n σ H' => ∃ (u1 u2 : Addr) (f1 q1 : List (Int × Int)) (v : Option V), n = f1.length ∧ Same H H' ∧ Dn H' (.ref u1) (.tuple (f1.map pairD)) ∧ Dn H' (.ref u2) (.tuple (q1.map pairD)) ∧ q1 ≠ [] ∧ turnN f1.length f1 q1 = shN f q ∧ q1.length ≤ 6 ∧
      σ = [some (.ref u1), some (.ref u2), v]) _ ⟨t1, t2', f, perL q, v0, rfl, s0, h1.mono s0, dq0, ?_, rfl, by omega, rfl⟩ ?_
    · intro z
      have h := per_mem q
      unfold perL at z
      split at z
      · have := congrArg List.length z
        rw [List.length_take, List.length_nil] at this
        omega
      · exact hq z
    rintro n σ H' ⟨u1, u2, f1, q1, v, rfl, s1, du1, du2, hq1, hat1, hl1, rfl⟩
    walk_at "rd"
    refine rd_newT (by simp) fun w H2 _ s2 ew _ => ?_
    refine rd_neD (d := .tuple (f1.map pairD)) (e := .tuple ([].map pairD)) ((du1.mono s2).dt) (.tup ew .nil) (E.shT f1) (E.shT []) ?_
    rw [E.tup]
    walk_at "rd"
    have out : turnN f1.length f1 q1 = (f1, q1) → ∀ H3, Same H2 H3 → (tRet (tTup (tCons (tVar 0) (tCons (tVar 1) tNil)))) { nx := fun x H' => Q .non H', rt := Q } [some (.ref u1), some (.ref u2), v] H3 := by
      intro he H3 s3
      rw [hat1] at he
      walk_at "rd"
      refine rd_newT (by simp) fun w4 H4 _ s4 ew4 _ => ?_
      have s := (s2.trans s3).trans s4
      refine k H4 w4 u1 u2 (s1.trans s) ew4 ?_ ?_
      · rw [he]
        exact du1.mono s
      · rw [he]
        exact du2.mono s
    refine rd_iteN (fun c1 => ?_) (fun c1 => ?_)
    · obtain ⟨f2, x, rfl⟩ : ∃ f2 x, f1 = f2 ++ [x] := ⟨f1.dropLast, f1.getLast c1, (List.dropLast_concat_getLast c1).symm⟩
      obtain ⟨q2, y, rfl⟩ : ∃ q2 y, q1 = q2 ++ [y] := ⟨q1.dropLast, q1.getLast hq1, (List.dropLast_concat_getLast hq1).symm⟩
      obtain ⟨xs1, e1, d1⟩ := du1.tup_inv
      obtain ⟨ys1, e3, d3⟩ := du2.tup_inv
      rw [List.map_append] at d1 d3
      have split : ∀ {H0 : Hp} {vs : List V} {ds : List PyData} {d : PyData}, DnAll H0 vs (ds ++ [d]) → ∃ vs' v, vs = vs' ++ [v] ∧ DnAll H0 vs' ds ∧ Dn H0 v d := by
        intro H0 vs ds
        induction ds generalizing vs with
        | nil =>
          intro d h
          cases h with
          | cons h t => cases t; exact ⟨[], _, rfl, .nil, h⟩
        | cons a ds ih =>
          intro d h
          cases h with
          | cons h t =>
            obtain ⟨vs', v, rfl, h2, h3⟩ := ih t
            exact ⟨_ :: vs', v, rfl, .cons h h2, h3⟩
      obtain ⟨vs1, v1, rfl, da1, db1⟩ := split d1
      obtain ⟨vs3, v3, rfl, da3, db3⟩ := split d3
      rw [show (f2 ++ [x]).length = f2.length + 1 by simp, turn_snoc] at hat1 out
      walk_at "rd"
      refine rd_ixT (s2 _ _ e1) (atI_last _ _) ?_
      walk_at "rd"
      refine rd_ixT (s2 _ _ e3) (atI_last _ _) ?_
      refine rd_eqD ((db1.mono s2).dt) ((db3.mono s2).dt) (E.sh x) (E.sh y) ?_
      rw [E.eq]
      walk_at "rd"
      refine rd_ite (fun c2 => ?_) (fun c2 => ?_)
      · subst c2
        rw [if_pos rfl] at hat1
        refine rd_whN ?_
        walk_at "rd"
        refine rd_slA (s2 _ _ e1) fun p3 H3 s3 ep3 => ?_
        rw [cut_front] at ep3
        walk_at "rd"
        refine rd_ixT ((s2.trans s3) _ _ e3) (atI_last _ _) ?_
        walk_at "rd"
        refine rd_slA ((s2.trans s3) _ _ e3) fun p4 H4 s4 ep4 => ?_
        rw [cut_front] at ep4
        refine ⟨p4, _, rfl, .inl (SqT.of ep4), ?_⟩
        walk_at "rd"
        have l3 := da3.length
        rw [List.length_map] at l3
        rw [List.length_append, List.length_singleton] at hl1
        refine rd_newT (by simp; omega) fun w5 H5 _ s5 ew5 _ => ?_
        walk_at "rd"
        have s25 := ((s2.trans s3).trans s4).trans s5
        refine ⟨f2.length, by rw [List.length_append, List.length_singleton]; omega, p3, w5, f2, x :: q2, v, rfl, s1.trans s25, .tup ((s4.trans s5) _ _ ep3) (da1.mono s25), .tup ew5 ?_, by simp, hat1, by rw [List.length_cons]; omega, rfl⟩
        · rw [List.append_nil]
          exact .cons (db3.mono s25) (da3.mono s25)
      · exact out (by rw [if_neg c2]) H2 (Same.refl _)
    · refine rd_iteFF ?_
      have z : f1 = [] := by simpa using c1
      exact out (by rw [z]; exact turn_nil _ _) H2 (Same.refl _)
theorem mak_Rule_init_w (T : TX P K mg C_Rule C_Reader C_BadText) : Mak P w K mg base 3 "Rule" C_Rule (spRuleW C_Rule) [] := by
  obtain ⟨f0, fd, D, dn, mk⟩ := T.m_Rule_init
  have G_is_pair := cal_is_pair_w (P := P) (w := w) (base := base) T
  have G_shortest := cal_shortest_w (P := P) (w := w) (base := base) T
  refine mak0 mk T.mg_Rule D (D.binds dn fun _ _ _ _ _ _ us hl => match us, hl with | [_, _, _], _ => rfl) .nil sc_Rule_init (by walk_at "len") (fun cdv A outer s H vs Q E hr h => ?_)
  obtain ⟨self, dx, fl, pl, H0, xs1, xs2, f, q, rfl, s0, h0, eS, sf, sp, df, dq, lf, lq, hq, okf, okq, k⟩ := h
  have l1 : xs1.length = f.length := by rw [df.length]; simp [pairsD]
  have l2 : xs2.length = q.length := by rw [dq.length]; simp [pairsD]
  have q0 : 0 < q.length := List.length_pos_iff.mpr hq
  refine ⟨_, (pss_cons (ps_for PassesOwn.never rfl (pi_tup (pe_tup (pa_cons (pv 1) (pa_cons (pv 2) pa_nil)))) (pg_n 3 sc_Rule_init.nd) (pss_one (ps_if (PW.pt (pw_or (pt_not (pt_val (pe_callB call_isiT (by rfl) T.b_isinstance (by decide +kernel) (pa_cons (pv 3) (pa_cons (pe_tup (pa_cons (pe_bltn (v := .ty "list") (u := .type "list") rfl T.b_list (by decide +kernel) rfl) (pa_cons (pe_bltn (v := .ty "tuple") (u := .type "tuple") rfl T.b_tuple (by decide +kernel) rfl) pa_nil))) pa_nil))))) (pw_or1 (pt_cmpR op_gt (pe_callB cr_lenS (by rfl) T.b_len (by decide +kernel) (pa_cons (pv 3) pa_nil)) (pe_gc rfl T.g_MOST_PAIRS) (nomark _))))) (pss_one ps_never) pss_nil)))
      (pss_cons (ps_if (pt_cmpR op_eq (pe_callB cr_lenS (by rfl) T.b_len (by decide +kernel) (pa_cons (pv 2) pa_nil)) pe_int (nomark _)) (pss_one ps_never) pss_nil)
      (pss_cons (ps_for PassesOwn.never rfl (pi_enum (by rfl) T.b_enumerate (pa_cons (pe_lst (pa_star (pv 1) (pa_star (pv 2) pa_nil))) pa_nil)) (pg_tup rfl (pgs_cons (pg_n 4 sc_Rule_init.nd) (pgs_cons (pg_n 5 sc_Rule_init.nd) pgs_nil))) (pss_one (ps_if (pt_not (pt_val (pe_c G_is_pair hr (by decide) rfl (pa_cons (pv 5) pa_nil)))) (pss_one ps_never) pss_nil)))
      (pss_one (ps_asg (pe_c G_shortest hr (by decide) rfl (pa_cons (pe_callTy cr_tupOf (by rfl) T.b_tuple (by decide +kernel) (pa_cons (pv 1) pa_nil)) (pa_cons (pe_callTy cr_tupOf (by rfl) T.b_tuple (by decide +kernel) (pa_cons (pv 2) pa_nil)) pa_nil))) (pg_tup rfl (pgs_cons (pg_attr (pv 0)) (pgs_cons (pg_attr (pv 0)) pgs_nil)))))))), ?_⟩
  walk_at "rd"
  refine rd_newT (by simp) fun u H1 _ s1 eu _ => ?_
  refine rd_tpR (SqT.of eu) ?_
  refine forR_tup (xs := [.ref fl, .ref pl]) (fun i σ H' => ∃ v, Same H1 H' ∧ σ = [some (.ref self), some (.ref fl), some (.ref pl), v, none, none]) (fun i σ H' ⟨v, s, _⟩ => SqT.of (s _ _ eu)) ⟨none, Same.refl _, rfl⟩ ?_ ?_
  · rintro i x σ H' hi ⟨v, s2, rfl⟩
    obtain ⟨b, ys, rfl, hb, hlb⟩ : ∃ b ys, x = V.ref b ∧ Seq H b ys ∧ ys.length ≤ 6 := by
      match i, hi with
      | 0, hi => cases hi; exact ⟨fl, xs1, rfl, sf, by omega⟩
      | 1, hi => cases hi; exact ⟨pl, xs2, rfl, sp, by omega⟩
      | i + 2, hi => simp at hi
    walk_at "rd"
    refine rd_newT (by simp) fun u2 H3 _ s3 eu2 _ => ?_
    walk_at "rd"
    refine rd_isiTS (hb.mono ((s1.trans s2).trans s3)) eu2 ?_
    walk_at "rd"
    refine rd_lenQ (hb.mono ((s1.trans s2).trans s3)) ?_
    walk_at "rd"
    refine rd_iteF (by omega) ?_
    walk_at "rd"
    exact ⟨_, s2.trans s3, rfl⟩
  · rintro σ H' ⟨v, s2, rfl⟩
    have s12 := s1.trans s2
    walk_at "rd"
    refine rd_lenQ (sp.mono s12) ?_
    walk_at "rd"
    refine rd_iteF (by omega) ?_
    walk_at "rd"
    refine ⟨_, _, rfl, (sf.mono s12).star, ?_⟩
    walk_at "rd"
    refine ⟨_, _, rfl, (sp.mono s12).star, ?_⟩
    walk_at "rd"
    rw [List.append_nil]
    refine rd_newL (by rw [List.length_append]; omega) fun L H3 _ s3 eL _ => ?_
    walk_at "rd"
    refine rd_enR (SqL.of eL) ?_
    refine forR_enum (xs := xs1 ++ xs2) (fun i σ H' => ∃ v4 v5, Same H3 H' ∧ σ = [some (.ref self), some (.ref fl), some (.ref pl), v, v4, v5]) (fun i σ H' ⟨_, _, s, _⟩ => SqL.of (s _ _ eL)) ⟨none, none, Same.refl _, rfl⟩ ?_ ?_
    · rintro i x σ H' t H4 hi ⟨v4, v5, s4, rfl⟩ _ s5 et _
      have dall : DnAll H4 (xs1 ++ xs2) ((f ++ q).map pairD) := by
        rw [List.map_append]
        exact (df.append dq).mono (((s12.trans s3).trans s4).trans s5)
      have hil : i < (xs1 ++ xs2).length := (List.getElem?_eq_some_iff.mp hi).1
      have hif : i < (f ++ q).length := by rw [List.length_append] at hil ⊢; omega
      obtain ⟨y, hy, dy⟩ := dall.get (i := i) (d := pairD (f ++ q)[i]) (by rw [List.getElem?_map, List.getElem?_eq_getElem hif]; rfl)
      rw [hi] at hy
      cases hy
      obtain ⟨tp, rfl, etp⟩ := dy.dt.pair_inv
      have ok : OkW (f ++ q)[i] := by
        have := List.getElem_mem hif
        rcases List.mem_append.mp this with z | z
        · exact okf _ z
        · exact okq _ z
      refine rd_gtup et rfl ?_
      walk_at "rd"
      refine ⟨tp, _, rfl, etp, ok, ?_⟩
      walk_at "rd"
      exact ⟨_, _, s4.trans s5, rfl⟩
    · rintro σ H' ⟨v4, v5, s4, rfl⟩
      have s14 := (s12.trans s3).trans s4
      walk_at "rd"
      refine rd_tupOfS (sf.mono s14) fun p1 H5 s5 ep1 => ?_
      walk_at "rd"
      refine rd_tupOfS (sp.mono (s14.trans s5)) fun p2 H6 s6 ep2 => ?_
      walk_at "rd"
      have s16 := (s14.trans s5).trans s6
      refine ⟨p1, p2, f, q, rfl, .tup (s6 _ _ ep1) (df.mono s16), .tup ep2 (dq.mono s16), hq, lf, lq, fun H7 t r1 r2 s7 et d1 d2 => ?_⟩
      have s17 := s16.trans s7
      refine rd_gtup et rfl ?_
      refine rd_gcons ?_
      refine rd_gfld0 ?_
      walk_at "rd"
      refine rd_gfld (s17 _ _ eS) T.cl_Rule T.na_Rule_front (by decide) fun H8 e8 e8' => ?_
      refine rd_gcons ?_
      refine rd_gfld0 ?_
      walk_at "rd"
      refine rd_gfld e8' T.cl_Rule T.na_Rule_period (by show 1 < 1000; decide) fun H9 e9 e9' => ?_
      walk_at "rd"
      have hr := ruleAt_made (fs := []) (s17 _ _ eS) e8 e9 d1 d2
      exact k H9 (same_made (s0.trans s17) h0 e8 e9) hr
theorem met_Rule_eq (T : TX P K mg C_Rule C_Reader C_BadText) : Met P w K mg base 1 C_Rule "__eq__" (spREqW C_Rule) [] := by
  obtain ⟨f0, fd, D, dn, me, _⟩ := T.m_Rule_eq
  refine met0 T.cl_Rule me D (D.binds dn fun _ _ _ _ _ _ us hl => match us, hl with | [_, _], _ => rfl) sc_Rule_eq (by walk_at "len") (fun cdv A outer s H vs Q E hr h => ?_)
  obtain ⟨a, b, f, q, rfl, ⟨dx, t1, t2, ea, a1, a2⟩, ⟨dy, u1, u2, eb, b1, b2⟩, k⟩ := h
  refine ⟨_, (pss_one (ps_ret (pe_and (pe_callB (cr_isC T.i_Rule) (by rfl) T.b_isinstance (by decide +kernel) (pa_cons (pv 1) (pa_cons (pe_gc rfl T.g_Rule) pa_nil))) (pe_one (pe_cmpR (op_eqD hr.units) (pe_tup (pa_cons (pe_fld (pv 0) rfl) (pa_cons (pe_fld (pv 0) rfl) pa_nil))) (pe_tup (pa_cons (pe_fld (pv 1) rfl) (pa_cons (pe_fld (pv 1) rfl) pa_nil))) (nomark _)))))), ?_⟩
  walk_at "rd"
  refine rd_isC eb ?_
  walk_at "rd"
  refine rd_fld ea T.cl_Rule T.na_Rule_front (rf_front _ _) ?_
  walk_at "rd"
  refine rd_fld ea T.cl_Rule T.na_Rule_period (rf_period _ _) ?_
  walk_at "rd"
  refine rd_newT (by simp) fun v H1 _ s1 ev _ => ?_
  walk_at "rd"
  refine rd_fld (s1 _ _ eb) T.cl_Rule T.na_Rule_front (rf_front _ _) ?_
  walk_at "rd"
  refine rd_fld (s1 _ _ eb) T.cl_Rule T.na_Rule_period (rf_period _ _) ?_
  walk_at "rd"
  refine rd_newT (by simp) fun w H2 _ s2 ew _ => ?_
  have sh : SeqAt.shaped (.tuple [.tuple (pairsD (shN f q).1), .tuple (pairsD (shN f q).2)]) = true := by
    have dm : ∀ l : List (Int × Int), PyData.canLayAll0 (pairsD l) = true := fun l => lay_map (fun x => by simp [pairD, PyData.canLay0, PyData.canLayAll0]) l
    have dd : ∀ l : List (Int × Int), PyData.depthAll (pairsD l) ≤ 60 := fun l => depth_map (fun x => by simp [pairD, PyData.depth, PyData.depthAll]) l
    have h1 := dd (shN f q).1
    have h2 := dd (shN f q).2
    refine Bool.and_eq_true_iff.mpr ⟨by simp only [PyData.canLay0, PyData.canLayAll0, dm]; rfl, decide_eq_true ?_⟩
    simp only [PyData.depth, PyData.depthAll]
    omega
  refine rd_eqD (d := .tuple [.tuple (pairsD (shN f q).1), .tuple (pairsD (shN f q).2)]) (e := .tuple [.tuple (pairsD (shN f q).1), .tuple (pairsD (shN f q).2)]) (.tup (s2 _ _ ev) (.cons (a1.mono (s1.trans s2)) (.cons (a2.mono (s1.trans s2)) .nil))) (.tup ew (.cons (b1.mono (s1.trans s2)) (.cons (b2.mono (s1.trans s2)) .nil))) sh sh ?_
  rw [eqv_self sh]
  exact k H2 (s1.trans s2)
theorem cal_check_rule_w (T : TX P K mg C_Rule C_Reader C_BadText) : Cal P w K mg base 1 "check_rule" (spChkRu C_Rule) [] := by
  obtain ⟨f0, fd, D, dn⟩ := T.d_check_rule
  refine cal0 D (D.fn.binds dn fun _ _ _ _ _ _ us hl => match us, hl with | [_], _ => rfl) .nil sc_check_rule (by walk_at "len") (fun cdv A outer s H vs Q E hr h => ?_)
  obtain ⟨a, dx, fs, rfl, e, k⟩ := h
  refine ⟨_, (pss_one (ps_if (pt_not (pt_val (pe_callB (cr_isC T.i_Rule) (by rfl) T.b_isinstance (by decide +kernel) (pa_cons (pv 0) (pa_cons (pe_gc rfl T.g_Rule) pa_nil))))) (pss_one ps_never) pss_nil)), ?_⟩
  walk_at "rd"
  refine rd_isC e ?_
  walk_at "rd"
  exact k
end
end Sl
set_option Elab.async false
set_option linter.all false
set_option maxRecDepth 100000
set_option maxHeartbeats 4000000
namespace Sl
open PySem L2 C8 StX Silt
local macro_rules | `(tactic| walk_at "side") => `(tactic| first
  | exact cdivw (by omega) (by omega)
  | exact cmulw (by omega) (by omega) (by omega) (by omega)
  | exact Or.inr ⟨by omega, by omega⟩
  | exact Or.inl ⟨by omega, by omega⟩
  | omega
  | exact ⟨by omega, by omega, by decide⟩
  | decide)
local macro_rules | `(tactic| walk_at "rd1") => `(tactic| first
  | with_reducible refine rd_seq ?_
  | with_reducible refine rd_asg ?_
  | with_reducible refine rd_drop ?_
  | with_reducible refine rd_ret ?_
  | with_reducible refine rd_retN ?_
  | with_reducible refine rd_ifS ?_
  | ((with_reducible refine rd_var0 ?_); refine ⟨_, rfl, ?_⟩)
  | with_reducible refine rd_c ?_
  | with_reducible refine rd_op ?_
  | with_reducible refine rd_un ?_
  | with_reducible refine rd_I0 ?_
  | with_reducible refine rd_U ?_
  | ((with_reducible refine rd_I ?c ?_); (case c => walk_at "side"))
  | with_reducible refine rd_ipI ?_
  | with_reducible refine rd_eqI ?_
  | with_reducible refine rd_neI ?_
  | with_reducible refine rd_test ?_
  | with_reducible refine rd_tB ?_
  | with_reducible refine rd_bl ?_
  | with_reducible refine rd_not ?_
  | with_reducible refine rd_and ?_
  | with_reducible refine rd_or ?_
  | with_reducible refine rd_andV ?_
  | with_reducible refine rd_orV ?_
  | with_reducible refine rd_notV ?_
  | with_reducible refine rd_ifE ?_
  | with_reducible refine rd_chain ?_
  | with_reducible refine rd_chain3 ?_
  | with_reducible refine rd_nil ?_
  | with_reducible refine rd_cons ?_
  | with_reducible refine rd_call ?_
  | with_reducible refine rd_CB ?_
  | with_reducible refine rd_par ?_
  | with_reducible refine rd_par2 ?_
  | with_reducible refine rd_par3 ?_
  | with_reducible refine rd_par4 ?_
  | ((with_reducible refine rd_aug0 ?_); refine ⟨_, rfl, ?_⟩)
  | with_reducible refine rd_gname ?_
  | with_reducible refine rd_gcons ?_
  | with_reducible refine rd_gnil ?_
  | with_reducible refine rd_max ?_
  | with_reducible refine rd_min ?_
  | with_reducible refine rd_int1 ?_
  | with_reducible refine rd_abs ?_
  | with_reducible refine rd_lst ?_
  | with_reducible refine rd_tup ?_
  | with_reducible refine rd_bm ?_
  | with_reducible refine rd_fld0 ?_
  | with_reducible refine rd_sl0 ?_
  | with_reducible refine rd_noP ?_
  | with_reducible refine rd_part ?_
  | with_reducible refine rd_part2 ?_
  | with_reducible refine rd_meth0 ?_
  | with_reducible refine rd_star ?_
  | with_reducible refine rd_for ?_
  | with_reducible refine rd_rng1 ?_
  | with_reducible refine rd_rng2 ?_
  | with_reducible refine rd_rng3 ?_
  | with_reducible refine rd_iList ?_
  | with_reducible refine rd_iTup ?_
  | with_reducible refine rd_iEnum ?_
  | with_reducible refine rd_lc ?_
  | with_reducible refine rd_yes ?_
  | with_reducible refine rd_augS ?_
  | with_reducible refine rd_drawNew ?_
  | with_reducible refine rd_make0 ?_
  | with_reducible refine rd_next ?_
  | with_reducible refine rd_break ?_
  | with_reducible refine rd_cont ?_
  | with_reducible refine rd_iteTT ?_
  | with_reducible refine rd_iteFF ?_
  | with_reducible refine rd_iteNTT ?_
  | with_reducible refine rd_iteNFF ?_
  | with_reducible refine rd_con0 ?_
  | with_reducible refine rd_truO0 ?_
  | with_reducible refine rd_gfld0 ?_
  | with_reducible refine rd_dc ?_
  | with_reducible refine rd_iKeys ?_
  | with_reducible refine rd_dget0 ?_
  | with_reducible refine rd_dput0 ?_
  | with_reducible refine rd_dnot0 ?_
  | with_reducible refine rd_iEnumT ?_
  | with_reducible refine rd_raP0 ?_
  | with_reducible refine rd_xf0 ?_
  | with_reducible refine rd_cKw ?_
  | with_reducible refine rd_iStr ?_
  | with_reducible refine rd_gSub ?_
  | with_reducible refine rd_asgG ?_)
local macro_rules | `(tactic| walk_at "rd") => `(tactic| repeat walk_at "rd1")
local macro_rules | `(tactic| walk_at "len") => `(tactic| first
  | (intro vs H Q E h; obtain ⟨h2, _⟩ := h; rw [h2]; rfl)
  | (intro vs H Q E h; obtain ⟨_, h2, _⟩ := h; rw [h2]; rfl)
  | (intro vs H Q E h; obtain ⟨_, _, h2, _⟩ := h; rw [h2]; rfl)
  | (intro vs H Q E h; obtain ⟨_, _, _, h2, _⟩ := h; rw [h2]; rfl)
  | (intro vs H Q E h; obtain ⟨_, _, _, _, h2, _⟩ := h; rw [h2]; rfl)
  | (intro vs H Q E h; obtain ⟨_, _, _, _, _, h2, _⟩ := h; rw [h2]; rfl)
  | (intro vs H Q E h; obtain ⟨_, _, _, _, _, _, h2, _⟩ := h; rw [h2]; rfl)
  | (intro vs H Q E h; obtain ⟨_, _, _, _, _, _, _, h2, _⟩ := h; rw [h2]; rfl)
  | (intro vs H Q E h; obtain ⟨_, _, _, _, _, _, _, _, h2, _⟩ := h; rw [h2]; rfl)
  | (intro vs H Q E h; obtain ⟨_, _, _, _, _, _, _, _, _, h2, _⟩ := h; rw [h2]; rfl)
  | (intro vs H Q E h; obtain ⟨_, _, _, _, _, _, _, _, _, _, h2, _⟩ := h; rw [h2]; rfl)
  | (intro vs H Q E h; obtain ⟨_, _, _, _, _, _, _, _, _, _, _, h2, _⟩ := h; rw [h2]; rfl)
  | (intro vs H Q E h; obtain ⟨_, _, _, _, _, _, _, _, _, _, _, _, h2, _⟩ := h; rw [h2]; rfl))
/-- the weight of a grade -/
def wat (f q : List Int) : Nat → Int := fun g => (atO f q g).getD 0
def wsum (w : Nat → Int) : Nat → List Int → Int
  | _, [] => 0
  | k, x :: xs => w k * x + wsum w (k + 1) xs
def wl (w : Nat → Int) : Nat → List Int → List Int
  | _, [] => []
  | k, x :: xs => w k * x :: wl w (k + 1) xs
theorem wl_sum (w : Nat → Int) : ∀ (k : Nat) (xs : List Int), (wl w k xs).sum = wsum w k xs
  | _, [] => rfl
  | k, x :: xs => by simp only [wl, wsum, List.sum_cons, wl_sum w (k + 1) xs]
theorem wl_len (w : Nat → Int) : ∀ (k : Nat) (xs : List Int), (wl w k xs).length = xs.length
  | _, [] => rfl
  | k, x :: xs => by simp only [wl, List.length_cons, wl_len w (k + 1) xs]
theorem wl_take (w : Nat → Int) : ∀ (xs : List Int) (k i : Nat) (x : Int), xs[i]? = some x → wl w k (xs.take (i + 1)) = wl w k (xs.take i) ++ [w (k + i) * x]
  | [], _, _, _, h => by simp at h
  | y :: ys, k, 0, x, h => by simp at h; subst h; simp [wl]
  | y :: ys, k, i + 1, x, h => by
    have h' : ys[i]? = some x := by simpa using h
    show w k * y :: wl w (k + 1) (ys.take (i + 1)) = w k * y :: wl w (k + 1) (ys.take i) ++ [w (k + (i + 1)) * x]
    rw [wl_take w ys (k + 1) i x h', show k + 1 + i = k + (i + 1) by omega]
    rfl
theorem wsum_tl (w : Nat → Int) : ∀ (k : Nat) (xs : List Int), wsum w (k + 1) xs = wsum (fun g => w (g + 1)) k xs
  | _, [] => rfl
  | k, x :: xs => by simp only [wsum, wsum_tl w (k + 1) xs]
/-- weights -/
def WeiP (C : Addr) (H : Hp) (a : Addr) (w : Nat → Int) : Prop := ∃ f q, RuleAt C H a (intsD f) (intsD q) ∧ q ≠ [] ∧ w = wat f q ∧ ∀ g, -100 ≤ w g ∧ w g ≤ 100
theorem WeiP.mono {C : Addr} {H H' : Hp} {a : Addr} {w : Nat → Int} (s : Same H H') (h : WeiP C H a w) : WeiP C H' a w := by
  obtain ⟨f, q, h1, h2, h3, h4⟩ := h
  exact ⟨f, q, h1.mono s, h2, h3, h4⟩
theorem WeiP.ins {C : Addr} {H : Hp} {a : Addr} {w : Nat → Int} (h : WeiP C H a w) : ∃ dx t1 t2, H a = some (.ins C dx (rf t1 t2)) := by
  obtain ⟨_, _, ⟨dx, t1, t2, e, _, _⟩, _⟩ := h
  exact ⟨dx, t1, t2, e⟩
theorem Dt.int_inv {H : Hp} {v : V} {i : Int} (h : Dt H v (.int i)) : v = .int i := by cases h; rfl
theorem wat_bound {f q : List Int} (hq : q ≠ []) (hf : ∀ x ∈ f, -100 ≤ x ∧ x ≤ 100) (hp : ∀ x ∈ q, -100 ≤ x ∧ x ≤ 100) (g : Nat) : -100 ≤ wat f q g ∧ wat f q g ≤ 100 := by
  obtain ⟨x, e, hx⟩ := atO_some (f := f) hq g
  unfold wat
  rw [e]
  exact hx.elim (hf x) (hp x)
def spWGet (C : Addr) : Sp := fun vs H Q _ => ∃ (a : Addr) (w : Nat → Int) (g : Int), vs = [.ref a, .int g] ∧ WeiP C H a w ∧ 0 ≤ g ∧ Q (.int (w g.toNat)) H
def spChkW (C : Addr) : Sp := fun vs H Q _ => ∃ a w, vs = [.ref a] ∧ WeiP C H a w ∧ Q .non H
def spTotal (C : Addr) : Sp := fun vs H Q _ => ∃ (a t : Addr) (w : Nat → Int) (ds : List Int), vs = [.ref a, .ref t] ∧ WeiP C H a w ∧ H t = some (.lst (ds.map V.int)) ∧ (∀ x ∈ ds, 0 ≤ x ∧ x ≤ 12) ∧ ds.length ≤ 3000 ∧ ∀ H', Same H H' → Q (.int (wsum w 0 ds)) H'
def spWeighed (C D : Addr) : Sp := fun vs H Q _ => ∃ (a b : Addr) (p : Pr) (w : Nat → Int) (d : Int), vs = [.ref a, .ref b, .int d] ∧ RuleP C H a p ∧ WeiP D H b w ∧ Dy d ∧ ∀ H', Same H H' → Q (.int (wsum w 0 (digits p d))) H'
def spWei (C : Addr) : Sp := fun vs H Q _ => ∃ (self dx fl pl : Addr) (H0 : Hp) (f q : List Int), vs = [.ref self, .ref fl, .ref pl] ∧ Same H0 H ∧ H0 self = none ∧ H self = some (.ins C dx []) ∧
  H fl = some (.lst (f.map V.int)) ∧ H pl = some (.lst (q.map V.int)) ∧ f.length ≤ 6 ∧ q.length ≤ 6 ∧ q ≠ [] ∧ (∀ x ∈ f, -100 ≤ x ∧ x ≤ 100) ∧ (∀ x ∈ q, -100 ≤ x ∧ x ≤ 100) ∧
  ∀ H', Same H0 H' → WeiP C H' self (wat f q) → Q .non H'
section
variable {P : Program} {w : World} {K : PySem.W.Frag} {mg : Str → Option Value} {base : Heap} {C_Rule C_Reader C_BadText : Addr}
end
end Sl
set_option Elab.async false
set_option linter.all false
set_option maxRecDepth 100000
set_option maxHeartbeats 4000000
set_option exponentiation.threshold 9000
namespace Sl
open PySem L2 C8 StX Silt
local macro_rules | `(tactic| walk_at "side") => `(tactic| first
  | exact cdivw (by omega) (by omega)
  | exact cmulw (by omega) (by omega) (by omega) (by omega)
  | exact Or.inr ⟨by omega, by omega⟩
  | exact Or.inl ⟨by omega, by omega⟩
  | omega
  | exact ⟨by omega, by omega, by decide⟩
  | decide)
local macro_rules | `(tactic| walk_at "rd1") => `(tactic| first
  | with_reducible refine rd_seq ?_
  | with_reducible refine rd_asg ?_
  | with_reducible refine rd_drop ?_
  | with_reducible refine rd_ret ?_
  | with_reducible refine rd_retN ?_
  | with_reducible refine rd_ifS ?_
  | ((with_reducible refine rd_var0 ?_); refine ⟨_, rfl, ?_⟩)
  | with_reducible refine rd_c ?_
  | with_reducible refine rd_op ?_
  | with_reducible refine rd_un ?_
  | with_reducible refine rd_I0 ?_
  | with_reducible refine rd_U ?_
  | ((with_reducible refine rd_I ?c ?_); (case c => walk_at "side"))
  | with_reducible refine rd_ipI ?_
  | with_reducible refine rd_eqI ?_
  | with_reducible refine rd_neI ?_
  | with_reducible refine rd_test ?_
  | with_reducible refine rd_tB ?_
  | with_reducible refine rd_bl ?_
  | with_reducible refine rd_not ?_
  | with_reducible refine rd_and ?_
  | with_reducible refine rd_or ?_
  | with_reducible refine rd_andV ?_
  | with_reducible refine rd_orV ?_
  | with_reducible refine rd_notV ?_
  | with_reducible refine rd_ifE ?_
  | with_reducible refine rd_chain ?_
  | with_reducible refine rd_chain3 ?_
  | with_reducible refine rd_nil ?_
  | with_reducible refine rd_cons ?_
  | with_reducible refine rd_call ?_
  | with_reducible refine rd_CB ?_
  | with_reducible refine rd_par ?_
  | with_reducible refine rd_par2 ?_
  | with_reducible refine rd_par3 ?_
  | with_reducible refine rd_par4 ?_
  | ((with_reducible refine rd_aug0 ?_); refine ⟨_, rfl, ?_⟩)
  | with_reducible refine rd_gname ?_
  | with_reducible refine rd_gcons ?_
  | with_reducible refine rd_gnil ?_
  | with_reducible refine rd_max ?_
  | with_reducible refine rd_min ?_
  | with_reducible refine rd_int1 ?_
  | with_reducible refine rd_abs ?_
  | with_reducible refine rd_lst ?_
  | with_reducible refine rd_tup ?_
  | with_reducible refine rd_bm ?_
  | with_reducible refine rd_fld0 ?_
  | with_reducible refine rd_sl0 ?_
  | with_reducible refine rd_noP ?_
  | with_reducible refine rd_part ?_
  | with_reducible refine rd_part2 ?_
  | with_reducible refine rd_meth0 ?_
  | with_reducible refine rd_star ?_
  | with_reducible refine rd_for ?_
  | with_reducible refine rd_rng1 ?_
  | with_reducible refine rd_rng2 ?_
  | with_reducible refine rd_rng3 ?_
  | with_reducible refine rd_iList ?_
  | with_reducible refine rd_iTup ?_
  | with_reducible refine rd_iEnum ?_
  | with_reducible refine rd_lc ?_
  | with_reducible refine rd_yes ?_
  | with_reducible refine rd_augS ?_
  | with_reducible refine rd_drawNew ?_
  | with_reducible refine rd_make0 ?_
  | with_reducible refine rd_next ?_
  | with_reducible refine rd_break ?_
  | with_reducible refine rd_cont ?_
  | with_reducible refine rd_iteTT ?_
  | with_reducible refine rd_iteFF ?_
  | with_reducible refine rd_iteNTT ?_
  | with_reducible refine rd_iteNFF ?_
  | with_reducible refine rd_con0 ?_
  | with_reducible refine rd_truO0 ?_
  | with_reducible refine rd_gfld0 ?_
  | with_reducible refine rd_dc ?_
  | with_reducible refine rd_iKeys ?_
  | with_reducible refine rd_dget0 ?_
  | with_reducible refine rd_dput0 ?_
  | with_reducible refine rd_dnot0 ?_
  | with_reducible refine rd_iEnumT ?_
  | with_reducible refine rd_raP0 ?_
  | with_reducible refine rd_xf0 ?_
  | with_reducible refine rd_cKw ?_
  | with_reducible refine rd_iStr ?_
  | with_reducible refine rd_gSub ?_
  | with_reducible refine rd_asgG ?_)
local macro_rules | `(tactic| walk_at "rd") => `(tactic| repeat walk_at "rd1")
local macro_rules | `(tactic| walk_at "len") => `(tactic| first
  | (intro vs H Q E h; obtain ⟨h2, _⟩ := h; rw [h2]; rfl)
  | (intro vs H Q E h; obtain ⟨_, h2, _⟩ := h; rw [h2]; rfl)
  | (intro vs H Q E h; obtain ⟨_, _, h2, _⟩ := h; rw [h2]; rfl)
  | (intro vs H Q E h; obtain ⟨_, _, _, h2, _⟩ := h; rw [h2]; rfl)
  | (intro vs H Q E h; obtain ⟨_, _, _, _, h2, _⟩ := h; rw [h2]; rfl)
  | (intro vs H Q E h; obtain ⟨_, _, _, _, _, h2, _⟩ := h; rw [h2]; rfl)
  | (intro vs H Q E h; obtain ⟨_, _, _, _, _, _, h2, _⟩ := h; rw [h2]; rfl)
  | (intro vs H Q E h; obtain ⟨_, _, _, _, _, _, _, h2, _⟩ := h; rw [h2]; rfl)
  | (intro vs H Q E h; obtain ⟨_, _, _, _, _, _, _, _, h2, _⟩ := h; rw [h2]; rfl)
  | (intro vs H Q E h; obtain ⟨_, _, _, _, _, _, _, _, _, h2, _⟩ := h; rw [h2]; rfl)
  | (intro vs H Q E h; obtain ⟨_, _, _, _, _, _, _, _, _, _, h2, _⟩ := h; rw [h2]; rfl)
  | (intro vs H Q E h; obtain ⟨_, _, _, _, _, _, _, _, _, _, _, h2, _⟩ := h; rw [h2]; rfl)
  | (intro vs H Q E h; obtain ⟨_, _, _, _, _, _, _, _, _, _, _, _, h2, _⟩ := h; rw [h2]; rfl))
theorem dd_far : (10 : Int) ^ 30 ≤ DD := by
  have h : (10 : Nat) ^ 30 ≤ DDn := by
    unfold DDn
    have e : (2 : Nat) ^ 2000 = 2 ^ 100 * 2 ^ 1900 := Nat.pow_add 2 100 1900
    have h1 : (1 : Nat) ≤ 2 ^ 1900 := Nat.pow_pos (by decide)
    have h2 : (10 : Nat) ^ 30 ≤ 2 ^ 100 := by decide
    rw [e]
    exact Nat.le_trans h2 (Nat.le_mul_of_pos_right _ h1)
  unfold DD
  exact Int.ofNat_le.mpr h
/-- a list to draw from stands at a -/
def DrawP (K : PySem.W.Frag) (H : Hp) (a : Addr) : Prop := ∃ (sc : Addr) (ns : List Int), H a = some (DrawO a sc) ∧ SqL K H sc (ns.map V.int)
theorem DrawP.mono {K : PySem.W.Frag} {H H' : Hp} {a : Addr} (s : Same H H') (h : DrawP K H a) : DrawP K H' a := by
  obtain ⟨sc, ns, e, q⟩ := h
  exact ⟨sc, ns, s _ _ e, L2.Same.seq s q⟩
theorem rd_ixSq {K : PySem.W.Frag} {H : Hp} {Q : VK} {a : Addr} {xs : List V} {j : Int} {v : V} (e : SqL K H a xs) (n : atI xs j = some v) (h : Q v H) : rIxL K (.ref a) (.int j) H Q := ⟨a, xs, j, v, rfl, rfl, e, n, h⟩
theorem fmod_pos {i j : Int} (h : 0 < j) : 0 ≤ i.fmod j ∧ i.fmod j < j := by
  rw [Int.fmod_eq_emod_of_nonneg _ (by omega)]
  exact ⟨Int.emod_nonneg _ (by omega), Int.emod_lt_of_pos _ h⟩
def spNumber (K : PySem.W.Frag) : Sp := fun vs H Q _ => ∃ (sc : Addr) (ns : List Int) (i : Int), vs = [.ref sc, .int i] ∧ SqL K H sc (ns.map V.int) ∧ ∀ H' n, Same H H' → Q (.int n) H'
def spTake (K : PySem.W.Frag) : Sp := fun vs H Q _ => ∃ (a : Addr) (m : Int), vs = [.ref a, .int m] ∧ DrawP K H a ∧ 0 < m ∧ ∀ H' n, Same H H' → 0 ≤ n → n < m → Q (.int n) H'
def spPick (K : PySem.W.Frag) : Sp := fun vs H Q _ => ∃ (a t : Addr) (xs : List V), vs = [.ref a, .ref t] ∧ DrawP K H a ∧ H t = some (.lst xs) ∧ xs ≠ [] ∧ ∀ H' (i : Nat) x, Same H H' → xs[i]? = some x → Q x H'
def spDPair (K : PySem.W.Frag) : Sp := fun vs H Q _ => ∃ (a : Addr), vs = [.ref a] ∧ DrawP K H a ∧ ∀ H' t q, Same H H' → OkP q → H' t = some (.tup [.int q.1, .int q.2]) → Q (.ref t) H'
/-- a told rule: a tuple of two lists of pairs -/
def ToldP (H : Hp) (t : Addr) (f q : List (Int × Int)) : Prop := ∃ l1 l2 xs1 xs2, H t = some (.tup [.ref l1, .ref l2]) ∧ H l1 = some (.lst xs1) ∧ H l2 = some (.lst xs2) ∧ DnAll H xs1 (pairsD f) ∧ DnAll H xs2 (pairsD q)
theorem ToldP.mono {H H' : Hp} {t : Addr} {f q : List (Int × Int)} (s : Same H H') (h : ToldP H t f q) : ToldP H' t f q := by
  obtain ⟨l1, l2, xs1, xs2, h1, h2, h3, h4, h5⟩ := h
  exact ⟨l1, l2, xs1, xs2, s _ _ h1, s _ _ h2, s _ _ h3, h4.mono s, h5.mono s⟩
/-- what is drawn may be told -/
structure OkT (f q : List (Int × Int)) : Prop where
  f2 : f.length ≤ 2
  q2 : q.length ≤ 2
  ne : q ≠ []
  okf : ∀ x ∈ f, OkP x
  okq : ∀ x ∈ q, OkP x
def spDRule (K : PySem.W.Frag) : Sp := fun vs H Q _ => ∃ (a : Addr), vs = [.ref a] ∧ DrawP K H a ∧ ∀ H' t f q, Same H H' → OkT f q → ToldP H' t f q → Q (.ref t) H'
def spFar (K : PySem.W.Frag) : Sp := fun vs H Q _ => ∃ (a : Addr), vs = [.ref a] ∧ DrawP K H a ∧ ∀ H' n, Same H H' → 0 ≤ n → n ≤ 10 ^ 21 → Q (.int n) H'
def spAt : Sp := fun vs H Q _ => ∃ (a : Addr) (f q : List (Int × Int)) (g : Int), vs = [.ref a, .int g] ∧ ToldP H a f q ∧ q ≠ [] ∧ 0 ≤ g ∧ ∀ t, H t = some (.tup [.int (atp f q g.toNat).1, .int (atp f q g.toNat).2]) → Q (.ref t) H
def spTail : Sp := fun vs H Q _ => ∃ (a : Addr) (f q : List (Int × Int)), vs = [.ref a] ∧ ToldP H a f q ∧ OkT f q ∧ ∀ H' t f' q', Same H H' → OkT f' q' → (∀ g, atp f' q' g = atp f q (g + 1)) → ToldP H' t f' q' → Q (.ref t) H'
theorem cut_drop1 {xs : List V} : cutV xs (some 1) none = xs.drop 1 := by
  unfold cutV
  rw [HT.sIx_none, show (1 : Int) = ((1 : Nat) : Int) from rfl, HT.sIx_nat]
  by_cases c : 1 ≤ xs.length
  · rw [Nat.min_eq_left c, List.take_of_length_le (by rw [List.length_drop]; omega)]
  · rw [Nat.min_eq_right (by omega), List.drop_of_length_le (Nat.le_refl _), List.drop_of_length_le (by omega)]
    simp
theorem DnAll.drop {H : Hp} : ∀ {vs : List V} {ds : List PyData} (n : Nat), DnAll H vs ds → DnAll H (vs.drop n) (ds.drop n)
  | _, _, 0, r => r
  | _, _, _ + 1, .nil => .nil
  | _, _, n + 1, .cons _ t => DnAll.drop n t
theorem atO_rot (q : List (Int × Int)) (g : Nat) : atO [] (q.drop 1 ++ q.take 1) g = atO [] q (g + 1) := by
  cases q with
  | nil => rfl
  | cons x r =>
    rw [atO_turn [] r x (g + 1)]
    show atO [] (r ++ [x]) g = atO [x] (r ++ [x]) (g + 1)
    unfold atO
    rw [if_neg (by simp), if_neg (by simp)]
    rfl
theorem atp_rot (q : List (Int × Int)) (g : Nat) : atp [] (q.drop 1 ++ q.take 1) g = atp [] q (g + 1) := by rw [atp_atO, atp_atO, atO_rot]
theorem atp_drop {f q : List (Int × Int)} (hf : f ≠ []) (g : Nat) : atp (f.drop 1) q g = atp f q (g + 1) := by
  rw [atp_atO, atp_atO]
  congr 1
  cases f with
  | nil => exact absurd rfl hf
  | cons x r =>
    show atO r q g = atO (x :: r) q (g + 1)
    unfold atO
    rw [List.length_cons]
    by_cases c : g < r.length
    · rw [if_pos c, if_pos (by omega), List.getElem?_cons_succ]
    · rw [if_neg c, if_neg (by omega)]
      congr 2
      omega
section
variable {P : Program} {w : World} {K : PySem.W.Frag} {mg : Str → Option Value} {base : Heap} {C_Rule C_Reader C_BadText : Addr}
theorem cal__law_number (T : TX P K mg C_Rule C_Reader C_BadText) : Cal P w K mg base 5 "_law_number" (spNumber K) [] := by
  obtain ⟨f0, fd, D, dn⟩ := T.d__law_number
  refine cal0 D (D.fn.binds dn fun _ _ _ _ _ _ us hl => match us, hl with | [_, _], _ => rfl) .nil sc__law_number (by walk_at "len") (fun cdv A outer s H vs Q E hr h => ?_)
  obtain ⟨sc, ns, i, rfl, hS, k⟩ := h
  refine ⟨_, (pss_cons (ps_if (pt_cmpR (op_eqD hr.units) (pv 0) (pe_lst pa_nil) (nomark _)) (pss_one (ps_ret (pe_callTy cr_int1 (by rfl) T.b_int (by decide +kernel) (pa_cons (pe_op op_modN (pe_op op_add (pe_op op_mul (pv 1) pe_int) pe_int) pe_int) pa_nil)))) pss_nil)
      (pss_cons (ps_s 2 sc__law_number.nd (pe_ix ix_list (pv 0) (pe_op op_modN (pv 1) (pe_callB cr_lenS (by rfl) T.b_len (by decide +kernel) (pa_cons (pv 0) pa_nil))) (fun _ _ => rfl)))
      (pss_cut (ps_if (pt_cmpR op_ge (pe_callB cr_abs (by rfl) T.b_abs (by decide +kernel) (pa_cons (pv 2) pa_nil)) (pe_op op_pow pe_int pe_int) (nomark _)) (pss_one (ps_s 2 sc__law_number.nd (pe_op op_modN (pv 2) (pe_op op_pow pe_int pe_int)))) pss_nil)
      (pss_cons (ps_s 3 sc__law_number.nd (pe_op op_modN (pe_op op_add (pe_op op_mul (pe_op op_add (pv 2) (pe_op op_mul pe_int (pv 1))) pe_int) (pe_op op_mul pe_int (pe_callB cr_lenS (by rfl) T.b_len (by decide +kernel) (pa_cons (pv 0) pa_nil)))) pe_int))
      (pss_one (ps_ret (pe_callTy cr_int1 (by rfl) T.b_int (by decide +kernel) (pa_cons (pe_op op_modN (pe_op op_add (pe_op op_mul (pe_op op_modN (pe_op op_mul (pv 3) pe_int) pe_int) pe_int) (pv 1)) pe_int) pa_nil)))))))), ?_⟩
  walk_at "rd"
  refine rd_newL (by decide) fun u H1 _ s1 eu _ => ?_
  refine ⟨.list (intsD ns), .list [], .lst (L2.Same.seq s1 hS) (DtAll.intsD ns).dp, .lst (SqL.of eu) .nil, shaped_ints ns, by decide, ?_⟩
  rw [eqv_nil]
  walk_at "rd"
  refine rd_ite (fun c => ?_) (fun c => ?_)
  · walk_at "rd"
    exact k _ _ s1
  · have hns : ns ≠ [] := fun z => c (by rw [z]; rfl)
    have hl : 0 < ns.length := List.length_pos_iff.mpr hns
    walk_at "rd"
    refine rd_lenSq (L2.Same.seq s1 hS) ?_
    rw [List.length_map]
    walk_at "rd"
    have fm := fmod_pos (i := i) (j := (ns.length : Int)) (by omega)
    obtain ⟨n, hn⟩ : ∃ n : Nat, i.fmod (ns.length : Int) = n := ⟨(i.fmod (ns.length : Int)).toNat, by omega⟩
    rw [hn]
    refine rd_ixSq (L2.Same.seq s1 hS) (v := .int (ns[n]'(by omega))) (atI_nat' (by rw [List.getElem?_map, List.getElem?_eq_getElem (by omega : n < ns.length)]; rfl)) ?_
    generalize ns[n]'(by omega) = c0
    refine ⟨fun σ' H' => ∃ c : Int, Same H H' ∧ σ' = [some (.ref sc), some (.int i), some (.int c), none], ?_, ?_⟩
    · walk_at "rd"
      refine rd_ite (fun c => ?_) (fun c => ?_)
      · walk_at "rd"
        exact ⟨_, s1, rfl⟩
      · walk_at "rd"
        exact ⟨_, s1, rfl⟩
    · rintro σ' H2 ⟨c, s2, rfl⟩
      walk_at "rd"
      refine rd_lenSq (L2.Same.seq s2 hS) ?_
      walk_at "rd"
      exact k _ _ s2
theorem cal__law_take (T : TX P K mg C_Rule C_Reader C_BadText) : Cal P w K mg base 6 "_law_take" (spTake K) [] := by
  obtain ⟨f0, fd, D, dn⟩ := T.d__law_take
  have G__law_number := cal__law_number (P := P) (w := w) (base := base) T
  refine cal0 D (D.fn.binds dn fun _ _ _ _ _ _ us hl => match us, hl with | [_, _], _ => rfl) .nil sc__law_take (by walk_at "len") (fun cdv A outer s H vs Q E hr h => ?_)
  obtain ⟨a, m, rfl, ⟨sc, ns, e, hS⟩, hm, k⟩ := h
  refine ⟨_, (pss_cons (ps_augS (pv 0) pe_int get_draw1 pe_int ip_add set_draw1)
      (pss_one (ps_ret (pe_op op_modN (pe_callTy cr_int1 (by rfl) T.b_int (by decide +kernel) (pa_cons (pe_c G__law_number hr (by decide) rfl (pa_cons (pe_ix ix_draw0 (pv 0) pe_int (fun _ _ => rfl)) (pa_cons (pe_callTy cr_int1 (by rfl) T.b_int (by decide +kernel) (pa_cons (pe_ix ix_draw1 (pv 0) pe_int (fun _ _ => rfl)) pa_nil)) pa_nil))) pa_nil)) (pv 1))))), ?_⟩
  walk_at "rd"
  refine rd_draw1 e fun i => ?_
  walk_at "rd"
  refine rd_setDraw1 e ?_
  walk_at "rd"
  refine rd_draw0 e ?_
  walk_at "rd"
  refine rd_draw1 e fun i => ?_
  walk_at "rd"
  refine ⟨sc, ns, _, rfl, hS, fun H' n s => ?_⟩
  walk_at "rd"
  have fm := fmod_pos (i := n) hm
  exact k H' _ s fm.1 fm.2
theorem cal__law_pick (T : TX P K mg C_Rule C_Reader C_BadText) : Cal P w K mg base 7 "_law_pick" (spPick K) [] := by
  obtain ⟨f0, fd, D, dn⟩ := T.d__law_pick
  have G__law_take := cal__law_take (P := P) (w := w) (base := base) T
  refine cal0 D (D.fn.binds dn fun _ _ _ _ _ _ us hl => match us, hl with | [_, _], _ => rfl) .nil sc__law_pick (by walk_at "len") (fun cdv A outer s H vs Q E hr h => ?_)
  obtain ⟨a, t, xs, rfl, hd, et, hne, k⟩ := h
  have hl : 0 < xs.length := List.length_pos_iff.mpr hne
  refine ⟨_, (pss_one (ps_ret (pe_ix ix_list (pv 1) (pe_c G__law_take hr (by decide) rfl (pa_cons (pv 0) (pa_cons (pe_callB cr_lenS (by rfl) T.b_len (by decide +kernel) (pa_cons (pv 1) pa_nil)) pa_nil))) (fun _ _ => rfl)))), ?_⟩
  walk_at "rd"
  refine rd_lenL et ?_
  walk_at "rd"
  refine ⟨a, _, rfl, hd, by omega, fun H' n s n0 n1 => ?_⟩
  obtain ⟨j, rfl⟩ : ∃ j : Nat, n = j := ⟨n.toNat, by omega⟩
  have hj : j < xs.length := by omega
  refine rd_ixL (s _ _ et) (atI_nat' (List.getElem?_eq_getElem hj)) ?_
  exact k H' j _ s (List.getElem?_eq_getElem hj)
theorem cal__law_pair (T : TX P K mg C_Rule C_Reader C_BadText) : Cal P w K mg base 8 "_law_pair" (spDPair K) [] := by
  obtain ⟨f0, fd, D, dn⟩ := T.d__law_pair
  have G__law_take := cal__law_take (P := P) (w := w) (base := base) T
  have G__law_pick := cal__law_pick (P := P) (w := w) (base := base) T
  refine cal0 D (D.fn.binds dn fun _ _ _ _ _ _ us hl => match us, hl with | [_], _ => rfl) .nil sc__law_pair (by walk_at "len") (fun cdv A outer s H vs Q E hr h => ?_)
  obtain ⟨a, rfl, hd, k⟩ := h
  refine ⟨_, (pss_cons (ps_s 1 sc__law_pair.nd (pe_op op_add pe_int (pe_c G__law_take hr (by decide) rfl (pa_cons (pv 0) (pa_cons pe_int pa_nil)))))
      (pss_one (ps_ret (pe_tup (pa_cons (pe_op op_add (pv 1) (pe_c G__law_pick hr (by decide) rfl (pa_cons (pv 0) (pa_cons (pe_lst (pa_cons pe_int (pa_cons pe_int (pa_cons pe_int (pa_cons pe_int pa_nil))))) pa_nil)))) (pa_cons (pv 1) pa_nil)))))), ?_⟩
  walk_at "rd"
  refine ⟨a, 3, rfl, hd, by decide, fun H1 n s1 n0 n1 => ?_⟩
  walk_at "rd"
  refine rd_newL (by simp) fun u H2 _ s2 eu _ => ?_
  walk_at "rd"
  refine ⟨a, u, _, rfl, hd.mono (s1.trans s2), eu, by simp, fun H3 i x s3 hx => ?_⟩
  obtain ⟨z, rfl, z0, z1⟩ : ∃ z : Int, x = .int z ∧ 0 ≤ z ∧ z ≤ 2 := by
    match i, hx with
    | 0, hx => cases hx; exact ⟨0, rfl, by decide, by decide⟩
    | 1, hx => cases hx; exact ⟨0, rfl, by decide, by decide⟩
    | 2, hx => cases hx; exact ⟨1, rfl, by decide, by decide⟩
    | 3, hx => cases hx; exact ⟨2, rfl, by decide, by decide⟩
    | i + 4, hx => simp at hx
  walk_at "rd"
  refine rd_newT (by simp) fun t H4 _ s4 et _ => ?_
  exact k H4 t (2 + n + z, 2 + n) (((s1.trans s2).trans s3).trans s4) ⟨by omega, by omega, by omega⟩ et
theorem cal__law_rule (T : TX P K mg C_Rule C_Reader C_BadText) : Cal P w K mg base 9 "_law_rule" (spDRule K) [] := by
  obtain ⟨f0, fd, D, dn⟩ := T.d__law_rule
  have G__law_pick := cal__law_pick (P := P) (w := w) (base := base) T
  have G__law_pair := cal__law_pair (P := P) (w := w) (base := base) T
  refine cal0 D (D.fn.binds dn fun _ _ _ _ _ _ us hl => match us, hl with | [_], _ => rfl) .nil sc__law_rule (by walk_at "len") (fun cdv A outer s H vs Q E hr h => ?_)
  obtain ⟨a, rfl, hd, k⟩ := h
  refine ⟨_, (pss_cons (ps_setLc (i := 1) (own := [("_law_turn", 2)]) (g := gName 2) (tt := tYes) rfl sc__law_rule.nd rfl rfl (sw_true rfl rfl rfl (by decide +kernel)) (pi_range1 rfl T.b_range (pa_cons (pe_c G__law_pick hr (by decide) rfl (pa_cons (pv 0) (pa_cons (pe_lst (pa_cons pe_int (pa_cons pe_int (pa_cons pe_int (pa_cons pe_int pa_nil))))) pa_nil))) pa_nil)) (blkOk_by (own := [("_law_turn", 2)]) (N := N__law_rule) (sc := fnScope s__law_rule) (by decide +kernel)) (fun _ _ _ _ _ => (pg_n 2 sc__law_rule.nd)) (fun _ _ _ _ _ => pts_nil) (fun _ _ _ _ _ => (pe_c G__law_pair hr (by decide) rfl (pa_cons (pv 0) pa_nil))))
      (pss_one (ps_ret (pe_tup (pa_cons (pv 1) (pa_cons (pe_lc (own := [("_law_turn", 2)]) (g := gName 2) (tt := tYes) rfl sc__law_rule.nd (pi_range1 rfl T.b_range (pa_cons (pe_op op_add pe_int (pe_c G__law_pick hr (by decide) rfl (pa_cons (pv 0) (pa_cons (pe_lst (pa_cons pe_int (pa_cons pe_int (pa_cons pe_int pa_nil)))) pa_nil)))) pa_nil)) (blkOk_by (own := [("_law_turn", 2)]) (N := N__law_rule) (sc := fnScope s__law_rule) (by decide +kernel)) (fun _ _ _ _ _ => (pg_n 2 sc__law_rule.nd)) (fun _ _ _ _ _ => pts_nil) (fun _ _ _ _ _ => (pe_c G__law_pair hr (by decide) rfl (pa_cons (pv 0) pa_nil)))) pa_nil)))))), ?_⟩
  walk_at "rd"
  refine rd_newL (by simp) fun u H1 _ s1 eu _ => ?_
  walk_at "rd"
  refine ⟨a, u, _, rfl, hd.mono s1, eu, by simp, fun H2 i x s2 hx => ?_⟩
  obtain ⟨z, rfl, z1⟩ : ∃ z : Nat, x = .int z ∧ z ≤ 2 := by
    match i, hx with
    | 0, hx => cases hx; exact ⟨0, rfl, by decide⟩
    | 1, hx => cases hx; exact ⟨0, rfl, by decide⟩
    | 2, hx => cases hx; exact ⟨1, rfl, by decide⟩
    | 3, hx => cases hx; exact ⟨2, rfl, by decide⟩
    | i + 4, hx => simp at hx
  walk_at "rd"
  have s12 := s1.trans s2
  refine rd_rgR1 (by omega) (by omega) ?_
  rw [Int.toNat_natCast]
  refine lcR_rng (fun D i H' => ∃ (l : List V) (f : List (Int × Int)), Same H2 H' ∧ H' D = some (.lst l) ∧ f.length = i ∧ (∀ x ∈ f, OkP x) ∧ DnAll H' l (pairsD f)) (fun D H' _ s e _ => ⟨[], [], s, e, rfl, by simp, .nil⟩) ?_ ?_
  · rintro D i H' hD hi ⟨l, f, s3, eD, hl, okf, df⟩
    walk_at "rd"
    refine ⟨rfl, ?_⟩
    walk_at "rd"
    refine ⟨a, rfl, hd.mono (s12.trans s3), fun H4 t q s4 okq et => ?_⟩
    refine rd_lcE (s4 _ _ eD) (by rw [df.length]; simp [pairsD]; omega) fun H5 eH e5 => ?_
    refine ⟨_, f ++ [q], by rw [eH]; exact Same.mut (s3.trans s4) hD, e5, by simp [hl], ?_, ?_⟩
    · intro x hx
      rcases List.mem_append.mp hx with h | h
      · exact okf x h
      · rw [List.mem_singleton.mp h]; exact okq
    · rw [eH]
      unfold pairsD
      rw [List.map_append]
      exact DnAll.updL (s4 _ _ eD) ((df.mono s4).append (.cons (.pair et) .nil))
  · rintro D H3 hD ⟨l, f, s3, eD, hl, okf, df⟩
    have s13 := s12.trans s3
    walk_at "rd"
    refine rd_newL (by simp) fun u2 H4 _ s4 eu2 _ => ?_
    walk_at "rd"
    have s14 := s13.trans s4
    refine ⟨a, u2, _, rfl, hd.mono s14, eu2, by simp, fun H5 i2 x2 s5 hx2 => ?_⟩
    obtain ⟨z2, rfl, z21⟩ : ∃ z : Nat, x2 = .int z ∧ z ≤ 1 := by
      match i2, hx2 with
      | 0, hx => cases hx; exact ⟨0, rfl, by decide⟩
      | 1, hx => cases hx; exact ⟨0, rfl, by decide⟩
      | 2, hx => cases hx; exact ⟨1, rfl, by decide⟩
      | i + 3, hx => simp at hx
    walk_at "rd"
    have s15 := s14.trans s5
    refine rd_rgR1 (by omega) (by omega) ?_
    have e1z : ((1 : Int) + (z2 : Int)).toNat = 1 + z2 := by omega
    rw [e1z]
    refine lcR_rng (fun D2 i H' => ∃ (l2 : List V) (q : List (Int × Int)), Same H5 H' ∧ H' D2 = some (.lst l2) ∧ q.length = i ∧ (∀ x ∈ q, OkP x) ∧ DnAll H' l2 (pairsD q)) (fun D2 H' _ s e _ => ⟨[], [], s, e, rfl, by simp, .nil⟩) ?_ ?_
    · rintro D2 i H' hD2 hi ⟨l2, q, s6, eD2, hl2, okq, dq⟩
      walk_at "rd"
      refine ⟨rfl, ?_⟩
      walk_at "rd"
      refine ⟨a, rfl, hd.mono (s15.trans s6), fun H7 t q2 s7 okq2 et => ?_⟩
      refine rd_lcE (s7 _ _ eD2) (by rw [dq.length]; simp [pairsD]; omega) fun H8 eH e8 => ?_
      refine ⟨_, q ++ [q2], by rw [eH]; exact Same.mut (s6.trans s7) hD2, e8, by simp [hl2], ?_, ?_⟩
      · intro x hx
        rcases List.mem_append.mp hx with h | h
        · exact okq x h
        · rw [List.mem_singleton.mp h]; exact okq2
      · rw [eH]
        unfold pairsD
        rw [List.map_append]
        exact DnAll.updL (s7 _ _ eD2) ((dq.mono s7).append (.cons (.pair et) .nil))
    · rintro D2 H6 hD2 ⟨l2, q, s6, eD2, hl2, okq, dq⟩
      walk_at "rd"
      refine rd_newT (by simp) fun t H7 _ s7 et _ => ?_
      have s37 := ((s4.trans s5).trans s6).trans s7
      refine k H7 t f q ((s15.trans s6).trans s7) ⟨by omega, by omega, fun z => by rw [z] at hl2; simp at hl2; omega, okf, okq⟩ ⟨D, D2, l, l2, et, s37 _ _ eD, s7 _ _ eD2, df.mono s37, dq.mono s7⟩
end
end Sl
set_option Elab.async false
set_option linter.all false
set_option maxRecDepth 100000
set_option maxHeartbeats 8000000
set_option exponentiation.threshold 9000
namespace Sl
open PySem L2 C8 StX SiltT
local macro_rules | `(tactic| walk_at "side") => `(tactic| first
  | exact cdivw (by omega) (by omega)
  | exact cmulw (by omega) (by omega) (by omega) (by omega)
  | exact Or.inr ⟨by omega, by omega⟩
  | exact Or.inl ⟨by omega, by omega⟩
  | omega
  | exact ⟨by omega, by omega, by decide⟩
  | decide)
local macro_rules | `(tactic| walk_at "rd1") => `(tactic| first
  | with_reducible refine rd_seq ?_
  | with_reducible refine rd_asg ?_
  | with_reducible refine rd_drop ?_
  | with_reducible refine rd_ret ?_
  | with_reducible refine rd_retN ?_
  | with_reducible refine rd_ifS ?_
  | ((with_reducible refine rd_var0 ?_); refine ⟨_, rfl, ?_⟩)
  | with_reducible refine rd_c ?_
  | with_reducible refine rd_op ?_
  | with_reducible refine rd_un ?_
  | with_reducible refine rd_I0 ?_
  | with_reducible refine rd_U ?_
  | ((with_reducible refine rd_I ?c ?_); (case c => walk_at "side"))
  | with_reducible refine rd_ipI ?_
  | with_reducible refine rd_eqI ?_
  | with_reducible refine rd_neI ?_
  | with_reducible refine rd_test ?_
  | with_reducible refine rd_tB ?_
  | with_reducible refine rd_bl ?_
  | with_reducible refine rd_not ?_
  | with_reducible refine rd_and ?_
  | with_reducible refine rd_or ?_
  | with_reducible refine rd_andV ?_
  | with_reducible refine rd_orV ?_
  | with_reducible refine rd_notV ?_
  | with_reducible refine rd_ifE ?_
  | with_reducible refine rd_chain ?_
  | with_reducible refine rd_chain3 ?_
  | with_reducible refine rd_nil ?_
  | with_reducible refine rd_cons ?_
  | with_reducible refine rd_call ?_
  | with_reducible refine rd_CB ?_
  | with_reducible refine rd_par ?_
  | with_reducible refine rd_par2 ?_
  | with_reducible refine rd_par3 ?_
  | with_reducible refine rd_par4 ?_
  | ((with_reducible refine rd_aug0 ?_); refine ⟨_, rfl, ?_⟩)
  | with_reducible refine rd_gname ?_
  | with_reducible refine rd_gcons ?_
  | with_reducible refine rd_gnil ?_
  | with_reducible refine rd_max ?_
  | with_reducible refine rd_min ?_
  | with_reducible refine rd_int1 ?_
  | with_reducible refine rd_abs ?_
  | with_reducible refine rd_lst ?_
  | with_reducible refine rd_tup ?_
  | with_reducible refine rd_bm ?_
  | with_reducible refine rd_fld0 ?_
  | with_reducible refine rd_sl0 ?_
  | with_reducible refine rd_noP ?_
  | with_reducible refine rd_part ?_
  | with_reducible refine rd_part2 ?_
  | with_reducible refine rd_meth0 ?_
  | with_reducible refine rd_star ?_
  | with_reducible refine rd_for ?_
  | with_reducible refine rd_rng1 ?_
  | with_reducible refine rd_rng2 ?_
  | with_reducible refine rd_rng3 ?_
  | with_reducible refine rd_iList ?_
  | with_reducible refine rd_iTup ?_
  | with_reducible refine rd_iEnum ?_
  | with_reducible refine rd_lc ?_
  | with_reducible refine rd_yes ?_
  | with_reducible refine rd_augS ?_
  | with_reducible refine rd_drawNew ?_
  | with_reducible refine rd_make0 ?_
  | with_reducible refine rd_next ?_
  | with_reducible refine rd_break ?_
  | with_reducible refine rd_cont ?_
  | with_reducible refine rd_iteTT ?_
  | with_reducible refine rd_iteFF ?_
  | with_reducible refine rd_iteNTT ?_
  | with_reducible refine rd_iteNFF ?_
  | with_reducible refine rd_con0 ?_
  | with_reducible refine rd_truO0 ?_
  | with_reducible refine rd_gfld0 ?_
  | with_reducible refine rd_dc ?_
  | with_reducible refine rd_iKeys ?_
  | with_reducible refine rd_dget0 ?_
  | with_reducible refine rd_dput0 ?_
  | with_reducible refine rd_dnot0 ?_
  | with_reducible refine rd_iEnumT ?_
  | with_reducible refine rd_raP0 ?_
  | with_reducible refine rd_xf0 ?_
  | with_reducible refine rd_cKw ?_
  | with_reducible refine rd_iStr ?_
  | with_reducible refine rd_gSub ?_
  | with_reducible refine rd_asgG ?_)
local macro_rules | `(tactic| walk_at "rd") => `(tactic| repeat walk_at "rd1")
local macro_rules | `(tactic| walk_at "len") => `(tactic| first
  | (intro vs H Q E h; obtain ⟨h2, _⟩ := h; rw [h2]; rfl)
  | (intro vs H Q E h; obtain ⟨_, h2, _⟩ := h; rw [h2]; rfl)
  | (intro vs H Q E h; obtain ⟨_, _, h2, _⟩ := h; rw [h2]; rfl)
  | (intro vs H Q E h; obtain ⟨_, _, _, h2, _⟩ := h; rw [h2]; rfl)
  | (intro vs H Q E h; obtain ⟨_, _, _, _, h2, _⟩ := h; rw [h2]; rfl)
  | (intro vs H Q E h; obtain ⟨_, _, _, _, _, h2, _⟩ := h; rw [h2]; rfl)
  | (intro vs H Q E h; obtain ⟨_, _, _, _, _, _, h2, _⟩ := h; rw [h2]; rfl)
  | (intro vs H Q E h; obtain ⟨_, _, _, _, _, _, _, h2, _⟩ := h; rw [h2]; rfl)
  | (intro vs H Q E h; obtain ⟨_, _, _, _, _, _, _, _, h2, _⟩ := h; rw [h2]; rfl)
  | (intro vs H Q E h; obtain ⟨_, _, _, _, _, _, _, _, _, h2, _⟩ := h; rw [h2]; rfl)
  | (intro vs H Q E h; obtain ⟨_, _, _, _, _, _, _, _, _, _, h2, _⟩ := h; rw [h2]; rfl)
  | (intro vs H Q E h; obtain ⟨_, _, _, _, _, _, _, _, _, _, _, h2, _⟩ := h; rw [h2]; rfl)
  | (intro vs H Q E h; obtain ⟨_, _, _, _, _, _, _, _, _, _, _, _, h2, _⟩ := h; rw [h2]; rfl))
/-! words of lines -/
theorem DnAll.getV' {H : Hp} : ∀ {vs : List V} {ds : List PyData} {i : Nat} {v : V}, DnAll H vs ds → vs[i]? = some v → ∃ d, ds[i]? = some d ∧ Dn H v d
  | _, _, 0, v, .cons h _, e => by cases e; exact ⟨_, rfl, h⟩
  | _, _, i + 1, v, .cons _ t, e => DnAll.getV' (i := i) t e
theorem sgn_le9 (c d : Nat) : (!decide (([d] : List Nat) < [c])) = decide (c ≤ d) := by
  by_cases h : c ≤ d
  · rw [decide_eq_true h, decide_eq_false (by rw [List.cons_lt_cons_iff]; simp; omega)]
    rfl
  · rw [decide_eq_false h, decide_eq_true (by rw [List.cons_lt_cons_iff]; omega)]
    rfl
theorem rd_leC9 {H : Hp} {Q : VK} {i j : Str} {c d : Nat} (e1 : i.cps.toList = [c]) (e2 : j.cps.toList = [d]) (h : Q (.bl (decide (c ≤ d))) H) : rLeS (.str i) (.str j) H Q := by
  refine rd_leS ?_
  rw [e1, e2, sgn_le9]
  exact h
def sgS (c : Nat) : Str := ⟨#[c]⟩
def spLet : Sp := fun vs H Q _ => ∃ c : Nat, vs = [.str (sgS c)] ∧ ∀ H', Same H H' → Q (.bl (isL c)) H'
def tokD (w : List Nat × Nat) : PyData := .tuple [.str ⟨w.1.toArray⟩, .int (w.2 : Nat)]
def spParts : Sp := fun vs H Q _ => ∃ z : Str, vs = [.str z] ∧ z.length ≤ 10000 ∧ ∀ H' p ws, Same H H' → H p = none → H' p = some (.lst ws) → DnAll H' ws ((toks 0 z.cps.toList).map tokD) → Q (.ref p) H'
theorem sg_inj {c d : Nat} (h : sgS c = sgS d) : c = d := by
  have := congrArg (fun z : Str => z.cps.toList) h
  have h2 : [c] = [d] := this
  exact (List.cons.inj h2).1
theorem hash_sg : ("#" : Str) = sgS 35 := by decide +kernel
theorem blank_sg : (" " : Str) = sgS 32 := by decide +kernel
theorem tw_lt {f : Nat → Bool} : ∀ {r : List Nat} {k : Nat}, k ≤ (r.takeWhile f).length → (k < (r.takeWhile f).length ↔ ∃ c, r[k]? = some c ∧ f c = true)
  | [], k, h => by simp
  | x :: r, k, h => by
    rw [List.takeWhile_cons] at h ⊢
    cases q : f x with
    | false =>
      rw [q] at h
      have h : k ≤ 0 := h
      obtain rfl : k = 0 := by omega
      simp [q]
    | true =>
      rw [q] at h
      rw [if_pos rfl, List.length_cons] at h ⊢
      cases k with
      | zero => simp [q]
      | succ k =>
        have := tw_lt (f := f) (r := r) (k := k) (by omega)
        rw [List.getElem?_cons_succ, ← this]
        omega
theorem tw_len {f : Nat → Bool} (r : List Nat) : (r.takeWhile f).length ≤ r.length := (List.takeWhile_sublist f).length_le
section
variable {P : Program} {w : World} {K : PySem.W.Frag} {mg : Str → Option Value} {base : Heap} {C_Rule C_Reader C_BadText : Addr}
theorem cal_is_letter (T : TX P K mg C_Rule C_Reader C_BadText) : Cal P w K mg base 1 "is_letter" spLet [] := by
  obtain ⟨f0, fd, D, dn⟩ := T.d_is_letter
  refine cal0 D (D.fn.binds dn fun _ _ _ _ _ _ us hl => match us, hl with | [_], _ => rfl) .nil sc_is_letter (by walk_at "len") (fun cdv A outer s H vs Q E hr h => ?_)
  obtain ⟨c, rfl, k⟩ := h
  refine ⟨_, (pss_one (ps_ret (pe_chain op_leS op_leS pe_str (pv 0) pe_str))), ?_⟩
  walk_at "rd"
  refine rd_leC9 (c := 97) (d := c) (by rfl) rfl ?_
  refine ⟨_, rfl, ?_⟩
  have k := k H (Same.refl H)
  unfold isL at k
  refine rd_ite (fun a1 => ?_) (fun a1 => ?_)
  · walk_at "rd"
    refine rd_leC9 (c := c) (d := 122) rfl (by rfl) ?_
    rw [decide_eq_true a1, Bool.true_and] at k
    exact k
  · rw [decide_eq_false a1, Bool.false_and] at k
    exact k
theorem cal_parts_of (T : TX P K mg C_Rule C_Reader C_BadText) : Cal P w K mg base 2 "parts_of" spParts [] := by
  obtain ⟨f0, fd, D, dn⟩ := T.d_parts_of
  have G_is_letter := cal_is_letter (P := P) (w := w) (base := base) T
  refine cal0 D (D.fn.binds dn fun _ _ _ _ _ _ us hl => match us, hl with | [_], _ => rfl) .nil sc_parts_of (by walk_at "len") (fun cdv A outer s H vs Q E hr h => ?_)
  obtain ⟨z, rfl, lz, k⟩ := h
  obtain ⟨l, el⟩ : ∃ l, l = z.cps.toList := ⟨_, rfl⟩
  have ll : z.length = l.length := by rw [el]; simp [Str.length]
  have zat : ∀ {i c : Nat}, l[i]? = some c → z.cps[i]? = some c := fun {i c} h => by
    rw [el] at h
    simpa using h
  rw [← el] at k
  refine ⟨_, (pss_cut (ps_par (i := 1) (j := 2) rfl sc_parts_of.nd rfl rfl (by decide) rfl rfl (pa_cons (pe_lst pa_nil) (pa_cons pe_int pa_nil)) (by rfl))
      (pss_cons (ps_while PassesOwn.never (PW.pt (pw_and (pt_cmpR op_lt (pv 2) (pe_callB cr_lenTx (by rfl) T.b_len (by decide +kernel) (pa_cons (pv 0) pa_nil)) (nomark _)) (pw_and1 (pt_cmpR op_ne (pe_ixS (pv 0) (pv 2) (fun _ _ => rfl)) pe_str (nomark _))))) (pss_cons (ps_s 3 sc_parts_of.nd (pe_op op_add (pv 2) pe_int))
      (pss_cut (ps_if (pt_val (pe_c G_is_letter hr (by decide) rfl (pa_cons (pe_ixS (pv 0) (pv 2) (fun _ _ => rfl)) pa_nil))) (pss_one (ps_while PassesOwn.never (PW.pt (pw_and (pt_cmpR op_lt (pv 3) (pe_callB cr_lenTx (by rfl) T.b_len (by decide +kernel) (pa_cons (pv 0) pa_nil)) (nomark _)) (pw_and1 (pt_val (pe_c G_is_letter hr (by decide) rfl (pa_cons (pe_ixS (pv 0) (pv 3) (fun _ _ => rfl)) pa_nil)))))) (pss_one (ps_au 3 sc_parts_of.nd pe_int ip_add)))) (pss_one (ps_if (pt_chain op_leS op_leS pe_str (pe_ixS (pv 0) (pv 2) (fun _ _ => rfl)) pe_str) (pss_one (ps_while PassesOwn.never (PW.pt (pw_and (pt_cmpR op_lt (pv 3) (pe_callB cr_lenTx (by rfl) T.b_len (by decide +kernel) (pa_cons (pv 0) pa_nil)) (nomark _)) (pw_and1 (pt_chain op_leS op_leS pe_str (pe_ixS (pv 0) (pv 3) (fun _ _ => rfl)) pe_str)))) (pss_one (ps_au 3 sc_parts_of.nd pe_int ip_add)))) pss_nil)))
      (pss_cons (ps_if (pt_cmpR op_ne (pe_ixS (pv 0) (pv 2) (fun _ _ => rfl)) pe_str (nomark _)) (pss_one (ps_expr (pe_bm PySem.F.plainAttrs_list PySem.F.slot_list_append PySem.F.type_list_append mt_append (pv 1) (pa_cons (pe_tup (pa_cons (pe_slice sl_str (pv 0) (po_some (pv 2)) (po_some (pv 3))) (pa_cons (pe_op op_add (pv 2) pe_int) pa_nil))) pa_nil)))) pss_nil)
      (pss_one (ps_s 2 sc_parts_of.nd (pv 3)))))))
      (pss_one (ps_ret (pv 1))))), ?_⟩
  walk_at "rd"
  refine ⟨fun σ H' => Same H H' ∧ ∃ F, σ = [some (.str z), some (.ref F), some (.int 0), none] ∧ H F = none ∧ H' F = some (.lst []), ?_, ?_⟩
  · walk_at "rd"
    refine rd_newL (by simp) fun F H1 hF s1 eF _ => ?_
    walk_at "rd"
    exact ⟨s1, F, rfl, hF, eF⟩
  rintro σ H1 ⟨s1, F, rfl, hF, eF⟩
  walk_at "rd"
  refine rd_while (fun m σ H' => ∃ (i : Nat) (ws : List V) (ts : List (List Nat × Nat)) (v3 : Option V), m = l.length - i ∧ i ≤ l.length ∧ Same H H' ∧ σ = [some (.str z), some (.ref F), some (.int (i : Nat)), v3] ∧ H' F = some (.lst ws) ∧ DnAll H' ws (ts.map tokD) ∧ ts.length ≤ i ∧ ts ++ toks i (l.drop i) = toks 0 l) l.length
    ⟨0, [], [], _, by omega, by omega, s1, rfl, eF, .nil, by simp, rfl⟩ ?_
  clear s1 eF
  rintro m σ H2 ⟨i, ws, ts, v3, rfl, hi, s2, rfl, eF, dw, lt, et⟩
  have lw : ws.length = ts.length := by rw [DnAll.length dw, List.length_map]
  walk_at "rd"
  refine rd_lenTx (Nat.le_trans lz (by decide)) ?_
  walk_at "rd"
  rcases Nat.lt_or_ge i l.length with g | g
  · obtain ⟨c, hc⟩ : ∃ c, l[i]? = some c := ⟨_, List.getElem?_eq_getElem g⟩
    have hd : l.drop i = c :: l.drop (i + 1) := by
      rw [List.drop_eq_getElem_cons g, (List.getElem?_eq_some_iff.mp hc).2]
    rw [hd, toks_cons] at et
    refine rd_iteT (by omega) ?_
    walk_at "rd"
    refine rd_ixS (c := c) (by omega) (by omega) (by omega) (zat (by rw [Int.toNat_natCast]; exact hc)) ?_
    walk_at "rd"
    refine rd_ne rfl ?_
    by_cases c35 : c = 35
    · rw [if_pos c35, List.append_nil] at et
      refine ⟨_, rfl, rd_iteNF (by rw [hash_sg, c35]; rfl) ?_⟩
      walk_at "rd"
      exact k H2 F ws s2 hF eF (by rw [← et]; exact dw)
    rw [if_neg c35] at et
    refine ⟨_, rfl, rd_iteNT (fun e => c35 (sg_inj (by rw [hash_sg] at e; exact V.str.inj e))) ?_⟩
    refine rd_whN ?_
    walk_at "rd"
    refine ⟨fun σ H' => Same H2 H' ∧ σ = [some (.str z), some (.ref F), some (.int (i : Nat)), some (.int ((i + 1 + runN c (l.drop (i + 1)) : Nat) : Int))], ?_, ?_⟩
    · walk_at "rd"
      refine rd_ixS (c := c) (by omega) (by omega) (by omega) (zat (by rw [Int.toNat_natCast]; exact hc)) ?_
      walk_at "rd"
      refine ⟨c, rfl, fun H3 s3 => ?_⟩
      cases cl0 : isL c with
      | true =>
        have cl : isL c = true := cl0
        walk_at "rd"
        refine rd_while (fun m σ H' => ∃ q : Nat, m = l.length - (i + 1 + q) ∧ q ≤ ((l.drop (i + 1)).takeWhile isL).length ∧ Same H2 H' ∧ σ = [some (.str z), some (.ref F), some (.int (i : Nat)), some (.int ((i + 1 + q : Nat) : Int))]) (l.length - (i + 1)) ⟨0, by omega, Nat.zero_le _, s3, rfl⟩ ?_
        rintro m σ H5 ⟨q, rfl, hq, s5, rfl⟩
        have tl := tw_lt hq
        have tn := tw_len (f := isL) (l.drop (i + 1))
        rw [List.length_drop] at tn
        walk_at "rd"
        refine rd_lenTx (Nat.le_trans lz (by decide)) ?_
        walk_at "rd"
        have done : ¬ q < ((l.drop (i + 1)).takeWhile isL).length → q = runN c (l.drop (i + 1)) := fun h => by
          unfold SiltT.runN
          rw [if_pos cl]
          omega
        rcases Nat.lt_or_ge (i + 1 + q) l.length with g | g
        · refine rd_iteT (by omega) ?_
          obtain ⟨c2, hc2⟩ : ∃ c, l[i + 1 + q]? = some c := ⟨_, List.getElem?_eq_getElem g⟩
          have hc3 : (l.drop (i + 1))[q]? = some c2 := by rw [List.getElem?_drop]; exact hc2
          have stop : isL c2 = false → q = runN c (l.drop (i + 1)) := fun e2 => done fun h => by
            obtain ⟨d, hd, fd⟩ := tl.mp h
            rw [hc3] at hd
            cases hd
            rw [e2] at fd
            cases fd
          walk_at "rd"
          refine rd_ixS (c := c2) (by omega) (by omega) (by omega) (zat (by rw [Int.toNat_natCast]; exact hc2)) ?_
          walk_at "rd"
          refine ⟨c2, rfl, fun H6 s6 => ?_⟩
          cases e2 : isL c2 with
          | true =>
            walk_at "rd"
            refine rd_whN ?_
            walk_at "rd"
            have hlt := tl.mpr ⟨c2, hc3, e2⟩
            exact ⟨_, by omega, q + 1, rfl, by omega, s5.trans s6, rfl⟩
          | false =>
            walk_at "rd"
            exact ⟨s5.trans s6, by rw [stop e2]⟩
        · refine rd_iteF (by omega) ?_
          walk_at "rd"
          have e := done fun h => by omega
          exact ⟨s5, by rw [e]⟩
      | false =>
        have cl : ¬ isL c = true := by rw [cl0]; exact Bool.false_ne_true
        walk_at "rd"
        refine rd_ixS (c := c) (by omega) (by omega) (by omega) (zat (by rw [Int.toNat_natCast]; exact hc)) ?_
        refine rd_leC9 (c := 48) (d := c) (by rfl) rfl ?_
        refine ⟨_, rfl, ?_⟩
        have fin : isD c = false → runN c (l.drop (i + 1)) = 0 := fun h => by
          unfold SiltT.runN
          rw [if_neg cl, if_neg (by rw [h]; exact Bool.false_ne_true)]
        refine rd_ite (fun a1 => ?_) (fun a1 => ?_)
        · walk_at "rd"
          refine rd_leC9 (c := c) (d := 57) rfl (by rfl) ?_
          refine ⟨_, rfl, ?_⟩
          refine rd_ite (fun a2 => ?_) (fun a2 => ?_)
          · have cd : isD c = true := by unfold isD; rw [decide_eq_true a1, decide_eq_true a2]; rfl
            walk_at "rd"
            refine rd_while (fun m σ H' => ∃ q : Nat, m = l.length - (i + 1 + q) ∧ q ≤ ((l.drop (i + 1)).takeWhile isD).length ∧ Same H2 H' ∧ σ = [some (.str z), some (.ref F), some (.int (i : Nat)), some (.int ((i + 1 + q : Nat) : Int))]) (l.length - (i + 1)) ⟨0, by omega, Nat.zero_le _, s3, rfl⟩ ?_
            rintro m σ H5 ⟨q, rfl, hq, s5, rfl⟩
            have tl := tw_lt hq
            have tn := tw_len (f := isD) (l.drop (i + 1))
            rw [List.length_drop] at tn
            walk_at "rd"
            refine rd_lenTx (Nat.le_trans lz (by decide)) ?_
            walk_at "rd"
            have done : ¬ q < ((l.drop (i + 1)).takeWhile isD).length → q = runN c (l.drop (i + 1)) := fun h => by
              unfold SiltT.runN
              rw [if_neg cl, if_pos cd]
              omega
            rcases Nat.lt_or_ge (i + 1 + q) l.length with g | g
            · refine rd_iteT (by omega) ?_
              obtain ⟨c2, hc2⟩ : ∃ c, l[i + 1 + q]? = some c := ⟨_, List.getElem?_eq_getElem g⟩
              have hc3 : (l.drop (i + 1))[q]? = some c2 := by rw [List.getElem?_drop]; exact hc2
              have stop : isD c2 = false → q = runN c (l.drop (i + 1)) := fun e2 => done fun h => by
                obtain ⟨d, hd, fd⟩ := tl.mp h
                rw [hc3] at hd
                cases hd
                rw [e2] at fd
                cases fd
              walk_at "rd"
              refine rd_ixS (c := c2) (by omega) (by omega) (by omega) (zat (by rw [Int.toNat_natCast]; exact hc2)) ?_
              refine rd_leC9 (c := 48) (d := c2) (by rfl) rfl ?_
              refine ⟨_, rfl, ?_⟩
              refine rd_ite (fun a1 => ?_) (fun a1 => ?_)
              · walk_at "rd"
                refine rd_leC9 (c := c2) (d := 57) rfl (by rfl) ?_
                refine ⟨_, rfl, ?_⟩
                refine rd_ite (fun a2 => ?_) (fun a2 => ?_)
                · refine rd_whN ?_
                  walk_at "rd"
                  have hlt := tl.mpr ⟨c2, hc3, by unfold isD; rw [decide_eq_true a1, decide_eq_true a2]; rfl⟩
                  exact ⟨_, by omega, q + 1, rfl, by omega, s5, rfl⟩
                · exact ⟨s5, by rw [stop (by unfold isD; rw [decide_eq_false a2, Bool.and_false])]⟩
              · refine ⟨_, rfl, rd_iteFF ?_⟩
                exact ⟨s5, by rw [stop (by unfold isD; rw [decide_eq_false a1, Bool.false_and])]⟩
            · refine rd_iteF (by omega) ?_
              walk_at "rd"
              have e := done fun h => by omega
              exact ⟨s5, by rw [e]⟩
          · walk_at "rd"
            exact ⟨s3, by rw [fin (by unfold isD; rw [decide_eq_false a2, Bool.and_false])]; rfl⟩
        · walk_at "rd"
          exact ⟨s3, by rw [fin (by unfold isD; rw [decide_eq_false a1, Bool.false_and])]; rfl⟩
    rintro σ H3 ⟨s3, rfl⟩
    obtain ⟨e, ee⟩ : ∃ e, e = i + 1 + runN c (l.drop (i + 1)) := ⟨_, rfl⟩
    have rl : runN c (l.drop (i + 1)) ≤ l.length - (i + 1) := by
      rw [← List.length_drop]
      unfold SiltT.runN
      split
      · exact tw_len _
      · split
        · exact tw_len _
        · exact Nat.zero_le _
    rw [List.drop_drop] at et
    rw [← ee] at et ⊢
    walk_at "rd"
    refine rd_ixS (c := c) (by omega) (by omega) (by omega) (zat (by rw [Int.toNat_natCast]; exact hc)) ?_
    walk_at "rd"
    refine rd_ne rfl ?_
    by_cases c32 : c = 32
    · refine ⟨_, rfl, rd_iteNF (by rw [blank_sg, c32]; rfl) ?_⟩
      walk_at "rd"
      rw [if_pos c32, List.nil_append] at et
      exact ⟨_, by omega, e, ws, ts, _, rfl, by omega, s2.trans s3, rfl, s3 _ _ eF, DnAll.mono s3 dw, by omega, et⟩
    · refine ⟨_, rfl, rd_iteNT (fun q => c32 (sg_inj (by rw [blank_sg] at q; exact V.str.inj q))) ?_⟩
      walk_at "rd"
      refine rd_tyL (s3 _ _ eF) ?_
      walk_at "rd"
      refine rd_slTx (Nat.le_trans lz (by decide)) ?_
      walk_at "rd"
      refine rd_newT (by simp) fun g H4 _ s4 eg _ => ?_
      walk_at "rd"
      refine rd_app ((s3.trans s4) _ _ eF) (by omega) fun H5 eH5 eF5 => ?_
      walk_at "rd"
      have ec : cutS z (some ((i : Nat) : Int)) (some ((e : Nat) : Int)) = ⟨(c :: (l.drop (i + 1)).take (SiltT.runN c (l.drop (i + 1)))).toArray⟩ := by
        refine TL.ext_tl ?_
        show (cutS z (some ((i : Nat) : Int)) (some ((e : Nat) : Int))).cps.toList = c :: (l.drop (i + 1)).take (SiltT.runN c (l.drop (i + 1)))
        rw [cutS_nat (by omega) (by omega), ← el, hd, ee, show i + 1 + SiltT.runN c (l.drop (i + 1)) - i = SiltT.runN c (l.drop (i + 1)) + 1 by omega, List.take_succ_cons]
      rw [if_neg c32] at et
      refine ⟨_, by omega, e, _, ts ++ [(c :: (l.drop (i + 1)).take (SiltT.runN c (l.drop (i + 1))), i + 1)], _, rfl, by omega, by rw [eH5]; exact Same.mut (s2.trans (s3.trans s4)) hF, rfl, eF5, ?_, by rw [List.length_append]; simp only [List.length_cons, List.length_nil]; omega, by rw [List.append_assoc]; exact et⟩
      rw [List.map_append, eH5]
      refine DnAll.updL ((s3.trans s4) _ _ eF) (DnAll.append (DnAll.mono (s3.trans s4) dw) (.cons (.tup eg (.cons ?_ (.cons (.int _) .nil))) .nil))
      rw [ec]
      exact .str _
  · refine rd_iteF (by omega) ?_
    walk_at "rd"
    rw [List.drop_eq_nil_of_le g, toks_nil, List.append_nil] at et
    exact k H2 F ws s2 hF eF (by rw [← et]; exact dw)
end
end Sl
set_option Elab.async false
set_option linter.all false
set_option maxRecDepth 100000
set_option maxHeartbeats 8000000
set_option exponentiation.threshold 9000
namespace Sl
open PySem L2 C8 StX SiltT
local macro_rules | `(tactic| walk_at "side") => `(tactic| first
  | exact cdivw (by omega) (by omega)
  | exact cmulw (by omega) (by omega) (by omega) (by omega)
  | exact Or.inr ⟨by omega, by omega⟩
  | exact Or.inl ⟨by omega, by omega⟩
  | omega
  | exact ⟨by omega, by omega, by decide⟩
  | decide)
local macro_rules | `(tactic| walk_at "rd1") => `(tactic| first
  | with_reducible refine rd_seq ?_
  | with_reducible refine rd_asg ?_
  | with_reducible refine rd_drop ?_
  | with_reducible refine rd_ret ?_
  | with_reducible refine rd_retN ?_
  | with_reducible refine rd_ifS ?_
  | ((with_reducible refine rd_var0 ?_); refine ⟨_, rfl, ?_⟩)
  | with_reducible refine rd_c ?_
  | with_reducible refine rd_op ?_
  | with_reducible refine rd_un ?_
  | with_reducible refine rd_I0 ?_
  | with_reducible refine rd_U ?_
  | ((with_reducible refine rd_I ?c ?_); (case c => walk_at "side"))
  | with_reducible refine rd_ipI ?_
  | with_reducible refine rd_eqI ?_
  | with_reducible refine rd_neI ?_
  | with_reducible refine rd_test ?_
  | with_reducible refine rd_tB ?_
  | with_reducible refine rd_bl ?_
  | with_reducible refine rd_not ?_
  | with_reducible refine rd_and ?_
  | with_reducible refine rd_or ?_
  | with_reducible refine rd_andV ?_
  | with_reducible refine rd_orV ?_
  | with_reducible refine rd_notV ?_
  | with_reducible refine rd_ifE ?_
  | with_reducible refine rd_chain ?_
  | with_reducible refine rd_chain3 ?_
  | with_reducible refine rd_nil ?_
  | with_reducible refine rd_cons ?_
  | with_reducible refine rd_call ?_
  | with_reducible refine rd_CB ?_
  | with_reducible refine rd_par ?_
  | with_reducible refine rd_par2 ?_
  | with_reducible refine rd_par3 ?_
  | with_reducible refine rd_par4 ?_
  | ((with_reducible refine rd_aug0 ?_); refine ⟨_, rfl, ?_⟩)
  | with_reducible refine rd_gname ?_
  | with_reducible refine rd_gcons ?_
  | with_reducible refine rd_gnil ?_
  | with_reducible refine rd_max ?_
  | with_reducible refine rd_min ?_
  | with_reducible refine rd_int1 ?_
  | with_reducible refine rd_abs ?_
  | with_reducible refine rd_lst ?_
  | with_reducible refine rd_tup ?_
  | with_reducible refine rd_bm ?_
  | with_reducible refine rd_fld0 ?_
  | with_reducible refine rd_sl0 ?_
  | with_reducible refine rd_noP ?_
  | with_reducible refine rd_part ?_
  | with_reducible refine rd_part2 ?_
  | with_reducible refine rd_meth0 ?_
  | with_reducible refine rd_star ?_
  | with_reducible refine rd_for ?_
  | with_reducible refine rd_rng1 ?_
  | with_reducible refine rd_rng2 ?_
  | with_reducible refine rd_rng3 ?_
  | with_reducible refine rd_iList ?_
  | with_reducible refine rd_iTup ?_
  | with_reducible refine rd_iEnum ?_
  | with_reducible refine rd_lc ?_
  | with_reducible refine rd_yes ?_
  | with_reducible refine rd_augS ?_
  | with_reducible refine rd_drawNew ?_
  | with_reducible refine rd_make0 ?_
  | with_reducible refine rd_next ?_
  | with_reducible refine rd_break ?_
  | with_reducible refine rd_cont ?_
  | with_reducible refine rd_iteTT ?_
  | with_reducible refine rd_iteFF ?_
  | with_reducible refine rd_iteNTT ?_
  | with_reducible refine rd_iteNFF ?_
  | with_reducible refine rd_con0 ?_
  | with_reducible refine rd_truO0 ?_
  | with_reducible refine rd_gfld0 ?_
  | with_reducible refine rd_dc ?_
  | with_reducible refine rd_iKeys ?_
  | with_reducible refine rd_dget0 ?_
  | with_reducible refine rd_dput0 ?_
  | with_reducible refine rd_dnot0 ?_
  | with_reducible refine rd_iEnumT ?_
  | with_reducible refine rd_raP0 ?_
  | with_reducible refine rd_xf0 ?_
  | with_reducible refine rd_cKw ?_
  | with_reducible refine rd_iStr ?_
  | with_reducible refine rd_gSub ?_
  | with_reducible refine rd_asgG ?_)
local macro_rules | `(tactic| walk_at "rd") => `(tactic| repeat walk_at "rd1")
local macro_rules | `(tactic| walk_at "len") => `(tactic| first
  | (intro vs H Q E h; obtain ⟨h2, _⟩ := h; rw [h2]; rfl)
  | (intro vs H Q E h; obtain ⟨_, h2, _⟩ := h; rw [h2]; rfl)
  | (intro vs H Q E h; obtain ⟨_, _, h2, _⟩ := h; rw [h2]; rfl)
  | (intro vs H Q E h; obtain ⟨_, _, _, h2, _⟩ := h; rw [h2]; rfl)
  | (intro vs H Q E h; obtain ⟨_, _, _, _, h2, _⟩ := h; rw [h2]; rfl)
  | (intro vs H Q E h; obtain ⟨_, _, _, _, _, h2, _⟩ := h; rw [h2]; rfl)
  | (intro vs H Q E h; obtain ⟨_, _, _, _, _, _, h2, _⟩ := h; rw [h2]; rfl)
  | (intro vs H Q E h; obtain ⟨_, _, _, _, _, _, _, h2, _⟩ := h; rw [h2]; rfl)
  | (intro vs H Q E h; obtain ⟨_, _, _, _, _, _, _, _, h2, _⟩ := h; rw [h2]; rfl)
  | (intro vs H Q E h; obtain ⟨_, _, _, _, _, _, _, _, _, h2, _⟩ := h; rw [h2]; rfl)
  | (intro vs H Q E h; obtain ⟨_, _, _, _, _, _, _, _, _, _, h2, _⟩ := h; rw [h2]; rfl)
  | (intro vs H Q E h; obtain ⟨_, _, _, _, _, _, _, _, _, _, _, h2, _⟩ := h; rw [h2]; rfl)
  | (intro vs H Q E h; obtain ⟨_, _, _, _, _, _, _, _, _, _, _, _, h2, _⟩ := h; rw [h2]; rfl))
local macro_rules | `(tactic| walk_at "rd1") => `(tactic| first
  | with_reducible refine rd_fldaug0 ?_)
/-! readers of a line -/
def RdF (P : Addr) (z : Str) (pl a : Nat) : List (Str × V) := [("line", .str z), ("place", .int (pl : Nat)), ("parts", .ref P), ("at", .int (a : Nat))]
theorem put_rd (P : Addr) (z : Str) (pl : Nat) : putF "at" (.int 0) (putF "parts" (.ref P) (putF "place" (.int (pl : Nat)) (putF "line" (.str z) []))) = RdF P z pl 0 := by
  have h1 : ¬ (("line" : Str) = "place") := by decide +kernel
  have h2 : ¬ (("line" : Str) = "parts") := by decide +kernel
  have h3 : ¬ (("line" : Str) = "at") := by decide +kernel
  have h4 : ¬ (("place" : Str) = "parts") := by decide +kernel
  have h5 : ¬ (("place" : Str) = "at") := by decide +kernel
  have h6 : ¬ (("parts" : Str) = "at") := by decide +kernel
  simp only [putF, h1, h2, h3, h4, h5, h6, if_false, RdF]
  rfl
theorem put_at9 (P : Addr) (z : Str) (pl a b : Nat) : putF "at" (.int (b : Nat)) (RdF P z pl a) = RdF P z pl b := by
  have h3 : ¬ (("line" : Str) = "at") := by decide +kernel
  have h5 : ¬ (("place" : Str) = "at") := by decide +kernel
  have h6 : ¬ (("parts" : Str) = "at") := by decide +kernel
  simp only [putF, h3, h5, h6, if_false, if_true, RdF]
def RdP (C : Addr) (H : Hp) (y : Addr) (z : Str) (pl : Nat) (ts : List (List Nat × Nat)) (a : Nat) : Prop := ∃ dx P ws, H y = some (.ins C dx (RdF P z pl a)) ∧ H P = some (.lst ws) ∧ DnAll H ws (ts.map tokD)
theorem RdP.mono {C : Addr} {H H' : Hp} {y : Addr} {z : Str} {pl a : Nat} {ts : List (List Nat × Nat)} (s : Same H H') (h : RdP C H y z pl ts a) : RdP C H' y z pl ts a := by
  obtain ⟨dx, P, ws, h1, h2, h3⟩ := h
  exact ⟨dx, P, ws, s _ _ h1, s _ _ h2, DnAll.mono s h3⟩
def wordAt (ts : List (List Nat × Nat)) (a : Nat) : Str := match ts[a]? with
  | some w => ⟨w.1.toArray⟩
  | none => ""
def colAt (z : Str) (ts : List (List Nat × Nat)) (a : Nat) : Nat := match ts[a]? with
  | some w => w.2
  | none => z.length + 1
def spRdI (C : Addr) : Sp := fun vs H Q _ => ∃ (self dx : Addr) (H0 : Hp) (z : Str) (pl : Nat), vs = [.ref self, .str z, .int (pl : Nat)] ∧ Same H0 H ∧ H0 self = none ∧ H self = some (.ins C dx []) ∧ z.length ≤ 10000 ∧ ∀ H', Same H0 H' → RdP C H' self z pl (toks 0 z.cps.toList) 0 → Q .non H'
def spNext (C : Addr) : Sp := fun vs H Q _ => ∃ (y : Addr) (z : Str) (pl a : Nat) (ts : List (List Nat × Nat)), vs = [.ref y] ∧ RdP C H y z pl ts a ∧ ts.length ≤ 20000 ∧ a ≤ 20000 ∧ ∀ H', Same H H' → Q (.str (wordAt ts a)) H'
def spHas (C : Addr) : Sp := fun vs H Q _ => ∃ (y : Addr) (z w : Str) (pl a : Nat) (ts : List (List Nat × Nat)), vs = [.ref y, .str w] ∧ RdP C H y z pl ts a ∧ ts.length ≤ 20000 ∧ a ≤ 20000 ∧
  ((wordAt ts a ≠ w ∧ ∀ H', Same H H' → Q (.bl false) H') ∨ (wordAt ts a = w ∧ ∀ H', (∀ b o, b ≠ y → H b = some o → H' b = some o) → RdP C H' y z pl ts (a + 1) → Q (.bl true) H'))
theorem tok_inv {H : Hp} {v : V} {w : List Nat × Nat} (h : Dn H v (tokD w)) : ∃ t, v = .ref t ∧ H t = some (.tup [.str ⟨w.1.toArray⟩, .int (w.2 : Nat)]) := by
  have h : Dn H v (.tuple [.str ⟨w.1.toArray⟩, .int (w.2 : Nat)]) := h
  cases h with
  | tup e d => cases d with
    | cons d1 d => cases d with
      | cons d2 d =>
        cases d
        cases d1
        cases d2
        exact ⟨_, rfl, e⟩
section
variable {P : Program} {w : World} {K : PySem.W.Frag} {mg : Str → Option Value} {base : Heap} {C_Rule C_Reader C_BadText : Addr}
theorem mak_Reader_init (T : TX P K mg C_Rule C_Reader C_BadText) : Mak P w K mg base 3 "Reader" C_Reader (spRdI C_Reader) [] := by
  obtain ⟨f0, fd, D, dn, mk⟩ := T.m_Reader_init
  have G_parts_of := cal_parts_of (P := P) (w := w) (base := base) T
  refine mak0 mk T.mg_Reader D (D.binds dn fun _ _ _ _ _ _ us hl => match us, hl with | [_, _, _], _ => rfl) .nil sc_Reader_init (by walk_at "len") (fun cdv A outer s H vs Q E hr h => ?_)
  obtain ⟨self, dx, H0, z, pl, rfl, s0, h0, e, lz, k⟩ := h
  refine ⟨_, (pss_cons (ps_asg (pv 1) (pg_attr (pv 0)))
      (pss_cons (ps_asg (pv 2) (pg_attr (pv 0)))
      (pss_cons (ps_asg (pe_c G_parts_of hr (by decide) rfl (pa_cons (pv 1) pa_nil)) (pg_attr (pv 0)))
      (pss_one (ps_asg pe_int (pg_attr (pv 0))))))), ?_⟩
  walk_at "rd"
  refine rd_gfld e T.cl_Reader T.na_Reader_line (by decide) fun H1 eH1 e1 => ?_
  walk_at "rd"
  refine rd_gfld e1 T.cl_Reader T.na_Reader_place (by show 1 < 1000; decide) fun H2 eH2 e2 => ?_
  walk_at "rd"
  refine ⟨z, rfl, lz, fun H3 p ws s3 hp ep dp => ?_⟩
  have hps : p ≠ self := fun q => by rw [q, e2] at hp; cases hp
  walk_at "rd"
  refine rd_gfld (s3 _ _ e2) T.cl_Reader T.na_Reader_parts (by show 2 < 1000; decide) fun H4 eH4 e4 => ?_
  walk_at "rd"
  refine rd_gfld e4 T.cl_Reader T.na_Reader_at (by show 3 < 1000; decide) fun H5 eH5 e5 => ?_
  rw [put_rd] at e5
  have s02 : Same H0 H2 := by rw [eH2, eH1]; exact Same.mut (Same.mut s0 h0) h0
  have s05 : Same H0 H5 := by rw [eH5, eH4]; exact Same.mut (Same.mut (s02.trans s3) h0) h0
  refine k H5 s05 ⟨dx, p, ws, e5, by rw [eH5, upd_ne hps, eH4, upd_ne hps]; exact ep, ?_⟩
  refine dp.keep fun b xs eb => ?_
  have hb : b ≠ self := fun q => by rw [q, s3 _ _ e2] at eb; cases eb
  rw [eH5, upd_ne hb, eH4, upd_ne hb]
  exact eb
theorem met_Reader_next (T : TX P K mg C_Rule C_Reader C_BadText) : Met P w K mg base 1 C_Reader "next" (spNext C_Reader) [] := by
  obtain ⟨f0, fd, D, dn, me, _⟩ := T.m_Reader_next
  refine met0 T.cl_Reader me D (D.binds dn fun _ _ _ _ _ _ us hl => match us, hl with | [_], _ => rfl) sc_Reader_next (by walk_at "len") (fun cdv A outer s H vs Q E hr h => ?_)
  obtain ⟨y, z, pl, a, ts, rfl, rd, lt, la, k⟩ := h
  obtain ⟨dx, P, ws, h1, h2, h3⟩ := id rd
  have lw : ws.length = ts.length := by rw [DnAll.length h3, List.length_map]
  have k := k H (Same.refl H)
  refine ⟨_, (pss_one (ps_ret (pe_ifExp (pt_cmpR op_lt (pe_fld (pv 0) rfl) (pe_callB cr_lenS (by rfl) T.b_len (by decide +kernel) (pa_cons (pe_fld (pv 0) rfl) pa_nil)) (nomark _)) (pe_ix ix_tup (pe_ix ix_list (pe_fld (pv 0) rfl) (pe_fld (pv 0) rfl) (fun _ _ => rfl)) pe_int (fun _ _ => rfl)) pe_str))), ?_⟩
  walk_at "rd"
  refine rd_fld h1 T.cl_Reader T.na_Reader_at rfl ?_
  walk_at "rd"
  refine rd_fld h1 T.cl_Reader T.na_Reader_parts rfl ?_
  walk_at "rd"
  refine ⟨P, ws, rfl, .inl (SqL.of h2), ?_⟩
  walk_at "rd"
  rcases Nat.lt_or_ge a ts.length with g | g
  · obtain ⟨w, hw⟩ : ∃ w, ts[a]? = some w := ⟨_, List.getElem?_eq_getElem g⟩
    obtain ⟨v, hv⟩ : ∃ v, ws[a]? = some v := ⟨_, List.getElem?_eq_getElem (by omega)⟩
    obtain ⟨d, hd, dv⟩ := DnAll.getV' h3 hv
    rw [List.getElem?_map, hw] at hd
    cases hd
    obtain ⟨t, rfl, et⟩ := tok_inv dv
    have ew : wordAt ts a = ⟨w.1.toArray⟩ := by unfold wordAt; rw [hw]
    rw [ew] at k
    refine rd_iteT (by omega) ?_
    walk_at "rd"
    refine rd_fld h1 T.cl_Reader T.na_Reader_parts rfl ?_
    walk_at "rd"
    refine rd_fld h1 T.cl_Reader T.na_Reader_at rfl ?_
    refine rd_ixL h2 (atI_nat' hv) ?_
    walk_at "rd"
    refine rd_ixT et (by rfl) ?_
    exact k
  · have ew : wordAt ts a = "" := by unfold wordAt; rw [List.getElem?_eq_none g]
    rw [ew] at k
    refine rd_iteF (by omega) ?_
    walk_at "rd"
    exact k
theorem met_Reader_has (T : TX P K mg C_Rule C_Reader C_BadText) : Met P w K mg base 2 C_Reader "has" (spHas C_Reader) [] := by
  obtain ⟨f0, fd, D, dn, me, _⟩ := T.m_Reader_has
  have G_Reader_next := met_Reader_next (P := P) (w := w) (base := base) T
  refine met0 T.cl_Reader me D (D.binds dn fun _ _ _ _ _ _ us hl => match us, hl with | [_, _], _ => rfl) sc_Reader_has (by walk_at "len") (fun cdv A outer s H vs Q E hr h => ?_)
  obtain ⟨y, z, w, pl, a, ts, rfl, rd, lt, la, k⟩ := h
  obtain ⟨dx, P, ws, h1, h2, h3⟩ := id rd
  refine ⟨_, (pss_cons (ps_if (pt_cmpR op_ne (pe_mt0 (pl := _) G_Reader_next hr (by decide) (pv 0)) (pv 1) (nomark _)) (pss_one (ps_ret pe_bl)) pss_nil)
      (pss_cons (ps_fldaug (pv 0) pe_int in_add)
      (pss_one (ps_ret pe_bl)))), ?_⟩
  walk_at "rd"
  refine ⟨y, dx, _, rfl, h1, rfl, ?_⟩
  walk_at "rd"
  refine ⟨y, z, pl, a, ts, rfl, rd, lt, la, fun H1 s1 => ?_⟩
  walk_at "rd"
  refine rd_ne rfl ?_
  rcases k with ⟨ne, k⟩ | ⟨e, k⟩
  · refine ⟨_, rfl, rd_iteNT (fun q => ne (V.str.inj q)) ?_⟩
    walk_at "rd"
    exact k H1 s1
  · refine ⟨_, rfl, rd_iteNF (by rw [e]) ?_⟩
    walk_at "rd"
    refine rd_fldaugI (s1 _ _ h1) T.cl_Reader T.na_Reader_at (i := (a : Nat)) rfl (by show 4 < 1000; decide) rfl ?_
    walk_at "rd"
    rw [show ((a : Nat) : Int) + 1 = ((a + 1 : Nat) : Int) by omega, put_at9]
    refine k _ (fun b o nb hb => ?_) ⟨dx, P, ws, upd_same, ?_, ?_⟩
    · rw [upd_ne nb]
      exact s1 _ _ hb
    · rw [upd_ne (fun q => by rw [q, h1] at h2; cases h2)]
      exact s1 _ _ h2
    · refine h3.keep fun b xs eb => ?_
      rw [upd_ne (fun q => by rw [q, h1] at eb; cases eb)]
      exact s1 _ _ eb
end
end Sl
set_option Elab.async false
set_option linter.all false
set_option maxRecDepth 100000
set_option maxHeartbeats 8000000
set_option exponentiation.threshold 9000
namespace Sl
open PySem L2 C8 StX SiltT
local macro_rules | `(tactic| walk_at "side") => `(tactic| first
  | exact cdivw (by omega) (by omega)
  | exact cmulw (by omega) (by omega) (by omega) (by omega)
  | exact Or.inr ⟨by omega, by omega⟩
  | exact Or.inl ⟨by omega, by omega⟩
  | omega
  | exact ⟨by omega, by omega, by decide⟩
  | decide)
local macro_rules | `(tactic| walk_at "rd1") => `(tactic| first
  | with_reducible refine rd_seq ?_
  | with_reducible refine rd_asg ?_
  | with_reducible refine rd_drop ?_
  | with_reducible refine rd_ret ?_
  | with_reducible refine rd_retN ?_
  | with_reducible refine rd_ifS ?_
  | ((with_reducible refine rd_var0 ?_); refine ⟨_, rfl, ?_⟩)
  | with_reducible refine rd_c ?_
  | with_reducible refine rd_op ?_
  | with_reducible refine rd_un ?_
  | with_reducible refine rd_I0 ?_
  | with_reducible refine rd_U ?_
  | ((with_reducible refine rd_I ?c ?_); (case c => walk_at "side"))
  | with_reducible refine rd_ipI ?_
  | with_reducible refine rd_eqI ?_
  | with_reducible refine rd_neI ?_
  | with_reducible refine rd_test ?_
  | with_reducible refine rd_tB ?_
  | with_reducible refine rd_bl ?_
  | with_reducible refine rd_not ?_
  | with_reducible refine rd_and ?_
  | with_reducible refine rd_or ?_
  | with_reducible refine rd_andV ?_
  | with_reducible refine rd_orV ?_
  | with_reducible refine rd_notV ?_
  | with_reducible refine rd_ifE ?_
  | with_reducible refine rd_chain ?_
  | with_reducible refine rd_chain3 ?_
  | with_reducible refine rd_nil ?_
  | with_reducible refine rd_cons ?_
  | with_reducible refine rd_call ?_
  | with_reducible refine rd_CB ?_
  | with_reducible refine rd_par ?_
  | with_reducible refine rd_par2 ?_
  | with_reducible refine rd_par3 ?_
  | with_reducible refine rd_par4 ?_
  | ((with_reducible refine rd_aug0 ?_); refine ⟨_, rfl, ?_⟩)
  | with_reducible refine rd_gname ?_
  | with_reducible refine rd_gcons ?_
  | with_reducible refine rd_gnil ?_
  | with_reducible refine rd_max ?_
  | with_reducible refine rd_min ?_
  | with_reducible refine rd_int1 ?_
  | with_reducible refine rd_abs ?_
  | with_reducible refine rd_lst ?_
  | with_reducible refine rd_tup ?_
  | with_reducible refine rd_bm ?_
  | with_reducible refine rd_fld0 ?_
  | with_reducible refine rd_sl0 ?_
  | with_reducible refine rd_noP ?_
  | with_reducible refine rd_part ?_
  | with_reducible refine rd_part2 ?_
  | with_reducible refine rd_meth0 ?_
  | with_reducible refine rd_star ?_
  | with_reducible refine rd_for ?_
  | with_reducible refine rd_rng1 ?_
  | with_reducible refine rd_rng2 ?_
  | with_reducible refine rd_rng3 ?_
  | with_reducible refine rd_iList ?_
  | with_reducible refine rd_iTup ?_
  | with_reducible refine rd_iEnum ?_
  | with_reducible refine rd_lc ?_
  | with_reducible refine rd_yes ?_
  | with_reducible refine rd_augS ?_
  | with_reducible refine rd_drawNew ?_
  | with_reducible refine rd_make0 ?_
  | with_reducible refine rd_next ?_
  | with_reducible refine rd_break ?_
  | with_reducible refine rd_cont ?_
  | with_reducible refine rd_iteTT ?_
  | with_reducible refine rd_iteFF ?_
  | with_reducible refine rd_iteNTT ?_
  | with_reducible refine rd_iteNFF ?_
  | with_reducible refine rd_con0 ?_
  | with_reducible refine rd_truO0 ?_
  | with_reducible refine rd_gfld0 ?_
  | with_reducible refine rd_dc ?_
  | with_reducible refine rd_iKeys ?_
  | with_reducible refine rd_dget0 ?_
  | with_reducible refine rd_dput0 ?_
  | with_reducible refine rd_dnot0 ?_
  | with_reducible refine rd_iEnumT ?_
  | with_reducible refine rd_raP0 ?_
  | with_reducible refine rd_xf0 ?_
  | with_reducible refine rd_cKw ?_
  | with_reducible refine rd_iStr ?_
  | with_reducible refine rd_gSub ?_
  | with_reducible refine rd_asgG ?_)
local macro_rules | `(tactic| walk_at "rd") => `(tactic| repeat walk_at "rd1")
local macro_rules | `(tactic| walk_at "len") => `(tactic| first
  | (intro vs H Q E h; obtain ⟨h2, _⟩ := h; rw [h2]; rfl)
  | (intro vs H Q E h; obtain ⟨_, h2, _⟩ := h; rw [h2]; rfl)
  | (intro vs H Q E h; obtain ⟨_, _, h2, _⟩ := h; rw [h2]; rfl)
  | (intro vs H Q E h; obtain ⟨_, _, _, h2, _⟩ := h; rw [h2]; rfl)
  | (intro vs H Q E h; obtain ⟨_, _, _, _, h2, _⟩ := h; rw [h2]; rfl)
  | (intro vs H Q E h; obtain ⟨_, _, _, _, _, h2, _⟩ := h; rw [h2]; rfl)
  | (intro vs H Q E h; obtain ⟨_, _, _, _, _, _, h2, _⟩ := h; rw [h2]; rfl)
  | (intro vs H Q E h; obtain ⟨_, _, _, _, _, _, _, h2, _⟩ := h; rw [h2]; rfl)
  | (intro vs H Q E h; obtain ⟨_, _, _, _, _, _, _, _, h2, _⟩ := h; rw [h2]; rfl)
  | (intro vs H Q E h; obtain ⟨_, _, _, _, _, _, _, _, _, h2, _⟩ := h; rw [h2]; rfl)
  | (intro vs H Q E h; obtain ⟨_, _, _, _, _, _, _, _, _, _, h2, _⟩ := h; rw [h2]; rfl)
  | (intro vs H Q E h; obtain ⟨_, _, _, _, _, _, _, _, _, _, _, h2, _⟩ := h; rw [h2]; rfl)
  | (intro vs H Q E h; obtain ⟨_, _, _, _, _, _, _, _, _, _, _, _, h2, _⟩ := h; rw [h2]; rfl))
local macro_rules | `(tactic| walk_at "rd1") => `(tactic| first
  | with_reducible refine rd_fldaug0 ?_
  | with_reducible refine rd_raP20 ?_
  | with_reducible refine rd_methX0 ?_)
/-! a reader that refuses -/
/-- what is told where a reader refuses -/
def RefE (CB : Addr) (H : Hp) (z : Str) (pl : Nat) (ts : List (List Nat × Nat)) (a : Nat) (E : XK) : Prop := ∀ dd H', Same H H' → H' dd = some (.xd [("column", .int (colAt z ts a : Nat)), ("line", .int (pl : Nat))]) → E (.ref CB) (some dd) H'
def spRefu (C CB : Addr) : Sp := fun vs H _ E => ∃ (y : Addr) (z : Str) (pl a : Nat) (ts : List (List Nat × Nat)), vs = [.ref y] ∧ RdP C H y z pl ts a ∧ ts.length ≤ 20000 ∧ a ≤ 20000 ∧ z.length ≤ 10000 ∧ RefE CB H z pl ts a E
def spNeed (C CB : Addr) : Sp := fun vs H Q E => ∃ (y : Addr) (z w : Str) (pl a : Nat) (ts : List (List Nat × Nat)), vs = [.ref y, .str w] ∧ RdP C H y z pl ts a ∧ ts.length ≤ 20000 ∧ a ≤ 20000 ∧ z.length ≤ 10000 ∧
  ((wordAt ts a ≠ w ∧ RefE CB H z pl ts a E) ∨ (wordAt ts a = w ∧ ∀ H', (∀ b o, b ≠ y → H b = some o → H' b = some o) → RdP C H' y z pl ts (a + 1) → Q .non H'))
def spClos (C CB : Addr) : Sp := fun vs H Q E => ∃ (y : Addr) (z : Str) (pl a : Nat) (ts : List (List Nat × Nat)), vs = [.ref y] ∧ RdP C H y z pl ts a ∧ ts.length ≤ 20000 ∧ a ≤ 20000 ∧ z.length ≤ 10000 ∧
  ((wordAt ts a ≠ "" ∧ RefE CB H z pl ts a E) ∨ (wordAt ts a = "" ∧ ∀ H', Same H H' → Q .non H'))
section
variable {P : Program} {w : World} {K : PySem.W.Frag} {mg : Str → Option Value} {base : Heap} {C_Rule C_Reader C_BadText : Addr}
theorem xet_Reader_refuse (T : TX P K mg C_Rule C_Reader C_BadText) : MetX P w K mg base 3 C_Reader "refuse" (spRefu C_Reader C_BadText) [] := by
  obtain ⟨f0, fd, D, dn, me, _⟩ := T.m_Reader_refuse
  refine metX0 T.cl_Reader me D (D.binds dn fun _ _ _ _ _ _ us hl => match us, hl with | [_], _ => rfl) sc_Reader_refuse (by walk_at "len") (fun cdv A outer s H vs Q E hr h => ?_)
  obtain ⟨y, z, pl, a, ts, rfl, rd, lt, la, lz, k⟩ := h
  obtain ⟨dx, P, ws, h1, h2, h3⟩ := id rd
  have lw : ws.length = ts.length := by rw [DnAll.length h3, List.length_map]
  refine ⟨_, (pss_cons (ps_s 1 sc_Reader_refuse.nd (pe_ifExp (pt_cmpR op_lt (pe_fld (pv 0) rfl) (pe_callB cr_lenS (by rfl) T.b_len (by decide +kernel) (pa_cons (pe_fld (pv 0) rfl) pa_nil)) (nomark _)) (pe_ix ix_tup (pe_ix ix_list (pe_fld (pv 0) rfl) (pe_fld (pv 0) rfl) (fun _ _ => rfl)) pe_int (fun _ _ => rfl)) (pe_op op_add (pe_callB cr_lenTx (by rfl) T.b_len (by decide +kernel) (pa_cons (pe_fld (pv 0) rfl) pa_nil)) pe_int)))
      (pss_one (ps_raiseP2 rfl (takes_of rfl rfl rfl rfl) T.y_BadText ss_BadText T.b_super T.mg_BadText hr (by decide) rfl (pe_fld (pv 0) rfl) (pv 1)))), ?_⟩
  walk_at "rd"
  refine rd_fld h1 T.cl_Reader T.na_Reader_at rfl ?_
  walk_at "rd"
  refine rd_fld h1 T.cl_Reader T.na_Reader_parts rfl ?_
  walk_at "rd"
  refine ⟨P, ws, rfl, .inl (SqL.of h2), ?_⟩
  walk_at "rd"
  rcases Nat.lt_or_ge a ts.length with g | g
  · obtain ⟨w, hw⟩ : ∃ w, ts[a]? = some w := ⟨_, List.getElem?_eq_getElem g⟩
    obtain ⟨v, hv⟩ : ∃ v, ws[a]? = some v := ⟨_, List.getElem?_eq_getElem (by omega)⟩
    obtain ⟨d, hd, dv⟩ := DnAll.getV' h3 hv
    rw [List.getElem?_map, hw] at hd
    cases hd
    obtain ⟨t, rfl, et⟩ := tok_inv dv
    have ew : colAt z ts a = w.2 := by unfold colAt; rw [hw]
    refine rd_iteT (by omega) ?_
    walk_at "rd"
    refine rd_fld h1 T.cl_Reader T.na_Reader_parts rfl ?_
    walk_at "rd"
    refine rd_fld h1 T.cl_Reader T.na_Reader_at rfl ?_
    refine rd_ixL h2 (atI_nat' hv) ?_
    walk_at "rd"
    refine rd_ixT et (atI_nat' (i := 1) rfl) ?_
    walk_at "rd"
    refine rd_fld h1 T.cl_Reader T.na_Reader_place rfl ?_
    walk_at "rd"
    exact rd_raP2 fun dd H' hd s e => k dd H' s (by rw [ew]; exact e)
  · have ew : colAt z ts a = z.length + 1 := by unfold colAt; rw [List.getElem?_eq_none g]
    refine rd_iteF (by omega) ?_
    walk_at "rd"
    refine rd_fld h1 T.cl_Reader T.na_Reader_line rfl ?_
    walk_at "rd"
    refine rd_lenTx (Nat.le_trans lz (by decide)) ?_
    walk_at "rd"
    refine rd_fld h1 T.cl_Reader T.na_Reader_place rfl ?_
    walk_at "rd"
    exact rd_raP2 fun dd H' hd s e => k dd H' s (by rw [ew]; exact e)
theorem xet_Reader_need (T : TX P K mg C_Rule C_Reader C_BadText) : MetX P w K mg base 4 C_Reader "need" (spNeed C_Reader C_BadText) [] := by
  obtain ⟨f0, fd, D, dn, me, _⟩ := T.m_Reader_need
  have G_Reader_has := met_Reader_has (P := P) (w := w) (base := base) T
  have X_Reader_refuse := xet_Reader_refuse (P := P) (w := w) (base := base) T
  refine metX0 T.cl_Reader me D (D.binds dn fun _ _ _ _ _ _ us hl => match us, hl with | [_, _], _ => rfl) sc_Reader_need (by walk_at "len") (fun cdv A outer s H vs Q E hr h => ?_)
  obtain ⟨y, z, w, pl, a, ts, rfl, rd, lt, la, lz, k⟩ := h
  obtain ⟨dx, P, ws, h1, h2, h3⟩ := id rd
  refine ⟨_, (pss_one (ps_if (pt_not (pt_val (pe_mt G_Reader_has hr (by decide) (pv 0) (pa_cons (pv 1) pa_nil)))) (pss_one (ps_expr (pe_mtX0 (pl := _) X_Reader_refuse hr (by decide) (fun σ => passAt (takes_of rfl rfl rfl rfl) σ) (pv 0)))) pss_nil)), ?_⟩
  walk_at "rd"
  refine ⟨y, dx, _, rfl, h1, rfl, ?_⟩
  walk_at "rd"
  rcases k with ⟨ne, k⟩ | ⟨e, k⟩
  · refine ⟨y, z, w, pl, a, ts, rfl, rd, lt, la, .inl ⟨ne, fun H1 s1 => ?_⟩⟩
    walk_at "rd"
    refine ⟨y, dx, _, rfl, s1 _ _ h1, rfl, ?_⟩
    walk_at "rd"
    exact ⟨y, z, pl, a, ts, rfl, rd.mono s1, lt, la, lz, fun dd H' s e => k dd H' (s1.trans s) e⟩
  · refine ⟨y, z, w, pl, a, ts, rfl, rd, lt, la, .inr ⟨e, fun H1 hk rd1 => ?_⟩⟩
    walk_at "rd"
    exact k H1 hk rd1
theorem xet_Reader_close (T : TX P K mg C_Rule C_Reader C_BadText) : MetX P w K mg base 4 C_Reader "close" (spClos C_Reader C_BadText) [] := by
  obtain ⟨f0, fd, D, dn, me, _⟩ := T.m_Reader_close
  have G_Reader_next := met_Reader_next (P := P) (w := w) (base := base) T
  have X_Reader_refuse := xet_Reader_refuse (P := P) (w := w) (base := base) T
  refine metX0 T.cl_Reader me D (D.binds dn fun _ _ _ _ _ _ us hl => match us, hl with | [_], _ => rfl) sc_Reader_close (by walk_at "len") (fun cdv A outer s H vs Q E hr h => ?_)
  obtain ⟨y, z, pl, a, ts, rfl, rd, lt, la, lz, k⟩ := h
  obtain ⟨dx, P, ws, h1, h2, h3⟩ := id rd
  refine ⟨_, (pss_one (ps_if (pt_cmpR op_ne (pe_mt0 (pl := _) G_Reader_next hr (by decide) (pv 0)) pe_str (nomark _)) (pss_one (ps_expr (pe_mtX0 (pl := _) X_Reader_refuse hr (by decide) (fun σ => passAt (takes_of rfl rfl rfl rfl) σ) (pv 0)))) pss_nil)), ?_⟩
  walk_at "rd"
  refine ⟨y, dx, _, rfl, h1, rfl, ?_⟩
  walk_at "rd"
  refine ⟨y, z, pl, a, ts, rfl, rd, lt, la, fun H1 s1 => ?_⟩
  walk_at "rd"
  refine rd_ne rfl ?_
  rcases k with ⟨ne, k⟩ | ⟨e, k⟩
  · refine ⟨_, rfl, rd_iteNT (fun q => ne (V.str.inj q)) ?_⟩
    walk_at "rd"
    refine ⟨y, dx, _, rfl, s1 _ _ h1, rfl, ?_⟩
    walk_at "rd"
    exact ⟨y, z, pl, a, ts, rfl, rd.mono s1, lt, la, lz, fun dd H' s e => k dd H' (s1.trans s) e⟩
  · refine ⟨_, rfl, rd_iteNF (by rw [e]) ?_⟩
    exact k H1 s1
end
end Sl
set_option Elab.async false
set_option linter.all false
set_option maxRecDepth 100000
set_option maxHeartbeats 8000000
set_option exponentiation.threshold 9000
namespace Sl
open PySem L2 C8 StX SiltT
local macro_rules | `(tactic| walk_at "side") => `(tactic| first
  | exact cdivw (by omega) (by omega)
  | exact cmulw (by omega) (by omega) (by omega) (by omega)
  | exact Or.inr ⟨by omega, by omega⟩
  | exact Or.inl ⟨by omega, by omega⟩
  | omega
  | exact ⟨by omega, by omega, by decide⟩
  | decide)
local macro_rules | `(tactic| walk_at "rd1") => `(tactic| first
  | with_reducible refine rd_seq ?_
  | with_reducible refine rd_asg ?_
  | with_reducible refine rd_drop ?_
  | with_reducible refine rd_ret ?_
  | with_reducible refine rd_retN ?_
  | with_reducible refine rd_ifS ?_
  | ((with_reducible refine rd_var0 ?_); refine ⟨_, rfl, ?_⟩)
  | with_reducible refine rd_c ?_
  | with_reducible refine rd_op ?_
  | with_reducible refine rd_un ?_
  | with_reducible refine rd_I0 ?_
  | with_reducible refine rd_U ?_
  | ((with_reducible refine rd_I ?c ?_); (case c => walk_at "side"))
  | with_reducible refine rd_ipI ?_
  | with_reducible refine rd_eqI ?_
  | with_reducible refine rd_neI ?_
  | with_reducible refine rd_test ?_
  | with_reducible refine rd_tB ?_
  | with_reducible refine rd_bl ?_
  | with_reducible refine rd_not ?_
  | with_reducible refine rd_and ?_
  | with_reducible refine rd_or ?_
  | with_reducible refine rd_andV ?_
  | with_reducible refine rd_orV ?_
  | with_reducible refine rd_notV ?_
  | with_reducible refine rd_ifE ?_
  | with_reducible refine rd_chain ?_
  | with_reducible refine rd_chain3 ?_
  | with_reducible refine rd_nil ?_
  | with_reducible refine rd_cons ?_
  | with_reducible refine rd_call ?_
  | with_reducible refine rd_CB ?_
  | with_reducible refine rd_par ?_
  | with_reducible refine rd_par2 ?_
  | with_reducible refine rd_par3 ?_
  | with_reducible refine rd_par4 ?_
  | ((with_reducible refine rd_aug0 ?_); refine ⟨_, rfl, ?_⟩)
  | with_reducible refine rd_gname ?_
  | with_reducible refine rd_gcons ?_
  | with_reducible refine rd_gnil ?_
  | with_reducible refine rd_max ?_
  | with_reducible refine rd_min ?_
  | with_reducible refine rd_int1 ?_
  | with_reducible refine rd_abs ?_
  | with_reducible refine rd_lst ?_
  | with_reducible refine rd_tup ?_
  | with_reducible refine rd_bm ?_
  | with_reducible refine rd_fld0 ?_
  | with_reducible refine rd_sl0 ?_
  | with_reducible refine rd_noP ?_
  | with_reducible refine rd_part ?_
  | with_reducible refine rd_part2 ?_
  | with_reducible refine rd_meth0 ?_
  | with_reducible refine rd_star ?_
  | with_reducible refine rd_for ?_
  | with_reducible refine rd_rng1 ?_
  | with_reducible refine rd_rng2 ?_
  | with_reducible refine rd_rng3 ?_
  | with_reducible refine rd_iList ?_
  | with_reducible refine rd_iTup ?_
  | with_reducible refine rd_iEnum ?_
  | with_reducible refine rd_lc ?_
  | with_reducible refine rd_yes ?_
  | with_reducible refine rd_augS ?_
  | with_reducible refine rd_drawNew ?_
  | with_reducible refine rd_make0 ?_
  | with_reducible refine rd_next ?_
  | with_reducible refine rd_break ?_
  | with_reducible refine rd_cont ?_
  | with_reducible refine rd_iteTT ?_
  | with_reducible refine rd_iteFF ?_
  | with_reducible refine rd_iteNTT ?_
  | with_reducible refine rd_iteNFF ?_
  | with_reducible refine rd_con0 ?_
  | with_reducible refine rd_truO0 ?_
  | with_reducible refine rd_gfld0 ?_
  | with_reducible refine rd_dc ?_
  | with_reducible refine rd_iKeys ?_
  | with_reducible refine rd_dget0 ?_
  | with_reducible refine rd_dput0 ?_
  | with_reducible refine rd_dnot0 ?_
  | with_reducible refine rd_iEnumT ?_
  | with_reducible refine rd_raP0 ?_
  | with_reducible refine rd_xf0 ?_
  | with_reducible refine rd_cKw ?_
  | with_reducible refine rd_iStr ?_
  | with_reducible refine rd_gSub ?_
  | with_reducible refine rd_asgG ?_)
local macro_rules | `(tactic| walk_at "rd") => `(tactic| repeat walk_at "rd1")
local macro_rules | `(tactic| walk_at "len") => `(tactic| first
  | (intro vs H Q E h; obtain ⟨h2, _⟩ := h; rw [h2]; rfl)
  | (intro vs H Q E h; obtain ⟨_, h2, _⟩ := h; rw [h2]; rfl)
  | (intro vs H Q E h; obtain ⟨_, _, h2, _⟩ := h; rw [h2]; rfl)
  | (intro vs H Q E h; obtain ⟨_, _, _, h2, _⟩ := h; rw [h2]; rfl)
  | (intro vs H Q E h; obtain ⟨_, _, _, _, h2, _⟩ := h; rw [h2]; rfl)
  | (intro vs H Q E h; obtain ⟨_, _, _, _, _, h2, _⟩ := h; rw [h2]; rfl)
  | (intro vs H Q E h; obtain ⟨_, _, _, _, _, _, h2, _⟩ := h; rw [h2]; rfl)
  | (intro vs H Q E h; obtain ⟨_, _, _, _, _, _, _, h2, _⟩ := h; rw [h2]; rfl)
  | (intro vs H Q E h; obtain ⟨_, _, _, _, _, _, _, _, h2, _⟩ := h; rw [h2]; rfl)
  | (intro vs H Q E h; obtain ⟨_, _, _, _, _, _, _, _, _, h2, _⟩ := h; rw [h2]; rfl)
  | (intro vs H Q E h; obtain ⟨_, _, _, _, _, _, _, _, _, _, h2, _⟩ := h; rw [h2]; rfl)
  | (intro vs H Q E h; obtain ⟨_, _, _, _, _, _, _, _, _, _, _, h2, _⟩ := h; rw [h2]; rfl)
  | (intro vs H Q E h; obtain ⟨_, _, _, _, _, _, _, _, _, _, _, _, h2, _⟩ := h; rw [h2]; rfl))
local macro_rules | `(tactic| walk_at "rd1") => `(tactic| first
  | with_reducible refine rd_fldaug0 ?_
  | with_reducible refine rd_raP20 ?_
  | with_reducible refine rd_methX0 ?_)
/-! a reader's number -/
def spNumb (C CB : Addr) : Sp := fun vs H Q E => ∃ (y : Addr) (z : Str) (pl a lo hi : Nat) (ts : List (List Nat × Nat)) (w : List Nat), vs = [.ref y, .int (lo : Nat), .int (hi : Nat)] ∧ RdP C H y z pl ts a ∧ ts.length ≤ 20000 ∧ a ≤ 20000 ∧ z.length ≤ 10000 ∧ wordAt ts a = ⟨w.toArray⟩ ∧ (w = [] ∨ isTok w = true) ∧ w.length ≤ 10000 ∧
  ((¬ (numB w = true ∧ lo ≤ valD w ∧ valD w ≤ hi) ∧ RefE CB H z pl ts a E) ∨ (numB w = true ∧ lo ≤ valD w ∧ valD w ≤ hi ∧ ∀ H', (∀ b o, b ≠ y → H b = some o → H' b = some o) → RdP C H' y z pl ts (a + 1) → Q (.int (valD w : Nat)) H'))
section
variable {P : Program} {w : World} {K : PySem.W.Frag} {mg : Str → Option Value} {base : Heap} {C_Rule C_Reader C_BadText : Addr}
theorem xet_Reader_number (T : TX P K mg C_Rule C_Reader C_BadText) : MetX P w K mg base 4 C_Reader "number" (spNumb C_Reader C_BadText) [] := by
  obtain ⟨f0, fd, D, dn, me, _⟩ := T.m_Reader_number
  have G_Reader_next := met_Reader_next (P := P) (w := w) (base := base) T
  have X_Reader_refuse := xet_Reader_refuse (P := P) (w := w) (base := base) T
  refine metX0 T.cl_Reader me D (D.binds dn fun _ _ _ _ _ _ us hl => match us, hl with | [_, _, _], _ => rfl) sc_Reader_number (by walk_at "len") (fun cdv A outer s H vs Q E hr h => ?_)
  obtain ⟨y, z, pl, a, lo, hi, ts, w, rfl, rd, lt, la, lz, ew, tk, lw, k⟩ := h
  obtain ⟨dx, P, ws, h1, h2, h3⟩ := id rd
  refine ⟨_, (pss_cut (ps_s 3 sc_Reader_number.nd (pe_mt0 (pl := _) G_Reader_next hr (by decide) (pv 0)))
      (pss_cut (ps_if (PW.pt (pw_or (pt_cmpR op_eq (pv 3) pe_str (nomark _)) (pw_or (pt_not (pt_chain op_leS op_leS pe_str (pe_ixS (pv 3) pe_int (fun _ _ => rfl)) pe_str)) (pw_or (PW.pt (pw_and (pt_cmpR op_gt (pe_callB cr_lenTx (by rfl) T.b_len (by decide +kernel) (pa_cons (pv 3) pa_nil)) pe_int (nomark _)) (pw_and1 (pt_cmpR op_eq (pe_ixS (pv 3) pe_int (fun _ _ => rfl)) pe_str (nomark _))))) (pw_or1 (pt_cmpR op_gt (pe_callB cr_lenTx (by rfl) T.b_len (by decide +kernel) (pa_cons (pv 3) pa_nil)) pe_int (nomark _))))))) (pss_one (ps_expr (pe_mtX0 (pl := _) X_Reader_refuse hr (by decide) (fun σ => passAt (takes_of rfl rfl rfl rfl) σ) (pv 0)))) pss_nil)
      (pss_cut (ps_if (pt_not (pt_chain op_le op_le (pv 1) (pe_callTy cr_intS (by rfl) T.b_int (by decide +kernel) (pa_cons (pv 3) pa_nil)) (pv 2))) (pss_one (ps_expr (pe_mtX0 (pl := _) X_Reader_refuse hr (by decide) (fun σ => passAt (takes_of rfl rfl rfl rfl) σ) (pv 0)))) pss_nil)
      (pss_cons (ps_fldaug (pv 0) pe_int in_add)
      (pss_one (ps_ret (pe_callTy cr_intS (by rfl) T.b_int (by decide +kernel) (pa_cons (pv 3) pa_nil)))))))), ?_⟩
  walk_at "rd"
  refine ⟨fun σ H' => Same H H' ∧ σ = [some (.ref y), some (.int (lo : Nat)), some (.int (hi : Nat)), some (.str ⟨w.toArray⟩)], ?_, ?_⟩
  · walk_at "rd"
    refine ⟨y, dx, _, rfl, h1, rfl, ?_⟩
    walk_at "rd"
    refine ⟨y, z, pl, a, ts, rfl, rd, lt, la, fun H1 s1 => ?_⟩
    rw [ew]
    walk_at "rd"
    exact ⟨s1, rfl⟩
  rintro σ H1 ⟨s1, rfl⟩
  walk_at "rd"
  refine ⟨fun σ H' => (Same H H' ∧ σ = [some (.ref y), some (.int (lo : Nat)), some (.int (hi : Nat)), some (.str ⟨w.toArray⟩)]) ∧ numB w = true, ?_, ?_⟩
  · walk_at "rd"
    refine rd_eq rfl ?_
    cases w with
    | nil =>
      refine ⟨_, rfl, rd_iteT rfl ?_⟩
      walk_at "rd"
      refine ⟨y, dx, _, rfl, s1 _ _ h1, rfl, ?_⟩
      walk_at "rd"
      rcases k with ⟨_, k⟩ | ⟨k, _⟩
      · exact ⟨y, z, pl, a, ts, rfl, rd.mono s1, lt, la, lz, fun dd H' s e => k dd H' (s1.trans s) e⟩
      · cases k
    | cons c r =>
      have hne : ¬ (V.str ⟨(c :: r).toArray⟩ = V.str "") := fun q => by
        have := congrArg (fun z : Str => z.cps.toList) (V.str.inj q)
        have h2 : c :: r = [] := this
        cases h2
      have lz1 : ((⟨(c :: r).toArray⟩ : Str).length : Nat) = r.length + 1 := by
        show (c :: r).toArray.size = r.length + 1
        rw [List.size_toArray, List.length_cons]
      have lw : r.length + 1 ≤ 10000 := lw
      refine ⟨_, rfl, rd_iteF hne ?_⟩
      walk_at "rd"
      refine rd_ixS (c := c) (by decide) (by decide) (by rw [lz1]; omega) (by rfl) ?_
      refine rd_leC9 (c := 48) (d := c) (by rfl) rfl ?_
      refine ⟨_, rfl, ?_⟩
      have ref : numB (c :: r) = false → ∀ dd H', Same H1 H' → H' dd = some (.xd [("column", .int (colAt z ts a : Nat)), ("line", .int (pl : Nat))]) → E (.ref C_BadText) (some dd) H' := fun q => by
        rcases k with ⟨_, k⟩ | ⟨k, _⟩
        · exact fun dd H' s e => k dd H' (s1.trans s) e
        · rw [q] at k
          cases k
      have nb : numB (c :: r) = (isD c && (!(decide (r ≠ []) && decide (c = 48)) && decide (r.length ≤ 17))) := rfl
      have ze : (V.str (sgS c) = V.str "0") ↔ c = 48 := ⟨fun q => sg_inj (by rw [show (sgS 48) = ("0" : Str) by decide +kernel]; exact V.str.inj q), fun q => by rw [q]; rfl⟩
      refine rd_ite (fun a1 => ?_) (fun a1 => ?_)
      · walk_at "rd"
        refine rd_leC9 (c := c) (d := 57) rfl (by rfl) ?_
        refine ⟨_, rfl, ?_⟩
        by_cases a2 : c ≤ 57
        · have i1 : isD c = true := by unfold isD; rw [decide_eq_true a1, decide_eq_true a2]; rfl
          refine rd_iteNF a2 ?_
          walk_at "rd"
          refine rd_lenTx (Nat.le_trans (Nat.le_of_eq lz1) (Nat.le_trans lw (by decide))) ?_
          walk_at "rd"
          by_cases c1 : r = []
          · refine rd_iteF (by rw [lz1, c1]; decide) ?_
            walk_at "rd"
            refine rd_lenTx (Nat.le_trans (Nat.le_of_eq lz1) (Nat.le_trans lw (by decide))) ?_
            walk_at "rd"
            by_cases c3 : r.length ≤ 17
            · refine rd_iteF (by rw [lz1]; omega) ?_
              walk_at "rd"
              exact ⟨⟨s1, rfl⟩, by rw [nb, i1, decide_eq_false (fun q => q c1), Bool.false_and, decide_eq_true c3]; rfl⟩
            · refine rd_iteT (by rw [lz1]; omega) ?_
              walk_at "rd"
              refine ⟨y, dx, _, rfl, s1 _ _ h1, rfl, ?_⟩
              walk_at "rd"
              exact ⟨y, z, pl, a, ts, rfl, rd.mono s1, lt, la, lz, ref (by rw [nb]; rw [decide_eq_false c3, Bool.and_false, Bool.and_false])⟩
          · have rl : 1 ≤ r.length := List.length_pos_iff.mpr c1
            refine rd_iteT (by rw [lz1]; omega) ?_
            walk_at "rd"
            refine rd_ixS (c := c) (by decide) (by decide) (by rw [lz1]; omega) (by rfl) ?_
            walk_at "rd"
            refine rd_eq rfl ?_
            by_cases c2 : c = 48
            · refine ⟨_, rfl, rd_iteT (ze.mpr c2) ?_⟩
              walk_at "rd"
              refine ⟨y, dx, _, rfl, s1 _ _ h1, rfl, ?_⟩
              walk_at "rd"
              exact ⟨y, z, pl, a, ts, rfl, rd.mono s1, lt, la, lz, ref (by rw [nb]; rw [decide_eq_true c1, decide_eq_true c2]; cases isD c <;> rfl)⟩
            · refine ⟨_, rfl, rd_iteF (fun q => c2 (ze.mp q)) ?_⟩
              walk_at "rd"
              refine rd_lenTx (Nat.le_trans (Nat.le_of_eq lz1) (Nat.le_trans lw (by decide))) ?_
              walk_at "rd"
              by_cases c3 : r.length ≤ 17
              · refine rd_iteF (by rw [lz1]; omega) ?_
                walk_at "rd"
                exact ⟨⟨s1, rfl⟩, by rw [nb, i1, decide_eq_false c2, Bool.and_false, decide_eq_true c3]; rfl⟩
              · refine rd_iteT (by rw [lz1]; omega) ?_
                walk_at "rd"
                refine ⟨y, dx, _, rfl, s1 _ _ h1, rfl, ?_⟩
                walk_at "rd"
                exact ⟨y, z, pl, a, ts, rfl, rd.mono s1, lt, la, lz, ref (by rw [nb]; rw [decide_eq_false c3, Bool.and_false, Bool.and_false])⟩
        · refine rd_iteNT a2 ?_
          walk_at "rd"
          refine ⟨y, dx, _, rfl, s1 _ _ h1, rfl, ?_⟩
          walk_at "rd"
          exact ⟨y, z, pl, a, ts, rfl, rd.mono s1, lt, la, lz, ref (by rw [nb]; unfold isD; rw [decide_eq_false a2, Bool.and_false, Bool.false_and])⟩
      · refine ⟨_, rfl, rd_iteNFF ?_⟩
        walk_at "rd"
        refine ⟨y, dx, _, rfl, s1 _ _ h1, rfl, ?_⟩
        walk_at "rd"
        exact ⟨y, z, pl, a, ts, rfl, rd.mono s1, lt, la, lz, ref (by rw [nb]; unfold isD; rw [decide_eq_false a1, Bool.false_and, Bool.false_and])⟩
  clear s1
  rintro σ H1 ⟨⟨s1, rfl⟩, nb⟩
  have dig : w.all (fun c => decide (48 ≤ c) && decide (c ≤ 57)) = true ∧ w ≠ [] ∧ w.length ≤ 18 := by
    cases w with
    | nil => cases nb
    | cons c r =>
      have nb : (isD c && (!(decide (r ≠ []) && decide (c = 48)) && decide (r.length ≤ 17))) = true := nb
      rw [Bool.and_eq_true, Bool.and_eq_true, decide_eq_true_iff] at nb
      have tk : isTok (c :: r) = true := tk.resolve_left fun q => by cases q
      have tk : (!decide (c = 35) && !decide (c = 32) && (if isL c = true then r.all isL else if isD c = true then r.all isD else r.isEmpty)) = true := tk
      rw [Bool.and_eq_true] at tk
      have hl : ¬ isL c = true := fun q => by
        have n1 := nb.1
        unfold isL at q
        unfold isD at n1
        rw [Bool.and_eq_true, decide_eq_true_iff, decide_eq_true_iff] at q n1
        omega
      have t2 := tk.2
      rw [if_neg hl, if_pos nb.1] at t2
      refine ⟨?_, by simp, by rw [List.length_cons]; omega⟩
      rw [List.all_cons, Bool.and_eq_true]
      exact ⟨nb.1, t2⟩
  obtain ⟨d1, d2, d3⟩ := dig
  have it := SX.int_S d1 d2 (by omega)
  have lz2 : (⟨w.toArray⟩ : Str).length ≤ 640 := by
    show w.toArray.size ≤ 640
    rw [List.size_toArray]
    omega
  walk_at "rd"
  refine ⟨fun σ H' => (Same H H' ∧ σ = [some (.ref y), some (.int (lo : Nat)), some (.int (hi : Nat)), some (.str ⟨w.toArray⟩)]) ∧ lo ≤ valD w ∧ valD w ≤ hi, ?_, ?_⟩
  · walk_at "rd"
    refine rd_intS it lz2 ?_
    walk_at "rd"
    have ref : ¬ (lo ≤ valD w ∧ valD w ≤ hi) → ∀ dd H', Same H1 H' → H' dd = some (.xd [("column", .int (colAt z ts a : Nat)), ("line", .int (pl : Nat))]) → E (.ref C_BadText) (some dd) H' := fun q => by
      rcases k with ⟨_, k⟩ | ⟨_, k2, k3, _⟩
      · exact fun dd H' s e => k dd H' (s1.trans s) e
      · exact absurd ⟨k2, k3⟩ q
    obtain ⟨n, en⟩ : ∃ n, n = valD w := ⟨_, rfl⟩
    have en2 : NumText.digitsVal w = n := en.symm
    rw [en2]
    rw [← en] at ref ⊢
    by_cases a1 : lo ≤ n
    · refine rd_iteT (by omega) ?_
      walk_at "rd"
      by_cases a2 : n ≤ hi
      · refine rd_iteNF (by omega) ?_
        walk_at "rd"
        exact ⟨⟨s1, rfl⟩, a1, a2⟩
      · refine rd_iteNT (by omega) ?_
        walk_at "rd"
        refine ⟨y, dx, _, rfl, s1 _ _ h1, rfl, ?_⟩
        walk_at "rd"
        exact ⟨y, z, pl, a, ts, rfl, rd.mono s1, lt, la, lz, ref (by omega)⟩
    · refine rd_iteF (by omega) ?_
      walk_at "rd"
      refine ⟨y, dx, _, rfl, s1 _ _ h1, rfl, ?_⟩
      walk_at "rd"
      exact ⟨y, z, pl, a, ts, rfl, rd.mono s1, lt, la, lz, ref (by omega)⟩
  clear s1
  rintro σ H1 ⟨⟨s1, rfl⟩, v1, v2⟩
  walk_at "rd"
  refine rd_fldaugI (s1 _ _ h1) T.cl_Reader T.na_Reader_at (i := (a : Nat)) rfl (by show 4 < 1000; decide) rfl ?_
  walk_at "rd"
  refine rd_intS it lz2 ?_
  rcases k with ⟨q, _⟩ | ⟨_, _, _, k⟩
  · exact absurd ⟨nb, v1, v2⟩ q
  rw [show ((a : Nat) : Int) + 1 = ((a + 1 : Nat) : Int) by omega, put_at9]
  refine k _ (fun b o nb hb => ?_) ⟨dx, P, ws, upd_same, ?_, ?_⟩
  · rw [upd_ne nb]
    exact s1 _ _ hb
  · rw [upd_ne (fun q => by rw [q, h1] at h2; cases h2)]
    exact s1 _ _ h2
  · refine h3.keep fun b xs eb => ?_
    rw [upd_ne (fun q => by rw [q, h1] at eb; cases eb)]
    exact s1 _ _ eb
end
end Sl
set_option Elab.async false
set_option linter.all false
set_option maxRecDepth 100000
set_option maxHeartbeats 8000000
set_option exponentiation.threshold 9000
namespace Sl
open PySem L2 C8 StX SiltT
local macro_rules | `(tactic| walk_at "side") => `(tactic| first
  | exact cdivw (by omega) (by omega)
  | exact cmulw (by omega) (by omega) (by omega) (by omega)
  | exact Or.inr ⟨by omega, by omega⟩
  | exact Or.inl ⟨by omega, by omega⟩
  | omega
  | exact ⟨by omega, by omega, by decide⟩
  | decide)
local macro_rules | `(tactic| walk_at "rd1") => `(tactic| first
  | with_reducible refine rd_seq ?_
  | with_reducible refine rd_asg ?_
  | with_reducible refine rd_drop ?_
  | with_reducible refine rd_ret ?_
  | with_reducible refine rd_retN ?_
  | with_reducible refine rd_ifS ?_
  | ((with_reducible refine rd_var0 ?_); refine ⟨_, rfl, ?_⟩)
  | with_reducible refine rd_c ?_
  | with_reducible refine rd_op ?_
  | with_reducible refine rd_un ?_
  | with_reducible refine rd_I0 ?_
  | with_reducible refine rd_U ?_
  | ((with_reducible refine rd_I ?c ?_); (case c => walk_at "side"))
  | with_reducible refine rd_ipI ?_
  | with_reducible refine rd_eqI ?_
  | with_reducible refine rd_neI ?_
  | with_reducible refine rd_test ?_
  | with_reducible refine rd_tB ?_
  | with_reducible refine rd_bl ?_
  | with_reducible refine rd_not ?_
  | with_reducible refine rd_and ?_
  | with_reducible refine rd_or ?_
  | with_reducible refine rd_andV ?_
  | with_reducible refine rd_orV ?_
  | with_reducible refine rd_notV ?_
  | with_reducible refine rd_ifE ?_
  | with_reducible refine rd_chain ?_
  | with_reducible refine rd_chain3 ?_
  | with_reducible refine rd_nil ?_
  | with_reducible refine rd_cons ?_
  | with_reducible refine rd_call ?_
  | with_reducible refine rd_CB ?_
  | with_reducible refine rd_par ?_
  | with_reducible refine rd_par2 ?_
  | with_reducible refine rd_par3 ?_
  | with_reducible refine rd_par4 ?_
  | ((with_reducible refine rd_aug0 ?_); refine ⟨_, rfl, ?_⟩)
  | with_reducible refine rd_gname ?_
  | with_reducible refine rd_gcons ?_
  | with_reducible refine rd_gnil ?_
  | with_reducible refine rd_max ?_
  | with_reducible refine rd_min ?_
  | with_reducible refine rd_int1 ?_
  | with_reducible refine rd_abs ?_
  | with_reducible refine rd_lst ?_
  | with_reducible refine rd_tup ?_
  | with_reducible refine rd_bm ?_
  | with_reducible refine rd_fld0 ?_
  | with_reducible refine rd_sl0 ?_
  | with_reducible refine rd_noP ?_
  | with_reducible refine rd_part ?_
  | with_reducible refine rd_part2 ?_
  | with_reducible refine rd_meth0 ?_
  | with_reducible refine rd_star ?_
  | with_reducible refine rd_for ?_
  | with_reducible refine rd_rng1 ?_
  | with_reducible refine rd_rng2 ?_
  | with_reducible refine rd_rng3 ?_
  | with_reducible refine rd_iList ?_
  | with_reducible refine rd_iTup ?_
  | with_reducible refine rd_iEnum ?_
  | with_reducible refine rd_lc ?_
  | with_reducible refine rd_yes ?_
  | with_reducible refine rd_augS ?_
  | with_reducible refine rd_drawNew ?_
  | with_reducible refine rd_make0 ?_
  | with_reducible refine rd_next ?_
  | with_reducible refine rd_break ?_
  | with_reducible refine rd_cont ?_
  | with_reducible refine rd_iteTT ?_
  | with_reducible refine rd_iteFF ?_
  | with_reducible refine rd_iteNTT ?_
  | with_reducible refine rd_iteNFF ?_
  | with_reducible refine rd_con0 ?_
  | with_reducible refine rd_truO0 ?_
  | with_reducible refine rd_gfld0 ?_
  | with_reducible refine rd_dc ?_
  | with_reducible refine rd_iKeys ?_
  | with_reducible refine rd_dget0 ?_
  | with_reducible refine rd_dput0 ?_
  | with_reducible refine rd_dnot0 ?_
  | with_reducible refine rd_iEnumT ?_
  | with_reducible refine rd_raP0 ?_
  | with_reducible refine rd_xf0 ?_
  | with_reducible refine rd_cKw ?_
  | with_reducible refine rd_iStr ?_
  | with_reducible refine rd_gSub ?_
  | with_reducible refine rd_asgG ?_)
local macro_rules | `(tactic| walk_at "rd") => `(tactic| repeat walk_at "rd1")
local macro_rules | `(tactic| walk_at "len") => `(tactic| first
  | (intro vs H Q E h; obtain ⟨h2, _⟩ := h; rw [h2]; rfl)
  | (intro vs H Q E h; obtain ⟨_, h2, _⟩ := h; rw [h2]; rfl)
  | (intro vs H Q E h; obtain ⟨_, _, h2, _⟩ := h; rw [h2]; rfl)
  | (intro vs H Q E h; obtain ⟨_, _, _, h2, _⟩ := h; rw [h2]; rfl)
  | (intro vs H Q E h; obtain ⟨_, _, _, _, h2, _⟩ := h; rw [h2]; rfl)
  | (intro vs H Q E h; obtain ⟨_, _, _, _, _, h2, _⟩ := h; rw [h2]; rfl)
  | (intro vs H Q E h; obtain ⟨_, _, _, _, _, _, h2, _⟩ := h; rw [h2]; rfl)
  | (intro vs H Q E h; obtain ⟨_, _, _, _, _, _, _, h2, _⟩ := h; rw [h2]; rfl)
  | (intro vs H Q E h; obtain ⟨_, _, _, _, _, _, _, _, h2, _⟩ := h; rw [h2]; rfl)
  | (intro vs H Q E h; obtain ⟨_, _, _, _, _, _, _, _, _, h2, _⟩ := h; rw [h2]; rfl)
  | (intro vs H Q E h; obtain ⟨_, _, _, _, _, _, _, _, _, _, h2, _⟩ := h; rw [h2]; rfl)
  | (intro vs H Q E h; obtain ⟨_, _, _, _, _, _, _, _, _, _, _, h2, _⟩ := h; rw [h2]; rfl)
  | (intro vs H Q E h; obtain ⟨_, _, _, _, _, _, _, _, _, _, _, _, h2, _⟩ := h; rw [h2]; rfl))
local macro_rules | `(tactic| walk_at "rd1") => `(tactic| first
  | with_reducible refine rd_fldaug0 ?_
  | with_reducible refine rd_raP20 ?_
  | with_reducible refine rd_methX0 ?_
  | with_reducible refine rd_tM1 ?_
  | with_reducible refine rd_tM1s ?_
  | with_reducible refine rd_iEnumS ?_)
/-! a rule is read -/
/-- the lines of a text -/
def linesL (z : Str) : List (List Nat) := (Txt.split z "\n").map fun l => l.cps.toList
def intP (q : Nat × Nat) : Int × Int := ((q.1 : Int), (q.2 : Int))
/-- what is no text is refused; a text read: the rule, or the place of what does not fit -/
def spRead (C CB CR : Addr) : Sp := fun vs H Q E => ∃ v : V, vs = [v] ∧
  (((v = .non ∨ ∃ i, v = .int i) ∧ ∀ dd H', Same H H' → H' dd = some (.xd [("column", .int 0), ("line", .int 0)]) → E (.ref CB) (some dd) H') ∨
   ∃ z : Str, v = .str z ∧ z.length ≤ 10000 ∧ (linesL z).length ≤ 1000 ∧ (∀ l ∈ linesL z, l.length ≤ 10000 ∧ ∀ c ∈ l, c < 1114112) ∧
   ((∃ a b, readL [] [] 1 (linesL z) = .inl (a, b) ∧ ∀ dd H', Same H H' → H' dd = some (.xd [("column", .int (b : Nat)), ("line", .int (a : Nat))]) → E (.ref CB) (some dd) H') ∨
    ∃ f p, readL [] [] 1 (linesL z) = .inr (f, p) ∧ ∀ H' x, Same H H' → RuleS CR H' x (f.map intP) (p.map intP) → Q (.ref x) H'))
theorem word_get {ts : List (List Nat × Nat)} (a : Nat) : wordAt ts a = ⟨((ts.map (·.1)).getD a []).toArray⟩ := by
  unfold wordAt
  rw [List.getD_eq_getElem?_getD, List.getElem?_map]
  cases ts[a]? with
  | none => rfl
  | some w => rfl
theorem col_get {z : Str} {ts : List (List Nat × Nat)} (a : Nat) : colAt z ts a = colL z.cps.toList ts a := by
  unfold colAt colL
  cases ts[a]? with
  | none => simp [Str.length]
  | some w => rfl
theorem str_inj {a b : List Nat} (h : (⟨a.toArray⟩ : Str) = ⟨b.toArray⟩) : a = b := by
  have := congrArg (fun z : Str => z.cps.toList) h
  exact this
theorem get_tok {l : List Nat} (a : Nat) : ((toks 0 l).map (·.1)).getD a [] = [] ∨ isTok (((toks 0 l).map (·.1)).getD a []) = true := by
  rw [List.getD_eq_getElem?_getD, List.getElem?_map]
  cases q : (toks 0 l)[a]? with
  | none => exact .inl rfl
  | some w => exact .inr (((toks_ok l.length 0 l (Nat.le_refl _)).2 w (List.mem_of_getElem? q)).1)
theorem get_len {l : List Nat} (a : Nat) : (((toks 0 l).map (·.1)).getD a []).length ≤ l.length := by
  rw [List.getD_eq_getElem?_getD, List.getElem?_map]
  cases q : (toks 0 l)[a]? with
  | none => exact Nat.zero_le _
  | some w => exact ((toks_ok l.length 0 l (Nat.le_refl _)).2 w (List.mem_of_getElem? q)).2
theorem shaped_toks {ts : List (List Nat × Nat)} (h : ∀ w ∈ ts, ∀ c ∈ w.1, c < 1114112) : SeqAt.shaped (.list (ts.map tokD)) = true := by
  have h1 : PyData.canLayAll0 (ts.map tokD) = true := by
    induction ts with
    | nil => rfl
    | cons w r ih =>
      have hw : PyData.strOk ⟨w.1.toArray⟩ = true := by
        show (w.1.toArray).all (· < 0x110000) = true
        rw [List.all_toArray, List.all_eq_true]
        exact fun c hc => decide_eq_true (h w List.mem_cons_self c hc)
      have ih := ih fun w hw => h w (List.mem_cons_of_mem _ hw)
      show (PyData.canLay0 (tokD w) && PyData.canLayAll0 (r.map tokD)) = true
      rw [ih]
      simp [tokD, PyData.canLay0, PyData.canLayAll0, hw]
  have h2 : PyData.depthAll (ts.map tokD) ≤ 1 := depth_map (fun w => by simp [tokD, PyData.depth, PyData.depthAll]) ts
  refine Bool.and_eq_true_iff.mpr ⟨by simp only [PyData.canLay0]; exact h1, decide_eq_true ?_⟩
  simp only [PyData.depth]
  omega
theorem toks_ch : ∀ (n a : Nat) (l : List Nat), l.length ≤ n → ∀ w ∈ toks a l, ∀ c ∈ w.1, c ∈ l
  | _, a, [], _ => by
    rw [toks_nil]
    exact fun w hw => by cases hw
  | 0, a, c :: r, h => by cases h
  | n + 1, a, c :: r, h => by
    rw [List.length_cons] at h
    have ih := toks_ch n (a + 1 + SiltT.runN c r) (r.drop (SiltT.runN c r)) (by rw [List.length_drop]; omega)
    rw [toks_cons]
    by_cases c1 : c = 35
    · rw [if_pos c1]
      exact fun w hw => by cases hw
    · rw [if_neg c1]
      intro w hw x hx
      rcases List.mem_append.mp hw with g | g
      · by_cases c2 : c = 32
        · rw [if_pos c2] at g
          cases g
        · rw [if_neg c2] at g
          rw [List.mem_singleton.mp g] at hx
          have hx : x ∈ c :: r.take (SiltT.runN c r) := hx
          rcases List.mem_cons.mp hx with e | e
          · rw [e]
            exact List.mem_cons_self
          · exact List.mem_cons_of_mem _ (List.mem_of_mem_take e)
      · exact List.mem_cons_of_mem _ (List.mem_of_mem_drop (ih w g x hx))
/-- all but one object stand -/
def KeepY (y : Addr) (H H' : Hp) : Prop := ∀ b o, b ≠ y → H b = some o → H' b = some o
theorem KeepY.trans {y : Addr} {H H1 H2 : Hp} (h : KeepY y H H1) (g : KeepY y H1 H2) : KeepY y H H2 := fun b o n e => g b o n (h b o n e)
theorem KeepY.of {y : Addr} {H H1 : Hp} (h : Same H H1) : KeepY y H H1 := fun b o _ e => h b o e
theorem KeepY.same {y : Addr} {H0 H H1 : Hp} (s : Same H0 H) (n : H0 y = none) (h : KeepY y H H1) : Same H0 H1 := fun b o e => h b o (fun z => by rw [z, n] at e; cases e) (s b o e)
section
variable {P : Program} {w : World} {K : PySem.W.Frag} {mg : Str → Option Value} {base : Heap} {C_Rule C_Reader C_BadText : Addr}
theorem xal_read_rule (T : TX P K mg C_Rule C_Reader C_BadText) : CalX P w K mg base 5 "read_rule" (spRead C_Reader C_BadText C_Rule) [] := by
  obtain ⟨f0, fd, D, dn⟩ := T.d_read_rule
  have G_Reader_init := mak_Reader_init (P := P) (w := w) (base := base) T
  have G_Reader_next := met_Reader_next (P := P) (w := w) (base := base) T
  have G_Rule_init := mak_Rule_init_w (P := P) (w := w) (base := base) T
  have X_Reader_refuse := xet_Reader_refuse (P := P) (w := w) (base := base) T
  have X_Reader_need := xet_Reader_need (P := P) (w := w) (base := base) T
  have X_Reader_number := xet_Reader_number (P := P) (w := w) (base := base) T
  have X_Reader_close := xet_Reader_close (P := P) (w := w) (base := base) T
  refine calX0 D (D.fn.binds dn fun _ _ _ _ _ _ us hl => match us, hl with | [_], _ => rfl) .nil sc_read_rule (by walk_at "len") (fun cdv A outer s H vs Q E hr h => ?_)
  obtain ⟨v, rfl, h⟩ := h
  rcases h with ⟨hv, k⟩ | ⟨z, rfl, lz, lc, ll, k⟩
  · refine ⟨_, (pss_cut (ps_if (pt_not (pt_val (pe_callB call_isi (by rfl) T.b_isinstance (by decide +kernel) (pa_cons (pv 0) (pa_cons (pe_bltn (v := .ty "str") (u := .type "str") rfl T.b_str (by decide +kernel) rfl) pa_nil))))) (pss_one (ps_raiseP2 rfl (takes_of rfl rfl rfl rfl) T.y_BadText ss_BadText T.b_super T.mg_BadText hr (by decide) rfl pe_int pe_int)) pss_nil)
      (pss_cut (ps_par3 (i := 1) (j := 2) (l := 3) rfl sc_read_rule.nd rfl rfl rfl (by decide) (by decide) (by decide) rfl rfl rfl (pa_cons (pe_lst pa_nil) (pa_cons (pe_lst pa_nil) (pa_cons (pe_splitX (pv 0) pe_str) pa_nil))) (by rfl))
      (pss_cut (ps_for (passes_of rfl) rfl (pi_enumS (by rfl) T.b_enumerate (pa_cons (pv 3) (pa_cons pe_int pa_nil))) (pg_tup rfl (pgs_cons (pg_n 4 sc_read_rule.nd) (pgs_cons (pg_n 5 sc_read_rule.nd) pgs_nil))) (pss_cons (ps_s 6 sc_read_rule.nd (pe_mk G_Reader_init hr (by decide) rfl (pa_cons (pv 5) (pa_cons (pv 4) pa_nil))))
      (pss_cons (ps_if (pt_cmpR (op_eqD hr.units) (pe_fld (pv 6) rfl) (pe_lst pa_nil) (nomark _)) (pss_one ps_continue) pss_nil)
      (pss_cut (ps_s 7 sc_read_rule.nd (pe_or (pe_cmpR (op_neD hr.units) (pv 2) (pe_lst pa_nil) (nomark _)) (pe_one (pe_cmpR op_eq (pe_mt0 (pl := _) G_Reader_next hr (by decide) (pv 6)) pe_str (nomark _)))))
      (pss_cut (ps_s 8 sc_read_rule.nd (pe_ifExp (pt_val (pv 7)) (pv 2) (pv 1)))
      (pss_cons (ps_if (pt_cmpR op_eq (pe_callB cr_lenS (by rfl) T.b_len (by decide +kernel) (pa_cons (pv 8) pa_nil)) pe_int (nomark _)) (pss_one (ps_expr (pe_mtX0 (pl := _) X_Reader_refuse hr (by decide) (fun σ => passAt (takes_of rfl rfl rfl rfl) σ) (pv 6)))) pss_nil)
      (pss_cut (ps_expr (pe_mtX (pl := _) X_Reader_need hr (by decide) (fun σ => passAt (takes_of rfl rfl rfl rfl) σ) (pv 6) (pa_cons (pe_ifExp (pt_val (pv 7)) pe_str pe_str) pa_nil)))
      (pss_cons (ps_expr (pe_mtX (pl := _) X_Reader_need hr (by decide) (fun σ => passAt (takes_of rfl rfl rfl rfl) σ) (pv 6) (pa_cons pe_str pa_nil)))
      (pss_cons (ps_s 9 sc_read_rule.nd (pe_mtX (pl := _) X_Reader_number hr (by decide) (fun σ => passAt (takes_of rfl rfl rfl rfl) σ) (pv 6) (pa_cons pe_int (pa_cons pe_int pa_nil))))
      (pss_cons (ps_expr (pe_mtX (pl := _) X_Reader_need hr (by decide) (fun σ => passAt (takes_of rfl rfl rfl rfl) σ) (pv 6) (pa_cons pe_str pa_nil)))
      (pss_cons (ps_expr (pe_bm PySem.F.plainAttrs_list PySem.F.slot_list_append PySem.F.type_list_append mt_append (pv 8) (pa_cons (pe_tup (pa_cons (pv 9) (pa_cons (pe_mtX (pl := _) X_Reader_number hr (by decide) (fun σ => passAt (takes_of rfl rfl rfl rfl) σ) (pv 6) (pa_cons pe_int (pa_cons (pv 9) pa_nil))) pa_nil))) pa_nil)))
      (pss_one (ps_expr (pe_mtX0 (pl := _) X_Reader_close hr (by decide) (fun σ => passAt (takes_of rfl rfl rfl rfl) σ) (pv 6)))))))))))))))
      (pss_cut (ps_if (pt_cmpR (op_eqD hr.units) (pv 2) (pe_lst pa_nil) (nomark _)) (pss_one (ps_raiseP2 rfl (takes_of rfl rfl rfl rfl) T.y_BadText ss_BadText T.b_super T.mg_BadText hr (by decide) rfl (pe_op op_add (pe_callB cr_lenS (by rfl) T.b_len (by decide +kernel) (pa_cons (pv 3) pa_nil)) pe_int) pe_int)) pss_nil)
      (pss_one (ps_ret (pe_mk G_Rule_init hr (by decide) rfl (pa_cons (pv 1) (pa_cons (pv 2) pa_nil))))))))), ?_⟩
    walk_at "rd"
    refine ⟨fun σ H' => False, ?_, fun σ H' q => q.elim⟩
    walk_at "rd"
    rcases hv with rfl | ⟨i, rfl⟩
    · refine rd_isiS rfl (r := false) (by decide +kernel) ?_
      walk_at "rd"
      exact rd_raP2 fun dd H' hd s e => k dd H' s e
    · refine rd_isiS rfl (r := false) (by decide +kernel) ?_
      walk_at "rd"
      exact rd_raP2 fun dd H' hd s e => k dd H' s e
  · obtain ⟨ls, els⟩ : ∃ ls, ls = linesL z := ⟨_, rfl⟩
    rw [← els] at lc ll k
    obtain ⟨R0, eR0⟩ : ∃ R, R = readL [] [] 1 ls := ⟨_, rfl⟩
    rw [← eR0] at k
    have fstW : ("first" : Str) = ⟨wFirst.toArray⟩ := by decide +kernel
    have thenW : ("then" : Str) = ⟨wThen.toArray⟩ := by decide +kernel
    have atW : ("at" : Str) = ⟨wAt.toArray⟩ := by decide +kernel
    have bakeW : ("bake" : Str) = ⟨wBake.toArray⟩ := by decide +kernel
    have noW : ("" : Str) = ⟨([] : List Nat).toArray⟩ := by decide +kernel
    refine ⟨_, (pss_cut (ps_if (pt_not (pt_val (pe_callB call_isi (by rfl) T.b_isinstance (by decide +kernel) (pa_cons (pv 0) (pa_cons (pe_bltn (v := .ty "str") (u := .type "str") rfl T.b_str (by decide +kernel) rfl) pa_nil))))) (pss_one (ps_raiseP2 rfl (takes_of rfl rfl rfl rfl) T.y_BadText ss_BadText T.b_super T.mg_BadText hr (by decide) rfl pe_int pe_int)) pss_nil)
      (pss_cut (ps_par3 (i := 1) (j := 2) (l := 3) rfl sc_read_rule.nd rfl rfl rfl (by decide) (by decide) (by decide) rfl rfl rfl (pa_cons (pe_lst pa_nil) (pa_cons (pe_lst pa_nil) (pa_cons (pe_splitX (pv 0) pe_str) pa_nil))) (by rfl))
      (pss_cut (ps_for (passes_of rfl) rfl (pi_enumS (by rfl) T.b_enumerate (pa_cons (pv 3) (pa_cons pe_int pa_nil))) (pg_tup rfl (pgs_cons (pg_n 4 sc_read_rule.nd) (pgs_cons (pg_n 5 sc_read_rule.nd) pgs_nil))) (pss_cons (ps_s 6 sc_read_rule.nd (pe_mk G_Reader_init hr (by decide) rfl (pa_cons (pv 5) (pa_cons (pv 4) pa_nil))))
      (pss_cons (ps_if (pt_cmpR (op_eqD hr.units) (pe_fld (pv 6) rfl) (pe_lst pa_nil) (nomark _)) (pss_one ps_continue) pss_nil)
      (pss_cut (ps_s 7 sc_read_rule.nd (pe_or (pe_cmpR (op_neD hr.units) (pv 2) (pe_lst pa_nil) (nomark _)) (pe_one (pe_cmpR op_eq (pe_mt0 (pl := _) G_Reader_next hr (by decide) (pv 6)) pe_str (nomark _)))))
      (pss_cut (ps_s 8 sc_read_rule.nd (pe_ifExp (pt_val (pv 7)) (pv 2) (pv 1)))
      (pss_cons (ps_if (pt_cmpR op_eq (pe_callB cr_lenS (by rfl) T.b_len (by decide +kernel) (pa_cons (pv 8) pa_nil)) pe_int (nomark _)) (pss_one (ps_expr (pe_mtX0 (pl := _) X_Reader_refuse hr (by decide) (fun σ => passAt (takes_of rfl rfl rfl rfl) σ) (pv 6)))) pss_nil)
      (pss_cut (ps_expr (pe_mtX (pl := _) X_Reader_need hr (by decide) (fun σ => passAt (takes_of rfl rfl rfl rfl) σ) (pv 6) (pa_cons (pe_ifExp (pt_val (pv 7)) pe_str pe_str) pa_nil)))
      (pss_cons (ps_expr (pe_mtX (pl := _) X_Reader_need hr (by decide) (fun σ => passAt (takes_of rfl rfl rfl rfl) σ) (pv 6) (pa_cons pe_str pa_nil)))
      (pss_cons (ps_s 9 sc_read_rule.nd (pe_mtX (pl := _) X_Reader_number hr (by decide) (fun σ => passAt (takes_of rfl rfl rfl rfl) σ) (pv 6) (pa_cons pe_int (pa_cons pe_int pa_nil))))
      (pss_cons (ps_expr (pe_mtX (pl := _) X_Reader_need hr (by decide) (fun σ => passAt (takes_of rfl rfl rfl rfl) σ) (pv 6) (pa_cons pe_str pa_nil)))
      (pss_cons (ps_expr (pe_bm PySem.F.plainAttrs_list PySem.F.slot_list_append PySem.F.type_list_append mt_append (pv 8) (pa_cons (pe_tup (pa_cons (pv 9) (pa_cons (pe_mtX (pl := _) X_Reader_number hr (by decide) (fun σ => passAt (takes_of rfl rfl rfl rfl) σ) (pv 6) (pa_cons pe_int (pa_cons (pv 9) pa_nil))) pa_nil))) pa_nil)))
      (pss_one (ps_expr (pe_mtX0 (pl := _) X_Reader_close hr (by decide) (fun σ => passAt (takes_of rfl rfl rfl rfl) σ) (pv 6)))))))))))))))
      (pss_cut (ps_if (pt_cmpR (op_eqD hr.units) (pv 2) (pe_lst pa_nil) (nomark _)) (pss_one (ps_raiseP2 rfl (takes_of rfl rfl rfl rfl) T.y_BadText ss_BadText T.b_super T.mg_BadText hr (by decide) rfl (pe_op op_add (pe_callB cr_lenS (by rfl) T.b_len (by decide +kernel) (pa_cons (pv 3) pa_nil)) pe_int) pe_int)) pss_nil)
      (pss_one (ps_ret (pe_mk G_Rule_init hr (by decide) rfl (pa_cons (pv 1) (pa_cons (pv 2) pa_nil))))))))), ?_⟩
    walk_at "rd"
    refine ⟨fun σ H' => H' = H ∧ σ = [some (.str z), none, none, none, none, none, none, none, none, none], ?_, ?_⟩
    · walk_at "rd"
      refine rd_isiS rfl (r := true) (by decide +kernel) ?_
      walk_at "rd"
      exact ⟨rfl, rfl⟩
    rintro σ H0 ⟨rfl, rfl⟩
    walk_at "rd"
    refine ⟨fun σ H' => Same H0 H' ∧ ∃ F G L, σ = [some (.str z), some (.ref F), some (.ref G), some (.ref L), none, none, none, none, none, none] ∧ H0 F = none ∧ H0 G = none ∧ H0 L = none ∧ F ≠ G ∧ L ≠ F ∧ L ≠ G ∧ H' F = some (.lst []) ∧ H' G = some (.lst []) ∧ H' L = some (.lst ((Txt.split z "\n").map V.str)), ?_, ?_⟩
    · walk_at "rd"
      refine rd_newL (by simp) fun F H1 hF s1 eF _ => ?_
      walk_at "rd"
      refine rd_newL (by simp) fun G H2 hG s2 eG _ => ?_
      walk_at "rd"
      refine rd_splitM (by decide +kernel) (Nat.le_trans lz (by decide)) fun L H3 hL s3 eL => ?_
      walk_at "rd"
      have bk : ∀ {H H' : Hp} {a : Addr}, Same H H' → H' a = none → H a = none := fun {H H'} {a} s h => by
        cases q : H a with
        | none => rfl
        | some o => rw [s _ _ q] at h; cases h
      exact ⟨s1.trans (s2.trans s3), F, G, L, rfl, hF, bk s1 hG, bk (s1.trans s2) hL, (fun q => by rw [← q, eF] at hG; cases hG), (fun q => by rw [q, s2 _ _ eF] at hL; cases hL), (fun q => by rw [q, eG] at hL; cases hL), (s2.trans s3) _ _ eF, s3 _ _ eG, eL⟩
    rintro σ H1 ⟨s1, F, G, L, rfl, hF, hG, hL, hFG, hLF, hLG, eF, eG, eL⟩
    have lls : ls = ((Txt.split z "\n")).map fun l => l.cps.toList := els
    have lln : ls.length = (Txt.split z "\n").length := by rw [lls, List.length_map]
    walk_at "rd"
    refine ⟨fun σ H' => Same H0 H' ∧ ∃ (fr pe : List (Nat × Nat)) (wf wp : List V) (v4 v5 v6 v7 v8 v9 : Option V), σ = [some (.str z), some (.ref F), some (.ref G), some (.ref L), v4, v5, v6, v7, v8, v9] ∧ H' F = some (.lst wf) ∧ H' G = some (.lst wp) ∧ H' L = some (.lst ((Txt.split z "\n").map V.str)) ∧ DnAll H' wf (pairsD (fr.map intP)) ∧ DnAll H' wp (pairsD (pe.map intP)) ∧ fr.length ≤ 6 ∧ pe.length ≤ 6 ∧ (∀ q ∈ fr, okPair q) ∧ (∀ q ∈ pe, okPair q) ∧ R0 = readL fr pe (1 + ls.length) [], ?_, ?_⟩
    · walk_at "rd"
      refine rd_enRS (SqL.of eL) (by decide) ?_
      refine forR_enumS (xs := (Txt.split z "\n").map V.str) (fun i σ H' => Same H0 H' ∧ ∃ (fr pe : List (Nat × Nat)) (wf wp : List V) (v4 v5 v6 v7 v8 v9 : Option V), σ = [some (.str z), some (.ref F), some (.ref G), some (.ref L), v4, v5, v6, v7, v8, v9] ∧ H' F = some (.lst wf) ∧ H' G = some (.lst wp) ∧ H' L = some (.lst ((Txt.split z "\n").map V.str)) ∧ DnAll H' wf (pairsD (fr.map intP)) ∧ DnAll H' wp (pairsD (pe.map intP)) ∧ fr.length ≤ 6 ∧ pe.length ≤ 6 ∧ (∀ q ∈ fr, okPair q) ∧ (∀ q ∈ pe, okPair q) ∧ R0 = readL fr pe (1 + i) (ls.drop i))
        (fun i σ H' ⟨_, _, _, _, _, _, _, _, _, _, _, _, _, _, e, _⟩ => SqL.of e) ⟨s1, [], [], [], [], _, _, _, _, _, _, rfl, eF, eG, eL, .nil, .nil, by simp, by simp, (fun q h => by cases h), (fun q h => by cases h), eR0⟩ ?_ ?_
      · rintro i x σ H2 t H3 hx ⟨s2, fr, pe, wf, wp, v4, v5, v6, v7, v8, v9, rfl, eF2, eG2, eL2, df, dp, lf, lp, okf, okp, er⟩ ht s3 et _
        have hil : i < (Txt.split z "\n").length := by
          have := (List.getElem?_eq_some_iff.mp hx).1
          rw [List.length_map] at this
          exact this
        obtain ⟨ln, hln⟩ : ∃ ln, (Txt.split z "\n")[i]? = some ln := ⟨_, List.getElem?_eq_getElem hil⟩
        rw [List.getElem?_map, hln] at hx
        cases hx
        have hl : ls[i]? = some ln.cps.toList := by rw [lls, List.getElem?_map, hln]; rfl
        have hd : ls.drop i = ln.cps.toList :: ls.drop (i + 1) := by
          rw [List.drop_eq_getElem_cons (by omega), (List.getElem?_eq_some_iff.mp hl).2]
        obtain ⟨l, el⟩ : ∃ l, l = ln.cps.toList := ⟨_, rfl⟩
        rw [← el] at hl hd
        have lln2 : ln.length ≤ 10000 := by
          have := (ll l (List.mem_of_getElem? hl)).1
          rw [el] at this
          simpa [Str.length] using this
        have llen : l.length ≤ 10000 := (ll l (List.mem_of_getElem? hl)).1
        obtain ⟨ts, ets⟩ : ∃ ts, ts = toks 0 l := ⟨_, rfl⟩
        have cok : ∀ w ∈ ts, ∀ c ∈ w.1, c < 1114112 := fun w hw c hc => (ll l (List.mem_of_getElem? hl)).2 c (toks_ch l.length 0 l (Nat.le_refl _) w (by rw [← ets]; exact hw) c hc)
        have tlen : ts.length ≤ 10000 := by rw [ets]; exact Nat.le_trans (toks_ok l.length 0 l (Nat.le_refl _)).1 llen
        rw [hd] at er
        unfold readL at er
        rw [← ets] at er
        obtain ⟨ws, ews⟩ : ∃ ws, ws = ts.map (·.1) := ⟨_, rfl⟩
        rw [← ews] at er
        rw [show (1 : Int) + (i : Nat) = ((1 + i : Nat) : Int) by omega] at et
        refine rd_gtup et rfl ?_
        walk_at "rd"
        have s03 := s2.trans s3
        refine rd_make fun y dx H4 s4 hy ey => ?_
        refine ⟨y, dx, H3, ln, 1 + i, rfl, s4, hy, ey, lln2, fun H5 s5 rd => ?_⟩
        rw [← el, ← ets] at rd
        obtain ⟨dx2, P, us, r1, r2, r3⟩ := id rd
        refine ⟨rfl, ?_⟩
        walk_at "rd"
        refine rd_fld r1 T.cl_Reader T.na_Reader_parts rfl ?_
        walk_at "rd"
        refine rd_newL (by simp) fun u H6 _ s6 eu _ => ?_
        refine rd_eqD (d := .list (ts.map tokD)) (e := .list []) (.lst (s6 _ _ r2) (r3.mono s6).dt) (.lst eu .nil) (shaped_toks cok) (by decide) ?_
        rw [eqv_nil]
        walk_at "rd"
        have s56 := s5.trans s6
        have s36 := s03.trans s56
        by_cases c0 : ts = []
        · refine rd_iteT (by rw [c0]; rfl) ?_
          walk_at "rd"
          rw [if_pos c0] at er
          exact ⟨s36, fr, pe, wf, wp, _, _, _, _, _, _, rfl, (s3.trans s56) _ _ eF2, (s3.trans s56) _ _ eG2, (s3.trans s56) _ _ eL2, df.mono (s3.trans s56), dp.mono (s3.trans s56), lf, lp, okf, okp, by rw [er]; rfl⟩
        refine rd_iteF (fun q => c0 (by cases ts with | nil => rfl | cons a b => cases q)) ?_
        walk_at "rd"
        refine ⟨fun σ H' => Same H3 H' ∧ RdP C_Reader H' y ln (1 + i) ts 0 ∧ σ = [some (.str z), some (.ref F), some (.ref G), some (.ref L), some (.int ((1 + i : Nat) : Int)), some (.str ln), some (.ref y), some (.bl (lateB pe ws)), v8, v9], ?_, ?_⟩
        · walk_at "rd"
          refine rd_newL (by simp) fun u2 H7 _ s7 eu2 _ => ?_
          have s57 := s56.trans s7
          have s37 := s3.trans s57
          refine rd_neD (d := .list (pairsD (pe.map intP))) (e := .list []) (.lst (s37 _ _ eG2) (dp.mono s37).dt) (.lst eu2 .nil) (shaped_listMap enc_pair.lay enc_pair.dep _) (by decide) ?_
          rw [eqv_nil]
          walk_at "rd"
          have np : (pairsD (pe.map intP) = []) ↔ pe = [] := by
            unfold pairsD
            rw [List.map_eq_nil_iff, List.map_eq_nil_iff]
          have rd7 : RdP C_Reader H7 y ln (1 + i) ts 0 := rd.mono (s6.trans s7)
          by_cases c1 : pe = []
          · refine rd_iteNF (np.mpr c1) ?_
            walk_at "rd"
            obtain ⟨dx3, P3, us3, q1, q2, q3⟩ := id rd7
            refine ⟨y, dx3, _, rfl, q1, rfl, ?_⟩
            walk_at "rd"
            refine ⟨y, ln, 1 + i, 0, ts, rfl, rd7, by omega, by omega, fun H8 s8 => ?_⟩
            walk_at "rd"
            refine rd_eq rfl ?_
            rw [word_get, thenW, ← ews]
            walk_at "rd"
            have dl : decide (V.str ⟨(ws.getD 0 []).toArray⟩ = V.str ⟨wThen.toArray⟩) = lateB pe ws := by
              unfold lateB
              rw [show decide (pe ≠ []) = false from decide_eq_false (fun q => q c1), Bool.false_or]
              by_cases c2 : ws.getD 0 [] = wThen
              · rw [decide_eq_true c2, decide_eq_true (by rw [c2])]
              · rw [decide_eq_false c2, decide_eq_false (fun q => c2 (str_inj (V.str.inj q)))]
            rw [dl]
            exact ⟨s57.trans s8, rd7.mono s8, rfl⟩
          · have el2 : lateB pe ws = true := by unfold lateB; rw [decide_eq_true c1, Bool.true_or]
            refine rd_iteNT (fun q => c1 (np.mp q)) ?_
            walk_at "rd"
            exact ⟨s57, rd7, by rw [el2]; rfl⟩
        clear s4 ey rd r1 r2 r3 s5 s6 eu s56 s36
        rintro σ H4 ⟨s4, rd4, rfl⟩
        obtain ⟨late, elt⟩ : ∃ late, late = lateB pe ws := ⟨_, rfl⟩
        rw [← elt]
        walk_at "rd"
        refine ⟨fun σ H' => H4 = H' ∧ σ = [some (.str z), some (.ref F), some (.ref G), some (.ref L), some (.int ((1 + i : Nat) : Int)), some (.str ln), some (.ref y), some (.bl late), some (.ref (if late = true then G else F)), v9], ?_, ?_⟩
        · cases late with
          | true =>
            walk_at "rd"
            exact ⟨rfl, rfl⟩
          | false =>
            walk_at "rd"
            exact ⟨rfl, rfl⟩
        rintro σ _ ⟨rfl, rfl⟩
        rw [if_neg c0, ← elt] at er
        have s34 := s3.trans s4
        have n0 : ∀ {a : Addr} {o : HO}, H2 a = some o → a ≠ y := fun {a o} e q => by rw [q, ] at e; rw [s3 _ _ e] at hy; cases hy
        have h0y : H0 y = none := by
          cases q : H0 y with
          | none => rfl
          | some o => rw [s03 _ _ q] at hy; cases hy
        -- what is told where something does not fit
        have bad : ∀ (j : Nat), rowE late (decide ((if late = true then pe else fr).length = 6)) ws = some j → ∀ H5, Same H0 H5 → RefE C_BadText H5 ln (1 + i) ts j E := fun j hj H5 s5 dd H' s e => by
          rw [hj] at er
          rcases k with ⟨a, b, e1, k⟩ | ⟨f, p, e1, _⟩
          · rw [er] at e1
            cases e1
            rw [col_get, ← el] at e
            exact k dd H' (s5.trans s) e
          · rw [er] at e1
            cases e1
        have wtk : ∀ a, ws.getD a [] = [] ∨ isTok (ws.getD a []) = true := fun a => by rw [ews, ets]; exact get_tok a
        have wln : ∀ a, (ws.getD a []).length ≤ 10000 := fun a => by rw [ews, ets]; exact Nat.le_trans (get_len a) llen
        have wat : ∀ a, wordAt ts a = ⟨(ws.getD a []).toArray⟩ := fun a => by rw [word_get, ews]
        obtain ⟨goal, egoal⟩ : ∃ goal, goal = (if late = true then pe else fr) := ⟨_, rfl⟩
        obtain ⟨gl, egl⟩ : ∃ gl, gl = (if late = true then G else F) := ⟨_, rfl⟩
        obtain ⟨wg, eg, dg, lg⟩ : ∃ wg, H2 gl = some (.lst wg) ∧ DnAll H2 wg (pairsD (goal.map intP)) ∧ goal.length ≤ 6 := by
          rw [egl, egoal]
          cases late with
          | true => exact ⟨wp, eG2, dp, lp⟩
          | false => exact ⟨wf, eF2, df, lf⟩
        have wgl : wg.length = goal.length := by rw [DnAll.length dg]; simp [pairsD]
        rw [← egoal] at bad er
        rw [← egl]
        have s04 := s03.trans s4
        have step : ∀ {H5 : Hp} {a : Nat}, KeepY y H4 H5 → RdP C_Reader H5 y ln (1 + i) ts a → Same H0 H5 := fun kp _ => KeepY.same s04 h0y kp
        walk_at "rd"
        refine ⟨gl, wg, rfl, .inl (SqL.of (s34 _ _ eg)), ?_⟩
        walk_at "rd"
        obtain ⟨dx4, P4, us4, q1, q2, q3⟩ := id rd4
        by_cases c1 : goal.length = 6
        · refine rd_iteT (by omega) ?_
          walk_at "rd"
          refine ⟨y, dx4, _, rfl, q1, rfl, ?_⟩
          walk_at "rd"
          exact ⟨y, ln, 1 + i, 0, ts, rfl, rd4, by omega, by omega, lln2, bad 0 (by unfold rowE; rw [if_pos (decide_eq_true c1)]) H4 s04⟩
        have f1 : decide (goal.length = 6) = false := decide_eq_false c1
        refine rd_iteF (by omega) ?_
        walk_at "rd"
        refine ⟨fun σ H' => ws.getD 0 [] = (if late = true then wThen else wFirst) ∧ KeepY y H4 H' ∧ RdP C_Reader H' y ln (1 + i) ts 1 ∧ σ = [some (.str z), some (.ref F), some (.ref G), some (.ref L), some (.int ((1 + i : Nat) : Int)), some (.str ln), some (.ref y), some (.bl late), some (.ref gl), v9], ?_, ?_⟩
        · walk_at "rd"
          refine ⟨y, dx4, _, rfl, q1, rfl, ?_⟩
          have one : ∀ (w : List Nat) (wz : Str) (Q' : VK), w = (if late = true then wThen else wFirst) → wz = ⟨w.toArray⟩ → (∀ H5, KeepY y H4 H5 → RdP C_Reader H5 y ln (1 + i) ts 1 → ws.getD 0 [] = w → Q' .non H5) → spNeed C_Reader C_BadText [.ref y, .str wz] H4 Q' E := fun w wz Q' e1 e2 hq => by
            refine ⟨y, ln, wz, 1 + i, 0, ts, rfl, rd4, by omega, by omega, lln2, ?_⟩
            rw [wat, e2]
            by_cases c : ws.getD 0 [] = w
            · exact .inr ⟨by rw [c], fun H5 kp rd5 => hq H5 kp rd5 c⟩
            · exact .inl ⟨fun q => c (str_inj q), bad 0 (by unfold rowE; rw [f1, if_neg Bool.false_ne_true, if_pos (by rw [← e1]; exact c)]) H4 s04⟩
          cases late with
          | true =>
            walk_at "rd"
            refine one wThen "then" _ rfl thenW fun H5 kp rd5 e5 => ?_
            walk_at "rd"
            exact ⟨e5, kp, rd5, rfl⟩
          | false =>
            walk_at "rd"
            refine one wFirst "first" _ rfl fstW fun H5 kp rd5 e5 => ?_
            walk_at "rd"
            exact ⟨e5, kp, rd5, rfl⟩
        rintro σ H5 ⟨w0, kp5, rd5, rfl⟩
        rw [f1] at bad er
        have nw0 : ¬ ws.getD 0 [] ≠ (if late = true then wThen else wFirst) := fun q => q w0
        obtain ⟨dx5, P5, us5, q1, q2, q3⟩ := id rd5
        walk_at "rd"
        refine ⟨y, dx5, _, rfl, q1, rfl, ?_⟩
        walk_at "rd"
        refine ⟨y, ln, _, 1 + i, 1, ts, rfl, rd5, by omega, by omega, lln2, ?_⟩
        rw [wat, atW]
        by_cases c2 : ws.getD 1 [] = wAt
        rotate_left
        · exact .inl ⟨fun q => c2 (str_inj q), bad 1 (by unfold rowE; rw [if_neg Bool.false_ne_true, if_neg nw0, if_pos c2]) H5 (step kp5 rd5)⟩
        refine .inr ⟨by rw [c2], fun H6 kp6 rd6 => ?_⟩
        have nw1 : ¬ ws.getD 1 [] ≠ wAt := fun q => q c2
        have k46 := kp5.trans kp6
        obtain ⟨dx6, P6, us6, r1, r2, r3⟩ := id rd6
        walk_at "rd"
        refine ⟨y, dx6, _, rfl, r1, rfl, ?_⟩
        walk_at "rd"
        refine ⟨y, ln, 1 + i, 2, 2, 12, ts, ws.getD 2 [], rfl, rd6, by omega, by omega, lln2, wat 2, wtk 2, wln 2, ?_⟩
        have nin : ∀ {w : List Nat} {lo hi : Nat}, numIn w lo hi = true ↔ (numB w = true ∧ lo ≤ valD w ∧ valD w ≤ hi) := fun {w lo hi} => by
          unfold numIn
          rw [Bool.and_eq_true, Bool.and_eq_true, decide_eq_true_iff, decide_eq_true_iff]
        by_cases c3 : numIn (ws.getD 2 []) 2 12 = true
        rotate_left
        · exact .inl ⟨fun q => c3 (nin.mpr q), bad 2 (by unfold rowE; rw [if_neg Bool.false_ne_true, if_neg nw0, if_neg nw1, if_pos (by simpa using c3)]) H6 (step k46 rd6)⟩
        obtain ⟨c31, c32, c33⟩ := nin.mp c3
        refine .inr ⟨c31, c32, c33, fun H7 kp7 rd7 => ?_⟩
        have nw2 : ¬ numIn (ws.getD 2 []) 2 12 = false := fun q => by rw [c3] at q; cases q
        have k47 := k46.trans kp7
        obtain ⟨dx7, P7, us7, t1, t2, t3⟩ := id rd7
        walk_at "rd"
        refine ⟨y, dx7, _, rfl, t1, rfl, ?_⟩
        walk_at "rd"
        refine ⟨y, ln, _, 1 + i, 3, ts, rfl, rd7, by omega, by omega, lln2, ?_⟩
        rw [wat, bakeW]
        by_cases c4 : ws.getD 3 [] = wBake
        rotate_left
        · exact .inl ⟨fun q => c4 (str_inj q), bad 3 (by unfold rowE; rw [if_neg Bool.false_ne_true, if_neg nw0, if_neg nw1, if_neg nw2, if_pos c4]) H7 (step k47 rd7)⟩
        refine .inr ⟨by rw [c4], fun H8 kp8 rd8 => ?_⟩
        have nw3 : ¬ ws.getD 3 [] ≠ wBake := fun q => q c4
        have k48 := k47.trans kp8
        obtain ⟨dx8, P8, us8, u1, u2, u3⟩ := id rd8
        walk_at "rd"
        have gy : gl ≠ y := n0 eg
        refine rd_tyL (k48 _ _ gy (s34 _ _ eg)) ?_
        walk_at "rd"
        refine ⟨y, dx8, _, rfl, u1, rfl, ?_⟩
        walk_at "rd"
        refine ⟨y, ln, 1 + i, 4, 2, valD (ws.getD 2 []), ts, ws.getD 4 [], rfl, rd8, by omega, by omega, lln2, wat 4, wtk 4, wln 4, ?_⟩
        by_cases c5 : numIn (ws.getD 4 []) 2 (valD (ws.getD 2 [])) = true
        rotate_left
        · exact .inl ⟨fun q => c5 (nin.mpr q), bad 4 (by unfold rowE; rw [if_neg Bool.false_ne_true, if_neg nw0, if_neg nw1, if_neg nw2, if_neg nw3, if_pos (by simpa using c5)]) H8 (step k48 rd8)⟩
        obtain ⟨c51, c52, c53⟩ := nin.mp c5
        refine .inr ⟨c51, c52, c53, fun H9 kp9 rd9 => ?_⟩
        have nw4 : ¬ numIn (ws.getD 4 []) 2 (valD (ws.getD 2 [])) = false := fun q => by rw [c5] at q; cases q
        have k49 := k48.trans kp9
        walk_at "rd"
        refine rd_newT (by simp) fun tp HA _ sA etp _ => ?_
        have kA : KeepY y H4 HA := k49.trans (KeepY.of sA)
        have egA : HA gl = some (.lst wg) := kA _ _ gy (s34 _ _ eg)
        have s0A : Same H0 HA := KeepY.same s04 h0y kA
        have kA2 : ∀ {a : Addr} {o : HO}, H2 a = some o → HA a = some o := fun {a o} e => kA _ _ (n0 e) (s34 _ _ e)
        walk_at "rd"
        refine rd_app egA (by omega) fun HB eHB egB => ?_
        walk_at "rd"
        have hgl0 : H0 gl = none := by
          rw [egl]
          cases late with
          | true => exact hG
          | false => exact hF
        have hyg : ¬ y = gl := fun q => gy q.symm
        have rdB : RdP C_Reader HB y ln (1 + i) ts 5 := by
          obtain ⟨dx9, P9, us9, a1, a2, a3⟩ := rd9.mono sA
          have hPg : P9 ≠ gl := fun q => by
            rw [q, egA] at a2
            cases a2
            have d2 : DnAll HA wg (pairsD (goal.map intP)) := dg.keep fun a xs e => kA2 e
            cases ts with
            | nil => exact c0 rfl
            | cons t0 tr =>
              cases a3 with
              | cons g1 g2 =>
                obtain ⟨t1, rfl, e1⟩ := tok_inv g1
                cases goal with
                | nil => cases d2
                | cons q0 qr =>
                  cases d2 with
                  | cons g3 g4 =>
                    obtain ⟨t2, e2, e3⟩ := g3.dt.pair_inv
                    cases e2
                    rw [e1] at e3
                    cases e3
          refine ⟨dx9, P9, us9, by rw [eHB, upd_ne hyg]; exact a1, by rw [eHB, upd_ne hPg]; exact a2, ?_⟩
          rw [eHB]
          exact DnAll.updL egA a3
        obtain ⟨dxB, PB, usB, b1, b2, b3⟩ := id rdB
        have s0B : Same H0 HB := by rw [eHB]; exact Same.mut s0A hgl0
        refine ⟨y, dxB, _, rfl, b1, rfl, ?_⟩
        walk_at "rd"
        refine ⟨y, ln, 1 + i, 5, ts, rfl, rdB, by omega, by omega, lln2, ?_⟩
        rw [wat, noW]
        by_cases c6 : ws.getD 5 [] = []
        rotate_left
        · exact .inl ⟨fun q => c6 (str_inj q), bad 5 (by unfold rowE; rw [if_neg Bool.false_ne_true, if_neg nw0, if_neg nw1, if_neg nw2, if_neg nw3, if_neg nw4, if_pos c6]) HB s0B⟩
        refine .inr ⟨by rw [c6], fun HC sC => ?_⟩
        have rE : rowE late false ws = none := by
          unfold rowE
          rw [if_neg Bool.false_ne_true, if_neg nw0, if_neg nw1, if_neg nw2, if_neg nw3, if_neg nw4, if_neg (fun q => q c6)]
        rw [rE] at er
        have er : R0 = if late = true then readL fr (pe ++ [rowQ ws]) (1 + i + 1) (ls.drop (i + 1)) else readL (fr ++ [rowQ ws]) pe (1 + i + 1) (ls.drop (i + 1)) := er
        have okw : okPair (rowQ ws) := (row_ok rE).1
        have snoc : ∀ {l : List (Nat × Nat)}, (∀ q ∈ l, okPair q) → ∀ q ∈ l ++ [rowQ ws], okPair q := fun hl q hq => by
          rcases List.mem_append.mp hq with g | g
          · exact hl q g
          · rw [List.mem_singleton.mp g]
            exact okw
        have dq : DnAll HC (wg ++ [.ref tp]) (pairsD ((goal ++ [rowQ ws]).map intP)) := by
          rw [List.map_append]
          unfold pairsD
          rw [List.map_append]
          refine DnAll.mono sC ?_
          rw [eHB]
          refine DnAll.updL egA (DnAll.append ?_ (.cons (Dn.pair (q := intP (rowQ ws)) etp) .nil))
          exact dg.keep fun a xs e => kA2 e
        have dk : ∀ {l : List V} {ds : List PyData}, DnAll H2 l ds → DnAll HC l ds := fun {l ds} h => DnAll.mono sC (by
          rw [eHB]
          exact DnAll.updL egA (h.keep fun a xs e => kA2 e))
        have other : ∀ {a : Addr} {o : HO}, H2 a = some o → a ≠ gl → HC a = some o := fun {a o} e n => sC _ _ (by rw [eHB, upd_ne n]; exact kA2 e)
        have s0C : Same H0 HC := s0B.trans sC
        cases late with
        | true =>
          obtain rfl : gl = G := egl
          obtain rfl : goal = pe := egoal
          obtain rfl : wg = wp := by rw [eG2] at eg; cases eg; rfl
          exact ⟨s0C, fr, goal ++ [rowQ ws], wf, wg ++ [.ref tp], _, _, _, _, _, _, rfl, other eF2 hFG, sC _ _ egB, other eL2 hLG, dk df, dq, lf, by rw [List.length_append, List.length_singleton]; omega, okf, snoc okp, by rw [er]; rfl⟩
        | false =>
          obtain rfl : gl = F := egl
          obtain rfl : goal = fr := egoal
          obtain rfl : wg = wf := by rw [eF2] at eg; cases eg; rfl
          exact ⟨s0C, goal ++ [rowQ ws], pe, wg ++ [.ref tp], wp, _, _, _, _, _, _, rfl, sC _ _ egB, other eG2 (fun q => hFG q.symm), other eL2 hLF, dq, dk dp, by rw [List.length_append, List.length_singleton]; omega, lp, snoc okf, okp, by rw [er]; rfl⟩
      · rintro σ H2 ⟨s2, fr, pe, wf, wp, v4, v5, v6, v7, v8, v9, rfl, eF2, eG2, eL2, df, dp, lf, lp, okf, okp, er⟩
        rw [List.length_map, ← lln, List.drop_length] at er
        exact ⟨s2, fr, pe, wf, wp, v4, v5, v6, v7, v8, v9, rfl, eF2, eG2, eL2, df, dp, lf, lp, okf, okp, er⟩
    rintro σ H2 ⟨s2, fr, pe, wf, wp, v4, v5, v6, v7, v8, v9, rfl, eF2, eG2, eL2, df, dp, lf, lp, okf, okp, er⟩
    rw [show readL fr pe (1 + ls.length) [] = if pe = [] then .inl (1 + ls.length, 1) else .inr (fr, pe) by unfold readL; rfl] at er
    walk_at "rd"
    refine ⟨fun σ H' => Same H0 H' ∧ pe ≠ [] ∧ σ = [some (.str z), some (.ref F), some (.ref G), some (.ref L), v4, v5, v6, v7, v8, v9] ∧ H' F = some (.lst wf) ∧ H' G = some (.lst wp) ∧ DnAll H' wf (pairsD (fr.map intP)) ∧ DnAll H' wp (pairsD (pe.map intP)), ?_, ?_⟩
    · walk_at "rd"
      refine rd_newL (by simp) fun u H3 _ s3 eu _ => ?_
      refine rd_eqD (d := .list (pairsD (pe.map intP))) (e := .list []) (.lst (s3 _ _ eG2) (dp.mono s3).dt) (.lst eu .nil) (shaped_listMap enc_pair.lay enc_pair.dep _) (by decide) ?_
      rw [eqv_nil]
      walk_at "rd"
      have np : (pairsD (pe.map intP) = []) ↔ pe = [] := by
        unfold pairsD
        rw [List.map_eq_nil_iff, List.map_eq_nil_iff]
      by_cases c1 : pe = []
      · rw [if_pos c1] at er
        refine rd_iteT (np.mpr c1) ?_
        walk_at "rd"
        refine rd_lenL (s3 _ _ eL2) ?_
        walk_at "rd"
        rcases k with ⟨a, b, e1, k⟩ | ⟨f, p, e1, _⟩
        · rw [er] at e1
          cases e1
          refine rd_raP2 fun dd H' hd s e => k dd H' ((s2.trans s3).trans s) ?_
          rw [e, List.length_map, ← lln, show ((ls.length : Nat) : Int) + 1 = ((1 + ls.length : Nat) : Int) by omega]
          rfl
        · rw [er] at e1
          cases e1
      · refine rd_iteF (fun q => c1 (np.mp q)) ?_
        walk_at "rd"
        exact ⟨s2.trans s3, c1, rfl, s3 _ _ eF2, s3 _ _ eG2, df.mono s3, dp.mono s3⟩
    clear s2 eF2 eG2 eL2 df dp
    rintro σ H2 ⟨s2, pne, rfl, eF2, eG2, df, dp⟩
    rw [if_neg pne] at er
    have okI : ∀ {l : List (Nat × Nat)}, (∀ q ∈ l, okPair q) → ∀ x ∈ l.map intP, OkW x := fun h x hx => by
      obtain ⟨q, hq, rfl⟩ := List.mem_map.mp hx
      obtain ⟨h1, h2, h3⟩ := h q hq
      refine ⟨?_, ?_, ?_⟩ <;> show (_ : Int) ≤ _ <;> unfold intP <;> simp only <;> omega
    walk_at "rd"
    refine rd_make fun x dx H3 s3 hx ex => ?_
    rcases k with ⟨a, b, e, _⟩ | ⟨f, p, e, k⟩
    · rw [er] at e
      cases e
    rw [er] at e
    cases e
    refine ⟨x, dx, F, G, H2, wf, wp, fr.map intP, pe.map intP, rfl, s3, hx, ex, ?_, ?_, DnAll.mono s3 df, DnAll.mono s3 dp, by rw [List.length_map]; exact lf, by rw [List.length_map]; exact lp, fun q => pne (List.map_eq_nil_iff.mp q), okI okf, okI okp, fun H4 s4 hr => ⟨rfl, ?_⟩⟩
    · exact .inl (s3 _ _ eF2)
    · exact .inl (s3 _ _ eG2)
    exact k H4 x (s2.trans s4) hr
end
end Sl
set_option Elab.async false
set_option linter.all false
set_option maxRecDepth 100000
set_option maxHeartbeats 8000000
set_option exponentiation.threshold 9000
namespace Sl
open PySem L2 C8 StX SiltT
local macro_rules | `(tactic| walk_at "side") => `(tactic| first
  | exact cdivw (by omega) (by omega)
  | exact cmulw (by omega) (by omega) (by omega) (by omega)
  | exact Or.inr ⟨by omega, by omega⟩
  | exact Or.inl ⟨by omega, by omega⟩
  | omega
  | exact ⟨by omega, by omega, by decide⟩
  | decide)
local macro_rules | `(tactic| walk_at "rd1") => `(tactic| first
  | with_reducible refine rd_seq ?_
  | with_reducible refine rd_asg ?_
  | with_reducible refine rd_drop ?_
  | with_reducible refine rd_ret ?_
  | with_reducible refine rd_retN ?_
  | with_reducible refine rd_ifS ?_
  | ((with_reducible refine rd_var0 ?_); refine ⟨_, rfl, ?_⟩)
  | with_reducible refine rd_c ?_
  | with_reducible refine rd_op ?_
  | with_reducible refine rd_un ?_
  | with_reducible refine rd_I0 ?_
  | with_reducible refine rd_U ?_
  | ((with_reducible refine rd_I ?c ?_); (case c => walk_at "side"))
  | with_reducible refine rd_ipI ?_
  | with_reducible refine rd_eqI ?_
  | with_reducible refine rd_neI ?_
  | with_reducible refine rd_test ?_
  | with_reducible refine rd_tB ?_
  | with_reducible refine rd_bl ?_
  | with_reducible refine rd_not ?_
  | with_reducible refine rd_and ?_
  | with_reducible refine rd_or ?_
  | with_reducible refine rd_andV ?_
  | with_reducible refine rd_orV ?_
  | with_reducible refine rd_notV ?_
  | with_reducible refine rd_ifE ?_
  | with_reducible refine rd_chain ?_
  | with_reducible refine rd_chain3 ?_
  | with_reducible refine rd_nil ?_
  | with_reducible refine rd_cons ?_
  | with_reducible refine rd_call ?_
  | with_reducible refine rd_CB ?_
  | with_reducible refine rd_par ?_
  | with_reducible refine rd_par2 ?_
  | with_reducible refine rd_par3 ?_
  | with_reducible refine rd_par4 ?_
  | ((with_reducible refine rd_aug0 ?_); refine ⟨_, rfl, ?_⟩)
  | with_reducible refine rd_gname ?_
  | with_reducible refine rd_gcons ?_
  | with_reducible refine rd_gnil ?_
  | with_reducible refine rd_max ?_
  | with_reducible refine rd_min ?_
  | with_reducible refine rd_int1 ?_
  | with_reducible refine rd_abs ?_
  | with_reducible refine rd_lst ?_
  | with_reducible refine rd_tup ?_
  | with_reducible refine rd_bm ?_
  | with_reducible refine rd_fld0 ?_
  | with_reducible refine rd_sl0 ?_
  | with_reducible refine rd_noP ?_
  | with_reducible refine rd_part ?_
  | with_reducible refine rd_part2 ?_
  | with_reducible refine rd_meth0 ?_
  | with_reducible refine rd_star ?_
  | with_reducible refine rd_for ?_
  | with_reducible refine rd_rng1 ?_
  | with_reducible refine rd_rng2 ?_
  | with_reducible refine rd_rng3 ?_
  | with_reducible refine rd_iList ?_
  | with_reducible refine rd_iTup ?_
  | with_reducible refine rd_iEnum ?_
  | with_reducible refine rd_lc ?_
  | with_reducible refine rd_yes ?_
  | with_reducible refine rd_augS ?_
  | with_reducible refine rd_drawNew ?_
  | with_reducible refine rd_make0 ?_
  | with_reducible refine rd_next ?_
  | with_reducible refine rd_break ?_
  | with_reducible refine rd_cont ?_
  | with_reducible refine rd_iteTT ?_
  | with_reducible refine rd_iteFF ?_
  | with_reducible refine rd_iteNTT ?_
  | with_reducible refine rd_iteNFF ?_
  | with_reducible refine rd_con0 ?_
  | with_reducible refine rd_truO0 ?_
  | with_reducible refine rd_gfld0 ?_
  | with_reducible refine rd_dc ?_
  | with_reducible refine rd_iKeys ?_
  | with_reducible refine rd_dget0 ?_
  | with_reducible refine rd_dput0 ?_
  | with_reducible refine rd_dnot0 ?_
  | with_reducible refine rd_iEnumT ?_
  | with_reducible refine rd_raP0 ?_
  | with_reducible refine rd_xf0 ?_
  | with_reducible refine rd_cKw ?_
  | with_reducible refine rd_iStr ?_
  | with_reducible refine rd_gSub ?_
  | with_reducible refine rd_asgG ?_)
local macro_rules | `(tactic| walk_at "rd") => `(tactic| repeat walk_at "rd1")
local macro_rules | `(tactic| walk_at "len") => `(tactic| first
  | (intro vs H Q E h; obtain ⟨h2, _⟩ := h; rw [h2]; rfl)
  | (intro vs H Q E h; obtain ⟨_, h2, _⟩ := h; rw [h2]; rfl)
  | (intro vs H Q E h; obtain ⟨_, _, h2, _⟩ := h; rw [h2]; rfl)
  | (intro vs H Q E h; obtain ⟨_, _, _, h2, _⟩ := h; rw [h2]; rfl)
  | (intro vs H Q E h; obtain ⟨_, _, _, _, h2, _⟩ := h; rw [h2]; rfl)
  | (intro vs H Q E h; obtain ⟨_, _, _, _, _, h2, _⟩ := h; rw [h2]; rfl)
  | (intro vs H Q E h; obtain ⟨_, _, _, _, _, _, h2, _⟩ := h; rw [h2]; rfl)
  | (intro vs H Q E h; obtain ⟨_, _, _, _, _, _, _, h2, _⟩ := h; rw [h2]; rfl)
  | (intro vs H Q E h; obtain ⟨_, _, _, _, _, _, _, _, h2, _⟩ := h; rw [h2]; rfl)
  | (intro vs H Q E h; obtain ⟨_, _, _, _, _, _, _, _, _, h2, _⟩ := h; rw [h2]; rfl)
  | (intro vs H Q E h; obtain ⟨_, _, _, _, _, _, _, _, _, _, h2, _⟩ := h; rw [h2]; rfl)
  | (intro vs H Q E h; obtain ⟨_, _, _, _, _, _, _, _, _, _, _, h2, _⟩ := h; rw [h2]; rfl)
  | (intro vs H Q E h; obtain ⟨_, _, _, _, _, _, _, _, _, _, _, _, h2, _⟩ := h; rw [h2]; rfl))
/-! lines of words in the heap -/
def woH (H : Hp) (W : Addr) : Hp := fun b => if b = W then none else H b
theorem wo_get {H : Hp} {W b : Addr} {o : HO} (n : b ≠ W) (e : H b = some o) : woH H W b = some o := (if_neg n).trans e
theorem wo_same {H : Hp} {W : Addr} : Same (woH H W) H := fun b o e => by
  unfold woH at e
  split at e
  · cases e
  · exact e
theorem wo_mono {H H' : Hp} {W : Addr} (s : Same H H') : Same (woH H W) (woH H' W) := fun b o e => by
  unfold woH at e ⊢
  split at e
  · cases e
  · rename_i c
    rw [if_neg c]
    exact s _ _ e
theorem wo_upd {H : Hp} {W : Addr} {o : HO} : woH (upd H W o) W = woH H W := by
  funext b
  unfold woH
  by_cases c : b = W
  · rw [if_pos c, if_pos c]
  · rw [if_neg c, if_neg c, upd_ne c]
theorem wo_keep {H H' : Hp} {W : Addr} (k : KeepY W H H') : Same (woH H W) (woH H' W) := fun b o e => by
  unfold woH at e ⊢
  split at e
  · cases e
  · rename_i c
    rw [if_neg c]
    exact k _ _ c e
theorem KeepY.upd {H : Hp} {W : Addr} {o : HO} : KeepY W H (upd H W o) := fun b u n e => by rw [upd_ne n]; exact e
theorem KeepY.refl (W : Addr) (H : Hp) : KeepY W H H := fun _ _ _ e => e
def ItX {β : Type} (R : Hp → V → β → Prop) (H : Hp) (xs : List V) (ys : List β) : Prop := xs.length = ys.length ∧ ∀ (i : Nat) x y, xs[i]? = some x → ys[i]? = some y → R H x y
section
variable {β : Type} {R : Hp → V → β → Prop} {H H' : Hp} {xs zs : List V} {ys ws : List β} {x : V} {y : β}
theorem ItX.nil : ItX R H [] [] := ⟨rfl, fun i x y h => by cases h⟩
theorem ItX.imp (h : ItX R H xs ys) (f : ∀ x y, R H x y → R H' x y) : ItX R H' xs ys := ⟨h.1, fun i x y h1 h2 => f x y (h.2 i x y h1 h2)⟩
theorem ItX.append (h : ItX R H xs ys) (g : ItX R H zs ws) : ItX R H (xs ++ zs) (ys ++ ws) := by
  refine ⟨by rw [List.length_append, List.length_append, h.1, g.1], fun i x y h1 h2 => ?_⟩
  rcases Nat.lt_or_ge i xs.length with c | c
  · rw [List.getElem?_append_left c] at h1
    rw [List.getElem?_append_left (by rw [← h.1]; exact c)] at h2
    exact h.2 i x y h1 h2
  · rw [List.getElem?_append_right c] at h1
    rw [List.getElem?_append_right (by rw [← h.1]; exact c), ← h.1] at h2
    exact g.2 _ x y h1 h2
theorem ItX.one (h : R H x y) : ItX R H [x] [y] := ⟨rfl, fun i a b h1 h2 => by
  cases i with
  | zero => cases h1; cases h2; exact h
  | succ i => cases h1⟩
theorem ItX.snoc (h : ItX R H xs ys) (g : R H x y) : ItX R H (xs ++ [x]) (ys ++ [y]) := h.append (.one g)
theorem ItX.get (h : ItX R H xs ys) {i : Nat} (hy : ys[i]? = some y) : ∃ x, xs[i]? = some x ∧ R H x y := by
  have hi : i < xs.length := by rw [h.1]; exact (List.getElem?_eq_some_iff.mp hy).1
  exact ⟨xs[i], List.getElem?_eq_getElem hi, h.2 i _ _ (List.getElem?_eq_getElem hi) hy⟩
theorem ItX.getV (h : ItX R H xs ys) {i : Nat} (hx : xs[i]? = some x) : ∃ y, ys[i]? = some y ∧ R H x y := by
  have hi : i < ys.length := by rw [← h.1]; exact (List.getElem?_eq_some_iff.mp hx).1
  exact ⟨ys[i], List.getElem?_eq_getElem hi, h.2 i _ _ hx (List.getElem?_eq_getElem hi)⟩
theorem ItX.take (h : ItX R H xs ys) (n : Nat) : ItX R H (xs.take n) (ys.take n) := ⟨by rw [List.length_take, List.length_take, h.1], fun i x y h1 h2 => by
  rw [List.getElem?_take] at h1 h2
  split at h1
  · rename_i c
    rw [if_pos c] at h2
    exact h.2 i x y h1 h2
  · cases h1⟩
theorem ItX.drop (h : ItX R H xs ys) (n : Nat) : ItX R H (xs.drop n) (ys.drop n) := ⟨by rw [List.length_drop, List.length_drop, h.1], fun i x y h1 h2 => by
  rw [List.getElem?_drop] at h1 h2
  exact h.2 _ x y h1 h2⟩
end
def wV (w : List Nat) : V := .str ⟨w.toArray⟩
abbrev nV (n : Nat) : V := .int (n : Nat)
/-- a list of words -/
def LnP (H : Hp) (v : V) (ws : List (List Nat)) : Prop := ∃ r, v = .ref r ∧ H r = some (.lst (ws.map wV))
theorem LnP.mono {H H' : Hp} {v : V} {ws : List (List Nat)} (s : Same H H') (h : LnP H v ws) : LnP H' v ws := by
  obtain ⟨r, e, h⟩ := h
  exact ⟨r, e, s _ _ h⟩
/-- a line's place, its words' columns, and the column behind it -/
def PlP (H : Hp) (v : V) (p : Nat × List Nat × Nat) : Prop := ∃ t c, v = .ref t ∧ H t = some (.tup [nV p.1, .ref c, nV p.2.2]) ∧ H c = some (.lst (p.2.1.map nV))
theorem PlP.mono {H H' : Hp} {v : V} {p : Nat × List Nat × Nat} (s : Same H H') (h : PlP H v p) : PlP H' v p := by
  obtain ⟨t, c, e, h1, h2⟩ := h
  exact ⟨t, c, e, s _ _ h1, s _ _ h2⟩
/-- walks over a list or a tuple while something else changes -/
def JS (K : PySem.W.Frag) (H : Hp) (a : Addr) (xs : List V) (J : It) : Prop := (J = Itl K a ∧ H a = some (.lst xs)) ∨ (J = Itt K a ∧ H a = some (.tup xs))
section
variable {σ : L2.St} {H H0 : Hp} {K : PySem.W.Frag} {g : TG} {tb : TS} {nx bk ct : L2.St → Hp → Prop} {rt : VK}
theorem altS {n : Nat} {a : Addr} {xs : List V} {R : It → Hp → Prop} (hn : σ[n]? = some (some (.ref a))) (h : Seq H a xs) (k : ∀ J, JS K H a xs J → R J H) : iList K (tVar n) σ H R ∨ iTup K (tVar n) σ H R :=
  h.elim (fun z => .inl ⟨_, hn, a, rfl, ⟨xs, SqL.of z⟩, k _ (.inl ⟨rfl, z⟩)⟩) fun z => .inr ⟨_, hn, a, rfl, ⟨xs, SqT.of z⟩, k _ (.inr ⟨rfl, z⟩)⟩
theorem forR_S {a : Addr} {xs : List V} {J : It} (hJ : JS K H0 a xs J) (Pv : Nat → L2.St → Hp → Prop) (hk : ∀ i σ H, Pv i σ H → ∀ o, H0 a = some o → H a = some o) (h0 : Pv 0 σ H)
    (hs : ∀ i x σ H, xs[i]? = some x → Pv i σ H → g x σ H fun σ2 H2 => tb ⟨Pv (i + 1), rt, nx, Pv (i + 1)⟩ σ2 H2) (hd : ∀ σ H, Pv xs.length σ H → nx σ H) : ForR J g tb ⟨nx, rt, bk, ct⟩ σ H := by
  rcases hJ with ⟨rfl, h⟩ | ⟨rfl, h⟩
  · exact forR_lst Pv (fun i σ H p => SqL.of (hk i σ H p _ h)) h0 hs hd
  · exact forR_tup Pv (fun i σ H p => SqT.of (hk i σ H p _ h)) h0 hs hd
end
/-! the text of a rule -/
theorem dig_str {i : Int} (h0 : 0 ≤ i) (h1 : i ≤ 9) : (Str.ofString (toString i)) = ⟨(digI i).toArray⟩ := by
  obtain ⟨n, rfl⟩ : ∃ n : Nat, i = n := ⟨i.toNat, by omega⟩
  refine TL.ext_tl ?_
  rw [TL.tl_num, TL.numL_lt (by omega)]
  show [48 + n] = [48 + ((n : Nat) : Int).toNat]
  rw [Int.toNat_natCast]
theorem log_small {i : Int} (h0 : 0 ≤ i) (h1 : i ≤ 9) : i.natAbs.log2 < 1920 := by
  have : i.natAbs ≤ 9 := by omega
  have h2 : i.natAbs.log2 ≤ i.natAbs := Nat.log2_le_self _
  omega
def wordsL (ws : List (List Nat)) : List Nat := TL.joinL [32] ws
/-- the text of lines -/
def writL (ls : List (List (List Nat))) : List Nat := ls.flatMap fun ws => wordsL ws ++ [10]
theorem okN_of {q : Int × Int} (h : OkP q) : OkN q := ⟨h.1, h.2.1, Int.le_trans h.2.2 (by decide)⟩
def ToldQ (H : Hp) (t : Addr) (f q : List (Int × Int)) : Prop := ∃ l1 l2 xs1 xs2, H t = some (.tup [.ref l1, .ref l2]) ∧ Seq H l1 xs1 ∧ Seq H l2 xs2 ∧ DnAll H xs1 (pairsD f) ∧ DnAll H xs2 (pairsD q)
def spWrit (C : Addr) : Sp := fun vs H Q _ => ∃ (a : Addr) (f q : List (Int × Int)), vs = [.ref a] ∧ RuleAt C H a (pairsD f) (pairsD q) ∧ (∀ x ∈ f, OkN x) ∧ (∀ x ∈ q, OkN x) ∧ f.length ≤ 6 ∧ q.length ≤ 6 ∧ ∀ H', Same H H' → Q (.str ⟨(writL (linesW f q)).toArray⟩) H'
def spLines : Sp := fun vs H Q _ => ∃ (v : V) (t : Addr) (f q : List (Int × Int)), vs = [v, .ref t] ∧ ToldQ H t f q ∧ (∀ x ∈ f, OkN x) ∧ (∀ x ∈ q, OkN x) ∧ f.length ≤ 6 ∧ q.length ≤ 6 ∧
  ∀ H' L xs, Same H H' → H L = none → H' L = some (.lst xs) → ItX LnP (woH H' L) xs (linesW f q) → Q (.ref L) H'
theorem str_app {a b : List Nat} : ((⟨a.toArray⟩ : Str) ++ ⟨b.toArray⟩) = ⟨(a ++ b).toArray⟩ := TL.ext_tl (by rw [TL.tl_append])
theorem str_len (a : List Nat) : (⟨a.toArray⟩ : Str).length = a.length := List.size_toArray
theorem writ_len {ls : List (List (List Nat))} {n : Nat} (h : ∀ ws ∈ ls, (wordsL ws).length ≤ n) : (writL ls).length ≤ ls.length * (n + 1) := by
  induction ls with
  | nil => exact Nat.zero_le _
  | cons w r ih =>
    have e : writL (w :: r) = (wordsL w ++ [10]) ++ writL r := rfl
    have h1 := h w List.mem_cons_self
    have h2 := ih fun x hx => h x (List.mem_cons_of_mem _ hx)
    rw [e, List.length_append, List.length_append, List.length_singleton, List.length_cons, Nat.succ_mul]
    omega
theorem writ_app (a b : List (List (List Nat))) : writL (a ++ b) = writL a ++ writL b := List.flatMap_append
theorem line_words {w : List Nat} {q : Int × Int} : wordsL (lineW w q) = w ++ (32 :: (wAt ++ (32 :: (digI q.1 ++ (32 :: (wBake ++ (32 :: digI q.2))))))) := rfl
theorem line_len {w : List Nat} {q : Int × Int} (h : w.length ≤ 5) : (wordsL (lineW w q)).length ≤ 20 := by
  rw [line_words]
  simp [digI, wAt, wBake]
  omega
def LLs (f q : List (Int × Int)) : Nat → List (List (List Nat))
  | 0 => []
  | 1 => f.map (lineW wFirst)
  | _ => linesW f q
theorem lls_len (f q : List (Int × Int)) (i : Nat) : ∀ ws ∈ LLs f q i, (wordsL ws).length ≤ 20 := by
  have h1 : ∀ ws ∈ linesW f q, (wordsL ws).length ≤ 20 := fun ws hw => by
    unfold linesW at hw
    rcases List.mem_append.mp hw with g | g
    · obtain ⟨x, _, rfl⟩ := List.mem_map.mp g
      exact line_len (by decide)
    · obtain ⟨x, _, rfl⟩ := List.mem_map.mp g
      exact line_len (by decide)
  match i with
  | 0 => exact fun ws hw => by cases hw
  | 1 => exact fun ws hw => h1 ws (List.mem_append_left _ hw)
  | i + 2 => exact h1
section
variable {P : Program} {w : World} {K : PySem.W.Frag} {mg : Str → Option Value} {base : Heap} {C_Rule C_Reader C_BadText : Addr}
theorem cal_write_rule (T : TX P K mg C_Rule C_Reader C_BadText) : Cal P w K mg base 2 "write_rule" (spWrit C_Rule) [] := by
  obtain ⟨f0, fd, D, dn⟩ := T.d_write_rule
  have G_check_rule := cal_check_rule_w (P := P) (w := w) (base := base) T
  refine cal0 D (D.fn.binds dn fun _ _ _ _ _ _ us hl => match us, hl with | [_], _ => rfl) .nil sc_write_rule (by walk_at "len") (fun cdv A outer s H vs Q E hr h => ?_)
  obtain ⟨a, f, q, rfl, ⟨dx, t1, t2, e, h1, h2⟩, okf, okq, lf, lq, k⟩ := h
  obtain ⟨xs1, e1, d1⟩ := h1.tup_inv
  obtain ⟨xs2, e2, d2⟩ := h2.tup_inv
  have l1 : xs1.length = f.length := by rw [d1.length]; simp [pairsD]
  have l2 : xs2.length = q.length := by rw [d2.length]; simp [pairsD]
  have noW : ("" : Str) = ⟨([] : List Nat).toArray⟩ := by decide +kernel
  have fstW : ("first" : Str) = ⟨wFirst.toArray⟩ := by decide +kernel
  have thenW : ("then" : Str) = ⟨wThen.toArray⟩ := by decide +kernel
  have atW : (" at " : Str) = ⟨((32 :: wAt) ++ [32]).toArray⟩ := by decide +kernel
  have bakeW : (" bake " : Str) = ⟨((32 :: wBake) ++ [32]).toArray⟩ := by decide +kernel
  have endW : ("\n" : Str) = ⟨[10].toArray⟩ := by decide +kernel
  refine ⟨_, (pss_cons (ps_expr (pe_c G_check_rule hr (by decide) rfl (pa_cons (pv 0) pa_nil)))
      (pss_cons (ps_s 1 sc_write_rule.nd pe_str)
      (pss_cons (ps_for PassesOwn.never rfl (pi_tup (pe_tup (pa_cons (pe_tup (pa_cons pe_str (pa_cons (pe_fld (pv 0) rfl) pa_nil))) (pa_cons (pe_tup (pa_cons pe_str (pa_cons (pe_fld (pv 0) rfl) pa_nil))) pa_nil)))) (pg_tup rfl (pgs_cons (pg_n 2 sc_write_rule.nd) (pgs_cons (pg_n 3 sc_write_rule.nd) pgs_nil))) (pss_one (ps_for PassesOwn.never rfl (pi_tup (pv 3)) (pg_tup rfl (pgs_cons (pg_n 4 sc_write_rule.nd) (pgs_cons (pg_n 5 sc_write_rule.nd) pgs_nil))) (pss_one (ps_au 1 sc_write_rule.nd (pe_op op_addS (pe_op op_addS (pe_op op_addS (pe_op op_addS (pe_op op_addS (pv 2) pe_str) (pe_callTy cr_strI (by rfl) T.b_str (by decide +kernel) (pa_cons (pv 4) pa_nil))) pe_str) (pe_callTy cr_strI (by rfl) T.b_str (by decide +kernel) (pa_cons (pv 5) pa_nil))) pe_str) ip_addS)))))
      (pss_one (ps_ret (pv 1)))))), ?_⟩
  walk_at "rd"
  refine ⟨a, dx, _, rfl, e, ?_⟩
  walk_at "rd"
  refine rd_fld e T.cl_Rule T.na_Rule_front (rf_front _ _) ?_
  walk_at "rd"
  refine rd_newT (by simp) fun T1 H1 _ s1 eT1 _ => ?_
  walk_at "rd"
  refine rd_fld (s1 _ _ e) T.cl_Rule T.na_Rule_period (rf_period _ _) ?_
  walk_at "rd"
  refine rd_newT (by simp) fun T2 H2 _ s2 eT2 _ => ?_
  walk_at "rd"
  refine rd_newT (by simp) fun TT H3 _ s3 eTT _ => ?_
  refine rd_tpR (SqT.of eTT) ?_
  have s13 := s1.trans (s2.trans s3)
  refine forR_tup (xs := [.ref T1, .ref T2]) (fun i σ H' => H' = H3 ∧ ∃ v2 v3 v4 v5, σ = [some (.ref a), some (.str ⟨(writL (LLs f q i)).toArray⟩), v2, v3, v4, v5]) (fun i σ H' ⟨e, _⟩ => by rw [e]; exact SqT.of eTT) ⟨rfl, _, _, _, _, by rw [noW]; rfl⟩ ?_ ?_
  · rintro i x σ H' hi ⟨rfl, v2, v3, v4, v5, rfl⟩
    obtain ⟨tp, w, wz, tl, zs, ds, rfl, ew, lw, etp, etl, dz, okd, ld, eL, lA⟩ : ∃ tp w wz tl zs ds, x = V.ref tp ∧ wz = (⟨w.toArray⟩ : Str) ∧ w.length ≤ 5 ∧ H' tp = some (.tup [.str wz, .ref tl]) ∧ H' tl = some (.tup zs) ∧ DtAll H' zs (pairsD ds) ∧ (∀ x ∈ ds, OkN x) ∧ ds.length ≤ 6 ∧ LLs f q (i + 1) = LLs f q i ++ ds.map (lineW w) ∧ (LLs f q i).length ≤ 6 ∧ True := by
      match i, hi with
      | 0, hi => cases hi; exact ⟨T1, wFirst, _, t1, xs1, f, rfl, fstW, by decide, (s2.trans s3) _ _ eT1, s13 _ _ e1, d1.mono s13, okf, lf, rfl, Nat.zero_le _, trivial⟩
      | 1, hi => cases hi; exact ⟨T2, wThen, _, t2, xs2, q, rfl, thenW, by decide, s3 _ _ eT2, s13 _ _ e2, d2.mono s13, okq, lq, rfl, by show (f.map _).length ≤ 6; rw [List.length_map]; exact lf, trivial⟩
      | i + 2, hi => simp at hi
    have lLL : (writL (LLs f q i)).length ≤ 6 * 21 := Nat.le_trans (writ_len (n := 20) (lls_len f q i)) (Nat.mul_le_mul_right _ lA.1)
    have lz : zs.length = ds.length := by rw [dz.length]; simp [pairsD]
    refine rd_gtup etp rfl ?_
    walk_at "rd"
    refine rd_tpR (SqT.of etl) ?_
    refine forR_tup (xs := zs) (fun j σ H2 => H2 = H' ∧ ∃ v4 v5, σ = [some (.ref a), some (.str ⟨(writL (LLs f q i ++ (ds.take j).map (lineW w))).toArray⟩), some (.str wz), some (.ref tl), v4, v5]) (fun i σ H' ⟨e, _⟩ => by rw [e]; exact SqT.of etl) ⟨rfl, _, _, by rw [List.take_zero, List.map_nil, List.append_nil]; rfl⟩ ?_ ?_
    · rintro j x σ _ hj ⟨rfl, v4, v5, rfl⟩
      have hjl : j < ds.length := by
        have := (List.getElem?_eq_some_iff.mp hj).1
        omega
      obtain ⟨y, hy, dy⟩ := dz.get (i := j) (d := pairD ds[j]) (by unfold pairsD; rw [List.getElem?_map, List.getElem?_eq_getElem hjl]; rfl)
      rw [hj] at hy
      cases hy
      obtain ⟨tt, rfl, ett⟩ := dy.pair_inv
      have okx := okd _ (List.getElem_mem hjl)
      have etk : ds.take (j + 1) = ds.take j ++ [ds[j]] := by rw [List.take_succ, List.getElem?_eq_getElem hjl]; rfl
      have lT : (writL (LLs f q i ++ (ds.take j).map (lineW w))).length ≤ 6 * 21 + 6 * 21 := by
        rw [writ_app, List.length_append]
        refine Nat.add_le_add lLL (Nat.le_trans (writ_len (n := 20) (fun ws hw => ?_)) (Nat.mul_le_mul_right _ ?_))
        · obtain ⟨z, _, rfl⟩ := List.mem_map.mp hw
          exact line_len lw
        · rw [List.length_map, List.length_take]
          omega
      obtain ⟨o1, o2, o3⟩ := okx
      obtain ⟨b, eb⟩ : ∃ b, b = ds[j] := ⟨_, rfl⟩
      rw [← eb] at ett o1 o2 o3 etk
      refine rd_gtup ett rfl ?_
      walk_at "rd"
      have ad : ∀ {x y : List Nat} {Q' : VK} {H2 : Hp}, x.length + y.length ≤ 10000 → Q' (.str ⟨(x ++ y).toArray⟩) H2 → rAddS (.str ⟨x.toArray⟩) (.str ⟨y.toArray⟩) H2 Q' := fun {x y Q' H2} l h => rd_addS (by rw [str_len, str_len]; exact Nat.le_trans l (by decide)) (by rw [str_app]; exact h)
      rw [ew, atW]
      refine ad (by simp [wAt]; omega) ?_
      walk_at "rd"
      refine rd_strI (log_small (by omega) (by omega)) ?_
      rw [dig_str (i := b.1) (by omega) (by omega)]
      refine ad (by simp [wAt, digI]; omega) ?_
      walk_at "rd"
      rw [bakeW]
      refine ad (by simp [wAt, wBake, digI]; omega) ?_
      walk_at "rd"
      refine rd_strI (log_small (by omega) (by omega)) ?_
      rw [dig_str (i := b.2) (by omega) (by omega)]
      refine ad (by simp [wAt, wBake, digI]; omega) ?_
      walk_at "rd"
      rw [endW]
      refine ad (by simp [wAt, wBake, digI]; omega) ?_
      walk_at "rd"
      refine ad (by simp only [List.length_append, List.length_cons, List.length_nil, wAt, wBake, digI] at lT ⊢; omega) ?_
      refine ⟨rfl, some (.int b.1), some (.int b.2), ?_⟩
      have e1 : writL (LLs f q i ++ (ds.take (j + 1)).map (lineW w)) = writL (LLs f q i ++ (ds.take j).map (lineW w)) ++ ((((((w ++ ((32 :: wAt) ++ [32])) ++ digI b.1) ++ ((32 :: wBake) ++ [32])) ++ digI b.2) ++ [10])) := by
        rw [etk, List.map_append, ← List.append_assoc, writ_app (LLs f q i ++ (ds.take j).map (lineW w))]
        congr 1
        show wordsL (lineW w b) ++ [10] ++ [] = _
        rw [line_words]
        simp
      rw [e1]
      rfl
    · rintro σ _ ⟨rfl, v4, v5, rfl⟩
      refine ⟨rfl, some (.str wz), some (.ref tl), v4, v5, ?_⟩
      rw [lz, List.take_length, eL]
  · rintro σ H' ⟨rfl, v2, v3, v4, v5, rfl⟩
    walk_at "rd"
    exact k _ s13
theorem cal__law_lines (T : TX P K mg C_Rule C_Reader C_BadText) : Cal P w K mg base 1 "_law_lines" spLines [] := by
  obtain ⟨f0, fd, D, dn⟩ := T.d__law_lines
  refine cal0 D (D.fn.binds dn fun _ _ _ _ _ _ us hl => match us, hl with | [_, _], _ => rfl) .nil sc__law_lines (by walk_at "len") (fun cdv A outer s H vs Q E hr h => ?_)
  obtain ⟨v, t, f, q, rfl, ⟨t1, t2, xs1, xs2, e, h1, h2, d1, d2⟩, okf, okq, lf, lq, k⟩ := h
  have l1 : xs1.length = f.length := by rw [d1.length]; simp [pairsD]
  have l2 : xs2.length = q.length := by rw [d2.length]; simp [pairsD]
  have fstW : ("first" : Str) = ⟨wFirst.toArray⟩ := by decide +kernel
  have thenW : ("then" : Str) = ⟨wThen.toArray⟩ := by decide +kernel
  have atW : ("at" : Str) = ⟨wAt.toArray⟩ := by decide +kernel
  have bakeW : ("bake" : Str) = ⟨wBake.toArray⟩ := by decide +kernel
  refine ⟨_, (pss_cons (ps_par (i := 2) (j := 3) rfl sc__law_lines.nd rfl rfl (by decide) rfl rfl (pa_cons (pe_lst pa_nil) (pa_cons pe_int pa_nil)) (by rfl))
      (pss_cons (ps_for PassesOwn.never rfl (pi_tup (pe_tup (pa_cons (pe_tup (pa_cons pe_str (pa_cons (pe_ix ix_tup (pv 1) pe_int (fun _ _ => rfl)) pa_nil))) (pa_cons (pe_tup (pa_cons pe_str (pa_cons (pe_ix ix_tup (pv 1) pe_int (fun _ _ => rfl)) pa_nil))) pa_nil)))) (pg_tup rfl (pgs_cons (pg_n 4 sc__law_lines.nd) (pgs_cons (pg_n 5 sc__law_lines.nd) pgs_nil))) (pss_one (ps_for PassesOwn.never rfl (pi_alt (pi_list (pv 5)) (pi_tup (pv 5))) (pg_tup rfl (pgs_cons (pg_n 6 sc__law_lines.nd) (pgs_cons (pg_n 7 sc__law_lines.nd) pgs_nil))) (pss_one (ps_expr (pe_bm PySem.F.plainAttrs_list PySem.F.slot_list_append PySem.F.type_list_append mt_append (pv 2) (pa_cons (pe_lst (pa_cons (pv 4) (pa_cons pe_str (pa_cons (pe_callTy cr_strI (by rfl) T.b_str (by decide +kernel) (pa_cons (pv 6) pa_nil)) (pa_cons pe_str (pa_cons (pe_callTy cr_strI (by rfl) T.b_str (by decide +kernel) (pa_cons (pv 7) pa_nil)) pa_nil)))))) pa_nil)))))))
      (pss_one (ps_ret (pv 2))))), ?_⟩
  walk_at "rd"
  refine rd_newL (by simp) fun L HL hL sL eL _ => ?_
  walk_at "rd"
  refine rd_ixT (sL _ _ e) (by rfl) ?_
  walk_at "rd"
  refine rd_newT (by simp) fun T1 H1 _ s1 eT1 _ => ?_
  walk_at "rd"
  refine rd_ixT ((sL.trans s1) _ _ e) (atI_nat' (i := 1) rfl) ?_
  walk_at "rd"
  refine rd_newT (by simp) fun T2 H2 _ s2 eT2 _ => ?_
  walk_at "rd"
  refine rd_newT (by simp) fun TT H3 _ s3 eTT _ => ?_
  refine rd_tpR (SqT.of eTT) ?_
  have s13 := sL.trans (s1.trans (s2.trans s3))
  have nL : ∀ {b : Addr} {xs : List V}, H3 b = some (.tup xs) → b ≠ L := fun {b xs} e q => by
    rw [q, (s1.trans (s2.trans s3)) _ _ eL] at e
    cases e
  have n0 : ∀ {b : Addr} {o : HO}, H b = some o → b ≠ L := fun {b o} e q => by rw [q, hL] at e; cases e
  refine forR_tup (xs := [.ref T1, .ref T2]) (fun i σ H' => KeepY L H3 H' ∧ ∃ us v4 v5 v6 v7, H' L = some (.lst us) ∧ ItX LnP (woH H' L) us (LLs f q i) ∧ σ = [some v, some (.ref t), some (.ref L), some (.int 0), v4, v5, v6, v7]) (fun i σ H' ⟨kp, _⟩ => SqT.of (kp _ _ (nL eTT) eTT)) ⟨KeepY.refl _ _, [], _, _, _, _, (s1.trans (s2.trans s3)) _ _ eL, .nil, rfl⟩ ?_ ?_
  · rintro i x σ H' hi ⟨kp, us, v4, v5, v6, v7, eU, iU, rfl⟩
    obtain ⟨tp, w, wz, tl, zs, ds, rfl, ew, lw, etp, etl, dz, okd, ld, eLL, lA⟩ : ∃ tp w wz tl zs ds, x = V.ref tp ∧ wz = (⟨w.toArray⟩ : Str) ∧ w.length ≤ 5 ∧ H3 tp = some (.tup [.str wz, .ref tl]) ∧ Seq H tl zs ∧ DnAll H zs (pairsD ds) ∧ (∀ x ∈ ds, OkN x) ∧ ds.length ≤ 6 ∧ LLs f q (i + 1) = LLs f q i ++ ds.map (lineW w) ∧ (LLs f q i).length ≤ 6 := by
      match i, hi with
      | 0, hi => cases hi; exact ⟨T1, wFirst, _, t1, xs1, f, rfl, fstW, by decide, (s2.trans s3) _ _ eT1, h1, d1, okf, lf, rfl, Nat.zero_le _⟩
      | 1, hi => cases hi; exact ⟨T2, wThen, _, t2, xs2, q, rfl, thenW, by decide, s3 _ _ eT2, h2, d2, okq, lq, rfl, by show (f.map _).length ≤ 6; rw [List.length_map]; exact lf⟩
      | i + 2, hi => simp at hi
    have lz : zs.length = ds.length := by rw [dz.length]; simp [pairsD]
    have lU : us.length ≤ 6 := by rw [iU.1]; exact lA
    refine rd_gtup (kp _ _ (nL etp) etp) rfl ?_
    walk_at "rd"
    have sK : ∀ {H'' : Hp}, KeepY L H3 H'' → Same H H'' := fun {H''} k b o eb => k _ _ (n0 eb) (s13 _ _ eb)
    have etl' : Seq H' tl zs := etl.mono (sK kp)
    refine altS rfl etl' fun J hJ => ?_
    refine forR_S hJ (fun j σ H2 => KeepY L H3 H2 ∧ ∃ us2 v6 v7, H2 L = some (.lst us2) ∧ ItX LnP (woH H2 L) us2 (LLs f q i ++ (ds.take j).map (lineW w)) ∧ σ = [some v, some (.ref t), some (.ref L), some (.int 0), some (.str wz), some (.ref tl), v6, v7]) (fun j σ H2 ⟨k2, _⟩ o eo => ?_) ⟨kp, us, _, _, eU, by rw [List.take_zero, List.map_nil, List.append_nil]; exact iU, rfl⟩ ?_ ?_
    · rcases etl with g | g
      · have g2 := sK kp _ _ g
        rw [g2] at eo
        cases eo
        exact sK k2 _ _ g
      · have g2 := sK kp _ _ g
        rw [g2] at eo
        cases eo
        exact sK k2 _ _ g
    · rintro j x σ H4 hj ⟨k4, us2, v6, v7, eU2, iU2, rfl⟩
      have hjl : j < ds.length := by
        have := (List.getElem?_eq_some_iff.mp hj).1
        omega
      have dz4 : DnAll H4 zs (pairsD ds) := dz.mono (sK k4)
      obtain ⟨y, hy, dy⟩ := dz4.get (i := j) (d := pairD ds[j]) (by unfold pairsD; rw [List.getElem?_map, List.getElem?_eq_getElem hjl]; rfl)
      rw [hj] at hy
      cases hy
      obtain ⟨tt, rfl, ett⟩ := dy.dt.pair_inv
      have okx := okd _ (List.getElem_mem hjl)
      have etk : ds.take (j + 1) = ds.take j ++ [ds[j]] := by rw [List.take_succ, List.getElem?_eq_getElem hjl]; rfl
      obtain ⟨o1, o2, o3⟩ := okx
      obtain ⟨b, eb⟩ : ∃ b, b = ds[j] := ⟨_, rfl⟩
      rw [← eb] at ett o1 o2 o3 etk
      have lU2 : us2.length ≤ 12 := by
        rw [iU2.1, List.length_append, List.length_map, List.length_take]
        omega
      refine rd_gtup ett rfl ?_
      walk_at "rd"
      refine rd_tyL eU2 ?_
      walk_at "rd"
      refine rd_strI (log_small (by omega) (by omega)) ?_
      rw [dig_str (i := b.1) (by omega) (by omega)]
      walk_at "rd"
      refine rd_strI (log_small (by omega) (by omega)) ?_
      rw [dig_str (i := b.2) (by omega) (by omega)]
      walk_at "rd"
      refine rd_newL (by simp) fun r H5 hr s5 er _ => ?_
      walk_at "rd"
      refine rd_app (s5 _ _ eU2) (by omega) fun H6 eH6 eL6 => ?_
      walk_at "rd"
      have hrL : r ≠ L := fun q => by rw [q, eU2] at hr; cases hr
      refine ⟨?_, us2 ++ [.ref r], _, _, eL6, ?_, rfl⟩
      · rw [eH6]
        exact (k4.trans (KeepY.of s5)).trans KeepY.upd
      · rw [etk, List.map_append, ← List.append_assoc, eH6, wo_upd]
        refine ItX.snoc (iU2.imp fun x y h => h.mono (wo_mono s5)) ⟨r, rfl, wo_get hrL ?_⟩
        rw [er, ew, atW, bakeW]
        rfl
    · rintro σ H4 ⟨k4, us2, v6, v7, eU2, iU2, rfl⟩
      refine ⟨k4, us2, _, _, _, _, eU2, ?_, rfl⟩
      rw [eLL]
      rw [lz, List.take_length] at iU2
      exact iU2
  · rintro σ H' ⟨kp, us, v4, v5, v6, v7, eU, iU, rfl⟩
    walk_at "rd"
    exact k H' L us (fun b o eb => kp _ _ (n0 eb) (s13 _ _ eb)) hL eU iU
end
end Sl
set_option Elab.async false
set_option linter.all false
set_option maxRecDepth 100000
set_option maxHeartbeats 8000000
set_option exponentiation.threshold 9000
namespace Sl
open PySem L2 C8 StX SiltT
local macro_rules | `(tactic| walk_at "side") => `(tactic| first
  | exact cdivw (by omega) (by omega)
  | exact cmulw (by omega) (by omega) (by omega) (by omega)
  | exact Or.inr ⟨by omega, by omega⟩
  | exact Or.inl ⟨by omega, by omega⟩
  | omega
  | exact ⟨by omega, by omega, by decide⟩
  | decide)
local macro_rules | `(tactic| walk_at "rd1") => `(tactic| first
  | with_reducible refine rd_seq ?_
  | with_reducible refine rd_asg ?_
  | with_reducible refine rd_drop ?_
  | with_reducible refine rd_ret ?_
  | with_reducible refine rd_retN ?_
  | with_reducible refine rd_ifS ?_
  | ((with_reducible refine rd_var0 ?_); refine ⟨_, rfl, ?_⟩)
  | with_reducible refine rd_c ?_
  | with_reducible refine rd_op ?_
  | with_reducible refine rd_un ?_
  | with_reducible refine rd_I0 ?_
  | with_reducible refine rd_U ?_
  | ((with_reducible refine rd_I ?c ?_); (case c => walk_at "side"))
  | with_reducible refine rd_ipI ?_
  | with_reducible refine rd_eqI ?_
  | with_reducible refine rd_neI ?_
  | with_reducible refine rd_test ?_
  | with_reducible refine rd_tB ?_
  | with_reducible refine rd_bl ?_
  | with_reducible refine rd_not ?_
  | with_reducible refine rd_and ?_
  | with_reducible refine rd_or ?_
  | with_reducible refine rd_andV ?_
  | with_reducible refine rd_orV ?_
  | with_reducible refine rd_notV ?_
  | with_reducible refine rd_ifE ?_
  | with_reducible refine rd_chain ?_
  | with_reducible refine rd_chain3 ?_
  | with_reducible refine rd_nil ?_
  | with_reducible refine rd_cons ?_
  | with_reducible refine rd_call ?_
  | with_reducible refine rd_CB ?_
  | with_reducible refine rd_par ?_
  | with_reducible refine rd_par2 ?_
  | with_reducible refine rd_par3 ?_
  | with_reducible refine rd_par4 ?_
  | ((with_reducible refine rd_aug0 ?_); refine ⟨_, rfl, ?_⟩)
  | with_reducible refine rd_gname ?_
  | with_reducible refine rd_gcons ?_
  | with_reducible refine rd_gnil ?_
  | with_reducible refine rd_max ?_
  | with_reducible refine rd_min ?_
  | with_reducible refine rd_int1 ?_
  | with_reducible refine rd_abs ?_
  | with_reducible refine rd_lst ?_
  | with_reducible refine rd_tup ?_
  | with_reducible refine rd_bm ?_
  | with_reducible refine rd_fld0 ?_
  | with_reducible refine rd_sl0 ?_
  | with_reducible refine rd_noP ?_
  | with_reducible refine rd_part ?_
  | with_reducible refine rd_part2 ?_
  | with_reducible refine rd_meth0 ?_
  | with_reducible refine rd_star ?_
  | with_reducible refine rd_for ?_
  | with_reducible refine rd_rng1 ?_
  | with_reducible refine rd_rng2 ?_
  | with_reducible refine rd_rng3 ?_
  | with_reducible refine rd_iList ?_
  | with_reducible refine rd_iTup ?_
  | with_reducible refine rd_iEnum ?_
  | with_reducible refine rd_lc ?_
  | with_reducible refine rd_yes ?_
  | with_reducible refine rd_augS ?_
  | with_reducible refine rd_drawNew ?_
  | with_reducible refine rd_make0 ?_
  | with_reducible refine rd_next ?_
  | with_reducible refine rd_break ?_
  | with_reducible refine rd_cont ?_
  | with_reducible refine rd_iteTT ?_
  | with_reducible refine rd_iteFF ?_
  | with_reducible refine rd_iteNTT ?_
  | with_reducible refine rd_iteNFF ?_
  | with_reducible refine rd_con0 ?_
  | with_reducible refine rd_truO0 ?_
  | with_reducible refine rd_gfld0 ?_
  | with_reducible refine rd_dc ?_
  | with_reducible refine rd_iKeys ?_
  | with_reducible refine rd_dget0 ?_
  | with_reducible refine rd_dput0 ?_
  | with_reducible refine rd_dnot0 ?_
  | with_reducible refine rd_iEnumT ?_
  | with_reducible refine rd_raP0 ?_
  | with_reducible refine rd_xf0 ?_
  | with_reducible refine rd_cKw ?_
  | with_reducible refine rd_iStr ?_
  | with_reducible refine rd_gSub ?_
  | with_reducible refine rd_asgG ?_)
local macro_rules | `(tactic| walk_at "rd") => `(tactic| repeat walk_at "rd1")
local macro_rules | `(tactic| walk_at "len") => `(tactic| first
  | (intro vs H Q E h; obtain ⟨h2, _⟩ := h; rw [h2]; rfl)
  | (intro vs H Q E h; obtain ⟨_, h2, _⟩ := h; rw [h2]; rfl)
  | (intro vs H Q E h; obtain ⟨_, _, h2, _⟩ := h; rw [h2]; rfl)
  | (intro vs H Q E h; obtain ⟨_, _, _, h2, _⟩ := h; rw [h2]; rfl)
  | (intro vs H Q E h; obtain ⟨_, _, _, _, h2, _⟩ := h; rw [h2]; rfl)
  | (intro vs H Q E h; obtain ⟨_, _, _, _, _, h2, _⟩ := h; rw [h2]; rfl)
  | (intro vs H Q E h; obtain ⟨_, _, _, _, _, _, h2, _⟩ := h; rw [h2]; rfl)
  | (intro vs H Q E h; obtain ⟨_, _, _, _, _, _, _, h2, _⟩ := h; rw [h2]; rfl)
  | (intro vs H Q E h; obtain ⟨_, _, _, _, _, _, _, _, h2, _⟩ := h; rw [h2]; rfl)
  | (intro vs H Q E h; obtain ⟨_, _, _, _, _, _, _, _, _, h2, _⟩ := h; rw [h2]; rfl)
  | (intro vs H Q E h; obtain ⟨_, _, _, _, _, _, _, _, _, _, h2, _⟩ := h; rw [h2]; rfl)
  | (intro vs H Q E h; obtain ⟨_, _, _, _, _, _, _, _, _, _, _, h2, _⟩ := h; rw [h2]; rfl)
  | (intro vs H Q E h; obtain ⟨_, _, _, _, _, _, _, _, _, _, _, _, h2, _⟩ := h; rw [h2]; rfl))
local macro_rules | `(tactic| walk_at "rd1") => `(tactic| first
  | with_reducible refine rd_tM1 ?_
  | with_reducible refine rd_tM1s ?_
  | with_reducible refine rd_callSd ?_
  | with_reducible refine rd_tryAs ?_
  | with_reducible refine rd_iStr ?_)
theorem ad_str {x y : List Nat} {Q' : VK} {H2 : Hp} (l : x.length + y.length ≤ 10000) (h : Q' (.str ⟨(x ++ y).toArray⟩) H2) : rAddS (.str ⟨x.toArray⟩) (.str ⟨y.toArray⟩) H2 Q' := rd_addS (by rw [str_len, str_len]; exact Nat.le_trans l (by decide)) (by rw [str_app]; exact h)
def spSpac (K : PySem.W.Frag) : Sp := fun vs H Q _ => ∃ (a r : Addr) (ws : List (List Nat)), vs = [.ref a, .ref r] ∧ DrawP K H a ∧ H r = some (.lst (ws.map wV)) ∧ ws.length ≤ 10 ∧ (∀ w ∈ ws, w.length ≤ 10) ∧
  ∀ H' t c k wsn, Same H H' → H c = none → H' t = some (.tup [.str ⟨(List.replicate k 32 ++ layL wsn).toArray⟩, .ref c]) → H' c = some (.lst ((colsL k wsn).map nV)) → wsn.map (·.1) = ws → sepB wsn = true → k ≤ 2 → (∀ w ∈ wsn, w.2 ≤ 2) → Q (.ref t) H'
def spLaid (K : PySem.W.Frag) : Sp := fun vs H Q _ => ∃ (a L : Addr) (xs : List V) (ls : List (List (List Nat))), vs = [.ref a, .ref L] ∧ DrawP K H a ∧ H L = some (.lst xs) ∧ ItX LnP H xs ls ∧ ls.length ≤ 12 ∧ (∀ ws ∈ ls, ws.length ≤ 10 ∧ ∀ w ∈ ws, OkWd w) ∧
  ∀ H' t R P rs ps us, Same H H' → H' t = some (.tup [.ref R, .ref P]) → H' R = some (.lst (rs.map wV)) → H' P = some (.lst us) → ItX PlP H' us ps → LaidR 1 ls rs ps → rs.length ≤ 2 * ls.length → Q (.ref t) H'
theorem wo_upd2 {H : Hp} {R P : Addr} {o : HO} : woH (woH (upd H P o) R) P = woH (woH H R) P := by
  funext b
  unfold woH
  by_cases c : b = P
  · rw [if_pos c, if_pos c]
  · rw [if_neg c, if_neg c]
    by_cases d : b = R
    · rw [if_pos d, if_pos d]
    · rw [if_neg d, if_neg d, upd_ne c]
section
variable {P : Program} {w : World} {K : PySem.W.Frag} {mg : Str → Option Value} {base : Heap} {C_Rule C_Reader C_BadText : Addr}
theorem cal__law_spaced (T : TX P K mg C_Rule C_Reader C_BadText) : Cal P w K mg base 7 "_law_spaced" (spSpac K) [] := by
  obtain ⟨f0, fd, D, dn⟩ := T.d__law_spaced
  have G__law_take := cal__law_take (P := P) (w := w) (base := base) T
  refine cal0 D (D.fn.binds dn fun _ _ _ _ _ _ us hl => match us, hl with | [_, _], _ => rfl) .nil sc__law_spaced (by walk_at "len") (fun cdv A outer s H vs Q E hr h => ?_)
  obtain ⟨a, r, ws, rfl, dr, er, lw, lws, k⟩ := h
  have spW : (" " : Str) = ⟨#[32]⟩ := by decide +kernel
  refine ⟨_, (pss_cons (ps_par (i := 2) (j := 3) rfl sc__law_spaced.nd rfl rfl (by decide) rfl rfl (pa_cons (pe_op op_mulB pe_str (pe_c G__law_take hr (by decide) rfl (pa_cons (pv 0) (pa_cons pe_int pa_nil)))) (pa_cons (pe_lst pa_nil) pa_nil)) (by rfl))
      (pss_cons (ps_for PassesOwn.never rfl (pi_enum (by rfl) T.b_enumerate (pa_cons (pv 1) pa_nil)) (pg_tup rfl (pgs_cons (pg_n 4 sc__law_spaced.nd) (pgs_cons (pg_n 5 sc__law_spaced.nd) pgs_nil))) (pss_cons (ps_expr (pe_bm PySem.F.plainAttrs_list PySem.F.slot_list_append PySem.F.type_list_append mt_append (pv 3) (pa_cons (pe_op op_add (pe_callB cr_lenTx (by rfl) T.b_len (by decide +kernel) (pa_cons (pv 2) pa_nil)) pe_int) pa_nil)))
      (pss_one (ps_au 2 sc__law_spaced.nd (pe_op op_addS (pv 5) (pe_op op_mulB pe_str (pe_ifExp (pt_cmpR op_lt (pv 4) (pe_op op_sub (pe_callB cr_lenS (by rfl) T.b_len (by decide +kernel) (pa_cons (pv 1) pa_nil)) pe_int) (nomark _)) (pe_op op_add pe_int (pe_c G__law_take hr (by decide) rfl (pa_cons (pv 0) (pa_cons pe_int pa_nil)))) (pe_c G__law_take hr (by decide) rfl (pa_cons (pv 0) (pa_cons pe_int pa_nil)))))) ip_addS))))
      (pss_one (ps_ret (pe_tup (pa_cons (pv 2) (pa_cons (pv 3) pa_nil))))))), ?_⟩
  walk_at "rd"
  refine ⟨a, 3, rfl, dr, by decide, fun H1 n s1 n0 n1 => ?_⟩
  obtain ⟨kk, rfl⟩ : ∃ kk : Nat, n = kk := ⟨n.toNat, by omega⟩
  refine rd_mulB spW rfl (by omega) ?_
  walk_at "rd"
  refine rd_newL (by simp) fun C H2 hC s2 eC _ => ?_
  walk_at "rd"
  have s12 := s1.trans s2
  have hC0 : H C = none := by
    cases q : H C with
    | none => rfl
    | some o => rw [s1 _ _ q] at hC; cases hC
  refine rd_enR (SqL.of (s12 _ _ er)) ?_
  refine forR_enum (xs := ws.map wV) (fun i σ H' => Same H H' ∧ ∃ (wsn : List (List Nat × Nat)) (v4 v5 : Option V), wsn.map (·.1) = ws.take i ∧ (∀ j w, wsn[j]? = some w → j + 1 < ws.length → 1 ≤ w.2) ∧ (∀ w ∈ wsn, w.2 ≤ 2) ∧ H' C = some (.lst ((colsL kk wsn).map nV)) ∧
    σ = [some (.ref a), some (.ref r), some (.str ⟨(List.replicate kk 32 ++ layL wsn).toArray⟩), some (.ref C), v4, v5]) (fun i σ H' ⟨s, _⟩ => SqL.of (s _ _ er))
    ⟨s12, [], none, none, rfl, (fun j w h => by cases h), (fun w h => by cases h), eC, by show _ = [_, _, some (V.str ⟨(List.replicate kk 32 ++ []).toArray⟩), _, _, _]; rw [List.append_nil]; rfl⟩ ?_ ?_
  · rintro i x σ H' t H3 hx ⟨s3, wsn, v4, v5, e1, e2, e3, eC2, rfl⟩ ht s4 et _
    have hil : i < ws.length := by
      have := (List.getElem?_eq_some_iff.mp hx).1
      rw [List.length_map] at this
      exact this
    obtain ⟨w, hw⟩ : ∃ w, ws[i]? = some w := ⟨_, List.getElem?_eq_getElem hil⟩
    rw [List.getElem?_map, hw] at hx
    cases hx
    have lwn : wsn.length = i := by
      have := congrArg List.length e1
      rw [List.length_map, List.length_take] at this
      omega
    have okn : ∀ w ∈ wsn, w.1.length ≤ 10 ∧ w.2 ≤ 2 := fun w hw => ⟨lws w.1 (List.mem_of_mem_take (by rw [← e1]; exact List.mem_map.mpr ⟨w, hw, rfl⟩)), e3 w hw⟩
    have ll := lay_len okn
    have lx : (List.replicate kk 32 ++ layL wsn).length ≤ 122 := by
      rw [List.length_append, List.length_replicate]
      omega
    have s34 := s3.trans s4
    refine rd_gtup et rfl ?_
    walk_at "rd"
    refine rd_tyL (s4 _ _ eC2) ?_
    walk_at "rd"
    refine rd_lenTx (by rw [str_len]; exact Nat.le_trans lx (by decide)) ?_
    walk_at "rd"
    refine rd_app (s4 _ _ eC2) (by rw [List.length_map, cols_len, lwn]; omega) fun H4 eH4 eC4 => ?_
    have s04 : Same H H4 := by rw [eH4]; exact Same.mut s34 hC0
    walk_at "rd"
    refine rd_lenL (s04 _ _ er) ?_
    rw [List.length_map]
    walk_at "rd"
    have lww : w.length ≤ 10 := lws w (List.mem_of_getElem? hw)
    have fin : ∀ (g : Nat) (H5 : Hp), Same H4 H5 → g ≤ 2 → (i + 1 < ws.length → 1 ≤ g) → ∃ (wsn2 : List (List Nat × Nat)) (v4 v5 : Option V), wsn2.map (·.1) = ws.take (i + 1) ∧ (∀ j w, wsn2[j]? = some w → j + 1 < ws.length → 1 ≤ w.2) ∧ (∀ w ∈ wsn2, w.2 ≤ 2) ∧ H5 C = some (.lst ((colsL kk wsn2).map nV)) ∧
        [some (V.ref a), some (V.ref r), some (V.str ⟨((List.replicate kk 32 ++ layL wsn) ++ (w ++ List.replicate g 32)).toArray⟩), some (.ref C), some (.int (i : Nat)), some (wV w)] = [some (.ref a), some (.ref r), some (.str ⟨(List.replicate kk 32 ++ layL wsn2).toArray⟩), some (.ref C), v4, v5] := fun g H5 s5 g2 g1 => by
      refine ⟨wsn ++ [(w, g)], some (.int (i : Nat)), some (wV w), ?_, fun j x hj hl => ?_, fun x hx => ?_, ?_, ?_⟩
      · rw [List.map_append, e1, List.take_succ, hw]
        rfl
      · rcases Nat.lt_or_ge j wsn.length with c | c
        · rw [List.getElem?_append_left c] at hj
          exact e2 j x hj hl
        · rw [List.getElem?_append_right c] at hj
          obtain ⟨m, hm⟩ : ∃ m, m = j - wsn.length := ⟨_, rfl⟩
          rw [← hm] at hj
          cases m with
          | zero =>
            cases hj
            exact g1 (by omega)
          | succ m => cases hj
      · rcases List.mem_append.mp hx with c | c
        · exact e3 x c
        · rw [List.mem_singleton.mp c]
          exact g2
      · rw [s5 _ _ eC4, cols_snoc, List.map_append, str_len]
        congr 3
        show [V.int _] = [V.int _]
        congr 2
        rw [List.length_append, List.length_replicate]
        rfl
      · rw [lay_snoc, List.append_assoc]
    by_cases c1 : i + 1 < ws.length
    · refine rd_iteT (by omega) ?_
      walk_at "rd"
      refine ⟨a, 2, rfl, dr.mono s04, by decide, fun H5 n s5 n0 n1 => ?_⟩
      obtain ⟨g, rfl⟩ : ∃ g : Nat, n = g := ⟨n.toNat, by omega⟩
      walk_at "rd"
      refine rd_mulB (n := 1 + g) spW (by omega) (by omega) ?_
      refine ad_str (by rw [List.length_replicate]; omega) ?_
      refine ad_str (by rw [List.length_append (as := w), List.length_replicate]; omega) ?_
      exact ⟨s04.trans s5, fin (1 + g) H5 s5 (by omega) (fun _ => by omega)⟩
    · refine rd_iteF (by omega) ?_
      walk_at "rd"
      refine ⟨a, 2, rfl, dr.mono s04, by decide, fun H5 n s5 n0 n1 => ?_⟩
      obtain ⟨g, rfl⟩ : ∃ g : Nat, n = g := ⟨n.toNat, by omega⟩
      refine rd_mulB (n := g) spW rfl (by omega) ?_
      refine ad_str (by rw [List.length_replicate]; omega) ?_
      refine ad_str (by rw [List.length_append (as := w), List.length_replicate]; omega) ?_
      exact ⟨s04.trans s5, fin g H5 s5 (by omega) (fun q => absurd q c1)⟩
  · rintro σ H' ⟨s3, wsn, v4, v5, e1, e2, e3, eC2, rfl⟩
    rw [List.length_map, List.take_length] at e1
    have ln : wsn.length = ws.length := by rw [← e1, List.length_map]
    walk_at "rd"
    refine rd_newT (by simp) fun t H4 _ s4 et _ => ?_
    exact k H4 t C kk wsn (s3.trans s4) hC0 et (s4 _ _ eC2) e1 (sep_of fun j w hj hl => e2 j w hj (by omega)) (by omega) e3
theorem cal__law_laid (T : TX P K mg C_Rule C_Reader C_BadText) : Cal P w K mg base 8 "_law_laid" (spLaid K) [] := by
  obtain ⟨f0, fd, D, dn⟩ := T.d__law_laid
  have G__law_take := cal__law_take (P := P) (w := w) (base := base) T
  have G__law_pick := cal__law_pick (P := P) (w := w) (base := base) T
  have G__law_spaced := cal__law_spaced (P := P) (w := w) (base := base) T
  refine cal0 D (D.fn.binds dn fun _ _ _ _ _ _ us hl => match us, hl with | [_, _], _ => rfl) .nil sc__law_laid (by walk_at "len") (fun cdv A outer s H vs Q E hr h => ?_)
  obtain ⟨a, L, xs, ls, rfl, dr, eL, iL, ll, okl, k⟩ := h
  have s1W : ("" : Str) = ⟨([] : List Nat).toArray⟩ := by decide +kernel
  have s2W : ("   " : Str) = ⟨[32, 32, 32].toArray⟩ := by decide +kernel
  have s3W : ("# then at 2" : Str) = ⟨[35, 32, 116, 104, 101, 110, 32, 97, 116, 32, 50].toArray⟩ := by decide +kernel
  have s4W : (" #" : Str) = ⟨[32, 35].toArray⟩ := by decide +kernel
  have s5W : ("# so" : Str) = ⟨[35, 32, 115, 111].toArray⟩ := by decide +kernel
  have s6W : ("#" : Str) = ⟨[35].toArray⟩ := by decide +kernel
  refine ⟨_, (pss_cons (ps_par (i := 2) (j := 3) rfl sc__law_laid.nd rfl rfl (by decide) rfl rfl (pa_cons (pe_lst pa_nil) (pa_cons (pe_lst pa_nil) pa_nil)) (by rfl))
      (pss_cons (ps_for PassesOwn.never rfl (pi_list (pv 1)) (pg_n 4 sc__law_laid.nd) (pss_cut (ps_if (pt_cmpR op_eq (pe_c G__law_take hr (by decide) rfl (pa_cons (pv 0) (pa_cons pe_int pa_nil))) pe_int (nomark _)) (pss_one (ps_expr (pe_bm PySem.F.plainAttrs_list PySem.F.slot_list_append PySem.F.type_list_append mt_append (pv 2) (pa_cons (pe_c G__law_pick hr (by decide) rfl (pa_cons (pv 0) (pa_cons (pe_lst (pa_cons pe_str (pa_cons pe_str (pa_cons pe_str (pa_cons pe_str pa_nil))))) pa_nil))) pa_nil)))) pss_nil)
      (pss_cons (ps_asg (pe_c G__law_spaced hr (by decide) rfl (pa_cons (pv 0) (pa_cons (pv 4) pa_nil))) (pg_tup rfl (pgs_cons (pg_n 5 sc__law_laid.nd) (pgs_cons (pg_n 6 sc__law_laid.nd) pgs_nil))))
      (pss_cons (ps_expr (pe_bm PySem.F.plainAttrs_list PySem.F.slot_list_append PySem.F.type_list_append mt_append (pv 2) (pa_cons (pe_op op_addS (pv 5) (pe_c G__law_pick hr (by decide) rfl (pa_cons (pv 0) (pa_cons (pe_lst (pa_cons pe_str (pa_cons pe_str (pa_cons pe_str (pa_cons pe_str pa_nil))))) pa_nil)))) pa_nil)))
      (pss_one (ps_expr (pe_bm PySem.F.plainAttrs_list PySem.F.slot_list_append PySem.F.type_list_append mt_append (pv 3) (pa_cons (pe_tup (pa_cons (pe_callB cr_lenS (by rfl) T.b_len (by decide +kernel) (pa_cons (pv 2) pa_nil)) (pa_cons (pv 6) (pa_cons (pe_op op_add (pe_callB cr_lenTx (by rfl) T.b_len (by decide +kernel) (pa_cons (pe_ix ix_list (pv 2) (pe_un un_neg pe_int) (fun _ _ => rfl)) pa_nil)) pe_int) pa_nil)))) pa_nil))))))))
      (pss_one (ps_ret (pe_tup (pa_cons (pv 2) (pa_cons (pv 3) pa_nil))))))), ?_⟩
  walk_at "rd"
  refine rd_newL (by simp) fun R H1 hR s1 eR _ => ?_
  walk_at "rd"
  refine rd_newL (by simp) fun P H2 hP s2 eP _ => ?_
  walk_at "rd"
  have s12 := s1.trans s2
  have hP0 : H P = none := by
    cases q : H P with
    | none => rfl
    | some o => rw [s1 _ _ q] at hP; cases hP
  have hRP : R ≠ P := fun q => by rw [← q, eR] at hP; cases hP
  refine rd_lsR (SqL.of (s12 _ _ eL)) ?_
  refine forR_lst (xs := xs) (fun i σ H' => Same H H' ∧ ∃ (rs : List (List Nat)) (ps : List (Nat × List Nat × Nat)) (us : List V) (v4 v5 v6 : Option V), H' R = some (.lst (rs.map wV)) ∧ H' P = some (.lst us) ∧ ItX PlP (woH (woH H' R) P) us ps ∧ LaidR 1 (ls.take i) rs ps ∧ rs.length ≤ 2 * i ∧ σ = [some (.ref a), some (.ref L), some (.ref R), some (.ref P), v4, v5, v6])
    (fun i σ H' ⟨s, _⟩ => SqL.of (s _ _ eL)) ⟨s12, [], [], [], _, _, _, s2 _ _ eR, eP, .nil, .nil 1, Nat.zero_le _, rfl⟩ ?_ ?_
  · rintro i x σ H3 hx ⟨s3, rs, ps, us, v4, v5, v6, eR3, eP3, iP, lay, lrs, rfl⟩
    obtain ⟨ws, hws, r, rfl, er⟩ := iL.getV hx
    have okw := okl ws (List.mem_of_getElem? hws)
    have hil : i < ls.length := (List.getElem?_eq_some_iff.mp hws).1
    walk_at "rd"
    refine ⟨fun σ H' => Same H H' ∧ ∃ rs, H' R = some (.lst (rs.map wV)) ∧ H' P = some (.lst us) ∧ ItX PlP (woH (woH H' R) P) us ps ∧ LaidR 1 (ls.take i) rs ps ∧ rs.length ≤ 2 * i + 1 ∧ σ = [some (.ref a), some (.ref L), some (.ref R), some (.ref P), some (.ref r), v5, v6], ?_, ?_⟩
    · walk_at "rd"
      refine ⟨a, 5, rfl, dr.mono s3, by decide, fun H4 n s4 n0 n1 => ?_⟩
      walk_at "rd"
      refine rd_ite (fun c => ?_) (fun c => ?_)
      · walk_at "rd"
        refine rd_tyL (s4 _ _ eR3) ?_
        walk_at "rd"
        refine rd_newL (by simp) fun u H5 hu s5 eu _ => ?_
        walk_at "rd"
        have s35 := s3.trans (s4.trans s5)
        refine ⟨a, u, _, rfl, dr.mono s35, eu, by simp, fun H6 j x s6 hj => ?_⟩
        have s46 := s4.trans (s5.trans s6)
        walk_at "rd"
        refine rd_app (s46 _ _ eR3) (by rw [List.length_map]; omega) fun H7 eH7 eR7 => ?_
        obtain ⟨jk, rfl, hjk⟩ : ∃ jk, x = wV jk ∧ jk ∈ junkL := by
          match j, hj with
          | 0, hj => cases hj; exact ⟨_, congrArg V.str s1W, by decide⟩
          | 1, hj => cases hj; exact ⟨_, congrArg V.str s2W, by decide⟩
          | 2, hj => cases hj; exact ⟨_, congrArg V.str s3W, by decide⟩
          | 3, hj => cases hj; exact ⟨_, congrArg V.str s4W, by decide⟩
          | j + 4, hj => simp at hj
        refine ⟨by rw [eH7]; exact Same.mut (s3.trans s46) hR, rs ++ [jk], by rw [eR7, List.map_append]; rfl, by rw [eH7, upd_ne (fun q => hRP q.symm)]; exact s46 _ _ eP3, ?_, ?_, by rw [List.length_append, List.length_singleton]; omega, rfl⟩
        · rw [eH7, wo_upd]
          exact iP.imp fun x y h => h.mono (wo_mono (wo_mono s46))
        · have h := lay.append (ls2 := []) (rows2 := [jk]) (ps2 := []) (.junk (junk_ok hjk).1 (junk_ok hjk).2 (.nil _))
          rw [List.append_nil, List.append_nil] at h
          exact h
      · walk_at "rd"
        exact ⟨s3.trans s4, rs, s4 _ _ eR3, s4 _ _ eP3, iP.imp fun x y h => h.mono (wo_mono (wo_mono s4)), lay, by omega, rfl⟩
    clear s3 eR3 eP3 iP lay lrs
    rintro σ H4 ⟨s4, rs, eR4, eP4, iP, lay, lrs, rfl⟩
    walk_at "rd"
    refine ⟨a, r, ws, rfl, dr.mono s4, s4 _ _ er, okw.1, (fun w hw => (okw.2 w hw).2.1), fun H5 t c kk wsn s5 hc et ec e1 e2 e3 e4 => ?_⟩
    refine rd_gtup et rfl ?_
    walk_at "rd"
    refine rd_tyL (s5 _ _ eR4) ?_
    walk_at "rd"
    refine rd_newL (by simp) fun u H6 hu s6 eu _ => ?_
    walk_at "rd"
    have s46 := s4.trans (s5.trans s6)
    refine ⟨a, u, _, rfl, dr.mono s46, eu, by simp, fun H7 j x s7 hj => ?_⟩
    obtain ⟨rem, rfl, hrem⟩ : ∃ rem, x = wV rem ∧ rem ∈ remsL := by
      match j, hj with
      | 0, hj => cases hj; exact ⟨_, congrArg V.str s1W, by decide⟩
      | 1, hj => cases hj; exact ⟨_, congrArg V.str s1W, by decide⟩
      | 2, hj => cases hj; exact ⟨_, congrArg V.str s5W, by decide⟩
      | 3, hj => cases hj; exact ⟨_, congrArg V.str s6W, by decide⟩
      | j + 4, hj => simp at hj
    have s57 := s5.trans (s6.trans s7)
    have s47 := s4.trans s57
    have rl := row_laid e1 e2 e3 e4 okw.1 okw.2 hrem (1 + rs.length)
    have lrow : (List.replicate kk 32 ++ layL wsn ++ rem).length ≤ 300 := (rl.ok.1 _ List.mem_cons_self).1
    refine ad_str (by rw [List.length_append] at lrow; omega) ?_
    obtain ⟨row, erow⟩ : ∃ row, row = List.replicate kk 32 ++ layL wsn ++ rem := ⟨_, rfl⟩
    rw [← erow] at rl lrow ⊢
    walk_at "rd"
    refine rd_app (s57 _ _ eR4) (by rw [List.length_map]; omega) fun H8 eH8 eR8 => ?_
    walk_at "rd"
    have eP8 : H8 P = some (.lst us) := by rw [eH8, upd_ne (fun q => hRP q.symm)]; exact s57 _ _ eP4
    have s08 : Same H H8 := by rw [eH8]; exact Same.mut s47 hR
    refine rd_tyL eP8 ?_
    walk_at "rd"
    refine rd_lenL eR8 ?_
    walk_at "rd"
    refine rd_ixL eR8 (v := wV row) (atI_last _ _) ?_
    walk_at "rd"
    refine rd_lenTx (by rw [str_len]; exact Nat.le_trans lrow (by decide)) ?_
    walk_at "rd"
    refine rd_newT (by simp) fun tt H9 ht s9 ett _ => ?_
    walk_at "rd"
    have lus : us.length ≤ i := by
      rw [iP.1, lay.ok.2, List.length_take]
      omega
    refine rd_app (s9 _ _ eP8) (by omega) fun HA eHA ePA => ?_
    walk_at "rd"
    have htR : tt ≠ R := fun q => by rw [q, eR8] at ht; cases ht
    have htP : tt ≠ P := fun q => by rw [q, eP8] at ht; cases ht
    have hcR : c ≠ R := fun q => by rw [q] at hc; rw [hc] at eR4; cases eR4
    have hcP : c ≠ P := fun q => by rw [q] at hc; rw [hc] at eP4; cases eP4
    have s0A : Same H HA := by rw [eHA]; exact Same.mut (s08.trans s9) hP0
    refine ⟨s0A, rs ++ [row], ps ++ [(1 + rs.length, colsL kk wsn, row.length + 1)], us ++ [.ref tt], some (.ref r), some (.str ⟨(List.replicate kk 32 ++ layL wsn).toArray⟩), some (.ref c), ?_, ePA, ?_, ?_, ?_, rfl⟩
    · rw [eHA, upd_ne hRP, s9 _ _ eR8, List.map_append]
      rfl
    · rw [eHA, wo_upd2]
      refine ItX.snoc (iP.imp fun x y h => h.mono ?_) ⟨tt, c, rfl, wo_get htP (wo_get htR ?_), wo_get hcP (wo_get hcR ?_)⟩
      · refine fun b o e => wo_mono (wo_mono s9) _ _ ?_
        rw [eH8, wo_upd]
        exact wo_mono (wo_mono s57) _ _ e
      · rw [ett]
        congr 3
        · show V.int _ = V.int _
          congr 1
          rw [List.length_append, List.length_map, List.length_singleton]
          show ((rs.length + 1 : Nat) : Int) = ((1 + rs.length : Nat) : Int)
          omega
      · refine s9 _ _ ?_
        rw [eH8, upd_ne hcR]
        exact (s6.trans s7) _ _ ec
    · rw [List.take_succ, hws]
      exact lay.append rl
    · rw [List.length_append, List.length_singleton]
      omega
  · rintro σ H3 ⟨s3, rs, ps, us, v4, v5, v6, eR3, eP3, iP, lay, lrs, rfl⟩
    rw [iL.1] at lay lrs
    rw [List.take_length] at lay
    walk_at "rd"
    refine rd_newT (by simp) fun t H4 _ s4 et _ => ?_
    exact k H4 t R P rs ps us (s3.trans s4) et (s4 _ _ eR3) (s4 _ _ eP3) (iP.imp fun x y h => h.mono (fun b o e => s4 _ _ (wo_same _ _ (wo_same _ _ e)))) lay lrs
end
end Sl
set_option Elab.async false
set_option linter.all false
set_option maxRecDepth 100000
set_option maxHeartbeats 8000000
set_option exponentiation.threshold 9000
namespace Sl
open PySem L2 C8 StX SiltT
local macro_rules | `(tactic| walk_at "side") => `(tactic| first
  | exact cdivw (by omega) (by omega)
  | exact cmulw (by omega) (by omega) (by omega) (by omega)
  | exact Or.inr ⟨by omega, by omega⟩
  | exact Or.inl ⟨by omega, by omega⟩
  | omega
  | exact ⟨by omega, by omega, by decide⟩
  | decide)
local macro_rules | `(tactic| walk_at "rd1") => `(tactic| first
  | with_reducible refine rd_seq ?_
  | with_reducible refine rd_asg ?_
  | with_reducible refine rd_drop ?_
  | with_reducible refine rd_ret ?_
  | with_reducible refine rd_retN ?_
  | with_reducible refine rd_ifS ?_
  | ((with_reducible refine rd_var0 ?_); refine ⟨_, rfl, ?_⟩)
  | with_reducible refine rd_c ?_
  | with_reducible refine rd_op ?_
  | with_reducible refine rd_un ?_
  | with_reducible refine rd_I0 ?_
  | with_reducible refine rd_U ?_
  | ((with_reducible refine rd_I ?c ?_); (case c => walk_at "side"))
  | with_reducible refine rd_ipI ?_
  | with_reducible refine rd_eqI ?_
  | with_reducible refine rd_neI ?_
  | with_reducible refine rd_test ?_
  | with_reducible refine rd_tB ?_
  | with_reducible refine rd_bl ?_
  | with_reducible refine rd_not ?_
  | with_reducible refine rd_and ?_
  | with_reducible refine rd_or ?_
  | with_reducible refine rd_andV ?_
  | with_reducible refine rd_orV ?_
  | with_reducible refine rd_notV ?_
  | with_reducible refine rd_ifE ?_
  | with_reducible refine rd_chain ?_
  | with_reducible refine rd_chain3 ?_
  | with_reducible refine rd_nil ?_
  | with_reducible refine rd_cons ?_
  | with_reducible refine rd_call ?_
  | with_reducible refine rd_CB ?_
  | with_reducible refine rd_par ?_
  | with_reducible refine rd_par2 ?_
  | with_reducible refine rd_par3 ?_
  | with_reducible refine rd_par4 ?_
  | ((with_reducible refine rd_aug0 ?_); refine ⟨_, rfl, ?_⟩)
  | with_reducible refine rd_gname ?_
  | with_reducible refine rd_gcons ?_
  | with_reducible refine rd_gnil ?_
  | with_reducible refine rd_max ?_
  | with_reducible refine rd_min ?_
  | with_reducible refine rd_int1 ?_
  | with_reducible refine rd_abs ?_
  | with_reducible refine rd_lst ?_
  | with_reducible refine rd_tup ?_
  | with_reducible refine rd_bm ?_
  | with_reducible refine rd_fld0 ?_
  | with_reducible refine rd_sl0 ?_
  | with_reducible refine rd_noP ?_
  | with_reducible refine rd_part ?_
  | with_reducible refine rd_part2 ?_
  | with_reducible refine rd_meth0 ?_
  | with_reducible refine rd_star ?_
  | with_reducible refine rd_for ?_
  | with_reducible refine rd_rng1 ?_
  | with_reducible refine rd_rng2 ?_
  | with_reducible refine rd_rng3 ?_
  | with_reducible refine rd_iList ?_
  | with_reducible refine rd_iTup ?_
  | with_reducible refine rd_iEnum ?_
  | with_reducible refine rd_lc ?_
  | with_reducible refine rd_yes ?_
  | with_reducible refine rd_augS ?_
  | with_reducible refine rd_drawNew ?_
  | with_reducible refine rd_make0 ?_
  | with_reducible refine rd_next ?_
  | with_reducible refine rd_break ?_
  | with_reducible refine rd_cont ?_
  | with_reducible refine rd_iteTT ?_
  | with_reducible refine rd_iteFF ?_
  | with_reducible refine rd_iteNTT ?_
  | with_reducible refine rd_iteNFF ?_
  | with_reducible refine rd_con0 ?_
  | with_reducible refine rd_truO0 ?_
  | with_reducible refine rd_gfld0 ?_
  | with_reducible refine rd_dc ?_
  | with_reducible refine rd_iKeys ?_
  | with_reducible refine rd_dget0 ?_
  | with_reducible refine rd_dput0 ?_
  | with_reducible refine rd_dnot0 ?_
  | with_reducible refine rd_iEnumT ?_
  | with_reducible refine rd_raP0 ?_
  | with_reducible refine rd_xf0 ?_
  | with_reducible refine rd_cKw ?_
  | with_reducible refine rd_iStr ?_
  | with_reducible refine rd_gSub ?_
  | with_reducible refine rd_asgG ?_)
local macro_rules | `(tactic| walk_at "rd") => `(tactic| repeat walk_at "rd1")
local macro_rules | `(tactic| walk_at "len") => `(tactic| first
  | (intro vs H Q E h; obtain ⟨h2, _⟩ := h; rw [h2]; rfl)
  | (intro vs H Q E h; obtain ⟨_, h2, _⟩ := h; rw [h2]; rfl)
  | (intro vs H Q E h; obtain ⟨_, _, h2, _⟩ := h; rw [h2]; rfl)
  | (intro vs H Q E h; obtain ⟨_, _, _, h2, _⟩ := h; rw [h2]; rfl)
  | (intro vs H Q E h; obtain ⟨_, _, _, _, h2, _⟩ := h; rw [h2]; rfl)
  | (intro vs H Q E h; obtain ⟨_, _, _, _, _, h2, _⟩ := h; rw [h2]; rfl)
  | (intro vs H Q E h; obtain ⟨_, _, _, _, _, _, h2, _⟩ := h; rw [h2]; rfl)
  | (intro vs H Q E h; obtain ⟨_, _, _, _, _, _, _, h2, _⟩ := h; rw [h2]; rfl)
  | (intro vs H Q E h; obtain ⟨_, _, _, _, _, _, _, _, h2, _⟩ := h; rw [h2]; rfl)
  | (intro vs H Q E h; obtain ⟨_, _, _, _, _, _, _, _, _, h2, _⟩ := h; rw [h2]; rfl)
  | (intro vs H Q E h; obtain ⟨_, _, _, _, _, _, _, _, _, _, h2, _⟩ := h; rw [h2]; rfl)
  | (intro vs H Q E h; obtain ⟨_, _, _, _, _, _, _, _, _, _, _, h2, _⟩ := h; rw [h2]; rfl)
  | (intro vs H Q E h; obtain ⟨_, _, _, _, _, _, _, _, _, _, _, _, h2, _⟩ := h; rw [h2]; rfl))
local macro_rules | `(tactic| walk_at "rd1") => `(tactic| first
  | with_reducible refine rd_iZip9 ?_
  | with_reducible refine rd_daug09 ?_
  | with_reducible refine rd_dget0 ?_
  | with_reducible refine rd_iStr ?_)
/-! zip of two lists -/
section
variable {σ : L2.St} {H : Hp} {Q : VK} {K : PySem.W.Frag} {g : TG} {tb : TS} {ta : TA} {R : It → Hp → Prop} {nx bk ct : L2.St → Hp → Prop} {rt : VK}
def zpR9 (K : PySem.W.Frag) (R : It → Hp → Prop) (vs : List V) (H1 : Hp) : Prop := ∃ a b xs ys, vs = [.ref a, .ref b] ∧ SqL K H1 a xs ∧ SqL K H1 b ys ∧ R (Itz K a b) H1
theorem rd_iZip9 (h : ta σ H fun vs H1 => zpR9 K R vs H1) : iZip K ta σ H R := h
theorem rd_zpR9 {a b : Addr} {xs ys : List V} (e1 : SqL K H a xs) (e2 : SqL K H b ys) (h : R (Itz K a b) H) : zpR9 K R [.ref a, .ref b] H := ⟨a, b, xs, ys, rfl, e1, e2, h⟩
theorem forR_zip9 {a b : Addr} {xs ys : List V} (n : Nat) (hn : n = min xs.length ys.length) (Pv : Nat → L2.St → Hp → Prop) (hl : ∀ i σ H, Pv i σ H → SqL K H a xs ∧ SqL K H b ys) (h0 : Pv 0 σ H)
    (hs : ∀ (i : Nat) x y σ H t H', i < n → xs[i]? = some x → ys[i]? = some y → Pv i σ H → H t = none → Same H H' → H' t = some (.tup [x, y]) → g (.ref t) σ H' fun σ2 H2 => tb ⟨Pv (i + 1), rt, nx, Pv (i + 1)⟩ σ2 H2) (hd : ∀ σ H, Pv n σ H → nx σ H) :
    ForR (Itz K a b) g tb ⟨nx, rt, bk, ct⟩ σ H :=
  forR_gen _ n Pv h0 (fun i σ H h p => ⟨xs, ys, xs[i]'(by omega), ys[i]'(by omega), (hl i σ H p).1, (hl i σ H p).2, by simp, by simp⟩) (fun σ H p => ⟨xs, ys, (hl _ σ H p).1, (hl _ σ H p).2, by omega⟩)
    (fun i σ H x H' hi p ⟨t, x1, y1, e1, e2, e3, e4, e5⟩ => by subst e1; subst e3; exact hs i x1 y1 σ H t _ hi (e4 xs (hl i σ _ p).1) (e5 ys (hl i σ _ p).2) p e2 (Same.new (Same.refl H) e2) upd_same) hd
end
/-! counts by names -/
def rDAug9 (tv : TE) (rd : V → V → Hp → VK → Prop) (nx : L2.St → Hp → Prop) (σ : L2.St) (x y : V) (H2 : Hp) : Prop := ∃ a v, x = .ref a ∧ DGet H2 a y (some v) ∧ tv σ H2 fun y2 H3 => rd v y2 H3 fun z H4 => ∃ H5, DPut H4 a y z H5 ∧ nx σ H5
theorem rd_daug09 {σ : L2.St} {H : Hp} {td ty tv : TE} {rd : V → V → Hp → VK → Prop} {nx bk ct : L2.St → Hp → Prop} {rt : VK} (h : td σ H fun x H1 => ty σ H1 fun y H2 => rDAug9 tv rd nx σ x y H2) : sDAug td ty tv rd ⟨nx, rt, bk, ct⟩ σ H := h
theorem rd_daugS {σ : L2.St} {H : Hp} {nx : L2.St → Hp → Prop} {a : Addr} {ls : List (Str × V)} {k : Str} {w c : Int} (e : H a = some (.dK (dS ls))) (l : valV (dS ls) (Sum.inr k) = some (.int w)) (z : ls.length < 100000) (h : ∀ H', H' = upd H a (.dK (dS (putS ls k (.int (w + c))))) → H' a = some (.dK (dS (putS ls k (.int (w + c))))) → nx σ H') : rDAug9 (tC (.int c)) rAdd nx σ (.ref a) (.str k) H :=
  ⟨a, .int w, rfl, .inl ⟨_, Sum.inr k, .inl e, rfl, l.symm⟩, w, c, rfl, rfl, _, DPut.k (k := Sum.inr k) e (by rw [dS_len]; exact Nat.lt_trans z (by decide)), by rw [dS_put]; exact h _ rfl upd_same⟩
def rDisp29 (p : Addr) (Q : VK) (x y x2 y2 : V) (H2 : Hp) : Prop := H2 p = some (.dK []) ∧ ∃ kvs : List (Key × V), [(x, y), (x2, y2)] = kvs.map (fun kv => (kV kv.1, kv.2)) ∧ kvs.length ≤ 15 ∧ Q (.ref p) (upd H2 p (.dK (mergeK [] kvs)))
theorem rd_disp29 {σ : L2.St} {H : Hp} {Q : VK} {tk tv tk2 tv2 : TE} (h : ∀ p H1, H p = none → Same H H1 → H1 p = some (.dK []) → tk σ H1 fun x H2 => tv σ H2 fun y H3 => tk2 σ H3 fun x2 H4 => tv2 σ H4 fun y2 H5 => rDisp29 p Q x y x2 y2 H5) : tDisp [(tk, tv), (tk2, tv2)] σ H Q :=
  fun p hp => h p _ hp (Same.new (Same.refl H) hp) upd_same
/-- how many lines there have been -/
def cntD (a b : Nat) : List (Str × V) := [("first", nV a), ("then", nV b)]
theorem cnt_ne : ¬ ("first" : Str) = "then" := by decide +kernel
theorem cnt_nd (a b : Nat) : (keysS (cntD a b)).Nodup := by
  show [("first" : Str), "then"].Nodup
  simp [cnt_ne]
theorem rd_dcnt {p : Addr} {Q : VK} {H2 : Hp} (e : H2 p = some (.dK [])) (h : ∀ H3, H3 = upd H2 p (.dK (dS (cntD 0 0))) → H3 p = some (.dK (dS (cntD 0 0))) → Q (.ref p) H3) : rDisp29 p Q (.str "first") (.int 0) (.str "then") (.int 0) H2 := by
  refine ⟨e, dS (cntD 0 0), rfl, (by show 2 ≤ 15; decide), ?_⟩
  rw [dS_merge (cnt_nd 0 0)]
  exact h _ rfl upd_same
def keyW (late : Bool) : List Nat := if late = true then wThen else wFirst
theorem cnt_at (a b : Nat) (late : Bool) : valV (dS (cntD a b)) (Sum.inr ⟨(keyW late).toArray⟩) = some (nV (if late = true then b else a)) := by
  cases late with
  | true =>
    rw [show (⟨(keyW true).toArray⟩ : Str) = "then" by decide +kernel]
    exact dS_val (cnt_nd a b) (by unfold cntD; simp)
  | false =>
    rw [show (⟨(keyW false).toArray⟩ : Str) = "first" by decide +kernel]
    exact dS_val (cnt_nd a b) (by unfold cntD; simp)
theorem cnt_put (a b : Nat) (late : Bool) : putS (cntD a b) ⟨(keyW late).toArray⟩ (.int (((if late = true then b else a : Nat) : Int) + 1)) = if late = true then cntD a (b + 1) else cntD (a + 1) b := by
  have n2 : ¬ ("then" : Str) = "first" := fun h => cnt_ne h.symm
  cases late with
  | true =>
    rw [show (⟨(keyW true).toArray⟩ : Str) = "then" by decide +kernel]
    unfold putS
    rw [if_pos (by show ("then" : Str) ∈ [("first" : Str), "then"]; simp)]
    simp [cntD, cnt_ne, nV]
  | false =>
    rw [show (⟨(keyW false).toArray⟩ : Str) = "first" by decide +kernel]
    unfold putS
    rw [if_pos (by show ("first" : Str) ∈ [("first" : Str), "then"]; simp)]
    simp [cntD, n2, nV]
/-! words against words -/
def strD (w : List Nat) : PyData := .str ⟨w.toArray⟩
theorem eqv_ws : ∀ a b : List (List Nat), PyData.eqvAll (a.map strD) (b.map strD) = decide (a = b)
  | [], [] => by simp [PyData.eqvAll]
  | [], _ :: _ => by simp [PyData.eqvAll]
  | _ :: _, [] => by simp [PyData.eqvAll]
  | x :: l, y :: m => by
    simp only [List.map_cons, PyData.eqvAll, eqv_ws l m, List.cons.injEq]
    have e : PyData.eqv (strD x) (strD y) = decide (x = y) := by
      show ((⟨x.toArray⟩ : Str) == ⟨y.toArray⟩) = _
      by_cases c : x = y
      · rw [decide_eq_true c, c, beq_self_eq_true]
      · rw [decide_eq_false c]
        exact beq_eq_false_iff_ne.mpr fun q => c (str_inj q)
    rw [e, ← Bool.decide_and]
theorem sh_ws {a : List (List Nat)} (h : ∀ w ∈ a, ∀ c ∈ w, c < 1114112) : SeqAt.shaped (.list (a.map strD)) = true := by
  have h1 : PyData.canLayAll0 (a.map strD) = true := by
    induction a with
    | nil => rfl
    | cons w r ih =>
      have hw : PyData.strOk ⟨w.toArray⟩ = true := by
        show (w.toArray).all (· < 0x110000) = true
        rw [List.all_toArray, List.all_eq_true]
        exact fun c hc => decide_eq_true (h w List.mem_cons_self c hc)
      have ih := ih fun w hw => h w (List.mem_cons_of_mem _ hw)
      show (PyData.canLay0 (strD w) && PyData.canLayAll0 (r.map strD)) = true
      rw [ih]
      simp [strD, PyData.canLay0, hw]
  have h2 : PyData.depthAll (a.map strD) ≤ 0 := depth_map (fun w => by simp [strD, PyData.depth]) a
  refine Bool.and_eq_true_iff.mpr ⟨by simp only [PyData.canLay0]; exact h1, decide_eq_true ?_⟩
  simp only [PyData.depth]
  omega
theorem dt_ws {H : Hp} : ∀ a : List (List Nat), DtAll H (a.map wV) (a.map strD)
  | [] => .nil
  | x :: a => .cons (.str _) (dt_ws a)
section
variable {H : Hp} {Q : VK} {K : PySem.W.Frag}
theorem rd_eqW {a b : Addr} {xs ys : List (List Nat)} (e1 : H a = some (.lst (xs.map wV))) (e2 : H b = some (.lst (ys.map wV))) (h1 : ∀ w ∈ xs, ∀ c ∈ w, c < 1114112) (h2 : ∀ w ∈ ys, ∀ c ∈ w, c < 1114112) (h : Q (.bl (decide (xs = ys))) H) : rEqD K (.ref a) (.ref b) H Q := by
  refine rd_eqD (.lst e1 (dt_ws xs)) (.lst e2 (dt_ws ys)) (sh_ws h1) (sh_ws h2) ?_
  rw [show PyData.eqv (.list (xs.map strD)) (.list (ys.map strD)) = decide (xs = ys) by simp only [PyData.eqv]; exact eqv_ws xs ys]
  exact h
theorem rd_neW {a b : Addr} {xs ys : List (List Nat)} (e1 : H a = some (.lst (xs.map wV))) (e2 : H b = some (.lst (ys.map wV))) (h1 : ∀ w ∈ xs, ∀ c ∈ w, c < 1114112) (h2 : ∀ w ∈ ys, ∀ c ∈ w, c < 1114112) (h : Q (.bl (!decide (xs = ys))) H) : rNeD K (.ref a) (.ref b) H Q := by
  refine rd_neD (.lst e1 (dt_ws xs)) (.lst e2 (dt_ws ys)) (sh_ws h1) (sh_ws h2) ?_
  rw [show PyData.eqv (.list (xs.map strD)) (.list (ys.map strD)) = decide (xs = ys) by simp only [PyData.eqv]; exact eqv_ws xs ys]
  exact h
end
/-- what stands at a place, as a list -/
def sl1 (ws : List (List Nat)) (i : Nat) : List (List Nat) := (ws.drop i).take 1
theorem cut_sl1 (ws : List (List Nat)) (i : Nat) : cutV (ws.map wV) (some ((i : Nat) : Int)) (some (((i : Nat) : Int) + 1)) = (sl1 ws i).map wV := by
  unfold cutV sl1
  rw [show (((i : Nat) : Int) + 1) = ((i + 1 : Nat) : Int) by omega, HT.sIx_nat, HT.sIx_nat, List.length_map, List.map_take, List.map_drop]
  by_cases c : i < ws.length
  · rw [Nat.min_eq_left (by omega), Nat.min_eq_left (by omega), show i + 1 - i = 1 by omega]
  · rw [Nat.min_eq_right (by omega), Nat.min_eq_right (by omega), Nat.sub_self, List.take_zero, List.drop_of_length_le (by rw [List.length_map]; omega)]
    rfl
theorem cut_sl0 (ws : List (List Nat)) : cutV (ws.map wV) none (some 1) = (sl1 ws 0).map wV := by
  rw [show (1 : Int) = ((1 : Nat) : Int) from rfl, cut_take]
  unfold sl1
  rw [List.drop_zero, List.map_take]
theorem sl1_some {ws : List (List Nat)} {i : Nat} {w : List Nat} (h : ws[i]? = some w) : sl1 ws i = [w] := by
  unfold sl1
  rw [List.drop_eq_getElem_cons (List.getElem?_eq_some_iff.mp h).1, (List.getElem?_eq_some_iff.mp h).2]
  rfl
theorem sl1_none {ws : List (List Nat)} {i : Nat} (h : ws[i]? = none) : sl1 ws i = [] := by
  unfold sl1
  rw [List.drop_of_length_le (List.getElem?_eq_none_iff.mp h)]
  rfl
theorem sl1_eq {ws : List (List Nat)} {i : Nat} {w : List Nat} (hw : w ≠ []) : sl1 ws i = [w] ↔ ws.getD i [] = w := by
  rw [List.getD_eq_getElem?_getD]
  cases q : ws[i]? with
  | none =>
    rw [sl1_none q]
    exact ⟨(fun h => by cases h), fun h => absurd h.symm hw⟩
  | some x =>
    rw [sl1_some q]
    exact ⟨(fun h => by cases h; rfl), fun h => by rw [show x = w from h]⟩
theorem sl1_mem {ws : List (List Nat)} {i : Nat} : ∀ w ∈ sl1 ws i, w ∈ ws := fun w h => List.mem_of_mem_drop (List.mem_of_mem_take h)
/-- a number's text is read -/
theorem int_tok {w : List Nat} (tk : isTok w = true) (nb : numB w = true) : PySem.intText? ⟨w.toArray⟩ = some ((valD w : Nat) : Int) := by
  have dig : w.all (fun c => decide (48 ≤ c) && decide (c ≤ 57)) = true ∧ w ≠ [] ∧ w.length ≤ 18 := by
    cases w with
    | nil => cases nb
    | cons c r =>
      have nb : (isD c && (!(decide (r ≠ []) && decide (c = 48)) && decide (r.length ≤ 17))) = true := nb
      rw [Bool.and_eq_true, Bool.and_eq_true, decide_eq_true_iff] at nb
      have tk : (!decide (c = 35) && !decide (c = 32) && (if isL c = true then r.all isL else if isD c = true then r.all isD else r.isEmpty)) = true := tk
      rw [Bool.and_eq_true] at tk
      have hl : ¬ isL c = true := fun q => by
        have n1 := nb.1
        unfold isL at q
        unfold isD at n1
        rw [Bool.and_eq_true, decide_eq_true_iff, decide_eq_true_iff] at q n1
        omega
      have t2 := tk.2
      rw [if_neg hl, if_pos nb.1] at t2
      refine ⟨?_, by simp, by rw [List.length_cons]; omega⟩
      rw [List.all_cons, Bool.and_eq_true]
      exact ⟨nb.1, t2⟩
  obtain ⟨d1, d2, d3⟩ := dig
  exact SX.int_S d1 d2 (by omega)
theorem LaidR.cols {pl : Nat} {ls : List (List (List Nat))} {rows : List (List Nat)} {ps : List (Nat × List Nat × Nat)} (h : LaidR pl ls rows ps) : ∀ (i : Nat) ws p, ls[i]? = some ws → ps[i]? = some p → p.2.1.length = ws.length := by
  induction h with
  | nil pl => exact fun i ws p h => by cases h
  | junk h1 h2 _ ih => exact ih
  | line h1 h2 h3 _ ih =>
    intro i ws p e1 e2
    cases i with
    | zero => cases e1; cases e2; exact h2
    | succ i => exact ih i ws p e1 e2
def spIsN : Sp := fun vs H Q _ => ∃ w : List Nat, vs = [wV w] ∧ isTok w = true ∧ w.length ≤ 10 ∧ ∀ H', Same H H' → Q (.bl (numB w)) H'
section
variable {P : Program} {w : World} {K : PySem.W.Frag} {mg : Str → Option Value} {base : Heap} {C_Rule C_Reader C_BadText : Addr}
theorem cal__law_is_number (T : TX P K mg C_Rule C_Reader C_BadText) : Cal P w K mg base 1 "_law_is_number" spIsN [] := by
  obtain ⟨f0, fd, D, dn⟩ := T.d__law_is_number
  refine cal0 D (D.fn.binds dn fun _ _ _ _ _ _ us hl => match us, hl with | [_], _ => rfl) .nil sc__law_is_number (by walk_at "len") (fun cdv A outer s H vs Q E hr h => ?_)
  obtain ⟨w, rfl, tk, lw, k⟩ := h
  have digW : ("0123456789" : Str) = ⟨[48, 49, 50, 51, 52, 53, 54, 55, 56, 57].toArray⟩ := by decide +kernel
  have zeroW : ("0" : Str) = ⟨[48].toArray⟩ := by decide +kernel
  obtain ⟨c, r, rfl⟩ : ∃ c r, w = c :: r := by
    cases w with
    | nil => cases tk
    | cons c r => exact ⟨c, r, rfl⟩
  have lz : (⟨(c :: r).toArray⟩ : Str).length = (c :: r).length := str_len _
  have mem : ∀ x : Nat, decide (x ∈ ([48, 49, 50, 51, 52, 53, 54, 55, 56, 57] : List Nat)) = isD x := fun x => by
    unfold isD
    by_cases h : 48 ≤ x ∧ x ≤ 57
    · rw [decide_eq_true h.1, decide_eq_true h.2]
      refine decide_eq_true ?_
      have : x = 48 ∨ x = 49 ∨ x = 50 ∨ x = 51 ∨ x = 52 ∨ x = 53 ∨ x = 54 ∨ x = 55 ∨ x = 56 ∨ x = 57 := by omega
      simpa using this
    · have e : (decide (48 ≤ x) && decide (x ≤ 57)) = false := by
        by_cases a : 48 ≤ x
        · rw [decide_eq_false (show ¬ x ≤ 57 by omega), Bool.and_false]
        · rw [decide_eq_false a, Bool.false_and]
      rw [e]
      refine decide_eq_false fun hm => h ?_
      have : x = 48 ∨ x = 49 ∨ x = 50 ∨ x = 51 ∨ x = 52 ∨ x = 53 ∨ x = 54 ∨ x = 55 ∨ x = 56 ∨ x = 57 := by simpa using hm
      omega
  refine ⟨_, (pss_one (ps_ret (pe_and (pe_callB (cr_all rfl) (by rfl) T.b_all (by decide +kernel) (pa_cons (pe_lc (own := [("_law_sign", 1)]) (g := gName 1) (tt := tYes) rfl sc__law_is_number.nd (pi_str (pv 0)) (blkOk_by (own := [("_law_sign", 1)]) (N := N__law_is_number) (sc := fnScope s__law_is_number) (by decide +kernel)) (fun _ _ _ _ _ => (pg_n 1 sc__law_is_number.nd)) (fun _ _ _ _ _ => pts_nil) (fun _ _ _ _ _ => (pe_cmpR op_inSg (pv 1) pe_str (by with_unfolding_all rfl)))) pa_nil)) (pe_and (pe_or (pe_cmpR op_eq (pv 0) pe_str (nomark _)) (pe_one (pe_cmpR op_ne (pe_ixS (pv 0) pe_int (fun _ _ => rfl)) pe_str (nomark _)))) (pe_one (pe_cmpR op_lt (pe_callB cr_lenTx (by rfl) T.b_len (by decide +kernel) (pa_cons (pv 0) pa_nil)) pe_int (nomark _))))))), ?_⟩
  walk_at "rd"
  refine rd_stR ?_
  refine lcR_str (fun D i H' => Same H H' ∧ H' D = some (.lst ((((c :: r).take i).map isD).map V.bl))) (fun D H' _ s e _ => ⟨s, e⟩) ?_ ?_
  · rintro D i x H' hD hx ⟨s1, eD⟩
    have hx : (c :: r)[i]? = some x := by simpa using hx
    walk_at "rd"
    refine ⟨rfl, ?_⟩
    walk_at "rd"
    refine rd_inSg ?_
    rw [digW]
    have hil : i < (c :: r).length := (List.getElem?_eq_some_iff.mp hx).1
    refine rd_lcE eD (by rw [List.length_map, List.length_map, List.length_take]; omega) fun H2 eH e2 => ?_
    refine ⟨by rw [eH]; exact Same.mut s1 hD, ?_⟩
    rw [e2, List.take_succ, hx, List.map_append, List.map_append]
    congr 3
    show [V.bl (decide (x ∈ ([48, 49, 50, 51, 52, 53, 54, 55, 56, 57] : List Nat)))] = [V.bl (isD x)]
    rw [mem]
  · rintro D H1 hD ⟨s1, eD⟩
    have k := k H1 s1
    rw [← law_num tk] at k
    unfold lawNum at k
    refine ⟨D, ((c :: r).take (c :: r).length).map isD, rfl, SqL.of (by rw [eD]; rfl), ?_⟩
    rw [List.take_length]
    have ea : ((c :: r).map isD).all id = (c :: r).all isD := by rw [List.all_map]; rfl
    rw [ea]
    refine ⟨_, rfl, ?_⟩
    cases q : (c :: r).all isD with
    | false =>
      rw [q, Bool.false_and] at k
      exact k
    | true =>
      rw [q, Bool.true_and] at k
      refine rd_iteTT ?_
      walk_at "rd"
      refine rd_eq rfl ?_
      rw [zeroW]
      have e0 : decide (wV (c :: r) = V.str ⟨[48].toArray⟩) = decide (c :: r = [48]) := by
        by_cases z : c :: r = [48]
        · rw [decide_eq_true z, z]
          exact decide_eq_true rfl
        · rw [decide_eq_false z]
          exact decide_eq_false (fun y => z (str_inj (V.str.inj y)))
      have e1 : (!decide (V.str (sgS c) = V.str ⟨[48].toArray⟩)) = decide ((c :: r).head? ≠ some 48) := by
        by_cases z : c = 48
        · rw [show decide ((c :: r).head? ≠ some 48) = false from decide_eq_false (by rw [z]; simp), decide_eq_true (by rw [z]; rfl)]
          rfl
        · rw [show decide ((c :: r).head? ≠ some 48) = true from decide_eq_true (by simp [z]), decide_eq_false (fun y => z (by have := str_inj (a := [c]) (b := [48]) (V.str.inj y); exact (List.cons.inj this).1))]
          rfl
      rw [e0]
      refine ⟨_, rfl, ?_⟩
      have last : ∀ b : Bool, (decide (c :: r = [48]) || decide ((c :: r).head? ≠ some 48)) = b → ∃ c_1, V.bl b = V.bl c_1 ∧ (if c_1 = true then tOp (rI0 fun i j => V.bl (decide (i < j))) (tCB rLenTx (tCons (tVar 0) tNil)) (tC (V.int 19)) (L2.start N__law_is_number [wV (c :: r)]) H1 Q else Q (.bl false) H1) := fun b hb => ⟨b, rfl, by
        rw [hb] at k
        cases b with
        | false =>
          rw [Bool.false_and] at k
          exact k
        | true =>
          rw [Bool.true_and] at k
          refine rd_iteTT ?_
          walk_at "rd"
          refine rd_lenTx (by rw [lz]; exact Nat.le_trans lw (by decide)) ?_
          walk_at "rd"
          rw [lz]
          have e3 : decide ((((c :: r).length : Nat) : Int) < 19) = decide ((c :: r).length < 19) := by
            by_cases z : (c :: r).length < 19
            · rw [decide_eq_true z, decide_eq_true (by omega)]
            · rw [decide_eq_false z, decide_eq_false (by omega)]
          rw [e3]
          exact k⟩
      cases q2 : decide (c :: r = [48]) with
      | true =>
        rw [q2, Bool.true_or] at last
        refine rd_iteTT ?_
        exact last true rfl
      | false =>
        rw [q2, Bool.false_or] at last
        refine rd_iteFF ?_
        walk_at "rd"
        refine rd_ixS (c := c) (by decide) (by decide) (by rw [lz]; simp) (by rfl) ?_
        walk_at "rd"
        refine rd_ne rfl ?_
        rw [show (⟨#[c]⟩ : Str) = sgS c from rfl, e1]
        exact last _ rfl
end
end Sl
set_option Elab.async false
set_option linter.all false
set_option maxRecDepth 100000
set_option maxHeartbeats 8000000
set_option exponentiation.threshold 9000
namespace Sl
open PySem L2 C8 StX SiltT
local macro_rules | `(tactic| walk_at "side") => `(tactic| first
  | exact cdivw (by omega) (by omega)
  | exact cmulw (by omega) (by omega) (by omega) (by omega)
  | exact Or.inr ⟨by omega, by omega⟩
  | exact Or.inl ⟨by omega, by omega⟩
  | omega
  | exact ⟨by omega, by omega, by decide⟩
  | decide)
local macro_rules | `(tactic| walk_at "rd1") => `(tactic| first
  | with_reducible refine rd_seq ?_
  | with_reducible refine rd_asg ?_
  | with_reducible refine rd_drop ?_
  | with_reducible refine rd_ret ?_
  | with_reducible refine rd_retN ?_
  | with_reducible refine rd_ifS ?_
  | ((with_reducible refine rd_var0 ?_); refine ⟨_, rfl, ?_⟩)
  | with_reducible refine rd_c ?_
  | with_reducible refine rd_op ?_
  | with_reducible refine rd_un ?_
  | with_reducible refine rd_I0 ?_
  | with_reducible refine rd_U ?_
  | ((with_reducible refine rd_I ?c ?_); (case c => walk_at "side"))
  | with_reducible refine rd_ipI ?_
  | with_reducible refine rd_eqI ?_
  | with_reducible refine rd_neI ?_
  | with_reducible refine rd_test ?_
  | with_reducible refine rd_tB ?_
  | with_reducible refine rd_bl ?_
  | with_reducible refine rd_not ?_
  | with_reducible refine rd_and ?_
  | with_reducible refine rd_or ?_
  | with_reducible refine rd_andV ?_
  | with_reducible refine rd_orV ?_
  | with_reducible refine rd_notV ?_
  | with_reducible refine rd_ifE ?_
  | with_reducible refine rd_chain ?_
  | with_reducible refine rd_chain3 ?_
  | with_reducible refine rd_nil ?_
  | with_reducible refine rd_cons ?_
  | with_reducible refine rd_call ?_
  | with_reducible refine rd_CB ?_
  | with_reducible refine rd_par ?_
  | with_reducible refine rd_par2 ?_
  | with_reducible refine rd_par3 ?_
  | with_reducible refine rd_par4 ?_
  | ((with_reducible refine rd_aug0 ?_); refine ⟨_, rfl, ?_⟩)
  | with_reducible refine rd_gname ?_
  | with_reducible refine rd_gcons ?_
  | with_reducible refine rd_gnil ?_
  | with_reducible refine rd_max ?_
  | with_reducible refine rd_min ?_
  | with_reducible refine rd_int1 ?_
  | with_reducible refine rd_abs ?_
  | with_reducible refine rd_lst ?_
  | with_reducible refine rd_tup ?_
  | with_reducible refine rd_bm ?_
  | with_reducible refine rd_fld0 ?_
  | with_reducible refine rd_sl0 ?_
  | with_reducible refine rd_noP ?_
  | with_reducible refine rd_part ?_
  | with_reducible refine rd_part2 ?_
  | with_reducible refine rd_meth0 ?_
  | with_reducible refine rd_star ?_
  | with_reducible refine rd_for ?_
  | with_reducible refine rd_rng1 ?_
  | with_reducible refine rd_rng2 ?_
  | with_reducible refine rd_rng3 ?_
  | with_reducible refine rd_iList ?_
  | with_reducible refine rd_iTup ?_
  | with_reducible refine rd_iEnum ?_
  | with_reducible refine rd_lc ?_
  | with_reducible refine rd_yes ?_
  | with_reducible refine rd_augS ?_
  | with_reducible refine rd_drawNew ?_
  | with_reducible refine rd_make0 ?_
  | with_reducible refine rd_next ?_
  | with_reducible refine rd_break ?_
  | with_reducible refine rd_cont ?_
  | with_reducible refine rd_iteTT ?_
  | with_reducible refine rd_iteFF ?_
  | with_reducible refine rd_iteNTT ?_
  | with_reducible refine rd_iteNFF ?_
  | with_reducible refine rd_con0 ?_
  | with_reducible refine rd_truO0 ?_
  | with_reducible refine rd_gfld0 ?_
  | with_reducible refine rd_dc ?_
  | with_reducible refine rd_iKeys ?_
  | with_reducible refine rd_dget0 ?_
  | with_reducible refine rd_dput0 ?_
  | with_reducible refine rd_dnot0 ?_
  | with_reducible refine rd_iEnumT ?_
  | with_reducible refine rd_raP0 ?_
  | with_reducible refine rd_xf0 ?_
  | with_reducible refine rd_cKw ?_
  | with_reducible refine rd_iStr ?_
  | with_reducible refine rd_gSub ?_
  | with_reducible refine rd_asgG ?_)
local macro_rules | `(tactic| walk_at "rd") => `(tactic| repeat walk_at "rd1")
local macro_rules | `(tactic| walk_at "len") => `(tactic| first
  | (intro vs H Q E h; obtain ⟨h2, _⟩ := h; rw [h2]; rfl)
  | (intro vs H Q E h; obtain ⟨_, h2, _⟩ := h; rw [h2]; rfl)
  | (intro vs H Q E h; obtain ⟨_, _, h2, _⟩ := h; rw [h2]; rfl)
  | (intro vs H Q E h; obtain ⟨_, _, _, h2, _⟩ := h; rw [h2]; rfl)
  | (intro vs H Q E h; obtain ⟨_, _, _, _, h2, _⟩ := h; rw [h2]; rfl)
  | (intro vs H Q E h; obtain ⟨_, _, _, _, _, h2, _⟩ := h; rw [h2]; rfl)
  | (intro vs H Q E h; obtain ⟨_, _, _, _, _, _, h2, _⟩ := h; rw [h2]; rfl)
  | (intro vs H Q E h; obtain ⟨_, _, _, _, _, _, _, h2, _⟩ := h; rw [h2]; rfl)
  | (intro vs H Q E h; obtain ⟨_, _, _, _, _, _, _, _, h2, _⟩ := h; rw [h2]; rfl)
  | (intro vs H Q E h; obtain ⟨_, _, _, _, _, _, _, _, _, h2, _⟩ := h; rw [h2]; rfl)
  | (intro vs H Q E h; obtain ⟨_, _, _, _, _, _, _, _, _, _, h2, _⟩ := h; rw [h2]; rfl)
  | (intro vs H Q E h; obtain ⟨_, _, _, _, _, _, _, _, _, _, _, h2, _⟩ := h; rw [h2]; rfl)
  | (intro vs H Q E h; obtain ⟨_, _, _, _, _, _, _, _, _, _, _, _, h2, _⟩ := h; rw [h2]; rfl))
local macro_rules | `(tactic| walk_at "rd1") => `(tactic| first
  | with_reducible refine rd_iZip9 ?_
  | with_reducible refine rd_daug09 ?_
  | with_reducible refine rd_dget0 ?_
  | with_reducible refine rd_callSd ?_
  | with_reducible refine rd_tryAs ?_)
/-- a text is read, as a rule or as a place -/
def spLRead (CR : Addr) : Sp := fun vs H Q _ => ∃ v : V, vs = [v] ∧
  (((v = .non ∨ ∃ i, v = .int i) ∧ ∀ H' t, Same H H' → H' t = some (.tup [nV 0, nV 0]) → Q (.ref t) H') ∨
   ∃ z : Str, v = .str z ∧ z.length ≤ 10000 ∧ (linesL z).length ≤ 1000 ∧ (∀ l ∈ linesL z, l.length ≤ 10000 ∧ ∀ c ∈ l, c < 1114112) ∧
   ((∃ a b, readL [] [] 1 (linesL z) = .inl (a, b) ∧ ∀ H' t, Same H H' → H' t = some (.tup [nV a, nV b]) → Q (.ref t) H') ∨
    ∃ f p, readL [] [] 1 (linesL z) = .inr (f, p) ∧ ∀ H' x, Same H H' → RuleS CR H' x (f.map intP) (p.map intP) → Q (.ref x) H'))
def spDue : Sp := fun vs H Q _ => ∃ (L P : Addr) (xs us : List V) (ls : List (List (List Nat))) (ps : List (Nat × List Nat × Nat)) (m : Nat), vs = [.ref L, .ref P, .int (m : Nat)] ∧ H L = some (.lst xs) ∧ H P = some (.lst us) ∧ ItX LnP H xs ls ∧ ItX PlP H us ps ∧ ps.length = ls.length ∧ ls.length ≤ 12 ∧
  (∀ ws ∈ ls, ws ≠ [] ∧ ws.length ≤ 10 ∧ ∀ w ∈ ws, OkWd w) ∧ (∀ (i : Nat) ws p, ls[i]? = some ws → ps[i]? = some p → p.2.1.length = ws.length) ∧
  ((∃ p, dueL m 0 0 false ls ps = some p ∧ ∀ H' t, Same H H' → H' t = some (.tup [nV p.1, nV p.2]) → Q (.ref t) H') ∨ (dueL m 0 0 false ls ps = none ∧ ∀ H', Same H H' → Q .non H'))
theorem getD_some {ws : List (List Nat)} {i : Nat} (h : ws.getD i [] ≠ []) : ws[i]? = some (ws.getD i []) := by
  rw [List.getD_eq_getElem?_getD] at h ⊢
  cases q : ws[i]? with
  | none => rw [q] at h; exact absurd rfl h
  | some x => rfl
section
variable {P : Program} {w : World} {K : PySem.W.Frag} {mg : Str → Option Value} {base : Heap} {C_Rule C_Reader C_BadText : Addr}
theorem cal__law_read (T : TX P K mg C_Rule C_Reader C_BadText) : Cal P w K mg base 6 "_law_read" (spLRead C_Rule) [] := by
  obtain ⟨f0, fd, D, dn⟩ := T.d__law_read
  have X_read_rule := xal_read_rule (P := P) (w := w) (base := base) T
  refine cal0 D (D.fn.binds dn fun _ _ _ _ _ _ us hl => match us, hl with | [_], _ => rfl) .nil sc__law_read (by walk_at "len") (fun cdv A outer s H vs Q E hr h => ?_)
  obtain ⟨v, rfl, h⟩ := h
  refine ⟨_, (pss_one (ps_tryAsO (i := 1) rfl rfl sc__law_read.nd rfl rfl ⟨rfl, by decide, .inl T.mg_BadText⟩ takesN (fun W pn xe tk => (pss_one (ps_ret (pe_cX X_read_rule hr (by decide) rfl (fun σ => passAt tk σ) (pa_cons (pv 0) pa_nil))))) (fun a oe cls d pn hz hf => (pss_one (ps_ret (pe_tup (pa_cons (pe_xf T.y_BadText.xf T.y_BadText.np hz hf (pv 1)) (pa_cons (pe_xf T.y_BadText.xf T.y_BadText.nq hz hf (pv 1)) pa_nil)))))))), ?_⟩
  walk_at "rd"
  refine rd_callSd2 ⟨v, rfl, ?_⟩
  have caught : ∀ (a b : Nat) dd H', Same H H' → H' dd = some (.xd [("column", .int (b : Nat)), ("line", .int (a : Nat))]) → (∀ H2 t, Same H' H2 → H2 t = some (.tup [nV a, nV b]) → Q (.ref t) H2) → True := fun _ _ _ _ _ _ _ => trivial
  rcases h with ⟨hv, k⟩ | ⟨z, rfl, lz, lc, ll, k⟩
  · refine .inl ⟨hv, fun dd H1 s1 ed => ?_⟩
    refine rd_caughtAs T.y_BadText.e fun ea hea => ?_
    walk_at "rd"
    refine rd_xf ed (by rfl) ?_
    walk_at "rd"
    refine rd_xf ed (by rfl) ?_
    walk_at "rd"
    refine rd_newT (by simp) fun t H2 _ s2 et _ => ?_
    exact k H2 t (s1.trans s2) et
  · refine .inr ⟨z, rfl, lz, lc, ll, ?_⟩
    rcases k with ⟨a, b, e, k⟩ | ⟨f, p, e, k⟩
    · refine .inl ⟨a, b, e, fun dd H1 s1 ed => ?_⟩
      refine rd_caughtAs T.y_BadText.e fun ea hea => ?_
      walk_at "rd"
      refine rd_xf ed (by rfl) ?_
      walk_at "rd"
      refine rd_xf ed (by rfl) ?_
      walk_at "rd"
      refine rd_newT (by simp) fun t H2 _ s2 et _ => ?_
      exact k H2 t (s1.trans s2) et
    · exact .inr ⟨f, p, e, fun H1 x s1 hr => k H1 x s1 hr⟩
theorem cal__law_due (T : TX P K mg C_Rule C_Reader C_BadText) : Cal P w K mg base 2 "_law_due" spDue [] := by
  obtain ⟨f0, fd, D, dn⟩ := T.d__law_due
  have G__law_is_number := cal__law_is_number (P := P) (w := w) (base := base) T
  refine cal0 D (D.fn.binds dn fun _ _ _ _ _ _ us hl => match us, hl with | [_, _, _], _ => rfl) .nil sc__law_due (by walk_at "len") (fun cdv A outer s H vs Q E hr h => ?_)
  obtain ⟨L, P, xs, us, ls, ps, m, rfl, eL, eP, iL, iP, lps, ll, okl, okc, k⟩ := h
  have fstW : ("first" : Str) = ⟨wFirst.toArray⟩ := by decide +kernel
  have thenW : ("then" : Str) = ⟨wThen.toArray⟩ := by decide +kernel
  have atW : ("at" : Str) = ⟨wAt.toArray⟩ := by decide +kernel
  have bakeW : ("bake" : Str) = ⟨wBake.toArray⟩ := by decide +kernel
  refine ⟨_, (pss_cons (ps_par (i := 3) (j := 4) rfl sc__law_due.nd rfl rfl (by decide) rfl rfl (pa_cons (pe_disp (pps_cons pe_str pe_int (pps_cons pe_str pe_int pps_nil)) rfl rfl (by simp) (by decide)) (pa_cons pe_bl pa_nil)) (by rfl))
      (pss_cons (ps_for PassesOwn.never rfl (pi_zip rfl T.b_zip (pa_cons (pv 0) (pa_cons (pv 1) pa_nil))) (pg_tup rfl (pgs_cons (pg_n 5 sc__law_due.nd) (pgs_cons (pg_tup rfl (pgs_cons (pg_n 6 sc__law_due.nd) (pgs_cons (pg_n 7 sc__law_due.nd) (pgs_cons (pg_n 8 sc__law_due.nd) pgs_nil)))) pgs_nil))) (pss_cons (ps_s 7 sc__law_due.nd (pe_op op_cat (pv 7) (pe_lst (pa_cons (pv 8) pa_nil))))
      (pss_cut (ps_s 9 sc__law_due.nd (pe_ifExp (PW.pt (pw_or (pt_val (pv 4)) (pw_or1 (pt_cmpR (op_eqD hr.units) (pe_slice sl_list (pv 5) po_none (po_some pe_int)) (pe_lst (pa_cons pe_str pa_nil)) (nomark _))))) (pe_lst (pa_cons pe_str pa_nil)) (pe_lst (pa_cons pe_str pa_nil))))
      (pss_cons (ps_if (PW.pt (pw_or (pt_cmpR (op_neD hr.units) (pe_slice sl_list (pv 5) po_none (po_some pe_int)) (pv 9) (nomark _)) (pw_or1 (pt_cmpR op_eq (pe_dget (hu_of hr) (pv 3) (pe_ix ix_list (pv 9) pe_int (fun _ _ => rfl)) (fun _ _ => rfl)) pe_int (nomark _))))) (pss_one (ps_ret (pe_tup (pa_cons (pv 6) (pa_cons (pe_ix ix_list (pv 7) pe_int (fun _ _ => rfl)) pa_nil))))) pss_nil)
      (pss_cons (ps_s 4 sc__law_due.nd (pe_cmpR (op_eqD hr.units) (pv 9) (pe_lst (pa_cons pe_str pa_nil)) (nomark _)))
      (pss_cons (ps_daug (hu_of hr) (pv 3) (pe_ix ix_list (pv 9) pe_int (fun _ _ => rfl)) pe_int in_add (fun _ _ _ => rfl))
      (pss_cons (ps_for PassesOwn.never rfl (pi_tup (pe_tup (pa_cons (pe_tup (pa_cons pe_int (pa_cons pe_str pa_nil))) (pa_cons (pe_tup (pa_cons pe_int (pa_cons pe_str pa_nil))) pa_nil)))) (pg_tup rfl (pgs_cons (pg_n 10 sc__law_due.nd) (pgs_cons (pg_n 11 sc__law_due.nd) pgs_nil))) (pss_cons (ps_if (pt_cmpR (op_neD hr.units) (pe_slice sl_list (pv 5) (po_some (pv 10)) (po_some (pe_op op_add (pv 10) pe_int))) (pe_lst (pa_cons (pv 11) pa_nil)) (nomark _)) (pss_one (ps_ret (pe_tup (pa_cons (pv 6) (pa_cons (pe_ix ix_list (pv 7) (pe_callB (cr_min2 rfl) (by rfl) T.b_min (by decide +kernel) (pa_cons (pv 10) (pa_cons (pe_callB cr_lenS (by rfl) T.b_len (by decide +kernel) (pa_cons (pv 5) pa_nil)) pa_nil))) (fun _ _ => rfl)) pa_nil))))) pss_nil)
      (pss_cons (ps_s 12 sc__law_due.nd (pe_slice sl_list (pv 5) (po_some (pe_op op_add (pv 10) pe_int)) (po_some (pe_op op_add (pv 10) pe_int))))
      (pss_cut (ps_s 13 sc__law_due.nd (pe_ifExp (pt_cmpR op_eq (pv 10) pe_int (nomark _)) pe_int (pe_callTy cr_intS (by rfl) T.b_int (by decide +kernel) (pa_cons (pe_ix ix_list (pv 5) pe_int (fun _ _ => rfl)) pa_nil))))
      (pss_one (ps_if (PW.pt (pw_or (pt_cmpR (op_eqD hr.units) (pv 12) (pe_lst pa_nil) (nomark _)) (pw_or (pt_not (pt_val (pe_c G__law_is_number hr (by decide) rfl (pa_cons (pe_ix ix_list (pv 12) pe_int (fun _ _ => rfl)) pa_nil)))) (pw_or1 (pt_not (pt_chain op_le op_le pe_int (pe_callTy cr_intS (by rfl) T.b_int (by decide +kernel) (pa_cons (pe_ix ix_list (pv 12) pe_int (fun _ _ => rfl)) pa_nil)) (pv 13))))))) (pss_one (ps_ret (pe_tup (pa_cons (pv 6) (pa_cons (pe_ix ix_list (pv 7) (pe_callB (cr_min2 rfl) (by rfl) T.b_min (by decide +kernel) (pa_cons (pe_op op_add (pv 10) pe_int) (pa_cons (pe_callB cr_lenS (by rfl) T.b_len (by decide +kernel) (pa_cons (pv 5) pa_nil)) pa_nil))) (fun _ _ => rfl)) pa_nil))))) pss_nil))))))
      (pss_one (ps_if (pt_cmpR op_gt (pe_callB cr_lenS (by rfl) T.b_len (by decide +kernel) (pa_cons (pv 5) pa_nil)) pe_int (nomark _)) (pss_one (ps_ret (pe_tup (pa_cons (pv 6) (pa_cons (pe_ix ix_list (pv 7) pe_int (fun _ _ => rfl)) pa_nil))))) pss_nil)))))))))
      (pss_one (ps_ret (pe_ifExp (pt_cmpR op_gt (pe_dget (hu_of hr) (pv 3) pe_str (fun _ _ => rfl)) pe_int (nomark _)) pe_non (pe_tup (pa_cons (pe_op op_add (pv 2) pe_int) (pa_cons pe_int pa_nil)))))))), ?_⟩
  walk_at "rd"
  refine rd_disp29 fun D H1 hD s1 eD => ?_
  walk_at "rd"
  refine rd_dcnt eD fun H2 eH2 eD2 => ?_
  have s02 : Same H H2 := by rw [eH2]; exact Same.mut s1 hD
  walk_at "rd"
  refine rd_zpR9 (SqL.of (s02 _ _ eL)) (SqL.of (s02 _ _ eP)) ?_
  have lxs := iL.1
  have lus := iP.1
  refine forR_zip9 (xs := xs) (ys := us) ls.length (by omega) (fun i σ H' => Same H H' ∧ ∃ (nf nt : Nat) (late : Bool) (v5 v6 v7 v8 v9 v10 v11 v12 v13 : Option V), H' D = some (.dK (dS (cntD nf nt))) ∧ dueL m 0 0 false ls ps = dueL m nf nt late (ls.drop i) (ps.drop i) ∧
    σ = [some (.ref L), some (.ref P), some (.int (m : Nat)), some (.ref D), some (.bl late), v5, v6, v7, v8, v9, v10, v11, v12, v13]) (fun i σ H' ⟨s, _⟩ => ⟨SqL.of (s _ _ eL), SqL.of (s _ _ eP)⟩) ⟨s02, 0, 0, false, _, _, _, _, _, _, _, _, _, eD2, rfl, rfl⟩ ?_ ?_
  · rintro i x y σ H3 t H4 hi hx hy ⟨s3, nf, nt, late, v5, v6, v7, v8, v9, v10, v11, v12, v13, eD3, ed, rfl⟩ ht s4 et
    obtain ⟨ws, hws, r, rfl, er⟩ := iL.getV hx
    obtain ⟨p, hp, tp, c, rfl, etp, ec⟩ := iP.getV hy
    obtain ⟨wne, wl, wok⟩ := okl ws (List.mem_of_getElem? hws)
    have cl := okc i ws p hws hp
    have dls : ls.drop i = ws :: ls.drop (i + 1) := by rw [List.drop_eq_getElem_cons hi, (List.getElem?_eq_some_iff.mp hws).2]
    have dps : ps.drop i = p :: ps.drop (i + 1) := by rw [List.drop_eq_getElem_cons (by omega), (List.getElem?_eq_some_iff.mp hp).2]
    rw [dls, dps, dueL] at ed
    obtain ⟨lw, elw⟩ : ∃ lw, lw = lateW late ws := ⟨_, rfl⟩
    rw [← elw] at ed
    have s04 := s3.trans s4
    have chw : ∀ w ∈ ws, ∀ c ∈ w, c < 1114112 := fun w hw c hc => by
      have := (wok w hw).2.2 c hc
      omega
    have tkw : ∀ j, ws.getD j [] ≠ [] → OkWd (ws.getD j []) := fun j hj => wok _ (List.mem_of_getElem? (getD_some hj))
    have nil_iff : ∀ j, ws[j]? = none ↔ ws.getD j [] = [] := fun j => by
      rw [List.getD_eq_getElem?_getD]
      cases q : ws[j]? with
      | none => exact ⟨fun _ => rfl, fun _ => rfl⟩
      | some x =>
        refine ⟨(fun h => by cases h), fun h => ?_⟩
        have h : x = [] := h
        have := (wok x (List.mem_of_getElem? q)).1
        rw [h] at this
        cases this
    -- what is told where something does not fit
    obtain ⟨cs, ecs⟩ : ∃ cs, cs = p.2.1 ++ [p.2.2] := ⟨_, rfl⟩
    have lcs : cs.length = ws.length + 1 := by rw [ecs, List.length_append, List.length_singleton, cl]
    have fin : ∀ (j q : Nat), rowE lw (decide ((if lw = true then nt else nf) = 6)) ws = some j → q = min j ws.length → ∀ H' t, Same H H' → H' t = some (.tup [nV p.1, nV (cs.getD q 0)]) → Q (.ref t) H' := fun j q hj hq H' t s e => by
      rw [hj] at ed
      rcases k with ⟨p2, e2, k⟩ | ⟨e2, _⟩
      · rw [ed] at e2
        cases e2
        refine k H' t s ?_
        rw [e, hq, ecs]
      · rw [ed] at e2
        cases e2
    have ixc : ∀ (q : Nat), q ≤ ws.length → (cs.map nV)[q]? = some (nV (cs.getD q 0)) := fun q hq => by
      rw [List.getElem?_map, List.getElem?_eq_getElem (by omega), List.getD_eq_getElem?_getD, List.getElem?_eq_getElem (by omega)]
      rfl
    refine rd_gtup et rfl ?_
    walk_at "rd"
    refine rd_gtup (s04 _ _ etp) rfl ?_
    walk_at "rd"
    refine rd_newL (by simp) fun e1 H5 _ s5 ee1 _ => ?_
    refine rd_cat ((s04.trans s5) _ _ ec) ee1 (by rw [List.length_map, List.length_singleton, cl]; omega) fun C H6 hC s6 eC _ => ?_
    have eC : H6 C = some (.lst (cs.map nV)) := by rw [eC, ecs, List.map_append]; rfl
    walk_at "rd"
    have s06 := s04.trans (s5.trans s6)
    have eD6 : H6 D = some (.dK (dS (cntD nf nt))) := (s4.trans (s5.trans s6)) _ _ eD3
    have erk : H6 r = some (.lst (ws.map wV)) := s06 _ _ er
    -- the word that must stand first
    refine ⟨fun σ H' => Same H6 H' ∧ ∃ Kn, H' Kn = some (.lst ([keyW lw].map wV)) ∧ σ = [some (.ref L), some (.ref P), some (.int (m : Nat)), some (.ref D), some (.bl late), some (.ref r), some (nV p.1), some (.ref C), some (nV p.2.2), some (.ref Kn), v10, v11, v12, v13], ?_, ?_⟩
    · cases late with
      | true =>
        have e2 : lw = true := elw
        walk_at "rd"
        refine rd_newL (by simp) fun Kn H7 _ s7 eK _ => ?_
        refine ⟨s7, Kn, ?_, rfl⟩
        rw [eK, thenW, e2]
        rfl
      | false =>
        have e2 : lw = decide (ws.getD 0 [] = wThen) := by rw [elw]; show (false || decide (ws.getD 0 [] = wThen)) = _; rw [Bool.false_or]
        walk_at "rd"
        refine rd_slL (SqL.of erk) fun z H7 _ s7 ez _ => ?_
        rw [cut_sl0] at ez
        walk_at "rd"
        refine rd_newL (by simp) fun z2 H8 _ s8 ez2 _ => ?_
        refine rd_eqW (xs := sl1 ws 0) (ys := [wThen]) (s8 _ _ ez) (by rw [ez2, thenW]; rfl) (fun w hw => chw w (sl1_mem w hw)) (by decide) ?_
        rw [show decide (sl1 ws 0 = [wThen]) = lw by
          rw [e2]
          by_cases q : ws.getD 0 [] = wThen
          · rw [decide_eq_true q, decide_eq_true ((sl1_eq (by decide)).mpr q)]
          · rw [decide_eq_false q, decide_eq_false (fun y => q ((sl1_eq (by decide)).mp y))]]
        walk_at "rd"
        cases hl : lw with
        | true =>
          walk_at "rd"
          refine rd_newL (by simp) fun Kn H9 _ s9 eK _ => ?_
          refine ⟨s7.trans (s8.trans s9), Kn, ?_, rfl⟩
          rw [eK, thenW]
          rfl
        | false =>
          walk_at "rd"
          refine rd_newL (by simp) fun Kn H9 _ s9 eK _ => ?_
          refine ⟨s7.trans (s8.trans s9), Kn, ?_, rfl⟩
          rw [eK, fstW]
          rfl
    clear eD3
    rintro σ H7 ⟨s7, Kn, eK, rfl⟩
    have s07 := s06.trans s7
    have kne : keyW lw ≠ [] := by cases lw <;> decide
    have kch : ∀ w ∈ [keyW lw], ∀ c ∈ w, c < 1114112 := by cases lw <;> decide
    walk_at "rd"
    refine rd_slL (SqL.of (s7 _ _ erk)) fun z H8 _ s8 ez _ => ?_
    rw [cut_sl0] at ez
    walk_at "rd"
    refine rd_neW (xs := sl1 ws 0) (ys := [keyW lw]) ez (s8 _ _ eK) (fun w hw => chw w (sl1_mem w hw)) kch ?_
    walk_at "rd"
    have s08 := s07.trans s8
    have eC8 : H8 C = some (.lst (cs.map nV)) := (s7.trans s8) _ _ eC
    have badN : ∀ (j : Nat), rowE lw (decide ((if lw = true then nt else nf) = 6)) ws = some j → ∀ (q : Nat) (H9 : Hp) (σ' : L2.St) (z : Int), Same H H9 → H9 C = some (.lst (cs.map nV)) → q = min j ws.length → z = (q : Nat) → rIxL K (.ref C) (.int z) H9 fun x H1 => tNil σ' H1 fun xs H2 => rNewT Q (nV p.1 :: x :: xs) H2 := fun j hj q H9 σ' z s9 e9 hq hz => by
      rw [hz]
      refine rd_ixL e9 (atI_nat' (ixc q (by omega))) ?_
      walk_at "rd"
      refine rd_newT (by simp) fun t H9 _ s10 et2 _ => ?_
      exact fin j q hj hq H9 t (s9.trans s10) et2
    by_cases w0 : ws.getD 0 [] = keyW lw
    rotate_left
    · refine rd_iteNT (fun q => w0 ((sl1_eq kne).mp q)) ?_
      walk_at "rd"
      refine badN 0 ?_ 0 H8 _ 0 s08 eC8 (by omega) rfl
      unfold rowE
      by_cases q : (if lw = true then nt else nf) = 6
      · rw [if_pos (decide_eq_true q)]
      · rw [if_neg (by rw [decide_eq_false q]; exact Bool.false_ne_true)]
        exact if_pos w0
    refine rd_iteNF ((sl1_eq kne).mpr w0) ?_
    walk_at "rd"
    refine rd_ixL (s8 _ _ eK) (v := wV (keyW lw)) (by rfl) ?_
    refine rd_dgetT (.inl ((s7.trans s8) _ _ eD6)) (cnt_at nf nt lw) ?_
    walk_at "rd"
    by_cases w1 : (if lw = true then nt else nf) = 6
    · refine rd_iteT (by omega) ?_
      walk_at "rd"
      refine badN 0 ?_ 0 H8 _ 0 s08 eC8 (by omega) rfl
      unfold rowE
      rw [if_pos (decide_eq_true w1)]
    refine rd_iteF (by omega) ?_
    have fu : decide ((if lw = true then nt else nf) = 6) = false := decide_eq_false w1
    rw [fu] at fin ed badN
    walk_at "rd"
    refine rd_newL (by simp) fun z2 H9 _ s9 ez2 _ => ?_
    refine rd_eqW (xs := [keyW lw]) (ys := [wThen]) ((s8.trans s9) _ _ eK) (by rw [ez2, thenW]; rfl) kch (by decide) ?_
    rw [show decide ([keyW lw] = [wThen]) = lw by cases lw <;> decide]
    walk_at "rd"
    refine rd_ixL ((s8.trans s9) _ _ eK) (v := wV (keyW lw)) (by rfl) ?_
    refine rd_daugS ((s7.trans (s8.trans s9)) _ _ eD6) (cnt_at nf nt lw) (by show 2 < 100000; decide) fun HA eHA eDA => ?_
    rw [cnt_put] at eHA eDA
    have s09 := s08.trans s9
    have hD0 : H D = none := hD
    have s0A : Same H HA := by rw [eHA]; exact Same.mut s09 hD0
    have nD : ∀ {a : Addr} {o : HO}, H9 a = some o → (∀ ks, o ≠ .dK ks) → HA a = some o := fun {a o} e n => by
      rw [eHA, upd_ne (fun q => by rw [q, (s7.trans (s8.trans s9)) _ _ eD6] at e; cases e; exact n _ rfl)]
      exact e
    have eCA : HA C = some (.lst (cs.map nV)) := nD (s9 _ _ eC8) (fun ks q => by cases q)
    have erA : HA r = some (.lst (ws.map wV)) := s0A _ _ er
    walk_at "rd"
    refine rd_newT (by simp) fun T1 HB _ sB eT1 _ => ?_
    walk_at "rd"
    refine rd_newT (by simp) fun T2 HC _ sC eT2 _ => ?_
    walk_at "rd"
    refine rd_newT (by simp) fun TT HD _ sD eTT _ => ?_
    refine rd_tpR (SqT.of eTT) ?_
    have sAD := sB.trans (sC.trans sD)
    have s0D : Same H HD := s0A.trans sAD
    have eCD : HD C = some (.lst (cs.map nV)) := sAD _ _ eCA
    have erD : HD r = some (.lst (ws.map wV)) := sAD _ _ erA
    have nw0 : ¬ ws.getD 0 [] ≠ (if lw = true then wThen else wFirst) := fun q => q w0
    refine forR_tup (xs := [.ref T1, .ref T2]) (fun j σ H' => Same HD H' ∧ (1 ≤ j → ws.getD 1 [] = wAt ∧ numIn (ws.getD 2 []) 2 12 = true) ∧ (2 ≤ j → ws.getD 3 [] = wBake ∧ numIn (ws.getD 4 []) 2 (valD (ws.getD 2 [])) = true) ∧ ∃ v10 v11 v12 v13 : Option V,
      σ = [some (.ref L), some (.ref P), some (.int (m : Nat)), some (.ref D), some (.bl lw), some (.ref r), some (nV p.1), some (.ref C), some (nV p.2.2), some (.ref Kn), v10, v11, v12, v13]) (fun j σ H' ⟨s, _⟩ => SqT.of (s _ _ eTT)) ⟨Same.refl _, (fun q => absurd q (by decide)), (fun q => absurd q (by decide)), _, _, _, _, rfl⟩ ?_ ?_
    · rintro j x σ HE hj ⟨sE, g1, g2, v10, v11, v12, v13, rfl⟩
      have nin : ∀ {w : List Nat} {lo hi : Nat}, numIn w lo hi = true ↔ (numB w = true ∧ lo ≤ valD w ∧ valD w ≤ hi) := fun {w lo hi} => by
        unfold numIn
        rw [Bool.and_eq_true, Bool.and_eq_true, decide_eq_true_iff, decide_eq_true_iff]
      obtain ⟨tj, w, most, rfl, etj, wne2, wch, r1, r2, hmost, nxt⟩ : ∃ (tj : Addr) (w : List Nat) (most : Nat), x = .ref tj ∧ HD tj = some (.tup [.int ((2 * j + 1 : Nat) : Int), wV w]) ∧ w ≠ [] ∧ (∀ x ∈ [w], ∀ c ∈ x, c < 1114112) ∧ (ws.getD (2 * j + 1) [] ≠ w → rowE lw false ws = some (2 * j + 1)) ∧
          (ws.getD (2 * j + 1) [] = w → numIn (ws.getD (2 * j + 2) []) 2 most = false → rowE lw false ws = some (2 * j + 2)) ∧ ((j = 0 ∧ most = 12) ∨ (j = 1 ∧ most = valD (ws.getD 2 []) ∧ numIn (ws.getD 2 []) 2 12 = true)) ∧
          (ws.getD (2 * j + 1) [] = w → numIn (ws.getD (2 * j + 2) []) 2 most = true → (1 ≤ j + 1 → ws.getD 1 [] = wAt ∧ numIn (ws.getD 2 []) 2 12 = true) ∧ (2 ≤ j + 1 → ws.getD 3 [] = wBake ∧ numIn (ws.getD 4 []) 2 (valD (ws.getD 2 [])) = true)) := by
        match j, hj with
        | 0, hj =>
          cases hj
          refine ⟨T1, wAt, 12, rfl, by rw [(sC.trans sD) _ _ eT1, atW]; rfl, by decide, by decide, fun q => ?_, fun q1 q2 => ?_, .inl ⟨rfl, rfl⟩, fun q1 q2 => ⟨fun _ => ⟨q1, q2⟩, fun q => absurd q (by decide)⟩⟩
          · unfold rowE
            rw [if_neg Bool.false_ne_true, if_neg nw0]
            exact if_pos q
          · unfold rowE
            rw [if_neg Bool.false_ne_true, if_neg nw0, if_neg (fun q => q q1)]
            exact if_pos q2
        | 1, hj =>
          cases hj
          obtain ⟨a1, a2⟩ := g1 (Nat.le_refl 1)
          have n2 : ¬ numIn (ws.getD 2 []) 2 12 = false := fun q => by rw [a2] at q; cases q
          refine ⟨T2, wBake, valD (ws.getD 2 []), rfl, by rw [sD _ _ eT2, bakeW]; rfl, by decide, by decide, fun q => ?_, fun q1 q2 => ?_, .inr ⟨rfl, rfl, a2⟩, fun q1 q2 => ⟨fun _ => ⟨a1, a2⟩, fun _ => ⟨q1, q2⟩⟩⟩
          · unfold rowE
            rw [if_neg Bool.false_ne_true, if_neg nw0, if_neg (fun q => q a1), if_neg n2]
            exact if_pos q
          · unfold rowE
            rw [if_neg Bool.false_ne_true, if_neg nw0, if_neg (fun q => q a1), if_neg n2, if_neg (fun q => q q1)]
            exact if_pos q2
        | j + 2, hj => simp at hj
      have s0E := s0D.trans sE
      refine rd_gtup (sE _ _ etj) rfl ?_
      walk_at "rd"
      refine rd_slL (SqL.of (sE _ _ erD)) fun z1 HF _ sF ez1 _ => ?_
      rw [cut_sl1] at ez1
      walk_at "rd"
      refine rd_newL (by simp) fun z2 HG _ sG ez2 _ => ?_
      refine rd_neW (xs := sl1 ws (2 * j + 1)) (ys := [w]) (sG _ _ ez1) ez2 (fun w hw => chw w (sl1_mem w hw)) wch ?_
      walk_at "rd"
      have sEG := sE.trans (sF.trans sG)
      by_cases a1 : ws.getD (2 * j + 1) [] = w
      rotate_left
      · refine rd_iteNT (fun q => a1 ((sl1_eq wne2).mp q)) ?_
        walk_at "rd"
        refine rd_lenL (sEG _ _ erD) ?_
        rw [List.length_map]
        walk_at "rd"
        exact badN (2 * j + 1) (r1 a1) _ HG _ _ (s0D.trans sEG) (sEG _ _ eCD) rfl (by omega)
      refine rd_iteNF ((sl1_eq wne2).mpr a1) ?_
      walk_at "rd"
      refine rd_slL (SqL.of (sEG _ _ erD)) fun N HI _ sI eN _ => ?_
      rw [show ((2 * j + 1 : Nat) : Int) + 1 = ((2 * j + 2 : Nat) : Int) by omega, show ((2 * j + 1 : Nat) : Int) + 2 = ((2 * j + 2 : Nat) : Int) + 1 by omega, cut_sl1] at eN
      walk_at "rd"
      have sEI := sEG.trans sI
      refine ⟨fun σ H' => H' = HI ∧ σ = [some (.ref L), some (.ref P), some (.int (m : Nat)), some (.ref D), some (.bl lw), some (.ref r), some (nV p.1), some (.ref C), some (nV p.2.2), some (.ref Kn), some (.int ((2 * j + 1 : Nat) : Int)), some (wV w), some (.ref N), some (nV most)], ?_, ?_⟩
      · walk_at "rd"
        rcases hmost with ⟨rfl, rfl⟩ | ⟨rfl, rfl, a2⟩
        · refine rd_iteT (by decide) ?_
          walk_at "rd"
          exact ⟨rfl, rfl⟩
        · obtain ⟨b1, b2, b3⟩ := nin.mp a2
          have ne2 : ws.getD 2 [] ≠ [] := fun q => by rw [q] at b1; cases b1
          have ok2 := tkw 2 ne2
          refine rd_iteF (by decide) ?_
          walk_at "rd"
          refine rd_ixL (sEI _ _ erD) (v := wV (ws.getD 2 [])) (atI_nat' (i := 2) (by rw [List.getElem?_map, getD_some ne2]; rfl)) ?_
          walk_at "rd"
          refine rd_intS (int_tok ok2.1 b1) (by rw [str_len]; exact Nat.le_trans ok2.2.1 (by decide)) ?_
          exact ⟨rfl, rfl⟩
      rintro σ _ ⟨rfl, rfl⟩
      walk_at "rd"
      refine rd_newL (by simp) fun z3 HJ _ sJ ez3 _ => ?_
      refine rd_eqW (xs := sl1 ws (2 * j + 2)) (ys := []) (sJ _ _ eN) ez3 (fun w hw => chw w (sl1_mem w hw)) (by decide) ?_
      walk_at "rd"
      have sEJ := sEI.trans sJ
      have retN : numIn (ws.getD (2 * j + 2) []) 2 most = false → ∀ HK, Same HJ HK → ∀ σ' : L2.St, rIxL K (.ref C) (.int (min (((2 * j + 1 : Nat) : Int) + 1) (ws.length : Nat))) HK fun x H1 => tNil σ' H1 fun xs H2 => rNewT Q (nV p.1 :: x :: xs) H2 := fun hn HK sK σ' =>
        badN (2 * j + 2) (r2 a1 hn) (min (2 * j + 2) ws.length) HK σ' _ (s0D.trans (sEJ.trans sK)) ((sEJ.trans sK) _ _ eCD) rfl (by omega)
      by_cases a2 : ws.getD (2 * j + 2) [] = []
      · refine rd_iteT (sl1_none ((nil_iff _).mpr a2)) ?_
        walk_at "rd"
        refine rd_lenL (sEJ _ _ erD) ?_
        rw [List.length_map]
        walk_at "rd"
        exact retN (by rw [a2]; rfl) HJ (Same.refl _) _
      have ok2 := tkw _ a2
      have es : sl1 ws (2 * j + 2) = [ws.getD (2 * j + 2) []] := sl1_some (getD_some a2)
      rw [es] at eN
      refine rd_iteF (by rw [es]; simp) ?_
      walk_at "rd"
      refine rd_ixL (sJ _ _ eN) (v := wV (ws.getD (2 * j + 2) [])) (by rfl) ?_
      walk_at "rd"
      refine ⟨_, rfl, ok2.1, ok2.2.1, fun HK sK => ?_⟩
      walk_at "rd"
      cases nb : numB (ws.getD (2 * j + 2) []) with
      | false =>
        walk_at "rd"
        refine rd_lenL ((sEJ.trans sK) _ _ erD) ?_
        rw [List.length_map]
        walk_at "rd"
        exact retN (by unfold numIn; rw [nb]; rfl) HK sK _
      | true =>
        walk_at "rd"
        refine rd_ixL ((sJ.trans sK) _ _ eN) (v := wV (ws.getD (2 * j + 2) [])) (by rfl) ?_
        walk_at "rd"
        refine rd_intS (int_tok ok2.1 nb) (by rw [str_len]; exact Nat.le_trans ok2.2.1 (by decide)) ?_
        walk_at "rd"
        obtain ⟨n, en⟩ : ∃ n, n = valD (ws.getD (2 * j + 2) []) := ⟨_, rfl⟩
        have nie : numIn (ws.getD (2 * j + 2) []) 2 most = (decide (2 ≤ n) && decide (n ≤ most)) := by
          unfold numIn
          rw [nb, ← en, Bool.true_and]
        rw [← en]
        by_cases b1 : 2 ≤ n
        · refine rd_iteT (by omega) ?_
          walk_at "rd"
          by_cases b2 : n ≤ most
          · refine rd_iteNF (by omega) ?_
            walk_at "rd"
            obtain ⟨x1, x2⟩ := nxt a1 (by rw [nie, decide_eq_true b1, decide_eq_true b2]; rfl)
            exact ⟨sEJ.trans sK, x1, x2, _, _, _, _, rfl⟩
          · refine rd_iteNT (by omega) ?_
            walk_at "rd"
            refine rd_lenL ((sEJ.trans sK) _ _ erD) ?_
            rw [List.length_map]
            walk_at "rd"
            exact retN (by rw [nie, decide_eq_false b2, Bool.and_false]) HK sK _
        · refine rd_iteF (by omega) ?_
          walk_at "rd"
          refine rd_lenL ((sEJ.trans sK) _ _ erD) ?_
          rw [List.length_map]
          walk_at "rd"
          exact retN (by rw [nie, decide_eq_false b1, Bool.false_and]) HK sK _
    · rintro σ HE ⟨sE, g1, g2, v10, v11, v12, v13, rfl⟩
      obtain ⟨a1, a2⟩ := g1 (by show 1 ≤ 2; decide)
      obtain ⟨a3, a4⟩ := g2 (by show 2 ≤ 2; decide)
      have n2 : ¬ numIn (ws.getD 2 []) 2 12 = false := fun q => by rw [a2] at q; cases q
      have n4 : ¬ numIn (ws.getD 4 []) 2 (valD (ws.getD 2 [])) = false := fun q => by rw [a4] at q; cases q
      walk_at "rd"
      refine rd_lenL (sE _ _ erD) ?_
      rw [List.length_map]
      walk_at "rd"
      have r5 : rowE lw false ws = if ws.getD 5 [] ≠ [] then some 5 else none := by
        unfold rowE
        rw [if_neg Bool.false_ne_true, if_neg nw0, if_neg (fun q => q a1), if_neg n2, if_neg (fun q => q a3), if_neg n4]
      by_cases c5 : ws.getD 5 [] = []
      · have l5 : ws.length ≤ 5 := List.getElem?_eq_none_iff.mp ((nil_iff 5).mpr c5)
        refine rd_iteF (by omega) ?_
        walk_at "rd"
        rw [if_neg (fun q => q c5)] at r5
        rw [r5] at ed
        have ed : dueL m 0 0 false ls ps = if lw = true then dueL m nf (nt + 1) true (ls.drop (i + 1)) (ps.drop (i + 1)) else dueL m (nf + 1) nt false (ls.drop (i + 1)) (ps.drop (i + 1)) := ed
        have eDE : HE D = some (.dK (dS (if lw = true then cntD nf (nt + 1) else cntD (nf + 1) nt))) := (sAD.trans sE) _ _ eDA
        cases lw with
        | true => exact ⟨s0D.trans sE, nf, nt + 1, true, _, _, _, _, _, _, _, _, _, eDE, ed, rfl⟩
        | false => exact ⟨s0D.trans sE, nf + 1, nt, false, _, _, _, _, _, _, _, _, _, eDE, ed, rfl⟩
      · have l5 : 5 < ws.length := (List.getElem?_eq_some_iff.mp (getD_some c5)).1
        refine rd_iteT (by omega) ?_
        walk_at "rd"
        exact badN 5 (by rw [r5, if_pos c5]) 5 HE _ _ (s0D.trans sE) (sE _ _ eCD) (by omega) rfl
  · rintro σ H3 ⟨s3, nf, nt, late, v5, v6, v7, v8, v9, v10, v11, v12, v13, eD3, ed, rfl⟩
    rw [List.drop_length, List.drop_of_length_le (by omega)] at ed
    have ed : dueL m 0 0 false ls ps = if nt = 0 then some (m + 1, 1) else none := ed
    walk_at "rd"
    have et : valV (dS (cntD nf nt)) (Sum.inr "then") = some (nV nt) := by
      have := cnt_at nf nt true
      rw [show (⟨(keyW true).toArray⟩ : Str) = "then" by decide +kernel] at this
      exact this
    refine rd_dgetT (.inl eD3) et ?_
    walk_at "rd"
    by_cases c : nt = 0
    · refine rd_iteF (by omega) ?_
      walk_at "rd"
      refine rd_newT (by simp) fun t H4 _ s4 et _ => ?_
      rw [if_pos c] at ed
      rcases k with ⟨p, e2, k⟩ | ⟨e2, _⟩
      · rw [ed] at e2
        cases e2
        exact k H4 t (s3.trans s4) et
      · rw [ed] at e2
        cases e2
    · refine rd_iteT (by omega) ?_
      walk_at "rd"
      rw [if_neg c] at ed
      rcases k with ⟨p, e2, _⟩ | ⟨_, k⟩
      · rw [ed] at e2
        cases e2
      · exact k H3 s3
end
end Sl
set_option Elab.async false
set_option linter.all false
set_option maxRecDepth 100000
set_option maxHeartbeats 8000000
set_option exponentiation.threshold 9000
namespace Sl
open PySem L2 C8 StX SiltT
local macro_rules | `(tactic| walk_at "side") => `(tactic| first
  | exact cdivw (by omega) (by omega)
  | exact cmulw (by omega) (by omega) (by omega) (by omega)
  | exact Or.inr ⟨by omega, by omega⟩
  | exact Or.inl ⟨by omega, by omega⟩
  | omega
  | exact ⟨by omega, by omega, by decide⟩
  | decide)
local macro_rules | `(tactic| walk_at "rd1") => `(tactic| first
  | with_reducible refine rd_seq ?_
  | with_reducible refine rd_asg ?_
  | with_reducible refine rd_drop ?_
  | with_reducible refine rd_ret ?_
  | with_reducible refine rd_retN ?_
  | with_reducible refine rd_ifS ?_
  | ((with_reducible refine rd_var0 ?_); refine ⟨_, rfl, ?_⟩)
  | with_reducible refine rd_c ?_
  | with_reducible refine rd_op ?_
  | with_reducible refine rd_un ?_
  | with_reducible refine rd_I0 ?_
  | with_reducible refine rd_U ?_
  | ((with_reducible refine rd_I ?c ?_); (case c => walk_at "side"))
  | with_reducible refine rd_ipI ?_
  | with_reducible refine rd_eqI ?_
  | with_reducible refine rd_neI ?_
  | with_reducible refine rd_test ?_
  | with_reducible refine rd_tB ?_
  | with_reducible refine rd_bl ?_
  | with_reducible refine rd_not ?_
  | with_reducible refine rd_and ?_
  | with_reducible refine rd_or ?_
  | with_reducible refine rd_andV ?_
  | with_reducible refine rd_orV ?_
  | with_reducible refine rd_notV ?_
  | with_reducible refine rd_ifE ?_
  | with_reducible refine rd_chain ?_
  | with_reducible refine rd_chain3 ?_
  | with_reducible refine rd_nil ?_
  | with_reducible refine rd_cons ?_
  | with_reducible refine rd_call ?_
  | with_reducible refine rd_CB ?_
  | with_reducible refine rd_par ?_
  | with_reducible refine rd_par2 ?_
  | with_reducible refine rd_par3 ?_
  | with_reducible refine rd_par4 ?_
  | ((with_reducible refine rd_aug0 ?_); refine ⟨_, rfl, ?_⟩)
  | with_reducible refine rd_gname ?_
  | with_reducible refine rd_gcons ?_
  | with_reducible refine rd_gnil ?_
  | with_reducible refine rd_max ?_
  | with_reducible refine rd_min ?_
  | with_reducible refine rd_int1 ?_
  | with_reducible refine rd_abs ?_
  | with_reducible refine rd_lst ?_
  | with_reducible refine rd_tup ?_
  | with_reducible refine rd_bm ?_
  | with_reducible refine rd_fld0 ?_
  | with_reducible refine rd_sl0 ?_
  | with_reducible refine rd_noP ?_
  | with_reducible refine rd_part ?_
  | with_reducible refine rd_part2 ?_
  | with_reducible refine rd_meth0 ?_
  | with_reducible refine rd_star ?_
  | with_reducible refine rd_for ?_
  | with_reducible refine rd_rng1 ?_
  | with_reducible refine rd_rng2 ?_
  | with_reducible refine rd_rng3 ?_
  | with_reducible refine rd_iList ?_
  | with_reducible refine rd_iTup ?_
  | with_reducible refine rd_iEnum ?_
  | with_reducible refine rd_lc ?_
  | with_reducible refine rd_yes ?_
  | with_reducible refine rd_augS ?_
  | with_reducible refine rd_drawNew ?_
  | with_reducible refine rd_make0 ?_
  | with_reducible refine rd_next ?_
  | with_reducible refine rd_break ?_
  | with_reducible refine rd_cont ?_
  | with_reducible refine rd_iteTT ?_
  | with_reducible refine rd_iteFF ?_
  | with_reducible refine rd_iteNTT ?_
  | with_reducible refine rd_iteNFF ?_
  | with_reducible refine rd_con0 ?_
  | with_reducible refine rd_truO0 ?_
  | with_reducible refine rd_gfld0 ?_
  | with_reducible refine rd_dc ?_
  | with_reducible refine rd_iKeys ?_
  | with_reducible refine rd_dget0 ?_
  | with_reducible refine rd_dput0 ?_
  | with_reducible refine rd_dnot0 ?_
  | with_reducible refine rd_iEnumT ?_
  | with_reducible refine rd_raP0 ?_
  | with_reducible refine rd_xf0 ?_
  | with_reducible refine rd_cKw ?_
  | with_reducible refine rd_iStr ?_
  | with_reducible refine rd_gSub ?_
  | with_reducible refine rd_asgG ?_)
local macro_rules | `(tactic| walk_at "rd") => `(tactic| repeat walk_at "rd1")
local macro_rules | `(tactic| walk_at "len") => `(tactic| first
  | (intro vs H Q E h; obtain ⟨h2, _⟩ := h; rw [h2]; rfl)
  | (intro vs H Q E h; obtain ⟨_, h2, _⟩ := h; rw [h2]; rfl)
  | (intro vs H Q E h; obtain ⟨_, _, h2, _⟩ := h; rw [h2]; rfl)
  | (intro vs H Q E h; obtain ⟨_, _, _, h2, _⟩ := h; rw [h2]; rfl)
  | (intro vs H Q E h; obtain ⟨_, _, _, _, h2, _⟩ := h; rw [h2]; rfl)
  | (intro vs H Q E h; obtain ⟨_, _, _, _, _, h2, _⟩ := h; rw [h2]; rfl)
  | (intro vs H Q E h; obtain ⟨_, _, _, _, _, _, h2, _⟩ := h; rw [h2]; rfl)
  | (intro vs H Q E h; obtain ⟨_, _, _, _, _, _, _, h2, _⟩ := h; rw [h2]; rfl)
  | (intro vs H Q E h; obtain ⟨_, _, _, _, _, _, _, _, h2, _⟩ := h; rw [h2]; rfl)
  | (intro vs H Q E h; obtain ⟨_, _, _, _, _, _, _, _, _, h2, _⟩ := h; rw [h2]; rfl)
  | (intro vs H Q E h; obtain ⟨_, _, _, _, _, _, _, _, _, _, h2, _⟩ := h; rw [h2]; rfl)
  | (intro vs H Q E h; obtain ⟨_, _, _, _, _, _, _, _, _, _, _, h2, _⟩ := h; rw [h2]; rfl)
  | (intro vs H Q E h; obtain ⟨_, _, _, _, _, _, _, _, _, _, _, _, h2, _⟩ := h; rw [h2]; rfl))
/-! lines that are bent -/
theorem rd_repL9 {H : Hp} {Q : VK} {l : Addr} {k : Int} {r : Nat} {xs : List V} (hk : k = (r : Int)) (e : H l = some (.lst xs)) (h1 : xs.length * r ≤ 10000) (h2 : r ≤ 10000) (h : ∀ p H', H p = none → Same H H' → H' p = some (.lst (List.replicate r xs).flatten) → Q (.ref p) H') : rRep (.ref l) (.int k) H Q := by
  subst hk
  refine ⟨l, _, xs, rfl, rfl, e, by omega, by omega, Nat.le_trans (show _ ≤ 10000 from h1) (by decide), fun p hp => ?_⟩
  exact h p _ hp (Same.new (Same.refl H) hp) upd_same
theorem rd_lstOf9 {K : PySem.W.Frag} {H : Hp} {Q : VK} {a : Addr} {xs : List V} (e : H a = some (.lst xs)) (h : ∀ p H', H p = none → Same H H' → H' p = some (.lst xs) → Q (.ref p) H') : rLstOf K [.ref a] H Q := ⟨a, xs, rfl, .inl (SqL.of e), fun p hp => h p _ hp (Same.new (Same.refl H) hp) upd_same⟩
theorem cut_drop9 {xs : List V} {m : Nat} : cutV xs (some (m : Int)) none = xs.drop m := by
  unfold cutV
  have e1 : HT.sIx xs.length xs.length none = xs.length := rfl
  rw [e1, HT.sIx_nat]
  by_cases c : m ≤ xs.length
  · rw [Nat.min_eq_left c, List.take_of_length_le (by rw [List.length_drop]; exact Nat.le_refl _)]
  · rw [Nat.min_eq_right (by omega), List.drop_of_length_le (Nat.le_refl _), List.drop_of_length_le (by omega)]
    simp
def bentW : List (List Nat) := [[116, 104, 101, 110], [102, 105, 114, 115, 116], [97, 116], [98, 97, 107, 101], [48], [49], [48, 50], [49, 51], [120], [55], [33]]
theorem bent_ok : ∀ w ∈ bentW, OkWd w := by
  unfold OkWd
  decide
/-- rows that have just been made -/
structure FrP (H H' : Hp) (F : Addr) (rs : List Addr) (ls : List (List (List Nat))) : Prop where
  len : rs.length = ls.length
  row : ∀ (i : Nat) r, rs[i]? = some r → H r = none ∧ r ≠ F ∧ ∃ ws, ls[i]? = some ws ∧ H' r = some (.lst (ws.map wV))
  nod : ∀ (i j : Nat) r, rs[i]? = some r → rs[j]? = some r → i = j
theorem FrP.mono {H H1 H2 : Hp} {F : Addr} {rs : List Addr} {ls : List (List (List Nat))} (s : Same H1 H2) (h : FrP H H1 F rs ls) : FrP H H2 F rs ls := ⟨h.len, fun i r hr => by
  obtain ⟨a, b, ws, c, d⟩ := h.row i r hr
  exact ⟨a, b, ws, c, s _ _ d⟩, h.nod⟩
theorem FrP.it {H H1 : Hp} {F : Addr} {rs : List Addr} {ls : List (List (List Nat))} (h : FrP H H1 F rs ls) : ItX LnP H1 (rs.map V.ref) ls := ⟨by rw [List.length_map, h.len], fun i x y hx hy => by
  rw [List.getElem?_map] at hx
  cases q : rs[i]? with
  | none => rw [q] at hx; cases hx
  | some r =>
    rw [q] at hx
    cases hx
    obtain ⟨_, _, ws, e1, e2⟩ := h.row i r q
    rw [hy] at e1
    cases e1
    exact ⟨r, rfl, e2⟩⟩
/-- lines that may be laid -/
def OkLs (bs : List (List (List Nat))) : Prop := bs.length ≤ 10 ∧ ∀ ws ∈ bs, ws.length ≤ 6 ∧ ∀ w ∈ ws, OkWd w
def spBent (K : PySem.W.Frag) : Sp := fun vs H Q _ => ∃ (a L : Addr) (xs : List V) (ls : List (List (List Nat))), vs = [.ref a, .ref L] ∧ DrawP K H a ∧ H L = some (.lst xs) ∧ ItX LnP H xs ls ∧ ls ≠ [] ∧ ls.length ≤ 4 ∧ (∀ ws ∈ ls, ws.length = 5 ∧ ∀ w ∈ ws, OkWd w) ∧
  ∀ H' B us bs, Same H H' → H' B = some (.lst us) → ItX LnP H' us bs → OkLs bs → (∀ ws ∈ bs, ws ≠ []) → Q (.ref B) H'
section
variable {P : Program} {w : World} {K : PySem.W.Frag} {mg : Str → Option Value} {base : Heap} {C_Rule C_Reader C_BadText : Addr}
theorem cal__law_bent (T : TX P K mg C_Rule C_Reader C_BadText) : Cal P w K mg base 8 "_law_bent" (spBent K) [] := by
  obtain ⟨f0, fd, D, dn⟩ := T.d__law_bent
  have G__law_take := cal__law_take (P := P) (w := w) (base := base) T
  have G__law_pick := cal__law_pick (P := P) (w := w) (base := base) T
  refine cal0 D (D.fn.binds dn fun _ _ _ _ _ _ us hl => match us, hl with | [_, _], _ => rfl) .nil sc__law_bent (by walk_at "len") (fun cdv A outer s H vs Q E hr h => ?_)
  obtain ⟨a, L, xs, ls, rfl, dr, eL, iL, lne, ll, okl, k⟩ := h
  have l0 : 0 < ls.length := List.length_pos_iff.mpr lne
  refine ⟨_, (pss_cut (ps_setLc (i := 2) (own := [("_law_words", 3)]) (g := gName 3) (tt := tYes) rfl sc__law_bent.nd rfl rfl (sw_true rfl rfl rfl (by decide +kernel)) (pi_list (pv 1)) (blkOk_by (own := [("_law_words", 3)]) (N := N__law_bent) (sc := fnScope s__law_bent) (by decide +kernel)) (fun _ _ _ _ _ => (pg_n 3 sc__law_bent.nd)) (fun _ _ _ _ _ => pts_nil) (fun _ _ _ _ _ => (pe_callTy (callK rLstOf K cr_lstOf) (by rfl) T.b_list (by decide +kernel) (pa_cons (pv 3) pa_nil))))
      (pss_cons (ps_par (i := 4) (j := 5) rfl sc__law_bent.nd rfl rfl (by decide) rfl rfl (pa_cons (pe_c G__law_take hr (by decide) rfl (pa_cons (pv 0) (pa_cons pe_int pa_nil))) (pa_cons (pe_c G__law_take hr (by decide) rfl (pa_cons (pv 0) (pa_cons (pe_callB cr_lenS (by rfl) T.b_len (by decide +kernel) (pa_cons (pv 2) pa_nil)) pa_nil))) pa_nil)) (by rfl))
      (pss_cons (ps_s 6 sc__law_bent.nd (pe_c G__law_take hr (by decide) rfl (pa_cons (pv 0) (pa_cons (pe_callB cr_lenS (by rfl) T.b_len (by decide +kernel) (pa_cons (pe_ix ix_list (pv 2) (pv 5) (fun _ _ => rfl)) pa_nil)) pa_nil))))
      (pss_cons (ps_s 7 sc__law_bent.nd (pe_c G__law_pick hr (by decide) rfl (pa_cons (pv 0) (pa_cons (pe_lst (pa_cons pe_str (pa_cons pe_str (pa_cons pe_str (pa_cons pe_str (pa_cons pe_str (pa_cons pe_str (pa_cons pe_str (pa_cons pe_str (pa_cons pe_str (pa_cons pe_str (pa_cons pe_str pa_nil)))))))))))) pa_nil))))
      (pss_cut (ps_if (pt_cmpR op_eq (pv 4) pe_int (nomark _)) (pss_one (ps_asg (pv 7) (pg_sub (pe_ix ix_list (pv 2) (pv 5) (fun _ _ => rfl)) (pv 6) set_list))) (pss_one (ps_if (pt_cmpR op_eq (pv 4) pe_int (nomark _)) (pss_one (ps_asg (pe_op op_cat (pe_op op_cat (pe_slice sl_list (pe_ix ix_list (pv 2) (pv 5) (fun _ _ => rfl)) po_none (po_some (pv 6))) (pe_lst (pa_cons (pv 7) pa_nil))) (pe_slice sl_list (pe_ix ix_list (pv 2) (pv 5) (fun _ _ => rfl)) (po_some (pv 6)) po_none)) (pg_sub (pv 2) (pv 5) set_list))) (pss_one (ps_if (pt_cmpR op_eq (pv 4) pe_int (nomark _)) (pss_one (ps_asg (pe_op op_cat (pe_slice sl_list (pe_ix ix_list (pv 2) (pv 5) (fun _ _ => rfl)) po_none (po_some (pv 6))) (pe_slice sl_list (pe_ix ix_list (pv 2) (pv 5) (fun _ _ => rfl)) (po_some (pe_op op_add (pv 6) pe_int)) po_none)) (pg_sub (pv 2) (pv 5) set_list))) (pss_one (ps_if (pt_cmpR op_eq (pv 4) pe_int (nomark _)) (pss_one (ps_s 2 sc__law_bent.nd (pe_op op_cat (pe_slice sl_list (pv 2) po_none (po_some (pv 5))) (pe_slice sl_list (pv 2) (po_some (pe_op op_add (pv 5) pe_int)) po_none)))) (pss_one (ps_s 2 sc__law_bent.nd (pe_op op_cat (pv 2) (pe_op op_rep (pe_lst (pa_cons (pe_ix ix_list (pv 2) (pv 5) (fun _ _ => rfl)) pa_nil)) (pe_op op_add pe_int (pe_op op_mul pe_int (pe_c G__law_take hr (by decide) rfl (pa_cons (pv 0) (pa_cons pe_int pa_nil))))))))))))))))
      (pss_one (ps_ret (pe_lc (own := [("_law_words", 3)]) (g := gName 3) (tt := _) rfl sc__law_bent.nd (pi_list (pv 2)) (blkOk_by (own := [("_law_words", 3)]) (N := N__law_bent) (sc := fnScope s__law_bent) (by decide +kernel)) (fun _ _ _ _ _ => (pg_n 3 sc__law_bent.nd)) (fun _ _ _ _ _ => (pts_one (pt_cmpR (opK rNeD K (op_neD hr.units)) (pv 3) (pe_lst pa_nil) (nomark _)))) (fun _ _ _ _ _ => (pv 3)))))))))), ?_⟩
  walk_at "rd"
  refine ⟨fun σ H' => Same H H' ∧ ∃ F rs, H F = none ∧ H' F = some (.lst (rs.map V.ref)) ∧ FrP H H' F rs ls ∧ σ = [some (.ref a), some (.ref L), some (.ref F), none, none, none, none, none], ?_, ?_⟩
  · walk_at "rd"
    refine rd_lsR (SqL.of eL) ?_
    refine lcR_lst (xs := xs) (fun F i H' => Same H H' ∧ ∃ rs, H' F = some (.lst (rs.map V.ref)) ∧ FrP H H' F rs (ls.take i)) (fun F i H' _ ⟨s, _⟩ => SqL.of (s _ _ eL)) (fun F H' _ s e _ => ⟨s, [], e, ⟨by simp, (fun i r h => by cases h), (fun i j r h => by cases h)⟩⟩) ?_ ?_
    · rintro F i x H' hF hx ⟨s1, rs, eF, fr⟩
      obtain ⟨ws, hws, r0, rfl, er0⟩ := iL.getV hx
      have hil : i < ls.length := (List.getElem?_eq_some_iff.mp hws).1
      walk_at "rd"
      refine ⟨rfl, ?_⟩
      walk_at "rd"
      refine rd_lstOf9 (s1 _ _ er0) fun p H2 hp s2 ep => ?_
      have lrs : rs.length = i := by rw [fr.len, List.length_take]; omega
      refine rd_lcE (s2 _ _ eF) (by rw [List.length_map]; omega) fun H3 eH e3 => ?_
      have hpF : p ≠ F := fun q => by rw [q, eF] at hp; cases hp
      have np : ∀ (j : Nat) r, rs[j]? = some r → r ≠ p := fun j r hr q => by
        obtain ⟨_, _, ws, _, e⟩ := fr.row j r hr
        rw [q, hp] at e
        cases e
      refine ⟨by rw [eH]; exact Same.mut (s1.trans s2) hF, rs ++ [p], by rw [e3, List.map_append]; rfl, ?_, fun j r hr => ?_, fun j1 j2 r h1 h2 => ?_⟩
      · rw [List.length_append, lrs, List.length_take, List.length_singleton]
        omega
      · rcases Nat.lt_or_ge j rs.length with c | c
        · rw [List.getElem?_append_left c] at hr
          obtain ⟨b1, b2, ws2, b3, b4⟩ := fr.row j r hr
          refine ⟨b1, b2, ws2, ?_, by rw [eH, upd_ne b2]; exact s2 _ _ b4⟩
          rw [List.getElem?_take] at b3 ⊢
          rw [if_pos (by omega)] at b3
          rw [if_pos (by omega)]
          exact b3
        · rw [List.getElem?_append_right c] at hr
          obtain ⟨m, hm⟩ : ∃ m, m = j - rs.length := ⟨_, rfl⟩
          rw [← hm] at hr
          cases m with
          | succ m => cases hr
          | zero =>
            cases hr
            have hp0 : H p = none := by
              cases q : H p with
              | none => rfl
              | some o => rw [s1 _ _ q] at hp; cases hp
            refine ⟨hp0, hpF, ws, ?_, by rw [eH, upd_ne hpF]; exact ep⟩
            rw [List.getElem?_take, if_pos (by omega), show j = i by omega]
            exact hws
      · have g : ∀ j, (rs ++ [p])[j]? = some r → (j < rs.length ∧ rs[j]? = some r) ∨ (j = rs.length ∧ r = p) := fun j h => by
          rcases Nat.lt_or_ge j rs.length with c | c
          · rw [List.getElem?_append_left c] at h
            exact .inl ⟨c, h⟩
          · rw [List.getElem?_append_right c] at h
            obtain ⟨m, hm⟩ : ∃ m, m = j - rs.length := ⟨_, rfl⟩
            rw [← hm] at h
            cases m with
            | succ m => cases h
            | zero => cases h; exact .inr ⟨by omega, rfl⟩
        rcases g j1 h1 with ⟨c1, d1⟩ | ⟨c1, d1⟩
        · rcases g j2 h2 with ⟨c2, d2⟩ | ⟨c2, d2⟩
          · exact fr.nod j1 j2 r d1 d2
          · exact absurd d2 (np j1 r d1)
        · rcases g j2 h2 with ⟨c2, d2⟩ | ⟨c2, d2⟩
          · exact absurd d1 (np j2 r d2)
          · omega
    · rintro F H1 hF ⟨s1, rs, eF, fr⟩
      rw [iL.1, List.take_length] at fr
      walk_at "rd"
      exact ⟨s1, F, rs, hF, eF, fr, rfl⟩
  rintro σ H1 ⟨s1, F, rs, hF, eF, fr, rfl⟩
  walk_at "rd"
  refine ⟨a, 5, rfl, dr.mono s1, by decide, fun H2 kind s2 k0 k1 => ?_⟩
  walk_at "rd"
  refine rd_lenL (s2 _ _ eF) ?_
  rw [List.length_map, fr.len]
  walk_at "rd"
  refine ⟨a, _, rfl, dr.mono (s1.trans s2), by omega, fun H3 n s3 n0 n1 => ?_⟩
  obtain ⟨at_, rfl⟩ : ∃ m : Nat, n = m := ⟨n.toNat, by omega⟩
  have s13 := s2.trans s3
  have lrs4 : rs.length ≤ 4 := by rw [fr.len]; exact ll
  have hat : at_ < rs.length := by rw [fr.len]; omega
  obtain ⟨r, hr⟩ : ∃ r, rs[at_]? = some r := ⟨_, List.getElem?_eq_getElem hat⟩
  obtain ⟨hr0, hrF, ws, hws, er⟩ := fr.row at_ r hr
  obtain ⟨lw, okw⟩ := okl ws (List.mem_of_getElem? hws)
  have ixF : atI (rs.map V.ref) ((at_ : Nat) : Int) = some (.ref r) := atI_nat' (by rw [List.getElem?_map, hr]; rfl)
  walk_at "rd"
  refine rd_ixL (s13 _ _ eF) ixF ?_
  walk_at "rd"
  refine rd_lenL (s13 _ _ er) ?_
  rw [List.length_map, lw]
  walk_at "rd"
  refine ⟨a, 5, rfl, dr.mono (s1.trans s13), by decide, fun H4 n s4 n0 n1 => ?_⟩
  obtain ⟨pl, rfl⟩ : ∃ m : Nat, n = m := ⟨n.toNat, by omega⟩
  have s14 := s13.trans s4
  walk_at "rd"
  refine rd_newL (by simp) fun u H5 _ s5 eu _ => ?_
  walk_at "rd"
  refine ⟨a, u, _, rfl, dr.mono (s1.trans (s14.trans s5)), eu, by simp, fun H6 jw x s6 hjw => ?_⟩
  obtain ⟨w, rfl, hw⟩ : ∃ w, x = wV w ∧ w ∈ bentW := by
    match jw, hjw with
    | 0, hj => cases hj; exact ⟨[116, 104, 101, 110], congrArg V.str (by decide +kernel), by decide⟩
    | 1, hj => cases hj; exact ⟨[102, 105, 114, 115, 116], congrArg V.str (by decide +kernel), by decide⟩
    | 2, hj => cases hj; exact ⟨[97, 116], congrArg V.str (by decide +kernel), by decide⟩
    | 3, hj => cases hj; exact ⟨[98, 97, 107, 101], congrArg V.str (by decide +kernel), by decide⟩
    | 4, hj => cases hj; exact ⟨[48], congrArg V.str (by decide +kernel), by decide⟩
    | 5, hj => cases hj; exact ⟨[49], congrArg V.str (by decide +kernel), by decide⟩
    | 6, hj => cases hj; exact ⟨[48, 50], congrArg V.str (by decide +kernel), by decide⟩
    | 7, hj => cases hj; exact ⟨[49, 51], congrArg V.str (by decide +kernel), by decide⟩
    | 8, hj => cases hj; exact ⟨[120], congrArg V.str (by decide +kernel), by decide⟩
    | 9, hj => cases hj; exact ⟨[55], congrArg V.str (by decide +kernel), by decide⟩
    | 10, hj => cases hj; exact ⟨[33], congrArg V.str (by decide +kernel), by decide⟩
    | j + 11, hj => simp at hj
  have okB := bent_ok w hw
  have s16 := s14.trans (s5.trans s6)
  have s06 := s1.trans s16
  have eF6 : H6 F = some (.lst (rs.map V.ref)) := s16 _ _ eF
  have fr6 := fr.mono s16
  have er6 : H6 r = some (.lst (ws.map wV)) := s16 _ _ er
  have okall : ∀ ws ∈ ls, ws.length ≤ 6 ∧ ∀ w ∈ ws, OkWd w := fun ws h => ⟨by rw [(okl ws h).1]; decide, (okl ws h).2⟩
  have wmap : ∀ l : List (List Nat), ([w].map wV) = [wV w] := fun _ => rfl
  walk_at "rd"
  refine ⟨fun σ H' => Same H H' ∧ ∃ F us bs v3, H' F = some (.lst us) ∧ ItX LnP H' us bs ∧ OkLs bs ∧ σ = [some (.ref a), some (.ref L), some (.ref F), v3, some (.int kind), some (.int (at_ : Nat)), some (.int (pl : Nat)), some (wV w)], ?_, ?_⟩
  · -- a row is put at the place
    have rowset : ∀ (H7 : Hp) (p : Addr) (ws2 : List (List Nat)) (H8 : Hp), Same H6 H7 → H6 p = none → H7 p = some (.lst (ws2.map wV)) → H8 = upd H7 F (.lst ((rs.map V.ref).set at_ (.ref p))) → ws2.length ≤ 6 → (∀ w ∈ ws2, OkWd w) → Same H H8 ∧ ∃ F us bs, H8 F = some (.lst us) ∧ ItX LnP H8 us bs ∧ OkLs bs ∧ us = (rs.map V.ref).set at_ (.ref p) := fun H7 p ws2 H8 s7 hp ep e8 l2 ok2 => by
      have hpF : p ≠ F := fun q => by rw [q, eF6] at hp; cases hp
      refine ⟨by rw [e8]; exact Same.mut (s06.trans s7) hF, F, _, ls.set at_ ws2, by rw [e8]; exact upd_same, ⟨by simp [fr.len], fun i x y hx hy => ?_⟩, ⟨by simp; omega, fun ws3 h3 => ?_⟩, rfl⟩
      · rw [List.getElem?_set] at hx hy
        by_cases c : at_ = i
        · rw [if_pos c, if_pos (by simp; omega)] at hx
          rw [if_pos c, if_pos (by omega)] at hy
          cases hx
          cases hy
          exact ⟨p, rfl, by rw [e8, upd_ne hpF]; exact ep⟩
        · rw [if_neg c] at hx hy
          obtain ⟨r2, q1, q2⟩ := fr6.it.2 i x y hx hy
          rw [List.getElem?_map] at hx
          cases q : rs[i]? with
          | none => rw [q] at hx; cases hx
          | some r3 =>
            rw [q] at hx
            have hx : V.ref r3 = x := Option.some.inj hx
            rw [q1] at hx
            have e32 : r3 = r2 := V.ref.inj hx
            obtain ⟨_, nF, _⟩ := fr.row i r3 q
            rw [e32] at nF
            exact ⟨r2, q1, by rw [e8, upd_ne nF]; exact s7 _ _ q2⟩
      · rcases List.mem_or_eq_of_mem_set h3 with g | g
        · exact okall _ g
        · rw [g]
          exact ⟨l2, ok2⟩
    walk_at "rd"
    refine rd_ite (fun c => ?_) (fun c => ?_)
    · -- another word
      walk_at "rd"
      refine rd_ixL eF6 ixF ?_
      walk_at "rd"
      refine rd_setL (j := pl) er6 (by rw [List.length_map, lw]; unfold ixN; rw [if_pos (by omega)]; simp; omega) fun H7 eH7 e7 => ?_
      rw [← List.map_set] at e7 eH7
      refine ⟨by rw [eH7]; exact Same.mut s06 hr0, F, rs.map V.ref, ls.set at_ (ws.set pl w), _, by rw [eH7, upd_ne (fun q => hrF q.symm)]; exact eF6, ⟨by simp [fr.len], fun i x y hx hy => ?_⟩, ⟨by simp; omega, fun ws3 h3 => ?_⟩, rfl⟩
      · rw [List.getElem?_map] at hx
        cases q : rs[i]? with
        | none => rw [q] at hx; cases hx
        | some r3 =>
          rw [q] at hx
          cases hx
          rw [List.getElem?_set] at hy
          by_cases c : at_ = i
          · rw [if_pos c, if_pos (by omega)] at hy
            cases hy
            rw [← c, hr] at q
            cases q
            exact ⟨r, rfl, e7⟩
          · rw [if_neg c] at hy
            obtain ⟨_, _, ws3, b3, b4⟩ := fr6.row i r3 q
            rw [hy] at b3
            cases b3
            refine ⟨r3, rfl, ?_⟩
            rw [eH7, upd_ne (fun z => c (fr.nod at_ i r hr (by rw [← z]; exact q)))]
            exact b4
      · rcases List.mem_or_eq_of_mem_set h3 with g | g
        · exact okall _ g
        · rw [g]
          refine ⟨by simp [lw], fun w3 h => ?_⟩
          rcases List.mem_or_eq_of_mem_set h with g | g
          · exact okw _ g
          · rw [g]
            exact okB
    walk_at "rd"
    refine rd_ite (fun c => ?_) (fun c => ?_)
    · -- a word more
      walk_at "rd"
      refine rd_ixL eF6 ixF ?_
      walk_at "rd"
      refine rd_slL (SqL.of er6) fun p1 H7 _ s7 e1 _ => ?_
      rw [cut_take, ← List.map_take] at e1
      walk_at "rd"
      refine rd_newL (by simp) fun p2 H8 _ s8 e2 _ => ?_
      refine rd_cat (s8 _ _ e1) e2 (by simp; omega) fun p3 H9 _ s9 e3 _ => ?_
      walk_at "rd"
      have s69 := s7.trans (s8.trans s9)
      refine rd_ixL (s69 _ _ eF6) ixF ?_
      walk_at "rd"
      refine rd_slL (SqL.of (s69 _ _ er6)) fun p4 HA _ sA e4 _ => ?_
      rw [cut_drop9, ← List.map_drop] at e4
      refine rd_cat (sA _ _ e3) e4 (by simp; omega) fun p5 HB h5 sB e5 _ => ?_
      have s6B := s69.trans (sA.trans sB)
      have hp5 : H6 p5 = none := by
        cases q : H6 p5 with
        | none => rfl
        | some o => rw [(s69.trans sA) _ _ q] at h5; cases h5
      walk_at "rd"
      refine rd_setL (j := at_) (s6B _ _ eF6) (by rw [List.length_map]; unfold ixN; rw [if_pos (by omega)]; simp; omega) fun HC eHC eC => ?_
      obtain ⟨a1, F2, us, bs, a2, a3, a4, a5⟩ := rowset HB p5 (ws.take pl ++ [w] ++ ws.drop pl) HC s6B hp5 (by rw [e5]; simp [wV]) eHC (by simp [lw]; omega) (fun w3 h => by
        rcases List.mem_append.mp h with g | g
        · rcases List.mem_append.mp g with g | g
          · exact okw _ (List.mem_of_mem_take g)
          · rw [List.mem_singleton.mp g]; exact okB
        · exact okw _ (List.mem_of_mem_drop g))
      exact ⟨a1, F, _, bs, _, eC, by rw [← a5]; exact a3, a4, rfl⟩
    walk_at "rd"
    refine rd_ite (fun c => ?_) (fun c => ?_)
    · -- a word less
      walk_at "rd"
      refine rd_ixL eF6 ixF ?_
      walk_at "rd"
      refine rd_slL (SqL.of er6) fun p1 H7 _ s7 e1 _ => ?_
      rw [cut_take, ← List.map_take] at e1
      walk_at "rd"
      refine rd_ixL (s7 _ _ eF6) ixF ?_
      walk_at "rd"
      refine rd_slL (SqL.of (s7 _ _ er6)) fun p4 HA _ sA e4 _ => ?_
      rw [show ((pl : Nat) : Int) + 1 = ((pl + 1 : Nat) : Int) by omega, cut_drop9, ← List.map_drop] at e4
      refine rd_cat (sA _ _ e1) e4 (by simp; omega) fun p5 HB h5 sB e5 _ => ?_
      have s6B := s7.trans (sA.trans sB)
      have hp5 : H6 p5 = none := by
        cases q : H6 p5 with
        | none => rfl
        | some o => rw [(s7.trans sA) _ _ q] at h5; cases h5
      walk_at "rd"
      refine rd_setL (j := at_) (s6B _ _ eF6) (by rw [List.length_map]; unfold ixN; rw [if_pos (by omega)]; simp; omega) fun HC eHC eC => ?_
      obtain ⟨a1, F2, us, bs, a2, a3, a4, a5⟩ := rowset HB p5 (ws.take pl ++ ws.drop (pl + 1)) HC s6B hp5 (by rw [e5]; simp) eHC (by simp [lw]; omega) (fun w3 h => by
        rcases List.mem_append.mp h with g | g
        · exact okw _ (List.mem_of_mem_take g)
        · exact okw _ (List.mem_of_mem_drop g))
      exact ⟨a1, F, _, bs, _, eC, by rw [← a5]; exact a3, a4, rfl⟩
    walk_at "rd"
    refine rd_ite (fun c => ?_) (fun c => ?_)
    · -- a line less
      walk_at "rd"
      refine rd_slL (SqL.of eF6) fun p1 H7 _ s7 e1 _ => ?_
      rw [cut_take] at e1
      walk_at "rd"
      refine rd_slL (SqL.of (s7 _ _ eF6)) fun p2 H8 _ s8 e2 _ => ?_
      rw [show ((at_ : Nat) : Int) + 1 = ((at_ + 1 : Nat) : Int) by omega, cut_drop9] at e2
      refine rd_cat (s8 _ _ e1) e2 (by simp; omega) fun p3 H9 _ s9 e3 _ => ?_
      have s69 := s7.trans (s8.trans s9)
      have i9 : ItX LnP H9 (rs.map V.ref) ls := fr6.it.imp fun x y h => h.mono s69
      exact ⟨s06.trans s69, p3, _, ls.take at_ ++ ls.drop (at_ + 1), _, e3, (i9.take _).append (i9.drop _), ⟨by simp; omega, fun ws3 h => by
        rcases List.mem_append.mp h with g | g
        · exact okall _ (List.mem_of_mem_take g)
        · exact okall _ (List.mem_of_mem_drop g)⟩, rfl⟩
    · -- a line more
      walk_at "rd"
      refine rd_ixL eF6 ixF ?_
      walk_at "rd"
      refine rd_newL (by simp) fun p1 H7 _ s7 e1 _ => ?_
      walk_at "rd"
      refine ⟨a, 2, rfl, dr.mono (s06.trans s7), by decide, fun H8 n s8 n0 n1 => ?_⟩
      obtain ⟨nn, rfl⟩ : ∃ m : Nat, n = m := ⟨n.toNat, by omega⟩
      have b7 := bb_pos
      walk_at "rd"
      refine rd_repL9 (r := 1 + 5 * nn) (by omega) (s8 _ _ e1) (by simp; omega) (by omega) fun p2 H9 _ s9 e2 => ?_
      have s79 := s7.trans (s8.trans s9)
      refine rd_cat (s79 _ _ eF6) e2 (by simp; omega) fun p3 HA _ sA e3 _ => ?_
      have s6A := s79.trans sA
      have iA : ItX LnP HA (rs.map V.ref) ls := fr6.it.imp fun x y h => h.mono s6A
      walk_at "rd"
      have irep : ∀ m : Nat, ItX LnP HA (List.replicate m [V.ref r]).flatten (List.replicate m [ws]).flatten := fun m => by
        induction m with
        | zero => exact .nil
        | succ m ih =>
          rw [List.replicate_succ, List.replicate_succ, List.flatten_cons, List.flatten_cons]
          exact ItX.append (.one ⟨r, rfl, s6A _ _ er6⟩) ih
      have lrep : ∀ m : Nat, (List.replicate m [ws]).flatten.length = m := fun m => by simp
      exact ⟨s06.trans s6A, p3, _, ls ++ (List.replicate (1 + 5 * nn) [ws]).flatten, _, e3, iA.append (irep _), ⟨by rw [List.length_append, lrep]; omega, fun ws3 h => by
        rcases List.mem_append.mp h with g | g
        · exact okall _ g
        · obtain ⟨l, h1, h2⟩ := List.mem_flatten.mp g
          rw [(List.mem_replicate.mp h1).2] at h2
          rw [List.mem_singleton.mp h2]
          exact okall _ (List.mem_of_getElem? hws)⟩, rfl⟩
  clear s1 eF fr s2 s3 s13 s4 s14 s5 s6 s16 eF6 fr6 er6 er eu
  rintro σ H7 ⟨s7, B, us, bs, v3, eB, iB, okb, rfl⟩
  walk_at "rd"
  refine rd_lsR (SqL.of eB) ?_
  refine lcR_lst (xs := us) (fun D i H' => Same H7 H' ∧ ∃ zs, H' D = some (.lst zs) ∧ zs.length ≤ i ∧ ItX LnP (woH H' D) zs ((bs.take i).filter fun ws => !decide (ws = []))) (fun D i H' _ ⟨s, _⟩ => SqL.of (s _ _ eB)) (fun D H' _ s e _ => ⟨s, [], e, Nat.le_refl _, .nil⟩) ?_ ?_
  · rintro D i x H' hD hx ⟨s1, zs, eD, lz, iz⟩
    obtain ⟨ws2, hws2, r2, rfl, er2⟩ := iB.getV hx
    have okw2 := okb.2 ws2 (List.mem_of_getElem? hws2)
    have hil : i < bs.length := (List.getElem?_eq_some_iff.mp hws2).1
    walk_at "rd"
    refine ⟨rfl, ?_⟩
    walk_at "rd"
    refine rd_newL (by simp) fun u2 H2 _ s2 eu2 _ => ?_
    refine rd_neW (xs := ws2) (ys := []) ((s1.trans s2) _ _ er2) eu2 (fun w hw c hc => by have := ((okw2.2 w hw).2.2 c hc).2; omega) (by decide) ?_
    walk_at "rd"
    have et : (bs.take (i + 1)).filter (fun ws => !decide (ws = [])) = (bs.take i).filter (fun ws => !decide (ws = [])) ++ ([ws2].filter fun ws => !decide (ws = [])) := by
      rw [List.take_succ, hws2, ← List.filter_append]
      rfl
    have iz2 : ItX LnP (woH H2 D) zs ((bs.take i).filter fun ws => !decide (ws = [])) := iz.imp fun x y h => h.mono (wo_mono s2)
    by_cases c : ws2 = []
    · refine rd_iteNF c ?_
      refine ⟨s1.trans s2, zs, s2 _ _ eD, by omega, ?_⟩
      rw [et, show [ws2].filter (fun ws => !decide (ws = [])) = [] by simp [c], List.append_nil]
      exact iz2
    · refine rd_iteNT c ?_
      walk_at "rd"
      refine rd_lcE (s2 _ _ eD) (by have := okb.1; omega) fun H3 eH3 e3 => ?_
      have hrD : r2 ≠ D := fun q => by rw [q, hD] at er2; cases er2
      refine ⟨by rw [eH3]; exact Same.mut (s1.trans s2) hD, _, e3, by rw [List.length_append, List.length_singleton]; omega, ?_⟩
      rw [et, show [ws2].filter (fun ws => !decide (ws = [])) = [ws2] by simp [c], eH3, wo_upd]
      exact iz2.snoc ⟨r2, rfl, wo_get hrD ((s1.trans s2) _ _ er2)⟩
  · rintro D H8 hD ⟨s8, zs, eD, lz, iz⟩
    rw [iB.1, List.take_length] at iz
    refine k H8 D zs _ (s7.trans s8) eD (iz.imp fun x y h => h.mono wo_same) ⟨Nat.le_trans (List.length_filter_le _ _) okb.1, fun ws h => okb.2 ws (List.mem_filter.mp h).1⟩ fun ws h => ?_
    have := (List.mem_filter.mp h).2
    simpa using this
end
end Sl
set_option Elab.async false
set_option linter.all false
set_option maxRecDepth 100000
set_option maxHeartbeats 8000000
set_option exponentiation.threshold 9000
namespace Sl
open PySem L2 C8 StX SiltT
local macro_rules | `(tactic| walk_at "side") => `(tactic| first
  | exact cdivw (by omega) (by omega)
  | exact cmulw (by omega) (by omega) (by omega) (by omega)
  | exact Or.inr ⟨by omega, by omega⟩
  | exact Or.inl ⟨by omega, by omega⟩
  | omega
  | exact ⟨by omega, by omega, by decide⟩
  | decide)
local macro_rules | `(tactic| walk_at "rd1") => `(tactic| first
  | with_reducible refine rd_seq ?_
  | with_reducible refine rd_asg ?_
  | with_reducible refine rd_drop ?_
  | with_reducible refine rd_ret ?_
  | with_reducible refine rd_retN ?_
  | with_reducible refine rd_ifS ?_
  | ((with_reducible refine rd_var0 ?_); refine ⟨_, rfl, ?_⟩)
  | with_reducible refine rd_c ?_
  | with_reducible refine rd_op ?_
  | with_reducible refine rd_un ?_
  | with_reducible refine rd_I0 ?_
  | with_reducible refine rd_U ?_
  | ((with_reducible refine rd_I ?c ?_); (case c => walk_at "side"))
  | with_reducible refine rd_ipI ?_
  | with_reducible refine rd_eqI ?_
  | with_reducible refine rd_neI ?_
  | with_reducible refine rd_test ?_
  | with_reducible refine rd_tB ?_
  | with_reducible refine rd_bl ?_
  | with_reducible refine rd_not ?_
  | with_reducible refine rd_and ?_
  | with_reducible refine rd_or ?_
  | with_reducible refine rd_andV ?_
  | with_reducible refine rd_orV ?_
  | with_reducible refine rd_notV ?_
  | with_reducible refine rd_ifE ?_
  | with_reducible refine rd_chain ?_
  | with_reducible refine rd_chain3 ?_
  | with_reducible refine rd_nil ?_
  | with_reducible refine rd_cons ?_
  | with_reducible refine rd_call ?_
  | with_reducible refine rd_CB ?_
  | with_reducible refine rd_par ?_
  | with_reducible refine rd_par2 ?_
  | with_reducible refine rd_par3 ?_
  | with_reducible refine rd_par4 ?_
  | ((with_reducible refine rd_aug0 ?_); refine ⟨_, rfl, ?_⟩)
  | with_reducible refine rd_gname ?_
  | with_reducible refine rd_gcons ?_
  | with_reducible refine rd_gnil ?_
  | with_reducible refine rd_max ?_
  | with_reducible refine rd_min ?_
  | with_reducible refine rd_int1 ?_
  | with_reducible refine rd_abs ?_
  | with_reducible refine rd_lst ?_
  | with_reducible refine rd_tup ?_
  | with_reducible refine rd_bm ?_
  | with_reducible refine rd_fld0 ?_
  | with_reducible refine rd_sl0 ?_
  | with_reducible refine rd_noP ?_
  | with_reducible refine rd_part ?_
  | with_reducible refine rd_part2 ?_
  | with_reducible refine rd_meth0 ?_
  | with_reducible refine rd_star ?_
  | with_reducible refine rd_for ?_
  | with_reducible refine rd_rng1 ?_
  | with_reducible refine rd_rng2 ?_
  | with_reducible refine rd_rng3 ?_
  | with_reducible refine rd_iList ?_
  | with_reducible refine rd_iTup ?_
  | with_reducible refine rd_iEnum ?_
  | with_reducible refine rd_lc ?_
  | with_reducible refine rd_yes ?_
  | with_reducible refine rd_augS ?_
  | with_reducible refine rd_drawNew ?_
  | with_reducible refine rd_make0 ?_
  | with_reducible refine rd_next ?_
  | with_reducible refine rd_break ?_
  | with_reducible refine rd_cont ?_
  | with_reducible refine rd_iteTT ?_
  | with_reducible refine rd_iteFF ?_
  | with_reducible refine rd_iteNTT ?_
  | with_reducible refine rd_iteNFF ?_
  | with_reducible refine rd_con0 ?_
  | with_reducible refine rd_truO0 ?_
  | with_reducible refine rd_gfld0 ?_
  | with_reducible refine rd_dc ?_
  | with_reducible refine rd_iKeys ?_
  | with_reducible refine rd_dget0 ?_
  | with_reducible refine rd_dput0 ?_
  | with_reducible refine rd_dnot0 ?_
  | with_reducible refine rd_iEnumT ?_
  | with_reducible refine rd_raP0 ?_
  | with_reducible refine rd_xf0 ?_
  | with_reducible refine rd_cKw ?_
  | with_reducible refine rd_iStr ?_
  | with_reducible refine rd_gSub ?_
  | with_reducible refine rd_asgG ?_)
local macro_rules | `(tactic| walk_at "rd") => `(tactic| repeat walk_at "rd1")
local macro_rules | `(tactic| walk_at "len") => `(tactic| first
  | (intro vs H Q E h; obtain ⟨h2, _⟩ := h; rw [h2]; rfl)
  | (intro vs H Q E h; obtain ⟨_, h2, _⟩ := h; rw [h2]; rfl)
  | (intro vs H Q E h; obtain ⟨_, _, h2, _⟩ := h; rw [h2]; rfl)
  | (intro vs H Q E h; obtain ⟨_, _, _, h2, _⟩ := h; rw [h2]; rfl)
  | (intro vs H Q E h; obtain ⟨_, _, _, _, h2, _⟩ := h; rw [h2]; rfl)
  | (intro vs H Q E h; obtain ⟨_, _, _, _, _, h2, _⟩ := h; rw [h2]; rfl)
  | (intro vs H Q E h; obtain ⟨_, _, _, _, _, _, h2, _⟩ := h; rw [h2]; rfl)
  | (intro vs H Q E h; obtain ⟨_, _, _, _, _, _, _, h2, _⟩ := h; rw [h2]; rfl)
  | (intro vs H Q E h; obtain ⟨_, _, _, _, _, _, _, _, h2, _⟩ := h; rw [h2]; rfl)
  | (intro vs H Q E h; obtain ⟨_, _, _, _, _, _, _, _, _, h2, _⟩ := h; rw [h2]; rfl)
  | (intro vs H Q E h; obtain ⟨_, _, _, _, _, _, _, _, _, _, h2, _⟩ := h; rw [h2]; rfl)
  | (intro vs H Q E h; obtain ⟨_, _, _, _, _, _, _, _, _, _, _, h2, _⟩ := h; rw [h2]; rfl)
  | (intro vs H Q E h; obtain ⟨_, _, _, _, _, _, _, _, _, _, _, _, h2, _⟩ := h; rw [h2]; rfl))
local macro_rules | `(tactic| walk_at "rd1") => `(tactic| first
  | with_reducible refine rd_tM1 ?_
  | with_reducible refine rd_tM1s ?_)
def spLaw (K : PySem.W.Frag) : Sp := fun vs H Q _ => ∃ (a : Addr) (ns : List Int), vs = [.ref a] ∧ SqL K H a (ns.map V.int) ∧ ns.length ≤ 63 ∧ ∀ H', Q (.bl true) H'
/-! texts of lines -/
def mkS (l : List Nat) : Str := ⟨l.toArray⟩
theorem wV_mk (rs : List (List Nat)) : rs.map wV = (rs.map mkS).map V.str := by rw [List.map_map]; rfl
theorem nlW : ("\n" : Str) = ⟨[10].toArray⟩ := by decide +kernel
theorem join_lines {rows : List (List Nat)} (hne : rows ≠ []) (h10 : ∀ r ∈ rows, 10 ∉ r) : linesL (Txt.join "\n" (rows.map mkS)) = rows := by
  have h := TL.split_join (y := ("\n" : Str)) (s := 10) (S := []) (by rw [nlW]) (by decide +kernel) (parts := rows.map mkS) (fun e => hne (List.map_eq_nil_iff.mp e)) (fun p hp => by
    obtain ⟨r, hr, rfl⟩ := List.mem_map.mp hp
    exact h10 r hr)
  unfold linesL
  rw [h, List.map_map]
  exact (List.map_congr_left fun r _ => rfl).trans (List.map_id rows)
theorem joinL_len (S : List Nat) : ∀ ps : List (List Nat), (TL.joinL S ps).length ≤ (ps.map (·.length)).sum + ps.length * S.length
  | [] => Nat.zero_le _
  | [p] => by
    show p.length ≤ (p.length + 0) + 1 * S.length
    omega
  | p :: q :: r => by
    have h := joinL_len S (q :: r)
    show (p ++ (S ++ TL.joinL S (q :: r))).length ≤ (p.length + ((q :: r).map (·.length)).sum) + ((q :: r).length + 1) * S.length
    rw [List.length_append, List.length_append, Nat.add_mul]
    omega
theorem join_tl (y : Str) (rows : List (List Nat)) : (Txt.join y (rows.map mkS)).cps.toList = TL.joinL y.cps.toList rows := by
  rw [TL.join_eq]
  show TL.tl (Str.join y (rows.map mkS)) = _
  rw [TL.tl_join, List.map_map]
  congr 1
  exact (List.map_congr_left fun r _ => rfl).trans (List.map_id rows)
theorem sum_le {n : Nat} : ∀ {rows : List (List Nat)}, (∀ r ∈ rows, r.length ≤ n) → (rows.map (·.length)).sum ≤ rows.length * n
  | [], _ => Nat.zero_le _
  | r :: rs, h => by
    have h1 := h r List.mem_cons_self
    have h2 := sum_le fun x hx => h x (List.mem_cons_of_mem r hx)
    rw [List.map_cons, List.sum_cons, List.length_cons, Nat.succ_mul]
    omega
theorem join_small {rows : List (List Nat)} (l : rows.length ≤ 25) (h : ∀ r ∈ rows, r.length ≤ 300) : (Txt.join "\n" (rows.map mkS)).length ≤ 10000 := by
  show (Txt.join "\n" (rows.map mkS)).cps.size ≤ 10000
  rw [← Array.length_toList, join_tl, nlW]
  show (TL.joinL [10] rows).length ≤ 10000
  have h1 := joinL_len [10] rows
  have h2 := sum_le h
  have h3 : rows.length * 300 ≤ 25 * 300 := Nat.mul_le_mul_right _ l
  rw [List.length_singleton, Nat.mul_one] at h1
  omega
theorem row_no {r : List Nat} (h : RowOk r) : 10 ∉ r := fun hm => by have := (h.2 10 hm).1; omega
theorem writ_join : ∀ ls : List (List (List Nat)), writL ls = TL.joinL [10] (ls.map wordsL ++ [[]])
  | [] => rfl
  | [w] => by
    show (wordsL w ++ [10]) ++ writL [] = wordsL w ++ ([10] ++ [])
    simp [writL]
  | w :: x :: r => by
    show (wordsL w ++ [10]) ++ writL (x :: r) = wordsL w ++ ([10] ++ TL.joinL [10] ((x :: r).map wordsL ++ [[]]))
    rw [writ_join (x :: r), List.append_assoc]
theorem writ_lines {ls : List (List (List Nat))} (h : ∀ ws ∈ ls, 10 ∉ wordsL ws) : linesL ⟨(writL ls).toArray⟩ = ls.map wordsL ++ [[]] := by
  have e : (⟨(writL ls).toArray⟩ : Str) = Txt.join "\n" ((ls.map wordsL ++ [[]]).map mkS) := TL.ext_tl (by
    show writL ls = (Txt.join "\n" ((ls.map wordsL ++ [[]]).map mkS)).cps.toList
    rw [join_tl, nlW, writ_join])
  rw [e]
  refine join_lines (by simp) fun r hr => ?_
  rcases List.mem_append.mp hr with g | g
  · obtain ⟨ws, hw, rfl⟩ := List.mem_map.mp g
    exact h ws hw
  · rw [List.mem_singleton.mp g]
    exact fun q => by cases q
theorem dig_ok : ∀ n, n < 10 → OkWd [48 + n] := by
  unfold OkWd
  decide
theorem line_ok {w : List Nat} {q : Int × Int} (hw : w = wFirst ∨ w = wThen) (ok : OkN q) : ∀ x ∈ lineW w q, OkWd x := fun x hx => by
  obtain ⟨o1, o2, o3⟩ := ok
  have h1 : OkWd w := by rcases hw with rfl | rfl <;> (unfold OkWd; decide)
  have h : x = w ∨ x = wAt ∨ x = digI q.1 ∨ x = wBake ∨ x = digI q.2 := by simpa [lineW] using hx
  rcases h with rfl | rfl | rfl | rfl | rfl
  · exact h1
  · unfold OkWd; decide
  · exact dig_ok _ (by omega)
  · unfold OkWd; decide
  · exact dig_ok _ (by omega)
theorem line_row {w : List Nat} {q : Int × Int} (hw : w = wFirst ∨ w = wThen) (ok : OkN q) (pl : Nat) : ∃ ps, LaidR pl [lineW w q] [wordsL (lineW w q)] ps := by
  have h := row_laid (k := 0) (wsn := [(w, 1), (wAt, 1), (digI q.1, 1), (wBake, 1), (digI q.2, 0)]) (ws := lineW w q) (rem := []) rfl (by rfl) (by decide) (by simp) (by simp [lineW]) (line_ok hw ok) (by decide) pl
  have e : List.replicate 0 32 ++ layL [(w, 1), (wAt, 1), (digI q.1, 1), (wBake, 1), (digI q.2, 0)] ++ [] = wordsL (lineW w q) := by
    rw [line_words]
    simp [layL, List.replicate]
  rw [e] at h
  exact ⟨_, h⟩
theorem lines_laid : ∀ (ls : List (List (List Nat))) (pl : Nat), (∀ ws ∈ ls, ∃ w q, ws = lineW w q ∧ (w = wFirst ∨ w = wThen) ∧ OkN q) → ∃ ps, LaidR pl ls (ls.map wordsL ++ [[]]) ps
  | [], pl, _ => ⟨[], .junk (toks_nil 0) ⟨by decide, by decide⟩ (.nil _)⟩
  | ws :: ls, pl, h => by
    obtain ⟨w, q, rfl, hw, ok⟩ := h ws List.mem_cons_self
    obtain ⟨p1, l1⟩ := line_row hw ok pl
    obtain ⟨p2, l2⟩ := lines_laid ls (pl + 1) fun x hx => h x (List.mem_cons_of_mem _ hx)
    exact ⟨p1 ++ p2, l1.append (ls2 := ls) (rows2 := ls.map wordsL ++ [[]]) l2⟩
theorem linesW_of {f q : List (Int × Int)} (okf : ∀ x ∈ f, OkN x) (okq : ∀ x ∈ q, OkN x) : ∀ ws ∈ linesW f q, ∃ w x, ws = lineW w x ∧ (w = wFirst ∨ w = wThen) ∧ OkN x := fun ws hw => by
  unfold linesW at hw
  rcases List.mem_append.mp hw with g | g
  · obtain ⟨x, hx, rfl⟩ := List.mem_map.mp g
    exact ⟨wFirst, x, rfl, .inl rfl, okf x hx⟩
  · obtain ⟨x, hx, rfl⟩ := List.mem_map.mp g
    exact ⟨wThen, x, rfl, .inr rfl, okq x hx⟩
theorem words_ch {ws : List (List Nat)} (h : ∀ w ∈ ws, OkWd w) : ∀ c ∈ wordsL ws, 32 ≤ c ∧ c < 127 := by
  unfold wordsL
  induction ws with
  | nil => exact fun c hc => by cases hc
  | cons w r ih =>
    cases r with
    | nil =>
      intro c hc
      have := (h w List.mem_cons_self).2.2 c hc
      omega
    | cons x r =>
      intro c hc
      have hc : c ∈ w ++ ([32] ++ TL.joinL [32] (x :: r)) := hc
      rcases List.mem_append.mp hc with g | g
      · have := (h w List.mem_cons_self).2.2 c g
        omega
      · rcases List.mem_append.mp g with g | g
        · rw [List.mem_singleton.mp g]
          omega
        · exact ih (fun y hy => h y (List.mem_cons_of_mem _ hy)) c g
theorem joinL_nil : ∀ ps : List (List Nat), TL.joinL [] ps = ps.flatten
  | [] => rfl
  | [p] => by simp [TL.joinL]
  | p :: q :: r => by
    show p ++ ([] ++ TL.joinL [] (q :: r)) = p ++ (q :: r).flatten
    rw [joinL_nil (q :: r)]
    rfl
theorem int_nat {f : List (Int × Int)} (h : ∀ x ∈ f, OkN x) : (f.map natP).map intP = f := by
  rw [List.map_map]
  refine (List.map_congr_left fun x hx => ?_).trans (List.map_id f)
  obtain ⟨h1, h2, h3⟩ := h x hx
  show (((x.1.toNat : Nat) : Int), ((x.2.toNat : Nat) : Int)) = x
  rw [Int.toNat_of_nonneg (by omega), Int.toNat_of_nonneg (by omega)]
/-! words of fixed texts, by steps -/
def toksF : Nat → Nat → List Nat → List (List Nat × Nat)
  | _, _, [] => []
  | 0, _, _ :: _ => []
  | n + 1, a, c :: r => if c = 35 then [] else (if c = 32 then [] else [(c :: r.take (SiltT.runN c r), a + 1)]) ++ toksF n (a + 1 + SiltT.runN c r) (r.drop (SiltT.runN c r))
theorem toksF_eq : ∀ (n a : Nat) (l : List Nat), l.length ≤ n → toks a l = toksF n a l
  | n, a, [], _ => by rw [toks_nil]; cases n <;> rfl
  | 0, a, c :: r, h => by cases h
  | n + 1, a, c :: r, h => by
    rw [List.length_cons] at h
    rw [toks_cons, toksF_eq n _ _ (by rw [List.length_drop]; omega)]
    rfl
def readF (fr pe : List (Nat × Nat)) (pl : Nat) : List (List Nat) → Sum (Nat × Nat) (List (Nat × Nat) × List (Nat × Nat))
  | [] => if pe = [] then .inl (pl, 1) else .inr (fr, pe)
  | z :: r => if toksF z.length 0 z = [] then readF fr pe (pl + 1) r else
    match rowE (lateB pe ((toksF z.length 0 z).map (·.1))) (decide ((if lateB pe ((toksF z.length 0 z).map (·.1)) = true then pe else fr).length = 6)) ((toksF z.length 0 z).map (·.1)) with
    | some i => .inl (pl, colL z (toksF z.length 0 z) i)
    | none => if lateB pe ((toksF z.length 0 z).map (·.1)) = true then readF fr (pe ++ [rowQ ((toksF z.length 0 z).map (·.1))]) (pl + 1) r else readF (fr ++ [rowQ ((toksF z.length 0 z).map (·.1))]) pe (pl + 1) r
theorem readF_eq : ∀ (ls : List (List Nat)) (fr pe : List (Nat × Nat)) (pl : Nat), readL fr pe pl ls = readF fr pe pl ls
  | [], fr, pe, pl => by rw [readL, readF]
  | z :: r, fr, pe, pl => by
    rw [readL, readF, ← toksF_eq z.length 0 z (Nat.le_refl _)]
    split
    · exact readF_eq r _ _ _
    · cases rowE (lateB pe ((toks 0 z).map (·.1))) (decide ((if lateB pe ((toks 0 z).map (·.1)) = true then pe else fr).length = 6)) ((toks 0 z).map (·.1)) with
      | some i => rfl
      | none =>
        show (if _ then _ else _) = (if _ then _ else _)
        split
        · exact readF_eq r _ _ _
        · exact readF_eq r _ _ _
theorem lines_one {l : List Nat} (h : 10 ∉ l) : linesL ⟨l.toArray⟩ = [l] := by
  have e : (⟨l.toArray⟩ : Str) = Txt.join "\n" ([l].map mkS) := TL.ext_tl (by
    show l = (Txt.join "\n" ([l].map mkS)).cps.toList
    rw [join_tl]
    rfl)
  rw [e]
  exact join_lines (by simp) fun r hr => by rw [List.mem_singleton.mp hr]; exact h
theorem lines_two {l m : List Nat} (h : 10 ∉ l) (g : 10 ∉ m) : linesL ⟨(l ++ (10 :: m)).toArray⟩ = [l, m] := by
  have e : (⟨(l ++ (10 :: m)).toArray⟩ : Str) = Txt.join "\n" ([l, m].map mkS) := TL.ext_tl (by
    show l ++ (10 :: m) = (Txt.join "\n" ([l, m].map mkS)).cps.toList
    rw [join_tl, nlW]
    rfl)
  rw [e]
  refine join_lines (by simp) fun r hr => ?_
  have : r = l ∨ r = m := by simpa using hr
  rcases this with rfl | rfl
  · exact h
  · exact g
def txA : List Nat := [102, 105, 114, 115, 116, 32, 97, 116, 32, 50, 32, 98, 97, 107, 101, 32, 50]
def txB : List Nat := [84, 104, 101, 110, 32, 97, 116, 32, 50, 32, 98, 97, 107, 101, 32, 50]
def txC : List Nat := [116, 104, 101, 110, 32, 97, 116, 32, 50, 32, 98, 97, 107, 101]
def txD : List Nat := [116, 104, 101, 110, 32, 97, 116, 32, 50, 98, 97, 107, 101, 50, 32, 35, 32, 120]
theorem rd_tx0 : readL [] [] 1 [[]] = .inl (2, 1) := by rw [readF_eq]; decide
theorem rd_txA : readL [] [] 1 [txA, []] = .inl (3, 1) := by rw [readF_eq]; decide
theorem rd_txB : readL [] [] 1 [txB] = .inl (1, 1) := by rw [readF_eq]; decide
theorem rd_txC : readL [] [] 1 [txC] = .inl (1, 15) := by rw [readF_eq]; decide
theorem rd_txD : readL [] [] 1 [txD] = .inr ([], [(2, 2)]) := by rw [readF_eq]; decide
def isFst (ws : List (List Nat)) : Bool := decide (ws.getD 0 [] = wFirst)
theorem okP_N {l : List (Int × Int)} (h : ∀ x ∈ l, OkP x) : ∀ x ∈ l, OkN x := fun x hx => okN_of (h x hx)
theorem okP_W {l : List (Int × Int)} (h : ∀ x ∈ l, OkP x) : ∀ x ∈ l, OkW x := fun x hx => ⟨(h x hx).1, (h x hx).2.1, Int.le_trans (h x hx).2.2 (by decide)⟩
theorem rd_isiTupF {K : PySem.W.Frag} {H : Hp} {Q : VK} {C a dx : Addr} {fs : List (Str × V)} (c : InsC K C) (n : PySem.W.subIn K (.ref C) (.type "tuple") = some false) (e : H a = some (.ins C dx fs)) (h : Q (.bl false) H) : rIsi K [.ref a, .ty "tuple"] H Q := by
  refine ⟨_, _, _, _, false, rfl, .ty _, .base (TyOf.ins e c.cl c.ha c.hn c.htk c.hm), ?_, h⟩
  unfold PySem.W.kitOne
  rw [if_neg (show ¬ (Value.ref C == Value.type "tuple") = true from fun q => Bool.false_ne_true q)]
  show (if PySem.W.kitMeta "tuple" = true then PySem.W.subIn K (.ref C) (.type "tuple") else none) = some false
  rw [if_pos (by decide +kernel)]
  exact n
theorem eqv_pl (a b c d : Nat) : PyData.eqv (.tuple [.int (a : Nat), .int (b : Nat)]) (.tuple [.int (c : Nat), .int (d : Nat)]) = decide ((a, b) = (c, d)) := by
  have h := enc_pair.eq (((a : Nat) : Int), ((b : Nat) : Int)) (((c : Nat) : Int), ((d : Nat) : Int))
  refine h.trans ?_
  by_cases z : (a, b) = (c, d)
  · cases z
    rw [decide_eq_true rfl, decide_eq_true rfl]
  · rw [decide_eq_false z, decide_eq_false]
    intro q
    have h1 := congrArg Prod.fst q
    have h2 := congrArg Prod.snd q
    simp only at h1 h2
    exact z (by rw [show a = c by omega, show b = d by omega])
/-- what is known of the law's rule and its lines -/
structure L49 (K : PySem.W.Frag) (CR : Addr) (H : Hp) (a r L : Addr) (xs : List V) (f q : List (Int × Int)) : Prop where
  ok : OkT f q
  dr : DrawP K H a
  hr : RuleS CR H r f q
  eL : H L = some (.lst xs)
  iL : ItX LnP H xs (linesW f q)
theorem L49.mono {K : PySem.W.Frag} {CR : Addr} {H H' : Hp} {a r L : Addr} {xs : List V} {f q : List (Int × Int)} (s : Same H H') (h : L49 K CR H a r L xs f q) : L49 K CR H' a r L xs f q :=
  ⟨h.ok, h.dr.mono s, h.hr.mono s, s _ _ h.eL, h.iL.imp fun x y z => z.mono s⟩
/-- rows that lie in the heap, with the places of their words -/
structure R49 (H : Hp) (R P : Addr) (rs : List (List Nat)) (us : List V) (ps : List (Nat × List Nat × Nat)) (ls : List (List (List Nat))) : Prop where
  eR : H R = some (.lst (rs.map wV))
  eP : H P = some (.lst us)
  iP : ItX PlP H us ps
  lay : LaidR 1 ls rs ps
  lr : rs.length ≤ 25
theorem R49.mono {H H' : Hp} {R P : Addr} {rs : List (List Nat)} {us : List V} {ps : List (Nat × List Nat × Nat)} {ls : List (List (List Nat))} (s : Same H H') (h : R49 H R P rs us ps ls) : R49 H' R P rs us ps ls :=
  ⟨s _ _ h.eR, s _ _ h.eP, h.iP.imp fun x y z => z.mono s, h.lay, h.lr⟩
theorem lines_ok {f q : List (Int × Int)} (ok : OkT f q) : (linesW f q).length ≤ 4 ∧ linesW f q ≠ [] ∧ ∀ ws ∈ linesW f q, ws.length = 5 ∧ ∀ w ∈ ws, OkWd w := by
  have o1 := ok.f2
  have o2 := ok.q2
  have o3 := List.length_pos_iff.mpr ok.ne
  have ll : (linesW f q).length = f.length + q.length := by simp [linesW]
  refine ⟨by omega, fun z => by rw [z] at ll; simp at ll; omega, fun ws hw => ?_⟩
  obtain ⟨w, x, rfl, h1, h2⟩ := linesW_of (okP_N ok.okf) (okP_N ok.okq) ws hw
  exact ⟨rfl, line_ok h1 h2⟩
/-- rows as the text is split -/
def splR (rs : List (List Nat)) : List (List Nat) := if rs = [] then [[]] else rs
theorem spl_lines {ls : List (List (List Nat))} {rs : List (List Nat)} {ps : List (Nat × List Nat × Nat)} (h : LaidR 1 ls rs ps) : linesL (Txt.join "\n" (rs.map mkS)) = splR rs ∧ LaidR 1 ls (splR rs) ps ∧ (splR rs).length = max 1 rs.length := by
  unfold splR
  by_cases c : rs = []
  · subst c
    rw [if_pos rfl]
    cases h
    refine ⟨?_, .junk (toks_nil 0) ⟨by decide, by decide⟩ (.nil _), rfl⟩
    show linesL (Txt.join "\n" []) = [[]]
    rw [TL.join_eq]
    exact lines_one (l := []) (fun q => by cases q)
  · rw [if_neg c]
    exact ⟨join_lines c fun r hr => row_no (h.ok.1 r hr), h, by have := List.length_pos_iff.mpr c; omega⟩
theorem spl_ok {ls : List (List (List Nat))} {rs : List (List Nat)} {ps : List (Nat × List Nat × Nat)} (h : LaidR 1 ls (splR rs) ps) : ∀ l ∈ splR rs, l.length ≤ 10000 ∧ ∀ c ∈ l, c < 1114112 := fun l hl => by
  have := h.ok.1 l hl
  exact ⟨by have := this.1; omega, fun c hc => by have := (this.2 c hc).2; omega⟩
theorem row_get {late full : Bool} {ws : List (List Nat)} (okw : ∀ w ∈ ws, OkWd w) (h : FitL ws) : ∃ w2 w4, ws[2]? = some w2 ∧ ws[4]? = some w4 ∧ rowQ ws = (valD w2, valD w4) ∧ PySem.intText? ⟨w2.toArray⟩ = some ((valD w2 : Nat) : Int) ∧ PySem.intText? ⟨w4.toArray⟩ = some ((valD w4 : Nat) : Int) ∧ w2.length ≤ 10 ∧ w4.length ≤ 10 := by
  obtain ⟨h1, h2⟩ := h
  have nb : ∀ {w : List Nat} {lo hi : Nat}, numIn w lo hi = true → numB w = true := fun {w lo hi} h => by
    unfold numIn at h
    rw [Bool.and_eq_true] at h
    exact h.1
  have n2 : ws.getD 2 [] ≠ [] := fun z => by have := nb h1; rw [z] at this; cases this
  have n4 : ws.getD 4 [] ≠ [] := fun z => by have := nb h2; rw [z] at this; cases this
  have g2 := getD_some n2
  have g4 := getD_some n4
  have o2 := okw _ (List.mem_of_getElem? g2)
  have o4 := okw _ (List.mem_of_getElem? g4)
  exact ⟨_, _, g2, g4, rfl, int_tok o2.1 (nb h1), int_tok o4.1 (nb h2), o2.2.1, o4.2.1⟩
theorem row_okw {ws : List (List Nat)} (h : FitL ws) : OkW (intP (rowQ ws)) := by
  obtain ⟨h1, h2⟩ := h
  obtain ⟨a1, a2⟩ := num_in h1
  obtain ⟨b1, b2⟩ := num_in h2
  refine ⟨?_, ?_, ?_⟩
  · show (2 : Int) ≤ ((valD (ws.getD 4 []) : Nat) : Int)
    omega
  · show ((valD (ws.getD 4 []) : Nat) : Int) ≤ ((valD (ws.getD 2 []) : Nat) : Int)
    omega
  · show ((valD (ws.getD 2 []) : Nat) : Int) ≤ 12
    omega
theorem dn_pairs {H : Hp} : ∀ {xs : List V} {l : List (Int × Int)}, DtAll H xs (pairsD l) → DnAll H xs (pairsD l)
  | _, [], .nil => .nil
  | _, x :: l, .cons h t => by
    obtain ⟨p, rfl, e⟩ := h.pair_inv
    exact .cons (Dn.pair e) (dn_pairs t)
section
variable {P : Program} {w : World} {K : PySem.W.Frag} {mg : Str → Option Value} {base : Heap} {C_Rule C_Reader C_BadText : Addr}
theorem fn_law (T : TX P K mg C_Rule C_Reader C_BadText) {f0 : Addr} {fd : FuncData} (D : C8.Def K mg "law" s_law f0 fd) : FnOk P w K mg base C8.CX0 10 f0 fd P_law (spLaw K) := by
  have G__law_rule := cal__law_rule (P := P) (w := w) (base := base) T
  have G_Rule_init := mak_Rule_init_w (P := P) (w := w) (base := base) T
  have G__law_lines := cal__law_lines (P := P) (w := w) (base := base) T
  have G__law_laid := cal__law_laid (P := P) (w := w) (base := base) T
  have G_write_rule := cal_write_rule (P := P) (w := w) (base := base) T
  have G__law_read := cal__law_read (P := P) (w := w) (base := base) T
  have G_Rule_eq := met_Rule_eq (P := P) (w := w) (base := base) T
  have G__law_due := cal__law_due (P := P) (w := w) (base := base) T
  have G__law_bent := cal__law_bent (P := P) (w := w) (base := base) T
  refine fn0 D.fn sc_law (by walk_at "len") (fun cdv A outer s H vs Q E hr h => ?_)
  obtain ⟨sc, ns, rfl, hS, _, k⟩ := h
  refine ⟨_, (pss_cons (ps_s 1 sc_law.nd (pe_draw (pa_cons (pv 0) (pa_cons pe_int pa_nil))))
      (pss_cons (ps_s 2 sc_law.nd (pe_c G__law_rule hr (by decide) rfl (pa_cons (pv 1) pa_nil)))
      (pss_cons (ps_par (i := 3) (j := 4) rfl sc_law.nd rfl rfl (by decide) rfl rfl (pa_cons (pe_mk G_Rule_init hr (by decide) rfl (pa_cons (pe_ix ix_tup (pv 2) pe_int (fun _ _ => rfl)) (pa_cons (pe_ix ix_tup (pv 2) pe_int (fun _ _ => rfl)) pa_nil))) (pa_cons (pe_c G__law_lines hr (by decide) rfl (pa_cons (pv 1) (pa_cons (pv 2) pa_nil))) pa_nil)) (by rfl))
      (pss_cons (ps_asg (pe_c G__law_laid hr (by decide) rfl (pa_cons (pv 1) (pa_cons (pv 4) pa_nil))) (pg_tup rfl (pgs_cons (pg_n 5 sc_law.nd) (pgs_cons (pg_n 6 sc_law.nd) pgs_nil))))
      (pss_cut (ps_if (PW.pt (pw_or (pt_cmpR (op_neO G_Rule_eq hr (by decide) T.ic_Rule.hm T.ne_Rule) (pe_c G__law_read hr (by decide) rfl (pa_cons (pe_joinX pe_str (pv 5)) pa_nil)) (pv 3) (nomark _)) (pw_or1 (pt_cmpR (op_neO G_Rule_eq hr (by decide) T.ic_Rule.hm T.ne_Rule) (pe_c G__law_read hr (by decide) rfl (pa_cons (pe_c G_write_rule hr (by decide) rfl (pa_cons (pv 3) pa_nil)) pa_nil)) (pv 3) (nomark _))))) (pss_one (ps_ret pe_bl)) pss_nil)
      (pss_cut (ps_s 7 sc_law.nd (pe_joinX pe_str (pe_lc (own := [("_law_words", 8)]) (g := gName 8) (tt := tYes) rfl sc_law.nd (pi_list (pe_c G__law_lines hr (by decide) rfl (pa_cons (pv 1) (pa_cons (pe_tup (pa_cons (pe_fld (pv 3) rfl) (pa_cons (pe_fld (pv 3) rfl) pa_nil))) pa_nil)))) (blkOk_by (own := [("_law_words", 8)]) (N := N_law) (sc := fnScope s_law) (by decide +kernel)) (fun _ _ _ _ _ => (pg_n 8 sc_law.nd)) (fun _ _ _ _ _ => pts_nil) (fun _ _ _ _ _ => (pe_op op_addS (pe_joinXK K pe_str (pv 8)) pe_str)))))
      (pss_cut (ps_if (PW.pt (pw_or (pt_cmpR op_ne (pe_c G_write_rule hr (by decide) rfl (pa_cons (pv 3) pa_nil)) (pv 7) (nomark _)) (pw_or1 (pt_cmpR op_notNn (pe_c G__law_due hr (by decide) rfl (pa_cons (pv 4) (pa_cons (pv 6) (pa_cons (pe_callB cr_lenS (by rfl) T.b_len (by decide +kernel) (pa_cons (pv 5) pa_nil)) pa_nil)))) pe_non (nomark _))))) (pss_one (ps_ret pe_bl)) pss_nil)
      (pss_cons (ps_s 9 sc_law.nd (pe_c G__law_bent hr (by decide) rfl (pa_cons (pv 1) (pa_cons (pv 4) pa_nil))))
      (pss_cons (ps_asg (pe_c G__law_laid hr (by decide) rfl (pa_cons (pv 1) (pa_cons (pv 9) pa_nil))) (pg_tup rfl (pgs_cons (pg_n 5 sc_law.nd) (pgs_cons (pg_n 6 sc_law.nd) pgs_nil))))
      (pss_cut (ps_par (i := 10) (j := 11) rfl sc_law.nd rfl rfl (by decide) rfl rfl (pa_cons (pe_c G__law_read hr (by decide) rfl (pa_cons (pe_joinX pe_str (pv 5)) pa_nil)) (pa_cons (pe_c G__law_due hr (by decide) rfl (pa_cons (pv 9) (pa_cons (pv 6) (pa_cons (pe_callB (cr_max2 rfl) (by rfl) T.b_max (by decide +kernel) (pa_cons pe_int (pa_cons (pe_callB cr_lenS (by rfl) T.b_len (by decide +kernel) (pa_cons (pv 5) pa_nil)) pa_nil))) pa_nil)))) pa_nil)) (by rfl))
      (pss_cut (ps_if (PW.pt (pw_or (PW.pt (pw_and (pt_cmpR op_notNn (pv 11) pe_non (nomark _)) (pw_and1 (pt_cmpR (op_neD hr.units) (pv 10) (pv 11) (nomark _))))) (pw_or1 (PW.pt (pw_and (pt_cmpR op_isNn (pv 11) pe_non (nomark _)) (pw_and1 (pt_val (pe_callB call_isi (by rfl) T.b_isinstance (by decide +kernel) (pa_cons (pv 10) (pa_cons (pe_bltn (v := .ty "tuple") (u := .type "tuple") rfl T.b_tuple (by decide +kernel) rfl) pa_nil)))))))))) (pss_one (ps_ret pe_bl)) pss_nil)
      (pss_cut (ps_if (pt_cmpR op_isNn (pv 11) pe_non (nomark _)) (pss_cons (ps_setLc (i := 12) (own := [("_law_words", 8)]) (g := gName 8) (tt := _) rfl sc_law.nd rfl rfl (sw_true rfl rfl rfl (by decide +kernel)) (pi_list (pv 9)) (blkOk_by (own := [("_law_words", 8)]) (N := N_law) (sc := fnScope s_law) (by decide +kernel)) (fun _ _ _ _ _ => (pg_n 8 sc_law.nd)) (fun _ _ _ _ _ => (pts_one (pt_cmpR op_eq (pe_ix (ixK rIxL K ix_list) (pv 8) pe_int (fun _ _ => rfl)) pe_str (nomark _)))) (fun _ _ _ _ _ => (pe_tup (pa_cons (pe_callTy cr_intS (by rfl) T.b_int (by decide +kernel) (pa_cons (pe_ix (ixK rIxL K ix_list) (pv 8) pe_int (fun _ _ => rfl)) pa_nil)) (pa_cons (pe_callTy cr_intS (by rfl) T.b_int (by decide +kernel) (pa_cons (pe_ix (ixK rIxL K ix_list) (pv 8) pe_int (fun _ _ => rfl)) pa_nil)) pa_nil)))))
      (pss_one (ps_if (pt_cmpR (op_neO G_Rule_eq hr (by decide) T.ic_Rule.hm T.ne_Rule) (pv 10) (pe_mk G_Rule_init hr (by decide) rfl (pa_cons (pv 12) (pa_cons (pe_lc (own := [("_law_words", 8)]) (g := gName 8) (tt := tYes) rfl sc_law.nd (pi_list (pe_slice sl_list (pv 9) (po_some (pe_callB cr_lenS (by rfl) T.b_len (by decide +kernel) (pa_cons (pv 12) pa_nil))) po_none)) (blkOk_by (own := [("_law_words", 8)]) (N := N_law) (sc := fnScope s_law) (by decide +kernel)) (fun _ _ _ _ _ => (pg_n 8 sc_law.nd)) (fun _ _ _ _ _ => pts_nil) (fun _ _ _ _ _ => (pe_tup (pa_cons (pe_callTy cr_intS (by rfl) T.b_int (by decide +kernel) (pa_cons (pe_ix (ixK rIxL K ix_list) (pv 8) pe_int (fun _ _ => rfl)) pa_nil)) (pa_cons (pe_callTy cr_intS (by rfl) T.b_int (by decide +kernel) (pa_cons (pe_ix (ixK rIxL K ix_list) (pv 8) pe_int (fun _ _ => rfl)) pa_nil)) pa_nil))))) pa_nil))) (nomark _)) (pss_one (ps_ret pe_bl)) pss_nil))) pss_nil)
      (pss_cons (ps_s 13 sc_law.nd (pe_lst (pa_cons (pe_tup (pa_cons pe_int (pa_cons (pe_tup (pa_cons pe_int (pa_cons pe_int pa_nil))) pa_nil))) (pa_cons (pe_tup (pa_cons pe_non (pa_cons (pe_tup (pa_cons pe_int (pa_cons pe_int pa_nil))) pa_nil))) (pa_cons (pe_tup (pa_cons pe_str (pa_cons (pe_tup (pa_cons pe_int (pa_cons pe_int pa_nil))) pa_nil))) (pa_cons (pe_tup (pa_cons pe_str (pa_cons (pe_tup (pa_cons pe_int (pa_cons pe_int pa_nil))) pa_nil))) (pa_cons (pe_tup (pa_cons pe_str (pa_cons (pe_tup (pa_cons pe_int (pa_cons pe_int pa_nil))) pa_nil))) (pa_cons (pe_tup (pa_cons pe_str (pa_cons (pe_tup (pa_cons pe_int (pa_cons pe_int pa_nil))) pa_nil))) pa_nil))))))))
      (pss_one (ps_ret (pe_and (pe_callB (cr_all rfl) (by rfl) T.b_all (by decide +kernel) (pa_cons (pe_lc (own := [("_law_text", 14), ("_law_due_here", 7)]) (g := gTup _ 2 (gCons (gName 14) (gCons (gName 7) gNil))) (tt := tYes) rfl sc_law.nd (pi_list (pv 13)) (blkOk_by (own := [("_law_text", 14), ("_law_due_here", 7)]) (N := N_law) (sc := fnScope s_law) (by decide +kernel)) (fun _ _ _ _ _ => (pg_tup rfl (pgs_cons (pg_n 14 sc_law.nd) (pgs_cons (pg_n 7 sc_law.nd) pgs_nil)))) (fun _ _ _ _ _ => pts_nil) (fun _ _ _ _ _ => (pe_cmpR (opK rEqD K (op_eqD hr.units)) (pe_c G__law_read hr (by decide) rfl (pa_cons (pv 14) pa_nil)) (pv 7) (nomark _)))) pa_nil)) (pe_one (pe_cmpR (op_eqO G_Rule_eq hr (by decide)) (pe_c G__law_read hr (by decide) rfl (pa_cons pe_str pa_nil)) (pe_mk G_Rule_init hr (by decide) rfl (pa_cons (pe_lst pa_nil) (pa_cons (pe_lst (pa_cons (pe_tup (pa_cons pe_int (pa_cons pe_int pa_nil))) pa_nil)) pa_nil))) (nomark _))))))))))))))))))), ?_⟩
  walk_at "rd"
  refine rd_drawN fun a H1 _ s1 ea => ?_
  walk_at "rd"
  refine ⟨a, rfl, ⟨sc, ns, ea, L2.Same.seq s1 hS⟩, fun H2 t f q s2 ok tp => ?_⟩
  have dr2 : DrawP K H2 a := ⟨sc, ns, s2 _ _ ea, L2.Same.seq (s1.trans s2) hS⟩
  obtain ⟨l1, l2, xs1, xs2, et, el1, el2, dl1, dl2⟩ := id tp
  have o1 := ok.f2
  have o2 := ok.q2
  walk_at "rd"
  refine rd_ixT et (by rfl) ?_
  walk_at "rd"
  refine rd_ixT et (atI_nat' (i := 1) rfl) ?_
  walk_at "rd"
  refine rd_make fun r dx H3 s3 hx e3 => ?_
  refine ⟨r, dx, l1, l2, H2, xs1, xs2, f, q, rfl, s3, hx, e3, .inl (s3 _ _ el1), .inl (s3 _ _ el2), dl1.mono s3, dl2.mono s3, by omega, by omega, ok.ne, okP_W ok.okf, okP_W ok.okq, fun H4 s4 hr => ⟨rfl, ?_⟩⟩
  walk_at "rd"
  refine ⟨_, t, f, q, rfl, ⟨l1, l2, xs1, xs2, s4 _ _ et, .inl (s4 _ _ el1), .inl (s4 _ _ el2), dl1.mono s4, dl2.mono s4⟩, okP_N ok.okf, okP_N ok.okq, by omega, by omega, fun H5 L xs s5 hL eL iL => ?_⟩
  obtain ⟨ll4, lne, llw⟩ := lines_ok ok
  have F : L49 K C_Rule H5 a r L xs f q := ⟨ok, (dr2.mono s4).mono s5, hr.mono s5, eL, iL.imp fun x y z => z.mono wo_same⟩
  clear tp et el1 el2 dl1 dl2 hr dr2 e3 ea s1 s2 s3 s4 s5 hS iL eL
  walk_at "rd"
  refine ⟨a, L, xs, _, rfl, F.dr, F.eL, F.iL, by omega, fun ws hw => ⟨by rw [(llw ws hw).1]; decide, (llw ws hw).2⟩, fun H6 u R P rs ps us s6 eu eR eP iP lay lr => ?_⟩
  refine rd_gtup eu rfl ?_
  walk_at "rd"
  have F := F.mono s6
  have G : R49 H6 R P rs us ps (linesW f q) := ⟨eR, eP, iP, lay, by omega⟩
  clear eu eR eP iP lay lr s6
  obtain ⟨f', ef⟩ : ∃ f', f' = (shN f q).1 := ⟨_, rfl⟩
  obtain ⟨q', eq⟩ : ∃ q', q' = (shN f q).2 := ⟨_, rfl⟩
  obtain ⟨m1, m2, m3, m4⟩ := sh_mem f q
  rw [← ef] at m1 m3
  rw [← eq] at m2 m4
  have q'ne : q' ≠ [] := by rw [eq]; exact sh_ne ok.ne
  have okf' : ∀ x ∈ f', OkN x := fun x hx => okP_N ok.okf x (m1 x hx)
  have okq' : ∀ x ∈ q', OkN x := fun x hx => okP_N ok.okq x (m2 x hx)
  have idem : shN f' q' = shN f q := by rw [ef, eq]; exact sh_idem o1 o2 ok.ne
  have hW : ∀ {H' : Hp}, Same H6 H' → RuleAt C_Rule H' r (pairsD f') (pairsD q') := fun {H'} s => by
    rw [ef, eq]
    exact RuleAt.mono s F.hr
  have wl' : ∀ ws ∈ linesW f' q', ∀ w ∈ ws, OkWd w := fun ws hw => by
    obtain ⟨w, x, rfl, h1, h2⟩ := linesW_of okf' okq' ws hw
    exact line_ok h1 h2
  have ll' : (linesW f' q').length ≤ 4 := by
    have : (linesW f' q').length = f'.length + q'.length := by simp [linesW]
    omega
  have wr' : (writL (linesW f' q')).length ≤ 4 * 21 := Nat.le_trans (writ_len (n := 20) (fun ws hw => by
    obtain ⟨w, x, rfl, h1, _⟩ := linesW_of okf' okq' ws hw
    exact line_len (by rcases h1 with rfl | rfl <;> decide))) (Nat.mul_le_mul_right _ ll')
  -- both texts are read as the rule
  walk_at "rd"
  refine ⟨fun σ H' => Same H6 H' ∧ σ = [some (.ref sc), some (.ref a), some (.ref t), some (.ref r), some (.ref L), some (.ref R), some (.ref P), none, none, none, none, none, none, none, none], ?_, ?_⟩
  · walk_at "rd"
    have sR := spl_lines G.lay
    have hjoin : ((rs.map mkS).map (·.length)).sum + (rs.map mkS).length * ("\n" : Str).length ≤ 16777216 := by
      have h1 : (rs.map mkS).map (·.length) = rs.map (·.length) := by
        rw [List.map_map]
        exact List.map_congr_left fun x _ => str_len x
      have h2 := sum_le (n := 300) fun r hr => (G.lay.ok.1 r hr).1
      have h3 : rs.length * 300 ≤ 25 * 300 := Nat.mul_le_mul_right _ G.lr
      have h4 : ("\n" : Str).length = 1 := by decide +kernel
      have h5 := G.lr
      rw [h1, List.length_map, h4]
      omega
    refine rd_joinM (ys := rs.map mkS) (by rw [← wV_mk]; exact G.eR) hjoin ?_
    refine ⟨_, rfl, .inr ⟨_, rfl, join_small G.lr (fun r hr => (G.lay.ok.1 r hr).1), ?_, ?_, ?_⟩⟩
    · rw [sR.1, sR.2.2]
      have := G.lr
      omega
    · rw [sR.1]
      exact spl_ok sR.2.1
    refine .inr ⟨f.map natP, q.map natP, by rw [sR.1]; exact read_lines sR.2.1 (okP_N ok.okf) (okP_N ok.okq) (by omega) (by omega) ok.ne, fun H7 x s7 hx => ?_⟩
    rw [int_nat (okP_N ok.okf), int_nat (okP_N ok.okq)] at hx
    walk_at "rd"
    obtain ⟨dx1, u1, u2, ex, _⟩ := id hx
    obtain ⟨dx2, u3, u4, er, _⟩ := id (F.hr.mono s7)
    refine rd_neO ex er ⟨x, r, f, q, rfl, hx, F.hr.mono s7, fun H8 s8 => ⟨_, rfl, ?_⟩⟩
    walk_at "rd"
    have s68 := s7.trans s8
    refine ⟨r, f', q', rfl, hW s68, okf', okq', by omega, by omega, fun H9 s9 => ?_⟩
    have hl := writ_lines (ls := linesW f' q') fun ws hw => fun h => by have := (words_ch (wl' ws hw) 10 h).1; omega
    obtain ⟨ps2, lay2⟩ := lines_laid (linesW f' q') 1 (linesW_of okf' okq')
    refine ⟨_, rfl, .inr ⟨_, rfl, by rw [str_len]; omega, ?_, ?_, ?_⟩⟩
    · rw [hl]
      simp
      omega
    · rw [hl]
      intro l hl
      have := lay2.ok.1 l hl
      exact ⟨by have := this.1; omega, fun c hc => by have := (this.2 c hc).2; omega⟩
    refine .inr ⟨f'.map natP, q'.map natP, by rw [hl]; exact read_lines lay2 okf' okq' (by omega) (by omega) q'ne, fun HA y sA hy => ?_⟩
    rw [int_nat okf', int_nat okq'] at hy
    have hy : RuleS C_Rule HA y f q := by
      have hy : RuleAt C_Rule HA y (pairsD (shN f' q').1) (pairsD (shN f' q').2) := hy
      rw [idem] at hy
      exact hy
    walk_at "rd"
    have s6A := s68.trans (s9.trans sA)
    obtain ⟨dx3, u5, u6, ey, _⟩ := id hy
    obtain ⟨dx4, u7, u8, er2, _⟩ := id (F.hr.mono s6A)
    refine rd_neO ey er2 ⟨y, r, f, q, rfl, hy, F.hr.mono s6A, fun HB sB => ⟨_, rfl, ?_⟩⟩
    walk_at "rd"
    exact ⟨s6A.trans sB, rfl⟩
  rintro σ H7 ⟨s7, rfl⟩
  have F := F.mono s7
  have G := G.mono s7
  have hW : ∀ {H' : Hp}, Same H7 H' → RuleAt C_Rule H' r (pairsD f') (pairsD q') := fun {H'} s => hW (s7.trans s)
  clear s7
  walk_at "rd"
  refine ⟨fun σ H' => Same H7 H' ∧ σ = [some (.ref sc), some (.ref a), some (.ref t), some (.ref r), some (.ref L), some (.ref R), some (.ref P), some (.str ⟨(writL (linesW f' q')).toArray⟩), none, none, none, none, none, none, none], ?_, ?_⟩
  · obtain ⟨dx, t1, t2, e, h1, h2⟩ := hW (Same.refl H7)
    obtain ⟨ys1, e1, d1⟩ := h1.tup_inv
    obtain ⟨ys2, e2, d2⟩ := h2.tup_inv
    walk_at "rd"
    refine rd_fld e T.cl_Rule T.na_Rule_front (rf_front _ _) ?_
    walk_at "rd"
    refine rd_fld e T.cl_Rule T.na_Rule_period (rf_period _ _) ?_
    walk_at "rd"
    refine rd_newT (by simp) fun tt H8 _ s8 ett _ => ?_
    walk_at "rd"
    refine ⟨_, tt, f', q', rfl, ⟨t1, t2, ys1, ys2, ett, .inr (s8 _ _ e1), .inr (s8 _ _ e2), (dn_pairs d1).mono s8, (dn_pairs d2).mono s8⟩, okf', okq', by omega, by omega, fun H9 L2 zs s9 hL2 eL2 iL2 => ?_⟩
    refine rd_lsR (SqL.of eL2) ?_
    refine lcR_lst (xs := zs) (fun D i H' => Same H9 H' ∧ H' D = some (.lst ((((linesW f' q').take i).map fun ws => wordsL ws ++ [10]).map wV))) (fun D i H' _ ⟨s, _⟩ => SqL.of (s _ _ eL2)) (fun D H' _ s e _ => ⟨s, by rw [e]; rfl⟩) ?_ ?_
    · rintro D i x H' hD hx ⟨sA, eD⟩
      obtain ⟨ws, hws, r2, rfl, er2⟩ := iL2.getV hx
      have er2 := sA _ _ (wo_same _ _ er2)
      have hil : i < (linesW f' q').length := (List.getElem?_eq_some_iff.mp hws).1
      have okw := wl' ws (List.mem_of_getElem? hws)
      obtain ⟨wq, xq, ewq, hwq, _⟩ := linesW_of okf' okq' ws (List.mem_of_getElem? hws)
      have lw5 : ws.length = 5 := by rw [ewq]; rfl
      have lw20 : (wordsL ws).length ≤ 20 := by
        rw [ewq]
        exact line_len (by rcases hwq with rfl | rfl <;> decide)
      have spW : (" " : Str) = ⟨[32].toArray⟩ := by decide +kernel
      walk_at "rd"
      refine ⟨rfl, ?_⟩
      walk_at "rd"
      refine rd_joinM (ys := ws.map mkS) (by rw [← wV_mk]; exact er2) ?_ ?_
      · have h1 : (ws.map mkS).map (·.length) = ws.map (·.length) := by
          rw [List.map_map]
          exact List.map_congr_left fun x _ => str_len x
        have h2 := sum_le (n := 10) fun w hw => (okw w hw).2.1
        have h4 : (" " : Str).length = 1 := by decide +kernel
        rw [h1, List.length_map, h4]
        omega
      have ej : Txt.join " " (ws.map mkS) = ⟨(wordsL ws).toArray⟩ := TL.ext_tl (by
        show (Txt.join " " (ws.map mkS)).cps.toList = wordsL ws
        rw [join_tl, spW]
        rfl)
      rw [ej]
      walk_at "rd"
      rw [nlW]
      refine ad_str (by simp; omega) ?_
      refine rd_lcE eD (by simp; omega) fun HA eHA eA => ?_
      refine ⟨by rw [eHA]; exact Same.mut sA hD, ?_⟩
      rw [eA, List.take_succ, hws, List.map_append, List.map_append]
      rfl
    · rintro D HA hD ⟨sA, eD⟩
      rw [iL2.1, List.take_length] at eD
      walk_at "rd"
      have emW : ("" : Str) = ⟨([] : List Nat).toArray⟩ := by decide +kernel
      refine rd_joinM (ys := ((linesW f' q').map fun ws => wordsL ws ++ [10]).map mkS) (by rw [← wV_mk]; exact eD) ?_ ?_
      · have h1 : (((linesW f' q').map fun ws => wordsL ws ++ [10]).map mkS).map (·.length) = ((linesW f' q').map fun ws => wordsL ws ++ [10]).map (·.length) := by
          rw [List.map_map]
          exact List.map_congr_left fun x _ => str_len x
        have h2 := sum_le (n := 21) (rows := (linesW f' q').map fun ws => wordsL ws ++ [10]) fun w hw => by
          obtain ⟨ws, hws, rfl⟩ := List.mem_map.mp hw
          obtain ⟨wq, xq, ewq, hwq, _⟩ := linesW_of okf' okq' ws hws
          have : (wordsL ws).length ≤ 20 := by
            rw [ewq]
            exact line_len (by rcases hwq with rfl | rfl <;> decide)
          rw [List.length_append, List.length_singleton]
          omega
        have h4 : ("" : Str).length = 0 := by decide +kernel
        rw [List.length_map] at h2
        rw [h1, h4]
        omega
      have ej : Txt.join "" (((linesW f' q').map fun ws => wordsL ws ++ [10]).map mkS) = ⟨(writL (linesW f' q')).toArray⟩ := TL.ext_tl (by
        show (Txt.join "" (((linesW f' q').map fun ws => wordsL ws ++ [10]).map mkS)).cps.toList = writL (linesW f' q')
        rw [join_tl, emW]
        show TL.joinL [] _ = _
        rw [joinL_nil]
        rfl)
      rw [ej]
      exact ⟨s8.trans (s9.trans sA), rfl⟩
  rintro σ H8 ⟨s8, rfl⟩
  have F := F.mono s8
  have G := G.mono s8
  have hW : ∀ {H' : Hp}, Same H8 H' → RuleAt C_Rule H' r (pairsD f') (pairsD q') := fun {H'} s => hW (s8.trans s)
  clear s8
  walk_at "rd"
  refine ⟨fun σ H' => Same H8 H' ∧ σ = [some (.ref sc), some (.ref a), some (.ref t), some (.ref r), some (.ref L), some (.ref R), some (.ref P), some (.str ⟨(writL (linesW f' q')).toArray⟩), none, none, none, none, none, none, none], ?_, ?_⟩
  · walk_at "rd"
    refine ⟨r, f', q', rfl, hW (Same.refl _), okf', okq', by omega, by omega, fun H9 s9 => ?_⟩
    walk_at "rd"
    refine rd_ne rfl ?_
    rw [decide_eq_true rfl]
    walk_at "rd"
    refine rd_lenL (s9 _ _ G.eR) ?_
    rw [List.length_map]
    walk_at "rd"
    have F := F.mono s9
    have G := G.mono s9
    refine ⟨L, P, xs, us, linesW f q, ps, rs.length, rfl, F.eL, G.eP, F.iL, G.iP, G.lay.ok.2, by omega, fun ws hw => ⟨(fun z => by have := (llw ws hw).1; rw [z] at this; cases this), by rw [(llw ws hw).1]; decide, (llw ws hw).2⟩, Sl.LaidR.cols G.lay, .inr ⟨?_, fun HA sA => ?_⟩⟩
    · exact due_lines rs.length q f 0 ps (okP_N ok.okf) (okP_N ok.okq) (by omega) (by omega) ok.ne (by rw [G.lay.ok.2]; simp [linesW])
    · walk_at "rd"
      refine rd_notN0 ?_
      rw [decide_eq_true rfl]
      walk_at "rd"
      exact ⟨s9.trans sA, rfl⟩
  rintro σ H9 ⟨s9, rfl⟩
  have F := F.mono s9
  clear s9 hW
  walk_at "rd"
  refine ⟨a, L, xs, _, rfl, F.dr, F.eL, F.iL, lne, ll4, llw, fun HA B ub bs sA eB iB okb neb => ?_⟩
  have F := F.mono sA
  walk_at "rd"
  refine ⟨a, B, ub, bs, rfl, F.dr, eB, iB, by have := okb.1; omega, fun ws hw => ⟨by have := (okb.2 ws hw).1; omega, (okb.2 ws hw).2⟩, fun HB u R2 P2 rs2 ps2 us2 sB eu eR2 eP2 iP2 lay2 lr2 => ?_⟩
  refine rd_gtup eu rfl ?_
  walk_at "rd"
  have G : R49 HB R2 P2 rs2 us2 ps2 bs := ⟨eR2, eP2, iP2, lay2, by have := okb.1; omega⟩
  have eB := sB _ _ eB
  have iB : ItX LnP HB ub bs := iB.imp fun x y z => z.mono sB
  clear eu eR2 eP2 iP2 lr2 sA sB F
  have sR := spl_lines lay2
  obtain ⟨m, em⟩ : ∃ m, m = max 1 rs2.length := ⟨_, rfl⟩
  have due := read_due sR.2.1 m [] [] neb (by rw [sR.2.2]; omega)
  have due : (∀ p, dueL m 0 0 false bs ps2 = some p → readL [] [] 1 (splR rs2) = .inl p) ∧
    (dueL m 0 0 false bs ps2 = none → ∃ A B, bs = A ++ B ∧ (([] : List (Nat × Nat)) ≠ [] → A = []) ∧ (∀ ws ∈ A, ws.getD 0 [] = wFirst ∧ FitL ws) ∧ (∀ ws ∈ B, ws.getD 0 [] = wThen ∧ FitL ws) ∧ readL [] [] 1 (splR rs2) = .inr ([] ++ A.map rowQ, [] ++ B.map rowQ)) := due
  let Mid : L2.St → Hp → Prop := fun σ H' => Same HB H' ∧ ∃ x y, σ = [some (.ref sc), some (.ref a), some (.ref t), some (.ref r), some (.ref L), some (.ref R2), some (.ref P2), some (.str ⟨(writL (linesW f' q')).toArray⟩), none, some (.ref B), some x, some y, none, none, none] ∧
    ((∃ (p : Nat × Nat) (t1 t2 : Addr), x = .ref t1 ∧ y = .ref t2 ∧ H' t1 = some (.tup [nV p.1, nV p.2]) ∧ H' t2 = some (.tup [nV p.1, nV p.2])) ∨
     (∃ (A C : List (List (List Nat))) (x' : Addr), x = .ref x' ∧ y = .non ∧ bs = A ++ C ∧ (∀ ws ∈ A, ws.getD 0 [] = wFirst ∧ FitL ws) ∧ (∀ ws ∈ C, ws.getD 0 [] = wThen ∧ FitL ws) ∧ readL [] [] 1 (splR rs2) = .inr (A.map rowQ, C.map rowQ) ∧ RuleS C_Rule H' x' ((A.map rowQ).map intP) ((C.map rowQ).map intP)))
  refine ⟨Mid, ?_, ?_⟩
  · walk_at "rd"
    have hjoin : ((rs2.map mkS).map (·.length)).sum + (rs2.map mkS).length * ("\n" : Str).length ≤ 16777216 := by
      have h1 : (rs2.map mkS).map (·.length) = rs2.map (·.length) := by
        rw [List.map_map]
        exact List.map_congr_left fun x _ => str_len x
      have h2 := sum_le (n := 300) fun r hr => (lay2.ok.1 r hr).1
      have h3 : rs2.length * 300 ≤ 25 * 300 := Nat.mul_le_mul_right _ G.lr
      have h4 : ("\n" : Str).length = 1 := by decide +kernel
      have h5 := G.lr
      rw [h1, List.length_map, h4]
      omega
    refine rd_joinM (ys := rs2.map mkS) (by rw [← wV_mk]; exact G.eR) hjoin ?_
    have dueC : ∀ {HC : Hp}, Same HB HC → ∀ Q' : VK, ((∃ p, dueL m 0 0 false bs ps2 = some p ∧ ∀ H' t, Same HC H' → H' t = some (.tup [nV p.1, nV p.2]) → Q' (.ref t) H') ∨ (dueL m 0 0 false bs ps2 = none ∧ ∀ H', Same HC H' → Q' .non H')) → spDue [.ref B, .ref P2, .int (max 1 (rs2.length : Nat))] HC Q' C8.E0 := fun {HC} sC Q' hq =>
      ⟨B, P2, ub, us2, bs, ps2, m, by rw [em, show (max 1 ((rs2.length : Nat) : Int)) = ((max 1 rs2.length : Nat) : Int) by omega], sC _ _ eB, sC _ _ G.eP, iB.imp fun x y z => z.mono sC, G.iP.imp fun x y z => z.mono sC, lay2.ok.2, by have := okb.1; omega, fun ws hw => ⟨neb ws hw, by have := (okb.2 ws hw).1; omega, (okb.2 ws hw).2⟩, Sl.LaidR.cols lay2, hq⟩
    refine ⟨_, rfl, .inr ⟨_, rfl, join_small G.lr (fun r hr => (lay2.ok.1 r hr).1), ?_, ?_, ?_⟩⟩
    · rw [sR.1, sR.2.2]
      have := G.lr
      omega
    · rw [sR.1]
      exact spl_ok sR.2.1
    rw [sR.1]
    cases qd : dueL m 0 0 false bs ps2 with
    | some p =>
      refine .inl ⟨p.1, p.2, due.1 p qd, fun HC t1 sC et1 => ?_⟩
      walk_at "rd"
      refine rd_lenL (sC _ _ G.eR) ?_
      rw [List.length_map]
      walk_at "rd"
      refine dueC sC _ (.inl ⟨p, qd, fun HD t2 sD et2 => ?_⟩)
      walk_at "rd"
      exact ⟨sC.trans sD, _, _, rfl, .inl ⟨p, t1, t2, rfl, rfl, sD _ _ et1, et2⟩⟩
    | none =>
      obtain ⟨A, C, e1, _, e3, e4, e5⟩ := due.2 qd
      rw [List.nil_append, List.nil_append] at e5
      refine .inr ⟨_, _, e5, fun HC x' sC hx' => ?_⟩
      walk_at "rd"
      refine rd_lenL (sC _ _ G.eR) ?_
      rw [List.length_map]
      walk_at "rd"
      refine dueC sC _ (.inr ⟨qd, fun HD sD => ?_⟩)
      walk_at "rd"
      exact ⟨sC.trans sD, _, _, rfl, .inr ⟨A, C, x', rfl, rfl, e1, e3, e4, e5, hx'.mono sD⟩⟩
  rintro σ HC ⟨sC, x, y, rfl, hc⟩
  walk_at "rd"
  refine ⟨Mid, ?_, ?_⟩
  · rcases hc with ⟨p, t1, t2, rfl, rfl, et1, et2⟩ | ⟨A, C, x', rfl, rfl, e1, e3, e4, e5, hx'⟩
    · walk_at "rd"
      refine rd_notN0 ?_
      rw [show decide (V.ref t2 = .non) = false from decide_eq_false (fun q => by cases q)]
      walk_at "rd"
      refine rd_neD (d := .tuple [.int (p.1 : Nat), .int (p.2 : Nat)]) (e := .tuple [.int (p.1 : Nat), .int (p.2 : Nat)]) (.tup et1 (.cons (.int _) (.cons (.int _) .nil))) (.tup et2 (.cons (.int _) (.cons (.int _) .nil))) (shaped_pair ((p.1 : Nat), (p.2 : Nat))) (shaped_pair ((p.1 : Nat), (p.2 : Nat))) ?_
      rw [eqv_pl, decide_eq_true rfl]
      walk_at "rd"
      refine rd_isN0 ?_
      rw [show decide (V.ref t2 = .non) = false from decide_eq_false (fun q => by cases q)]
      walk_at "rd"
      exact ⟨sC, _, _, rfl, .inl ⟨p, t1, t2, rfl, rfl, et1, et2⟩⟩
    · walk_at "rd"
      refine rd_notN0 ?_
      rw [show decide (V.non = .non) = true from decide_eq_true rfl]
      walk_at "rd"
      refine rd_isN0 ?_
      rw [show decide (V.non = .non) = true from decide_eq_true rfl]
      walk_at "rd"
      obtain ⟨dx1, u1, u2, ex, _⟩ := id hx'
      refine rd_isiTupF T.i_Rule T.st_Rule ex ?_
      walk_at "rd"
      exact ⟨sC, _, _, rfl, .inr ⟨A, C, x', rfl, rfl, e1, e3, e4, e5, hx'⟩⟩
  clear hc sC
  rintro σ HD ⟨sD, x, y, rfl, hc⟩
  walk_at "rd"
  refine ⟨fun σ H' => ∃ v8 v10 v11 v12 : Option V, σ = [some (.ref sc), some (.ref a), some (.ref t), some (.ref r), some (.ref L), some (.ref R2), some (.ref P2), some (.str ⟨(writL (linesW f' q')).toArray⟩), v8, some (.ref B), v10, v11, v12, none, none], ?_, ?_⟩
  · rcases hc with ⟨p, t1, t2, rfl, rfl, et1, et2⟩ | ⟨A, C, x', rfl, rfl, e1, e3, e4, e5, hx'⟩
    · walk_at "rd"
      refine rd_isN0 ?_
      rw [show decide (V.ref t2 = .non) = false from decide_eq_false (fun q => by cases q)]
      walk_at "rd"
      exact ⟨_, _, _, _, rfl⟩
    · walk_at "rd"
      refine rd_isN0 ?_
      rw [show decide (V.non = .non) = true from decide_eq_true rfl]
      have eB := sD _ _ eB
      have iB : ItX LnP HD ub bs := iB.imp fun x y z => z.mono sD
      obtain ⟨ro1, ro2, ro3, ro4, ro5⟩ := read_ok (fun q h => by cases h) (fun q h => by cases h) (Nat.zero_le _) (Nat.zero_le _) e5
      rw [List.length_map] at ro3 ro4
      have fitB : ∀ ws ∈ bs, FitL ws := fun ws hw => by
        rw [e1] at hw
        rcases List.mem_append.mp hw with g | g
        · exact (e3 ws g).2
        · exact (e4 ws g).2
      have fstW : ("first" : Str) = ⟨wFirst.toArray⟩ := by decide +kernel
      let tell : List (List Nat) → Int × Int := fun ws => intP (rowQ ws)
      -- a pair of a line
      have get : ∀ {H' : Hp} {r2 : Addr} {ws : List (List Nat)}, H' r2 = some (.lst (ws.map wV)) → ws ∈ bs → ∃ w2 w4 : List Nat, atI (ws.map wV) 2 = some (wV w2) ∧ atI (ws.map wV) 4 = some (wV w4) ∧ PySem.intText? ⟨w2.toArray⟩ = some ((valD w2 : Nat) : Int) ∧ PySem.intText? ⟨w4.toArray⟩ = some ((valD w4 : Nat) : Int) ∧ w2.length ≤ 10 ∧ w4.length ≤ 10 ∧ tell ws = (((valD w2 : Nat) : Int), ((valD w4 : Nat) : Int)) := fun {H' r2 ws} e hw => by
        obtain ⟨w2, w4, g2, g4, g5, g6, g7, g8, g9⟩ := row_get (late := true) (full := true) (okb.2 ws hw).2 (fitB ws hw)
        refine ⟨w2, w4, atI_nat' (i := 2) (by rw [List.getElem?_map, g2]; rfl), atI_nat' (i := 4) (by rw [List.getElem?_map, g4]; rfl), g6, g7, g8, g9, ?_⟩
        show intP (rowQ ws) = _
        rw [g5]
        rfl
      walk_at "rd"
      refine rd_lsR (SqL.of eB) ?_
      refine lcR_lst (xs := ub) (fun D i H' => Same HD H' ∧ ∃ zs, H' D = some (.lst zs) ∧ zs.length ≤ i ∧ DnAll H' zs (pairsD (((bs.take i).filter isFst).map tell))) (fun D i H' _ ⟨s, _⟩ => SqL.of (s _ _ eB)) (fun D H' _ s e _ => ⟨s, [], e, Nat.le_refl _, .nil⟩) ?_ ?_
      · rintro D i x H' hDn hx ⟨s1, zs, eZ, lz, dz⟩
        obtain ⟨ws, hws, r2, rfl, er2⟩ := iB.getV hx
        have hwb := List.mem_of_getElem? hws
        have er2 := s1 _ _ er2
        obtain ⟨w2, w4, a2, a4, i2, i4, l2, l4, et⟩ := get er2 hwb
        have ne0 : ws ≠ [] := neb ws hwb
        have a0 : atI (ws.map wV) 0 = some (wV (ws.getD 0 [])) := by
          cases ws with
          | nil => exact absurd rfl ne0
          | cons w r => exact atI_nat' (i := 0) rfl
        have hil : i < bs.length := (List.getElem?_eq_some_iff.mp hws).1
        have efl : (bs.take (i + 1)).filter isFst = (bs.take i).filter isFst ++ [ws].filter isFst := by
          rw [List.take_succ, hws, ← List.filter_append]
          rfl
        walk_at "rd"
        refine ⟨rfl, ?_⟩
        walk_at "rd"
        refine rd_ixL er2 a0 ?_
        walk_at "rd"
        refine rd_eq rfl ?_
        rw [fstW]
        by_cases c : ws.getD 0 [] = wFirst
        · rw [show decide (wV (ws.getD 0 []) = V.str ⟨wFirst.toArray⟩) = true from decide_eq_true (by rw [c]; rfl)]
          walk_at "rd"
          refine rd_ixL er2 a2 ?_
          walk_at "rd"
          refine rd_intS i2 (by rw [str_len]; exact Nat.le_trans l2 (by decide)) ?_
          walk_at "rd"
          refine rd_ixL er2 a4 ?_
          walk_at "rd"
          refine rd_intS i4 (by rw [str_len]; exact Nat.le_trans l4 (by decide)) ?_
          walk_at "rd"
          refine rd_newT (by simp) fun tt H2 _ s2 ett _ => ?_
          refine rd_lcE (s2 _ _ eZ) (by have := okb.1; omega) fun H3 eH3 e3' => ?_
          refine ⟨by rw [eH3]; exact Same.mut (s1.trans s2) hDn, _, e3', by rw [List.length_append, List.length_singleton]; omega, ?_⟩
          rw [efl, show [ws].filter isFst = [ws] by rw [List.filter_cons, if_pos (show isFst ws = true from decide_eq_true c)]; rfl, List.map_append]
          unfold pairsD
          rw [List.map_append, eH3]
          refine DnAll.updL (s2 _ _ eZ) ((dz.mono s2).append (.cons (Dn.pair (q := tell ws) ?_) .nil))
          rw [ett, et]
        · rw [show decide (wV (ws.getD 0 []) = V.str ⟨wFirst.toArray⟩) = false from decide_eq_false (fun q => c (str_inj (V.str.inj q)))]
          walk_at "rd"
          refine ⟨s1, zs, eZ, by omega, ?_⟩
          rw [efl, show [ws].filter isFst = [] by rw [List.filter_cons, if_neg (show ¬ isFst ws = true from fun q => c (of_decide_eq_true q))]; rfl, List.append_nil]
          exact dz
      · rintro Fr HE hFr ⟨sE, zs, eZ, lz, dz⟩
        rw [iB.1, List.take_length] at dz
        have efl : bs.filter isFst = A := by
          rw [e1, List.filter_append]
          have h1 : A.filter isFst = A := List.filter_eq_self.mpr fun ws hw => decide_eq_true (e3 ws hw).1
          have h2 : C.filter isFst = [] := List.filter_eq_nil_iff.mpr fun ws hw q => then_first ((e4 ws hw).1.symm.trans (of_decide_eq_true q))
          rw [h1, h2, List.append_nil]
        rw [efl] at dz
        have lzA : zs.length = A.length := by rw [dz.length]; simp [pairsD]
        walk_at "rd"
        refine rd_lenL eZ ?_
        walk_at "rd"
        refine rd_slL (SqL.of (sE _ _ eB)) fun S HF hS sF eS _ => ?_
        rw [cut_drop9, lzA] at eS
        refine rd_lsR (SqL.of eS) ?_
        have sDF := sE.trans sF
        have iS : ItX LnP HF (ub.drop A.length) C := by
          have h := (iB.imp fun x y z => LnP.mono sDF z : ItX LnP HF ub bs).drop A.length
          rw [e1, List.drop_left] at h
          exact h
        refine lcR_lst (xs := ub.drop A.length) (fun D i H' => Same HF H' ∧ ∃ zs, H' D = some (.lst zs) ∧ zs.length = i ∧ DnAll H' zs (pairsD ((C.take i).map tell))) (fun D i H' _ ⟨s, _⟩ => SqL.of (s _ _ eS)) (fun D H' _ s e _ => ⟨s, [], e, rfl, .nil⟩) ?_ ?_
        · rintro D i x H' hDn hx ⟨s1, zs, eZ2, lz2, dz2⟩
          obtain ⟨ws, hws, r2, rfl, er2⟩ := iS.getV hx
          have hwb : ws ∈ bs := by rw [e1]; exact List.mem_append_right _ (List.mem_of_getElem? hws)
          have er2 := s1 _ _ er2
          obtain ⟨w2, w4, a2, a4, i2, i4, l2, l4, et⟩ := get er2 hwb
          have hil : i < C.length := (List.getElem?_eq_some_iff.mp hws).1
          walk_at "rd"
          refine ⟨rfl, ?_⟩
          walk_at "rd"
          refine rd_ixL er2 a2 ?_
          walk_at "rd"
          refine rd_intS i2 (by rw [str_len]; exact Nat.le_trans l2 (by decide)) ?_
          walk_at "rd"
          refine rd_ixL er2 a4 ?_
          walk_at "rd"
          refine rd_intS i4 (by rw [str_len]; exact Nat.le_trans l4 (by decide)) ?_
          walk_at "rd"
          refine rd_newT (by simp) fun tt H2 _ s2 ett _ => ?_
          refine rd_lcE (s2 _ _ eZ2) (by omega) fun H3 eH3 e3' => ?_
          refine ⟨by rw [eH3]; exact Same.mut (s1.trans s2) hDn, _, e3', by rw [List.length_append, List.length_singleton]; omega, ?_⟩
          rw [List.take_succ, hws, List.map_append]
          unfold pairsD
          rw [List.map_append, eH3]
          refine DnAll.updL (s2 _ _ eZ2) ((dz2.mono s2).append (.cons (Dn.pair (q := tell ws) ?_) .nil))
          rw [ett, et]
        · rintro Pr HG hPr ⟨sG, zs2, eZ2, lz2, dz2⟩
          rw [iS.1, List.take_length] at dz2
          walk_at "rd"
          have sDG := sDF.trans sG
          refine rd_make fun x2 dx2 HH sH hx2 ex2 => ?_
          have eA : A.map tell = (A.map rowQ).map intP := by rw [List.map_map]; rfl
          have eC : C.map tell = (C.map rowQ).map intP := by rw [List.map_map]; rfl
          rw [eA] at dz
          rw [eC] at dz2
          have okA : ∀ z ∈ (A.map rowQ).map intP, OkW z := fun z hz => by
            obtain ⟨z1, h1, rfl⟩ := List.mem_map.mp hz
            obtain ⟨ws, hw, rfl⟩ := List.mem_map.mp h1
            exact row_okw (e3 ws hw).2
          have okC : ∀ z ∈ (C.map rowQ).map intP, OkW z := fun z hz => by
            obtain ⟨z1, h1, rfl⟩ := List.mem_map.mp hz
            obtain ⟨ws, hw, rfl⟩ := List.mem_map.mp h1
            exact row_okw (e4 ws hw).2
          have sFG := sF.trans sG
          refine ⟨x2, dx2, Fr, Pr, HG, zs, zs2, _, _, rfl, sH, hx2, ex2, .inl (sH _ _ (sFG _ _ eZ)), .inl (sH _ _ eZ2), (dz.mono sFG).mono sH, dz2.mono sH, by rw [List.length_map, List.length_map]; exact ro3, by rw [List.length_map, List.length_map]; exact ro4, fun z => ro5 (List.map_eq_nil_iff.mp z), okA, okC, fun HI sI hr2 => ⟨rfl, ?_⟩⟩
          have hx9 : RuleS C_Rule HI x' ((A.map rowQ).map intP) ((C.map rowQ).map intP) := hx'.mono (sDG.trans sI)
          obtain ⟨dx3, u5, u6, ey, _⟩ := id hx9
          obtain ⟨dx4, u7, u8, er2, _⟩ := id hr2
          refine rd_neO ey er2 ⟨x', x2, _, _, rfl, hx9, hr2, fun HJ sJ => ⟨_, rfl, ?_⟩⟩
          walk_at "rd"
          exact ⟨_, _, _, _, rfl⟩
  rintro σ HX ⟨v8, v10, v11, v12, rfl⟩
  walk_at "rd"
  refine rd_newT (by simp) fun D0 H0a _ s0a eD0 _ => ?_
  walk_at "rd"
  refine rd_newT (by simp) fun E0 H0b _ s0b eE0 _ => ?_
  walk_at "rd"
  refine rd_newT (by simp) fun D1 H1a _ s1a eD1 _ => ?_
  walk_at "rd"
  refine rd_newT (by simp) fun E1 H1b _ s1b eE1 _ => ?_
  walk_at "rd"
  refine rd_newT (by simp) fun D2 H2a _ s2a eD2 _ => ?_
  walk_at "rd"
  refine rd_newT (by simp) fun E2 H2b _ s2b eE2 _ => ?_
  walk_at "rd"
  refine rd_newT (by simp) fun D3 H3a _ s3a eD3 _ => ?_
  walk_at "rd"
  refine rd_newT (by simp) fun E3 H3b _ s3b eE3 _ => ?_
  walk_at "rd"
  refine rd_newT (by simp) fun D4 H4a _ s4a eD4 _ => ?_
  walk_at "rd"
  refine rd_newT (by simp) fun E4 H4b _ s4b eE4 _ => ?_
  walk_at "rd"
  refine rd_newT (by simp) fun D5 H5a _ s5a eD5 _ => ?_
  walk_at "rd"
  refine rd_newT (by simp) fun E5 H5b _ s5b eE5 _ => ?_
  walk_at "rd"
  refine rd_newL (by simp) fun W HY _ sY eW _ => ?_
  walk_at "rd"
  have kD0 := (s0b.trans (s1a.trans (s1b.trans (s2a.trans (s2b.trans (s3a.trans (s3b.trans (s4a.trans (s4b.trans (s5a.trans (s5b.trans (sY)))))))))))) _ _ eD0
  have kE0 := (s1a.trans (s1b.trans (s2a.trans (s2b.trans (s3a.trans (s3b.trans (s4a.trans (s4b.trans (s5a.trans (s5b.trans (sY))))))))))) _ _ eE0
  have kD1 := (s1b.trans (s2a.trans (s2b.trans (s3a.trans (s3b.trans (s4a.trans (s4b.trans (s5a.trans (s5b.trans (sY)))))))))) _ _ eD1
  have kE1 := (s2a.trans (s2b.trans (s3a.trans (s3b.trans (s4a.trans (s4b.trans (s5a.trans (s5b.trans (sY))))))))) _ _ eE1
  have kD2 := (s2b.trans (s3a.trans (s3b.trans (s4a.trans (s4b.trans (s5a.trans (s5b.trans (sY)))))))) _ _ eD2
  have kE2 := (s3a.trans (s3b.trans (s4a.trans (s4b.trans (s5a.trans (s5b.trans (sY))))))) _ _ eE2
  have kD3 := (s3b.trans (s4a.trans (s4b.trans (s5a.trans (s5b.trans (sY)))))) _ _ eD3
  have kE3 := (s4a.trans (s4b.trans (s5a.trans (s5b.trans (sY))))) _ _ eE3
  have kD4 := (s4b.trans (s5a.trans (s5b.trans (sY)))) _ _ eD4
  have kE4 := (s5a.trans (s5b.trans (sY))) _ _ eE4
  have kD5 := (s5b.trans (sY)) _ _ eD5
  have kE5 := (sY) _ _ eE5
  have t0 : ("" : Str) = ⟨([] : List Nat).toArray⟩ := by decide +kernel
  have tA : ("first at 2 bake 2\n" : Str) = ⟨(txA ++ (10 :: [])).toArray⟩ := by decide +kernel
  have tB : ("Then at 2 bake 2" : Str) = ⟨txB.toArray⟩ := by decide +kernel
  have tC : ("then at 2 bake" : Str) = ⟨txC.toArray⟩ := by decide +kernel
  have tD : ("then at 2bake2 # x" : Str) = ⟨txD.toArray⟩ := by decide +kernel
  have okt : ∀ l : List Nat, (l.length ≤ 20 ∧ l.all (fun c => decide (c < 127)) = true) → l.length ≤ 10000 ∧ ∀ c ∈ l, c < 1114112 := fun l h => ⟨by omega, fun c hc => by
    have := of_decide_eq_true (List.all_eq_true.mp h.2 c hc)
    omega⟩
  -- what is told of a text that does not fit
  have item : ∀ (i : Nat) x, ([V.ref E0, V.ref E1, V.ref E2, V.ref E3, V.ref E4, V.ref E5])[i]? = some x → ∃ (e d : Addr) (v : V) (p : Nat × Nat), x = .ref e ∧ HY e = some (.tup [v, .ref d]) ∧ HY d = some (.tup [nV p.1, nV p.2]) ∧
      (((v = .non ∨ ∃ i, v = .int i) ∧ p = (0, 0)) ∨ ∃ z : Str, v = .str z ∧ z.length ≤ 10000 ∧ (linesL z).length ≤ 1000 ∧ (∀ l ∈ linesL z, l.length ≤ 10000 ∧ ∀ c ∈ l, c < 1114112) ∧ readL [] [] 1 (linesL z) = .inl (p.1, p.2)) := fun i x hx => by
    match i, hx with
    | 0, hx => cases hx; exact ⟨E0, D0, _, (0, 0), rfl, kE0, kD0, .inl ⟨.inr ⟨3, rfl⟩, rfl⟩⟩
    | 1, hx => cases hx; exact ⟨E1, D1, _, (0, 0), rfl, kE1, kD1, .inl ⟨.inl rfl, rfl⟩⟩
    | 2, hx =>
      cases hx
      have hl : linesL "" = [[]] := by rw [t0]; exact lines_one (fun q => by cases q)
      exact ⟨E2, D2, _, (2, 1), rfl, kE2, kD2, .inr ⟨_, rfl, by decide +kernel, by rw [hl]; decide, by rw [hl]; exact fun l h => okt l (by rw [List.mem_singleton.mp h]; decide), by rw [hl]; exact rd_tx0⟩⟩
    | 3, hx =>
      cases hx
      have hl : linesL "first at 2 bake 2\n" = [txA, []] := by rw [tA]; exact lines_two (by decide) (fun q => by cases q)
      refine ⟨E3, D3, _, (3, 1), rfl, kE3, kD3, .inr ⟨_, rfl, by decide +kernel, by rw [hl]; decide, ?_, by rw [hl]; exact rd_txA⟩⟩
      rw [hl]
      intro l h
      have : l = txA ∨ l = [] := by simpa using h
      rcases this with rfl | rfl <;> exact okt _ (by decide)
    | 4, hx =>
      cases hx
      have hl : linesL "Then at 2 bake 2" = [txB] := by rw [tB]; exact lines_one (by decide)
      exact ⟨E4, D4, _, (1, 1), rfl, kE4, kD4, .inr ⟨_, rfl, by decide +kernel, by rw [hl]; decide, by rw [hl]; exact fun l h => okt l (by rw [List.mem_singleton.mp h]; decide), by rw [hl]; exact rd_txB⟩⟩
    | 5, hx =>
      cases hx
      have hl : linesL "then at 2 bake" = [txC] := by rw [tC]; exact lines_one (by decide)
      exact ⟨E5, D5, _, (1, 15), rfl, kE5, kD5, .inr ⟨_, rfl, by decide +kernel, by rw [hl]; decide, by rw [hl]; exact fun l h => okt l (by rw [List.mem_singleton.mp h]; decide), by rw [hl]; exact rd_txC⟩⟩
    | i + 6, hx => simp at hx
  refine rd_lsR (SqL.of eW) ?_
  refine lcR_lst (xs := [V.ref E0, V.ref E1, V.ref E2, V.ref E3, V.ref E4, V.ref E5]) (fun D i H' => Same HY H' ∧ H' D = some (.lst ((List.replicate i true).map V.bl))) (fun D i H' _ ⟨s, _⟩ => SqL.of (s _ _ eW)) (fun D H' _ s e _ => ⟨s, e⟩) ?_ ?_
  · rintro D i x H' hD hx ⟨s1, eD⟩
    obtain ⟨e, d, v, p, rfl, ee, ed, hv⟩ := item i x hx
    have hil : i < 6 := (List.getElem?_eq_some_iff.mp hx).1
    refine rd_gtup (s1 _ _ ee) rfl ?_
    walk_at "rd"
    refine ⟨rfl, ?_⟩
    walk_at "rd"
    have fin : ∀ (HZ : Hp) (t1 : Addr), Same H' HZ → HZ t1 = some (.tup [nV p.1, nV p.2]) → ∀ Q' : VK, (∀ H3, H3 = HZ → Q' (.bl true) H3) → rEqD K (.ref t1) (.ref d) HZ Q' := fun HZ t1 sZ et1 Q' hq => by
      refine rd_eqD (d := .tuple [.int (p.1 : Nat), .int (p.2 : Nat)]) (e := .tuple [.int (p.1 : Nat), .int (p.2 : Nat)]) (.tup et1 (.cons (.int _) (.cons (.int _) .nil))) (.tup ((s1.trans sZ) _ _ ed) (.cons (.int _) (.cons (.int _) .nil))) (shaped_pair ((p.1 : Nat), (p.2 : Nat))) (shaped_pair ((p.1 : Nat), (p.2 : Nat))) ?_
      rw [eqv_pl, decide_eq_true rfl]
      exact hq HZ rfl
    have put : ∀ (HZ : Hp), Same H' HZ → LcE D (fun H' => Same HY H' ∧ H' D = some (.lst ((List.replicate (i + 1) true).map V.bl))) (.bl true) HZ := fun HZ sZ => by
      refine rd_lcE (sZ _ _ eD) (by rw [List.length_map, List.length_replicate]; omega) fun H3 eH3 e3 => ?_
      refine ⟨by rw [eH3]; exact Same.mut (s1.trans sZ) hD, ?_⟩
      rw [e3, List.replicate_succ', List.map_append]
      rfl
    refine ⟨v, rfl, ?_⟩
    rcases hv with ⟨hv, rfl⟩ | ⟨z, rfl, z1, z2, z3, z4⟩
    · refine .inl ⟨hv, fun HZ t1 sZ et1 => ?_⟩
      walk_at "rd"
      exact fin HZ t1 sZ et1 _ fun H3 e3 => by rw [e3]; exact put HZ sZ
    · refine .inr ⟨z, rfl, z1, z2, z3, .inl ⟨p.1, p.2, z4, fun HZ t1 sZ et1 => ?_⟩⟩
      walk_at "rd"
      exact fin HZ t1 sZ et1 _ fun H3 e3 => by rw [e3]; exact put HZ sZ
  · rintro D HZ hD ⟨sZ, eD⟩
    refine ⟨D, List.replicate 6 true, rfl, SqL.of eD, ?_⟩
    rw [show (List.replicate 6 true).all id = true by rfl]
    refine ⟨_, rfl, ?_⟩
    refine rd_iteTT ?_
    walk_at "rd"
    have hl : linesL "then at 2bake2 # x" = [txD] := by rw [tD]; exact lines_one (by decide)
    refine ⟨_, rfl, .inr ⟨_, rfl, by decide +kernel, by rw [hl]; decide, by rw [hl]; exact fun l h => okt l (by rw [List.mem_singleton.mp h]; decide), .inr ⟨_, _, by rw [hl]; exact rd_txD, fun H2 x s2 hx => ?_⟩⟩⟩
    walk_at "rd"
    refine rd_newL (by simp) fun l1 H3 _ s3 el1 _ => ?_
    walk_at "rd"
    refine rd_newT (by simp) fun tt H4 _ s4 ett _ => ?_
    walk_at "rd"
    refine rd_newL (by simp) fun l2 H5 _ s5 el2 _ => ?_
    walk_at "rd"
    refine rd_make fun x2 dx2 H6 s6 hx2 ex2 => ?_
    refine ⟨x2, dx2, l1, l2, H5, _, _, [], [(2, 2)], rfl, s6, hx2, ex2, .inl (s6 _ _ ((s4.trans s5) _ _ el1)), .inl (s6 _ _ el2), .nil, .cons (Dn.pair (q := ((2 : Int), (2 : Int))) ((s5.trans s6) _ _ ett)) .nil, by decide, by decide, by decide, (fun z h => by cases h), (fun z h => by rw [List.mem_singleton.mp h]; exact ⟨by decide, by decide, by decide⟩), fun H7 s7 hr2 => ⟨rfl, ?_⟩⟩
    have hx9 : RuleS C_Rule H7 x [] [(2, 2)] := RuleS.mono (s3.trans (s4.trans (s5.trans s7))) hx
    obtain ⟨dx3, u5, u6, ey, _⟩ := id hx9
    obtain ⟨dx4, u7, u8, er2, _⟩ := id hr2
    refine rd_eqO ey er2 ⟨x, x2, _, _, rfl, hx9, hr2, fun H8 s8 => ⟨_, rfl, ?_⟩⟩
    exact k H8
end
end Sl
namespace Sl
open PySem L2 C8 StX
theorem fin {P : Program} {w : World} {K : PySem.W.Frag} {h : Heap} {mg : Str → Option Value} {fa C_Rule C_Reader C_BadText : Addr} (T : TX P K mg C_Rule C_Reader C_BadText) (X : K.In h) (G : h.Ns mainGlobals mg) (hfa : mg "law" = some (.ref fa)) :
    ∃ fd : FuncData, (∀ (s : Shared) (v : Value), BindsTo s fd ⟨[v], []⟩ [("_law_script", v)]) ∧ ∀ base : Heap, K.In base → base.Ns mainGlobals mg → FnOk P w K mg base C8.CX0 10 fa fd ["_law_script"] (spLaw K) := by
  obtain ⟨f, fd, D, dn⟩ := T.d_law
  have e := hfa.symm.trans D.mgf
  cases e
  refine ⟨fd, fun s v => ?_, fun base _ _ => fn_law T D⟩
  obtain ⟨oc, od, dV, kV, doc, pm, an, cdv, ct, osl, rfl, lk, hcd⟩ := D.fn.ex
  have e : dV = .none := dn
  subst e
  exact .of_eq rfl
end Sl
namespace Sl
open PySem PySem.Spec PyProof.Rows L2
theorem ins_of {K : PySem.W.Frag} {C : Addr} (h : HdY.insB K C = true) : InsF K C := by
  obtain ⟨h1, h⟩ := He.ba h
  obtain ⟨h2, h⟩ := He.ba h
  obtain ⟨h3, h4⟩ := He.ba h
  exact ⟨He.eqO_ok h1, He.eqO_ok h2, HdY.dec h3, HdY.dec h4⟩
theorem tx_of {K : PySem.W.Frag} {h : Heap} {mg : Str → Option Value} (X : K.In h) (G : h.Ns mainGlobals mg) (S : HdY.SaysY HdFn HdSn HdCkA K) : TX HdPg K mg (He.ga K "Rule") (He.ga K "Reader") (He.ga K "BadText") := by
  have c : (((HdCk0 K).all id && ((HdCk1 K).all id && ((HdCk2 K).all id)) : Bool)) = true := S.ba.1
  obtain ⟨h0, c⟩ := He.ba c
  obtain ⟨h1, c⟩ := He.ba c
  have h2 := c
  exact {
    mg_Rule := He.glo_ok X G (HdY.at_ h0 (i := 0) rfl),
    mg_Reader := He.glo_ok X G (HdY.at_ h0 (i := 1) rfl),
    mg_BadText := He.glo_ok X G (HdY.at_ h0 (i := 2) rfl),
    d_is_whole := HdY.dmk (S.def_ 0 rfl) (He.glo_ok X G (HdY.at_ h0 (i := 3) rfl)),
    d_is_pair := HdY.dmk (S.def_ 1 rfl) (He.glo_ok X G (HdY.at_ h0 (i := 4) rfl)),
    d_shortest := HdY.dmk (S.def_ 2 rfl) (He.glo_ok X G (HdY.at_ h0 (i := 5) rfl)),
    m_Rule_init := HdY.mkmk (S.def_ 3 rfl) (He.mkr_ok (HdY.at_ h0 (i := 6) rfl)),
    m_Rule_eq := HdY.mmk (S.def_ 4 rfl) (He.meth_ok (HdY.at_ h0 (i := 7) rfl)),
    m_Rule_getitem := HdY.mmk (S.def_ 5 rfl) (He.meth_ok (HdY.at_ h0 (i := 8) rfl)),
    m_Rule_iter := HdY.mmk (S.def_ 6 rfl) (He.meth_ok (HdY.at_ h0 (i := 9) rfl)),
    d_check_rule := HdY.dmk (S.def_ 7 rfl) (He.glo_ok X G (HdY.at_ h0 (i := 10) rfl)),
    d_parts_of := HdY.dmk (S.def_ 8 rfl) (He.glo_ok X G (HdY.at_ h0 (i := 11) rfl)),
    d_is_letter := HdY.dmk (S.def_ 9 rfl) (He.glo_ok X G (HdY.at_ h0 (i := 12) rfl)),
    m_Reader_init := HdY.mkmk (S.def_ 10 rfl) (He.mkr_ok (HdY.at_ h0 (i := 13) rfl)),
    m_Reader_next := HdY.mmk (S.def_ 11 rfl) (He.meth_ok (HdY.at_ h0 (i := 14) rfl)),
    m_Reader_refuse := HdY.mmk (S.def_ 12 rfl) (He.meth_ok (HdY.at_ h0 (i := 15) rfl)),
    m_Reader_has := HdY.mmk (S.def_ 13 rfl) (He.meth_ok (HdY.at_ h0 (i := 16) rfl)),
    m_Reader_need := HdY.mmk (S.def_ 14 rfl) (He.meth_ok (HdY.at_ h0 (i := 17) rfl)),
    m_Reader_number := HdY.mmk (S.def_ 15 rfl) (He.meth_ok (HdY.at_ h0 (i := 18) rfl)),
    m_Reader_close := HdY.mmk (S.def_ 16 rfl) (He.meth_ok (HdY.at_ h0 (i := 19) rfl)),
    d_read_rule := HdY.dmk (S.def_ 17 rfl) (He.glo_ok X G (HdY.at_ h0 (i := 20) rfl)),
    d_write_rule := HdY.dmk (S.def_ 18 rfl) (He.glo_ok X G (HdY.at_ h0 (i := 21) rfl)),
    d__law_number := HdY.dmk (S.def_ 19 rfl) (He.glo_ok X G (HdY.at_ h0 (i := 22) rfl)),
    d__law_take := HdY.dmk (S.def_ 20 rfl) (He.glo_ok X G (HdY.at_ h0 (i := 23) rfl)),
    d__law_pick := HdY.dmk (S.def_ 21 rfl) (He.glo_ok X G (HdY.at_ h0 (i := 24) rfl)),
    d__law_pair := HdY.dmk (S.def_ 22 rfl) (He.glo_ok X G (HdY.at_ h0 (i := 25) rfl)),
    d__law_rule := HdY.dmk (S.def_ 23 rfl) (He.glo_ok X G (HdY.at_ h0 (i := 26) rfl)),
    d__law_lines := HdY.dmk (S.def_ 24 rfl) (He.glo_ok X G (HdY.at_ h0 (i := 27) rfl)),
    d__law_spaced := HdY.dmk (S.def_ 25 rfl) (He.glo_ok X G (HdY.at_ h0 (i := 28) rfl)),
    d__law_laid := HdY.dmk (S.def_ 26 rfl) (He.glo_ok X G (HdY.at_ h0 (i := 29) rfl)),
    d__law_due := HdY.dmk (S.def_ 27 rfl) (He.glo_ok X G (HdY.at_ h1 (i := 0) rfl)),
    d__law_is_number := HdY.dmk (S.def_ 28 rfl) (He.glo_ok X G (HdY.at_ h1 (i := 1) rfl)),
    d__law_bent := HdY.dmk (S.def_ 29 rfl) (He.glo_ok X G (HdY.at_ h1 (i := 2) rfl)),
    d__law_read := HdY.dmk (S.def_ 30 rfl) (He.glo_ok X G (HdY.at_ h1 (i := 3) rfl)),
    d_law := HdY.dmk (S.def_ 31 rfl) (He.glo_ok X G (HdY.at_ h1 (i := 4) rfl)),
    cl_Rule := He.cls_ok (HdY.at_ h1 (i := 5) rfl),
    ic_Rule := ins_of (HdY.at_ h1 (i := 6) rfl),
    na_Rule_front := He.noat_ok (HdY.at_ h1 (i := 7) rfl),
    na_Rule_period := He.noat_ok (HdY.at_ h1 (i := 8) rfl),
    cl_Reader := He.cls_ok (HdY.at_ h1 (i := 9) rfl),
    ic_Reader := ins_of (HdY.at_ h1 (i := 10) rfl),
    na_Reader_line := He.noat_ok (HdY.at_ h1 (i := 11) rfl),
    na_Reader_place := He.noat_ok (HdY.at_ h1 (i := 12) rfl),
    na_Reader_parts := He.noat_ok (HdY.at_ h1 (i := 13) rfl),
    na_Reader_at := He.noat_ok (HdY.at_ h1 (i := 14) rfl),
    ne_Rule := He.eqO_ok (HdY.at_ h1 (i := 15) rfl),
    nk_Rule := fun n z => HdY.nk_of (HdY.at_ h1 (i := 16) rfl) n z,
    ne_Reader := He.eqO_ok (HdY.at_ h1 (i := 17) rfl),
    nk_Reader := fun n z => HdY.nk_of (HdY.at_ h1 (i := 18) rfl) n z,
    st_Rule := HdY.dec (HdY.at_ h1 (i := 19) rfl),
    y_BadText := HdY.sup_of2 (HdY.at_ h1 (i := 20) rfl) (S.sup 0 rfl) bd_BadText,
    b_super := He.free_ok X G (HdY.at_ h1 (i := 21) rfl),
    g_MOST_LAYERS := HdY.int_of X G (HdY.at_ h1 (i := 22) rfl),
    g_MOST_PAIRS := HdY.int_of X G (HdY.at_ h1 (i := 23) rfl),
    b_max := He.free_ok X G (HdY.at_ h1 (i := 24) rfl),
    b_min := He.free_ok X G (HdY.at_ h1 (i := 25) rfl),
    b_len := He.free_ok X G (HdY.at_ h1 (i := 26) rfl),
    b_sum := He.free_ok X G (HdY.at_ h1 (i := 27) rfl),
    b_abs := He.free_ok X G (HdY.at_ h1 (i := 28) rfl),
    b_int := He.free_ok X G (HdY.at_ h1 (i := 29) rfl),
    b_bool := He.free_ok X G (HdY.at_ h2 (i := 0) rfl),
    b_isinstance := He.free_ok X G (HdY.at_ h2 (i := 1) rfl),
    b_range := He.free_ok X G (HdY.at_ h2 (i := 2) rfl),
    b_enumerate := He.free_ok X G (HdY.at_ h2 (i := 3) rfl),
    b_list := He.free_ok X G (HdY.at_ h2 (i := 4) rfl),
    b_tuple := He.free_ok X G (HdY.at_ h2 (i := 5) rfl),
    b_sorted := He.free_ok X G (HdY.at_ h2 (i := 6) rfl),
    b_all := He.free_ok X G (HdY.at_ h2 (i := 7) rfl),
    b_any := He.free_ok X G (HdY.at_ h2 (i := 8) rfl),
    b_dict := He.free_ok X G (HdY.at_ h2 (i := 9) rfl),
    b_str := He.free_ok X G (HdY.at_ h2 (i := 10) rfl),
    b_zip := He.free_ok X G (HdY.at_ h2 (i := 11) rfl),
    b_reversed := He.free_ok X G (HdY.at_ h2 (i := 12) rfl),
    b_set := He.free_ok X G (HdY.at_ h2 (i := 13) rfl) }
end Sl
open PySem PySem.W PyProof.Rows
set_option maxRecDepth 100000 in
set_option maxHeartbeats 0 in
theorem PySem.Challenge.cw_siltstore_k49_whole_rule_texts_holds : PySem.Challenge.rw_siltstore_k49_whole_rule_texts.Holds := by
  refine Sl.headH (k := 10) ⟨rfl, by decide, by decide⟩ fun w mg fa h K KX S G hmg => ?_
  obtain ⟨fd, hb, hF⟩ := Sl.fin (Sl.tx_of KX G S) KX G hmg
  exact ⟨fd, Sl.spLaw K, hb, fun H a ns hl _ hS => ⟨a, ns, rfl, hS, hl, fun _ => rfl⟩, hF⟩
#print axioms PySem.Challenge.cw_siltstore_k49_whole_rule_texts_holds
