import PyProof.Rows.All
import Wide.All
import OpenK.AllK
import Wide.FinOn
import HandS.ForMost
import HandS.Codes
import HandS.Star
import HandS.Wide
import HandS.IsInst
import HandS.TupAny
import HandS.TupMul
import HandS.Style
import HandS.Defaults
import HandS.TryOnly
import HandS.ExcOwn
import PySem.Challenge.RW_siltstore_k06_whole_rounds_of_scripts
import HandS.DictComp
import HandS.OwnEq
import HandS.Conv
import HandS.More
import HandS.ExcInit
import HandS.Nested
import HandS.ExcSuper
import HandS.ExcField
import KE.KExcSuper
import KE.GoesMore
import HandS.Sort
import HandS.EndTab
import HandS.SortKw
import HandS.NoneIn
import KE.SortKeyHeap
import KE.SortData
import HandS.Small
import PyProof.Conv_bool
import HandS.Iter
import HandS.Text
import HandS.SortRule
import HandS.ListItems
import HandS.Rev
import KE.KEqNest
import HandS.WordsDict
import KE.KDictZip
import KE.KRevIter
import PyProof.StrOps2
import HandS.SetBool
import HandS.RevTup
import PyProof.ListStr
import HandS.DictSubView
set_option Elab.async false
set_option linter.all false
set_option maxRecDepth 100000
set_option maxHeartbeats 4000000
set_option exponentiation.threshold 9000
section
open PySem PySem.W PyProof.Rows
set_option maxHeartbeats 0
open_top headQ for PySem.Challenge.rw_siltstore_k06_whole_rounds_of_scripts
end
set_option Elab.async false
set_option linter.all false
set_option maxRecDepth 100000
set_option maxHeartbeats 4000000
namespace L2
open PySem PySem.Spec PyProof.Rows
section
variable {X : Cx} {CX : CXT} {k j : Nat} {f C : Addr} {fd : FuncData} {ps : List Str} {sp : Sp} {dvs : List V} {ds : List Value} {E : XK} {pos : Pos} {a b : Expr} {ta tb : TE}
/-- the callee runs one level within a built-in's body -/
theorem run_fn1 {pins : List (Addr × Obj)} {σ : St} {H : Hp} {s : Shared} {Q : VK} {us : List Value} {vs : List V} (F : FnOk X.prog X.w X.K X.mg X.base CX k f fd ps sp) (hr : Room (k + 1) X.A) (hb : Binds X.K fd ps ds) (hd : Vals dvs ds) (hx : Passes CX X E)
    (I : Inv X pins σ H s) (r : Vals vs us) (h : sp (vs ++ dvs) H Q E) : wpAny (model X.prog X.w) X.A.in1 (call (.ref f) us) (EP X pins σ Q) X.xe s := by
  have r2 : Vals (vs ++ dvs) (us ++ ds) := r.append hd
  have hl : (us ++ ds).length = ps.length := by rw [← r2.length]; exact F.len _ _ _ _ h
  refine wpAny_call (codeAny_mono (F.run X.A.in1 X.stack s H ⟨us, []⟩ (us ++ ds) (vs ++ dvs) Q E hr.in1 I.env0.in1 (hb s us I.kIn hl) r2 h) fun r s' hq => ?_)
  cases r with
  | error e => exact hx pins σ H s e s' I hq
  | ok fl =>
    cases fl with
    | ret u => exact I.after hq
    | next => exact False.elim hq
    | brk => exact False.elim hq
    | cont => exact False.elim hq
/-- o[i] of an own class with its own __getitem__ -/
def rOwnI (C : Addr) (sp : Sp) (dvs : List V) : R2 := fun x y H Q => ∃ a dx fs, x = .ref a ∧ H a = some (.ins C dx fs) ∧ sp (x :: ([y] ++ dvs)) H Q C8.E0
theorem pe_ixO (c : C8.Met X.prog X.w X.K X.mg X.base k C "__getitem__" sp dvs) (hr : Room j X.A) (hk : k + 1 ≤ j) (ha : PE X a ta) (hb : PE X b tb) (hfn : ∀ f, PySem.W.findIn X.K (.ref C) "__getitem__" = some (some (.ref f)) → PySem.W.fnIn X.K f = true)
    (hs : ∀ o i, subscripted b true o i = runValue (.builtin "lifetime.subscript" ⟨[o, i], []⟩) := by intro _ _; first | rfl | with_unfolding_all rfl) :
    PE X (.Subscript a b pos) (tOp (rOwnI C sp dvs) ta tb) := by
  obtain ⟨f, fd, ps, ds, cl, hm, F, bd, d⟩ := c.ex
  refine ⟨fun pins s σ H Q I h => ?_⟩
  refine Subscript_ (binT ha hb I h fun v u s2 x y H2 I2 rx ry q => ?_)
  obtain ⟨p, dx, fs, rfl, e, q⟩ := q
  obtain rfl : v = Value.ref p := rx
  obtain ⟨mA, O, _, _, _, _⟩ := ins_get I2.hok e
  obtain ⟨od, J, _⟩ := O.look
  obtain ⟨m, F0⟩ := I2.fr
  refine PySem.W.sub_K F0 I2.ok.mod.kin J hm.at_ (hfn _ hm.at_) hm.fn ?_ (hs _ _)
  exact run_fn1 (us := [.ref p, u]) (vs := [.ref p, y]) F (hr.mono hk) bd d C8.pass0 I2 (.cons rfl (.cons ry .nil)) q

/-! ### names as slots -/
theorem pg_n (i : Nat) {x : Str} {pos : Pos} (hN : X.N.Nodup) (hi : X.N[i]? = some x := by rfl) (hx : Loc X.env.scope x := by first | exact .inl rfl | exact .inr rfl) (hf : X.fn x = true ∨ X.env.scope.names.lookup x = some .local := by first | exact .inl rfl | exact .inr rfl) : PG X (.Name x pos) (gName i) := pg_name hN hi hx hf
theorem ps_s (i : Nat) {x : Str} {e : Expr} {te : TE} {pos' : Pos} (hN : X.N.Nodup) (he : PE X e te) (hi : X.N[i]? = some x := by rfl) (hx : Loc X.env.scope x := by first | exact .inl rfl | exact .inr rfl) (hs : swapsWith e (some (.Name x pos')) pos.line X.env = pure false := by rfl) (hf : X.fn x = true ∨ X.env.scope.names.lookup x = some .local := by first | exact .inl rfl | exact .inr rfl) :
    PS X (.Assign [.Name x pos'] e pos) (tAsg te (gName i)) := ps_set hN hi hx he hs hf
theorem ps_au (i : Nat) {x : Str} {e : Expr} {te : TE} {op : Operator} {ti : TIp} {pos' : Pos} (hN : X.N.Nodup) (he : PE X e te) (ho : PIp X op ti) (hi : X.N[i]? = some x := by rfl) (hx : Loc X.env.scope x := by first | exact .inl rfl | exact .inr rfl) (hf : X.fn x = true ∨ X.env.scope.names.lookup x = some .local := by first | exact .inl rfl | exact .inr rfl) :
    PS X (.AugAssign (.Name x pos') op e pos) (tAug i te ti) := ps_aug hN hi hx he ho hf
/-! ### a drawing list: item 0 is the script, item 1 some int (which one is not told) -/
def DrawO (a sc : Addr) : HO := .ext fun h => ∃ (i : Int) (t : Tok) (n : Nat), h.get? a = some { cls := .type "list", data := .seq #[.ref sc, .int i t] n }
theorem drawO_new {P : Program} {w : World} {H : Hp} {h : Heap} {a sc : Addr} {i : Int} {t : Tok} {n : Nat} (e : h.get? a = some { cls := .type "list", data := .seq #[.ref sc, .int i t] n }) : ObjOk P w H h a (DrawO a sc) :=
  ⟨⟨i, t, n, e⟩, ⟨_, e⟩, fun h1 h2 ⟨i, t, n, e⟩ k => ⟨i, t, n, k _ e⟩⟩
/-- [script, 0] -/
def tDraw (t : TA) : TE := fun σ H Q => t σ H fun xs H1 => ∃ sc i, xs = [.ref sc, .int i] ∧ ∀ p, H1 p = none → Q (.ref p) (upd H1 p (DrawO p sc))
theorem pe_draw {es : List Expr} {t : TA} (h : PA X es t) : PE X (.List es pos) (tDraw t) := by
  refine ⟨fun pins s σ H Q I hq => ?_⟩
  refine wpAny_List_spliced (thn (h.run pos pins s σ H _ I hq) fun us s1 ⟨xs, H1, I1, r, sc, i, e, q⟩ => ?_)
  subst e
  obtain ⟨u1, u2, rfl, r1, r2⟩ := vals2 r
  obtain rfl : u1 = Value.ref sc := r1
  obtain ⟨t, rfl⟩ := r2
  refine ⟨by show 2 ≤ sizeLine; decide, ?_⟩
  have hf : H1 s1.heap.objs.size = none := I1.hok.fresh (Nat.le_refl _)
  refine ⟨.ref s1.heap.objs.size, upd H1 s1.heap.objs.size (DrawO s1.heap.objs.size sc), I1.laid (t' := s1.toks) (fun b u e => Heap.get?_push_of_some _ e) (Nat.le_refl _) ?_, rfl, q _ hf⟩
  exact drawO_new (i := i) (t := t) (n := 0) (Heap.get?_push_size _ rfl)
theorem draw_get {pins : List (Addr × Obj)} {σ : St} {H : Hp} {s : Shared} {a sc : Addr} (I : Inv X pins σ H s) (e : H a = some (DrawO a sc)) : ∃ (i : Int) (t : Tok) (n : Nat), s.heap.get? a = some { cls := .type "list", data := .seq #[.ref sc, .int i t] n } := (I.hok a _ e).1
def rDraw0 : R2 := fun x y H Q => ∃ a sc, x = .ref a ∧ y = .int 0 ∧ H a = some (DrawO a sc) ∧ Q (.ref sc) H
def rDraw1 : R2 := fun x y H Q => ∃ a sc, x = .ref a ∧ y = .int 1 ∧ H a = some (DrawO a sc) ∧ ∀ i : Int, Q (.int i) H
theorem ix_draw0 : IxR X rDraw0 := by
  intro value slice pins s σ H x y v u Q I rx ry h hs
  obtain ⟨a, sc, rfl, rfl, e, q⟩ := h
  cases rx
  obtain ⟨t, rfl⟩ := ry
  obtain ⟨i, ti, n, ho⟩ := draw_get I e
  exact item_listR (items := #[.ref sc, .int i ti]) (x := .ref sc) ⟨_, ho, rfl, n, rfl⟩ (by decide) (by decide) (by rfl) ⟨.ref sc, H, I, rfl, q⟩ hs
theorem ix_draw1 : IxR X rDraw1 := by
  intro value slice pins s σ H x y v u Q I rx ry h hs
  obtain ⟨a, sc, rfl, rfl, e, q⟩ := h
  cases rx
  obtain ⟨t, rfl⟩ := ry
  obtain ⟨i, ti, n, ho⟩ := draw_get I e
  exact item_listR (items := #[.ref sc, .int i ti]) (x := .int i ti) ⟨_, ho, rfl, n, rfl⟩ (by decide) (by decide) (by rfl) ⟨.int i, H, I, ⟨ti, rfl⟩, q i⟩ hs
theorem get_draw1 : PGet X rDraw1 := by
  intro pins s σ H x y v u Q I rx ry h
  obtain ⟨a, sc, rfl, rfl, e, q⟩ := h
  cases rx
  obtain ⟨t, rfl⟩ := ry
  obtain ⟨i, ti, n, ho⟩ := draw_get I e
  exact wpAny_getItem_list (items := #[.ref sc, .int i ti]) (x := .int i ti) ⟨_, ho, rfl, n, rfl⟩ (by decide) (by decide) (by rfl) ⟨.int i, H, I, ⟨ti, rfl⟩, q i⟩
def sDraw1 : TSet := fun o i v H Q => ∃ (a sc : Addr) (j : Int), o = .ref a ∧ i = .int 1 ∧ v = .int j ∧ H a = some (DrawO a sc) ∧ Q H
theorem upd_self {H : Hp} {a : Addr} {o : HO} (e : H a = some o) : upd H a o = H := by
  funext b
  unfold upd
  by_cases h : b = a
  · rw [if_pos h, h, e]
  · rw [if_neg h]
theorem set_draw1 : PSet X sDraw1 := by
  intro pins s σ H o i v ov iv u Q I ro ri rv h
  obtain ⟨a, sc, j, rfl, rfl, rfl, e, q⟩ := h
  cases ro
  obtain ⟨t, rfl⟩ := ri
  obtain ⟨t2, rfl⟩ := rv
  obtain ⟨i0, ti, n, ho⟩ := draw_get I e
  have hm : Obj.mapSeq (·.setIfInBounds 1 (.int j t2)) { cls := .type "list", data := .seq #[.ref sc, .int i0 ti] n } = { cls := .type "list", data := .seq #[.ref sc, .int j t2] n } := by rfl
  have g1 : (s.heap.update a (Obj.mapSeq (·.setIfInBounds 1 (.int j t2)))).get? a = some { cls := .type "list", data := .seq #[.ref sc, .int j t2] n } := by
    rw [Heap.get?_update_self _ ho (by rw [hm]; rfl), hm]
  have I' := I.write (x := a) (e := a) (o := DrawO a sc) (h' := s.heap.update a (Obj.mapSeq (·.setIfInBounds 1 (.int j t2)))) (t' := s.toks) (by rw [e]; exact True.intro) (.inl rfl)
    (fun b u hb z => by rw [Heap.get?_update_ne _ _ _ _ hb]; exact z) ⟨_, g1⟩ (drawO_new g1)
  rw [upd_self e] at I'
  exact PySem.W.ki_setAt (items := #[.ref sc, .int i0 ti]) ho (by decide) (by decide) (by show (1 : Int) < 2; decide) ⟨H, I', q⟩
end
end L2
set_option Elab.async false
set_option linter.all false
set_option maxRecDepth 100000
set_option maxHeartbeats 4000000
namespace L2
open PySem PySem.Spec PyProof.Rows
section
variable {X : Cx} {a b c d : Expr} {ta tb tc td : TE} {pos : Pos}
/-- a op1 b op2 c op3 d -/
def tChain3 (r r' r'' : R2) (ta tb tc td : TE) : TE := fun σ H Q => ta σ H fun x H1 => tb σ H1 fun y H2 => r x y H2 fun z H3 => ∃ k, z = .bl k ∧
  (if k = true then tc σ H3 fun w' H4 => r' y w' H4 fun z' H5 => ∃ k', z' = .bl k' ∧ (if k' = true then td σ H5 fun v' H6 => r'' w' v' H6 Q else Q (.bl false) H5) else Q (.bl false) H3)
theorem pe_chain3 {op op' op'' : CmpOp} {r r' r'' : R2} (ho : OpR X (compareOp op) r) (ho' : OpR X (compareOp op') r') (ho'' : OpR X (compareOp op'') r'') (ha : PE X a ta) (hb : PE X b tb) (hc : PE X c tc) (hd : PE X d td)
    (hm : lastMarks [op, op', op''] [b, c, d] = false := by with_unfolding_all rfl) : PE X (.Compare a [op, op', op''] [b, c, d] pos) (tChain3 r r' r'' ta tb tc td) := by
  refine ⟨fun pins s σ H Q I h => ?_⟩
  refine Compare_chain (thn (ha.run pins s σ H _ I h) fun v s1 ⟨x, H1, I1, r1, q1⟩ => chain_link (thn (hb.run pins s1 σ H1 _ I1 q1) fun u s2 ⟨y, H2, I2, r2, q2⟩ =>
    thn (ho pins s2 σ H2 x y v u _ I2 r1 r2 q2) fun d s3 ⟨z, H3, I3, r3, k, e, q3⟩ => ?_)) hm
  subst e
  cases r3
  refine wpAny_truthy_bool ?_
  cases k with
  | false => exact ite_ff ⟨.bl false, H3, I3, rfl, q3⟩
  | true =>
    refine ite_tt (chain_link (thn (hc.run pins s3 σ H3 _ I3 q3) fun w' s4 ⟨z', H4, I4, r4, q4⟩ => thn (ho' pins s4 σ H4 y z' u w' _ I4 r2 r4 q4) fun d s5 ⟨z5, H5, I5, r5, k5, e5, q5⟩ => ?_))
    subst e5
    cases r5
    refine wpAny_truthy_bool ?_
    cases k5 with
    | false => exact ite_ff ⟨.bl false, H5, I5, rfl, q5⟩
    | true => exact ite_tt (chain_last (thn (hd.run pins s5 σ H5 _ I5 q5) fun w6 s6 ⟨z6, H6, I6, r6, q6⟩ => ho'' pins s6 σ H6 z' z6 w' w6 Q I6 r4 r6 q6))
/-- o.f as a target -/
def gFld (K : PySem.W.Frag) (to : TE) (f : Str) : TG := fun v σ H Q => to σ H fun x H1 => ∃ a C dx fs, x = .ref a ∧ H1 a = some (.ins C dx fs) ∧ Cls K C ∧ NoAttr K C f ∧ fs.length < 1000 ∧ Q σ (upd H1 a (.ins C dx (putF f v fs)))
theorem pg_attr {o : Expr} {f : Str} {to : TE} (ho : PE X o to)
    (ha : ∀ v, assign (.Attribute o f pos) X.env v = (do
      let ov ← holding [v] (eval o X.env)
      standAt pos.atName
      holding [v, ov] (setAttr ov f v)
      release [v, ov] []) := by intro _; rfl) : PG X (.Attribute o f pos) (gFld X.K to f) := by
  refine ⟨fun pins s σ H v u Q I r h => ?_⟩
  rw [ha]
  refine wpAny_bind (wpAny_holding (thn (ho.run pins s σ H _ I h) fun ov s1 ⟨x, H1, I1, r1, p, C, dx, fs, ex, e, c, n, hl, q1⟩ => ?_))
  subst ex
  obtain rfl : ov = Value.ref p := r1
  refine wpAny_bind (wpAny_standAt (wpAny_bind (wpAny_holding (setattr_ok I1 e c n hl r fun s2 I2 => ?_))))
  exact wpAny_release ⟨σ, _, I2, q1⟩
/-! ### tuple * 1 is the tuple itself -/
theorem tuple_mul1 (l : Addr) (items : Array Value) (n : Nat) (dd : Option Addr) (sl : Array (Option Value)) (u : Tok) :
    Meets (Builtin.«tuple.__mul__» ⟨[.ref l, .int 1 u], []⟩) (fun _ R s => s.heap.get? l = some { cls := .type "tuple", dict := dd, data := .seq items n, slots := sl } ∧
      R (.ok (.ret (Value.ref l))) s) :=
  .of_wp fun prog w A R s h => by
    obtain ⟨hp, g, d, tk, os⟩ := s
    obtain ⟨hl, h⟩ := h
    have f1 := AutoSeq1.idx_int
    have c1 : (items.isEmpty || (1 : Int) == 1) = true := by simp
    wp_walk using wpAny_loadPart' hl
    exact ⟨_, rfl, h⟩
def rRepT1 (K : PySem.W.Frag) : R2 := fun x y H Q => ∃ l xs, x = .ref l ∧ y = .int 1 ∧ SqT K H l xs ∧ Q (.ref l) H
theorem op_repT1 : OpR X (binaryOp .Mult) (rRepT1 X.K) := by
  intro pins s σ H x y v u Q I rx ry h
  obtain ⟨l, xs, rfl, rfl, hT, q⟩ := h
  cases rx
  obtain ⟨t, rfl⟩ := ry
  obtain ⟨its, r, ⟨⟨cls, dd, data, sl⟩, ho, hc, n, hd⟩, hs⟩ := I.tuple hT
  simp only at hc hd
  subst hc hd
  exact wpAny_binaryOp_repeat_ref (T := "tuple") (U := "int") (by decide) ⟨_, ho, rfl⟩ (fun s' => typeIs_int s' 1 t) noFill_tuple_mul F.fills_int_mul F.slot_int_rmul repeat_tuple F.slot_int_index.lookup
    (call_meets F.slot_int_rmul (typeIs_int s 1 t) F.entry_int_rmul (F.args_int_rmul_2 _ _) (int_rmul_tuple 1 t l its.toArray n dd sl)
      ⟨ho, rfl, ⟨_, ho, rfl⟩, call_meets F.slot_tuple_mul ⟨_, ho, rfl⟩ F.entry_tuple_mul (F.args_tuple_mul_2 _ _) (tuple_mul1 l its.toArray n dd sl t) ⟨ho, ⟨.ref l, H, I, rfl, q⟩⟩⟩)
def rOr (r r' : R2) : R2 := fun x y H Q => r x y H Q ∨ r' x y H Q
theorem opR_or {f : Value → Value → Sem Value} {r r' : R2} (h : OpR X f r) (h' : OpR X f r') : OpR X f (rOr r r') := by
  intro pins s σ H x y v u Q I rx ry q
  rcases q with q | q
  · exact h pins s σ H x y v u Q I rx ry q
  · exact h' pins s σ H x y v u Q I rx ry q
theorem op_repTA : OpR X (binaryOp .Mult) (rOr (rRepT1 X.K) (rRepT X.K)) := opR_or op_repT1 op_repT
/-- x is None, x is not None -/
def rIsNn : R2 := fun x y H Q => y = .non ∧ Q (.bl (decide (x = .non))) H
def rNotNn : R2 := fun x y H Q => y = .non ∧ Q (.bl (!decide (x = .non))) H
theorem op_isNn : OpR X (compareOp .Is) rIsNn := op_isN
theorem op_notNn : OpR X (compareOp .IsNot) rNotNn := op_notN
/-! ### within a comprehension the frag must be told by its name -/
theorem ixK (R : PySem.W.Frag → R2) (K : PySem.W.Frag) (h : IxR X (R X.K)) (e : X.K = K := by rfl) : IxR X (R K) := e ▸ h
theorem opK {f : Value → Value → Sem Value} (R : PySem.W.Frag → R2) (K : PySem.W.Frag) (h : OpR X f (R X.K)) (e : X.K = K := by rfl) : OpR X f (R K) := e ▸ h
theorem callK {f : Value} (R : PySem.W.Frag → List V → Hp → VK → Prop) (K : PySem.W.Frag) (h : CallR X f (R X.K)) (e : X.K = K := by rfl) : CallR X f (R K) := e ▸ h
theorem pe_fldK {f : Str} (K : PySem.W.Frag) (h : PE X (.Attribute a f pos) (tFld X.K ta f)) (e : X.K = K := by rfl) : PE X (.Attribute a f pos) (tFld K ta f) := e ▸ h
end
end L2
set_option Elab.async false
set_option linter.all false
set_option maxRecDepth 100000
set_option maxHeartbeats 4000000
set_option exponentiation.threshold 9000
namespace Sl
open PySem L2 C8 StX
/-! ### great numbers -/
def BBn : Nat := 2 ^ 8900
theorem bbn_pos : 1000000 ≤ BBn := by
  unfold BBn
  have e : (2 : Nat) ^ 8900 = 2 ^ 20 * 2 ^ 8880 := (Nat.pow_add 2 20 8880)
  have : (1 : Nat) ≤ 2 ^ 8880 := Nat.pow_pos (by decide)
  rw [e]
  omega
theorem bbn_lt : BBn < 2 ^ 8901 := by
  unfold BBn
  exact Nat.pow_lt_pow_right (by decide) (by decide)
def BB : Int := (BBn : Nat)
theorem bb_nat {i : Int} (h0 : -BB ≤ i) (h : i ≤ BB) : i.natAbs < 2 ^ 8901 := by
  have := bbn_lt
  unfold BB at h0 h
  generalize (2 : Nat) ^ 8001 = b at *
  omega
theorem bb_pos : 1000000 ≤ BB := by have := bbn_pos; unfold BB; omega
def DDn : Nat := 2 ^ 2000
/-- days are below this -/
def DD : Int := (DDn : Nat)
theorem dd_pos : 1000000 ≤ DD := by
  have : 1000000 ≤ DDn := by
    unfold DDn
    have e : (2 : Nat) ^ 2000 = 2 ^ 20 * 2 ^ 1980 := (Nat.pow_add 2 20 1980)
    have : (1 : Nat) ≤ 2 ^ 1980 := Nat.pow_pos (by decide)
    rw [e]
    omega
  unfold DD; omega
theorem dd_bb : DD * 1000 ≤ BB := by
  have h : DDn * 1000 ≤ BBn := by
    unfold DDn BBn
    have e : (2 : Nat) ^ 8900 = 2 ^ 2000 * 2 ^ 6900 := (Nat.pow_add 2 2000 6900)
    have e2 : (2 : Nat) ^ 6900 = 2 ^ 10 * 2 ^ 6890 := (Nat.pow_add 2 10 6890)
    have : (1 : Nat) ≤ 2 ^ 6890 := Nat.pow_pos (by decide)
    rw [e]
    exact Nat.mul_le_mul_left _ (by omega)
  unfold DD BB
  omega
theorem cmulw {i j : Int} (h0 : -BB ≤ i) (h : i ≤ BB) (g0 : -BB ≤ j) (g : j ≤ BB) : CMulW i j := wide_mul (bb_nat h0 h) (bb_nat g0 g) (by decide) (by decide) (by decide)
theorem cdivw {i j : Int} (h0 : 0 < j) (h : j ≤ BB) : CDivW i j := wide_div h0 (bb_nat (by have := bb_pos; omega) h) (by decide) (by decide)
/-! ### heaps -/
theorem Same.new {H H' : Hp} {p : Addr} {o : HO} (e : Same H H') (h : H' p = none) : Same H (upd H' p o) := fun a u ha => by
  rw [upd_ne (ne_of_none (e a u ha) h)]
  exact e a u ha
theorem Same.mut {H H' : Hp} {p : Addr} {o : HO} (e : Same H H') (h : H p = none) : Same H (upd H' p o) := fun a u ha => by
  rw [upd_ne (ne_of_none ha h)]
  exact e a u ha
mutual
/-- a value that holds data, all of it tracked -/
inductive Dt (H : Hp) : V → PyData → Prop
  | non : Dt H .non .none
  | bl (b : Bool) : Dt H (.bl b) (.bool b)
  | int (i : Int) : Dt H (.int i) (.int i)
  | str (x : Str) : Dt H (.str x) (.str x)
  | lst {a : Addr} {xs : List V} {ds : List PyData} : H a = some (.lst xs) → DtAll H xs ds → Dt H (.ref a) (.list ds)
  | tup {a : Addr} {xs : List V} {ds : List PyData} : H a = some (.tup xs) → DtAll H xs ds → Dt H (.ref a) (.tuple ds)
inductive DtAll (H : Hp) : List V → List PyData → Prop
  | nil : DtAll H [] []
  | cons {v : V} {vs : List V} {d : PyData} {ds : List PyData} : Dt H v d → DtAll H vs ds → DtAll H (v :: vs) (d :: ds)
end
mutual
theorem Dt.mono {H H' : Hp} (s : Same H H') : ∀ {v : V} {d : PyData}, Dt H v d → Dt H' v d
  | _, _, .non => .non
  | _, _, .bl b => .bl b
  | _, _, .int i => .int i
  | _, _, .str x => .str x
  | _, _, .lst e h => .lst (s _ _ e) (DtAll.mono s h)
  | _, _, .tup e h => .tup (s _ _ e) (DtAll.mono s h)
theorem DtAll.mono {H H' : Hp} (s : Same H H') : ∀ {vs : List V} {ds : List PyData}, DtAll H vs ds → DtAll H' vs ds
  | _, _, .nil => .nil
  | _, _, .cons h t => .cons (Dt.mono s h) (DtAll.mono s t)
end
mutual
theorem Dt.dp {K : PySem.W.Frag} {H : Hp} : ∀ {v : V} {d : PyData}, Dt H v d → Dp K H v d
  | _, _, .non => .non
  | _, _, .bl b => .bl b
  | _, _, .int i => .int i
  | _, _, .str x => .str x
  | _, _, .lst e h => .lst (SqL.of e) (DtAll.dp h)
  | _, _, .tup e h => .tup (SqT.of e) (DtAll.dp h)
theorem DtAll.dp {K : PySem.W.Frag} {H : Hp} : ∀ {vs : List V} {ds : List PyData}, DtAll H vs ds → DpAll K H vs ds
  | _, _, .nil => .nil
  | _, _, .cons h t => .cons (Dt.dp h) (DtAll.dp t)
end
theorem DtAll.length {H : Hp} : ∀ {vs : List V} {ds : List PyData}, DtAll H vs ds → vs.length = ds.length
  | _, _, .nil => rfl
  | _, _, .cons _ t => by rw [List.length_cons, List.length_cons, DtAll.length t]
theorem DtAll.get {H : Hp} : ∀ {vs : List V} {ds : List PyData} {i : Nat} {d : PyData}, DtAll H vs ds → ds[i]? = some d → ∃ v, vs[i]? = some v ∧ Dt H v d
  | _, _, _, _, .nil, h => by simp at h
  | _, _, 0, _, .cons h _, e => by simp at e; subst e; exact ⟨_, rfl, h⟩
  | _, _, i + 1, _, .cons _ t, e => by
    obtain ⟨v, h1, h2⟩ := DtAll.get (i := i) t (by simpa using e)
    exact ⟨v, by simpa using h1, h2⟩
theorem DtAll.getV {H : Hp} : ∀ {vs : List V} {ds : List PyData} {i : Nat} {v : V}, DtAll H vs ds → vs[i]? = some v → ∃ d, ds[i]? = some d ∧ Dt H v d
  | _, _, _, _, .nil, h => by simp at h
  | _, _, 0, _, .cons h _, e => by simp at e; subst e; exact ⟨_, rfl, h⟩
  | _, _, i + 1, _, .cons _ t, e => by
    obtain ⟨v, h1, h2⟩ := DtAll.getV (i := i) t (by simpa using e)
    exact ⟨v, by simpa using h1, h2⟩
theorem DtAll.append {H : Hp} : ∀ {vs ws : List V} {ds es : List PyData}, DtAll H vs ds → DtAll H ws es → DtAll H (vs ++ ws) (ds ++ es)
  | _, _, _, _, .nil, s => s
  | _, _, _, _, .cons h t, s => .cons h (DtAll.append t s)
theorem DtAll.take {H : Hp} : ∀ {vs : List V} {ds : List PyData} (n : Nat), DtAll H vs ds → DtAll H (vs.take n) (ds.take n)
  | _, _, 0, _ => .nil
  | _, _, _ + 1, .nil => .nil
  | _, _, n + 1, .cons h t => .cons h (DtAll.take n t)
theorem DtAll.drop {H : Hp} : ∀ {vs : List V} {ds : List PyData} (n : Nat), DtAll H vs ds → DtAll H (vs.drop n) (ds.drop n)
  | _, _, 0, r => r
  | _, _, _ + 1, .nil => .nil
  | _, _, n + 1, .cons _ t => DtAll.drop n t
/-- ints -/
def intsD (ns : List Int) : List PyData := ns.map PyData.int
theorem DtAll.intsD {H : Hp} : ∀ (ns : List Int), DtAll H (ns.map V.int) (intsD ns)
  | [] => .nil
  | n :: ns => .cons (.int n) (DtAll.intsD ns)
theorem DtAll.intsD_inv {H : Hp} : ∀ {ns : List Int} {vs : List V}, DtAll H vs (Sl.intsD ns) → vs = ns.map V.int
  | [], _, .nil => rfl
  | n :: ns, _, .cons (.int _) t => by rw [DtAll.intsD_inv t]; rfl
/-! ### readings by names -/
def rNewL (Q : VK) (xs : List V) (H1 : Hp) : Prop := xs.length ≤ sizeLine ∧ ∀ p, H1 p = none → Q (.ref p) (upd H1 p (.lst xs))
def rNewT (Q : VK) (xs : List V) (H1 : Hp) : Prop := xs.length ≤ sizeLine ∧ ∀ p, H1 p = none → Q (.ref p) (upd H1 p (.tup xs))
def rMax2 : List V → Hp → VK → Prop := fun xs H Q => ∃ i j, xs = [.int i, .int j] ∧ Q (.int (if j > i then j else i)) H
def rMin2 : List V → Hp → VK → Prop := fun xs H Q => ∃ i j, xs = [.int i, .int j] ∧ Q (.int (if j < i then j else i)) H
def rAbs : List V → Hp → VK → Prop := fun xs H Q => ∃ i, xs = [.int i] ∧ Q (.int (if i < 0 then -i else i)) H
def rInt1 : List V → Hp → VK → Prop := fun xs H Q => (∃ i, xs = [.int i] ∧ Q (.int i) H) ∨ ∃ k, xs = [.bl k] ∧ Q (.int (if k then 1 else 0)) H
def rLenS (K : PySem.W.Frag) : List V → Hp → VK → Prop := fun xs H Q => ∃ p ys, xs = [.ref p] ∧ (SqL K H p ys ∨ SqT K H p ys) ∧ Q (.int ys.length) H
def rIsC (C : Addr) : List V → Hp → VK → Prop := fun xs H Q => ∃ a dx fs, xs = [.ref a, .ref C] ∧ H a = some (.ins C dx fs) ∧ Q (.bl true) H
def rTupOf (K : PySem.W.Frag) : List V → Hp → VK → Prop := fun xs H Q => ∃ p ys, xs = [.ref p] ∧ ((SqL K H p ys ∧ ∀ l, H l = none → Q (.ref l) (upd H l (.tup ys))) ∨ (SqT K H p ys ∧ Q (.ref p) H))
def rLstOf (K : PySem.W.Frag) : List V → Hp → VK → Prop := fun xs H Q => ∃ p ys, xs = [.ref p] ∧ (SqL K H p ys ∨ SqT K H p ys) ∧ ∀ l, H l = none → Q (.ref l) (upd H l (.lst ys))
def rFld (K : PySem.W.Frag) (f : Str) : V → Hp → VK → Prop := fun x H1 Q => ∃ a C dx fs v, x = .ref a ∧ H1 a = some (.ins C dx fs) ∧ Cls K C ∧ NoAttr K C f ∧ fs.lookup f = some v ∧ Q v H1
section
variable {X : Cx}
theorem cr_max2 (hc : X.calm = true) : CallR X (.builtin "max") rMax2 := call_max2 hc
theorem cr_min2 (hc : X.calm = true) : CallR X (.builtin "min") rMin2 := call_min2 hc
theorem cr_abs : CallR X (.builtin "abs") rAbs := call_abs
theorem cr_int1 : CallR X (.type "int") rInt1 := call_int1
theorem cr_lenS : CallR X (.builtin "len") (rLenS X.K) := call_len_seq
theorem cr_isC {C : Addr} (c : InsC X.K C) : CallR X (.builtin "isinstance") (rIsC C) := call_isC c
theorem cr_tupOf : CallR X (.type "tuple") (rTupOf X.K) := call_tuple_of
theorem cr_lstOf : CallR X (.type "list") (rLstOf X.K) := call_list_of
end
/-! ### readings, backwards -/
section
variable {σ : L2.St} {H H' : Hp} {Q : VK} {E : XK} {te ta tb tc : TE} {t u : TS} {g : TG} {i : Nat} {v x y : V} {K : PySem.W.Frag} {nx bk ct : L2.St → Hp → Prop} {rt : VK} {QB : Bool → Hp → Prop} {QL : List V → Hp → Prop} {QS : L2.St → Hp → Prop}
theorem rd_seq (h : t ⟨u ⟨nx, rt, bk, ct⟩, rt, bk, ct⟩ σ H) : tSeq t u ⟨nx, rt, bk, ct⟩ σ H := h
theorem rd_asg (h : te σ H fun x H1 => nx (σ.set i (some x)) H1) : tAsg te (gName i) ⟨nx, rt, bk, ct⟩ σ H := h
theorem rd_asgG (h : te σ H fun x H1 => g x σ H1 nx) : tAsg te g ⟨nx, rt, bk, ct⟩ σ H := h
theorem rd_drop (h : te σ H fun _ H1 => nx σ H1) : tDrop te ⟨nx, rt, bk, ct⟩ σ H := h
theorem rd_ret (h : te σ H rt) : tRet te ⟨nx, rt, bk, ct⟩ σ H := h
theorem rd_retN (h : rt .non H) : tRetN ⟨nx, rt, bk, ct⟩ σ H := h
theorem rd_next (h : nx σ H) : tNext ⟨nx, rt, bk, ct⟩ σ H := h
theorem rd_break (h : bk σ H) : tBreak ⟨nx, rt, bk, ct⟩ σ H := h
theorem rd_cont (h : ct σ H) : tCont ⟨nx, rt, bk, ct⟩ σ H := h
theorem rd_ifS {c : TT} (h : c σ H fun b H1 => if b = true then t ⟨nx, rt, bk, ct⟩ σ H1 else u ⟨nx, rt, bk, ct⟩ σ H1) : tIfS c t u ⟨nx, rt, bk, ct⟩ σ H := h
theorem rd_par {j : Nat} {ta : TA} (h : ta σ H fun vs H1 => ∃ v w, vs = [v, w] ∧ nx ((σ.set i (some v)).set j (some w)) H1) : tPar i j ta ⟨nx, rt, bk, ct⟩ σ H := h
theorem rd_par2 {w : V} {R : V → V → Prop} (h : R v w) : ∃ v' w', [v, w] = [v', w'] ∧ R v' w' := ⟨v, w, rfl, h⟩
theorem rd_par3 {j l : Nat} {ta : TA} (h : ta σ H fun vs H1 => ∃ u v w, vs = [u, v, w] ∧ nx (((σ.set i (some u)).set j (some v)).set l (some w)) H1) : tPar3 i j l ta ⟨nx, rt, bk, ct⟩ σ H := h
theorem rd_par4 {u v w : V} {R : V → V → V → Prop} (h : R u v w) : ∃ u' v' w', [u, v, w] = [u', v', w'] ∧ R u' v' w' := ⟨u, v, w, rfl, h⟩
theorem rd_aug {ti : TIp} (e : σ[i]? = some (some x)) (h : te σ H fun y H1 => ti x y H1 fun z H2 => nx (σ.set i (some z)) H2) : tAug i te ti ⟨nx, rt, bk, ct⟩ σ H := ⟨x, e, h⟩
theorem rd_var (e : σ[i]? = some (some v)) (h : Q v H) : tVar i σ H Q := ⟨v, e, h⟩
theorem rd_var0 (h : ∃ v, σ[i]? = some (some v) ∧ Q v H) : tVar i σ H Q := h
theorem rd_aug0 {ti : TIp} (h : ∃ x, σ[i]? = some (some x) ∧ te σ H fun y H1 => ti x y H1 fun z H2 => nx (σ.set i (some z)) H2) : tAug i te ti ⟨nx, rt, bk, ct⟩ σ H := h
theorem rd_c (h : Q v H) : tC v σ H Q := h
theorem rd_op {r : R2} (h : ta σ H fun x H1 => tb σ H1 fun y H2 => r x y H2 Q) : tOp r ta tb σ H Q := h
theorem rd_un {r : V → Hp → VK → Prop} (h : ta σ H fun x H1 => r x H1 Q) : tUn r ta σ H Q := h
theorem rd_I0 {f : Int → Int → V} {a b : Int} (h : Q (f a b) H) : rI0 f (.int a) (.int b) H Q := ⟨a, b, rfl, rfl, h⟩
theorem rd_I {C : Int → Int → Prop} {f : Int → Int → V} {a b : Int} (c : C a b) (h : Q (f a b) H) : rI C f (.int a) (.int b) H Q := ⟨a, b, rfl, rfl, c, h⟩
theorem rd_U {f : Int → V} {a : Int} (h : Q (f a) H) : rU f (.int a) H Q := ⟨a, rfl, h⟩
theorem rd_ipI {f : Int → Int → Int} {a b : Int} (h : Q (.int (f a b)) H) : ipI f (.int a) (.int b) H Q := ⟨a, b, rfl, rfl, h⟩
theorem rd_eq (s : scal x y = true) (h : Q (.bl (decide (x = y))) H) : rEq x y H Q := ⟨s, h⟩
theorem rd_ne (s : scal x y = true) (h : Q (.bl (!decide (x = y))) H) : rNe x y H Q := ⟨s, h⟩
theorem rd_eqI {a b : Int} (h : Q (.bl (decide (a = b))) H) : rEq (.int a) (.int b) H Q := ⟨rfl, by
  have e : decide (V.int a = V.int b) = decide (a = b) := by
    by_cases c : a = b
    · rw [decide_eq_true c, decide_eq_true (by rw [c])]
    · rw [decide_eq_false c, decide_eq_false (by intro z; exact c (V.int.inj z))]
  rw [e]; exact h⟩
theorem rd_neI {a b : Int} (h : Q (.bl (!decide (a = b))) H) : rNe (.int a) (.int b) H Q := ⟨rfl, by
  have e : decide (V.int a = V.int b) = decide (a = b) := by
    by_cases c : a = b
    · rw [decide_eq_true c, decide_eq_true (by rw [c])]
    · rw [decide_eq_false c, decide_eq_false (by intro z; exact c (V.int.inj z))]
  rw [e]; exact h⟩
theorem rd_test (h : te σ H fun x H' => ∃ k, x = .bl k ∧ QB k H') : tTest te σ H QB := h
theorem rd_tB (h : te σ H fun x H' => ∃ k, x = .bl k ∧ QB k H') : tB te σ H QB := h
theorem rd_bl {b : Bool} {R : Bool → Prop} (h : R b) : ∃ k, V.bl b = .bl k ∧ R k := ⟨b, rfl, h⟩
theorem rd_not {c : TT} (h : c σ H fun b H1 => QB (!b) H1) : tNot c σ H QB := h
theorem rd_and {c d : TT} (h : c σ H fun b H1 => if b = true then d σ H1 QB else QB false H1) : tAnd c d σ H QB := h
theorem rd_or {c d : TT} (h : c σ H fun b H1 => if b = true then QB true H1 else d σ H1 QB) : tOr c d σ H QB := h
theorem rd_andV (h : ta σ H fun x H1 => ∃ c, x = .bl c ∧ if c = true then tb σ H1 Q else Q (.bl false) H1) : tAndV ta tb σ H Q := h
theorem rd_orV (h : ta σ H fun x H1 => ∃ c, x = .bl c ∧ if c = true then Q (.bl true) H1 else tb σ H1 Q) : tOrV ta tb σ H Q := h
theorem rd_notV (h : ta σ H fun x H1 => ∃ c, x = .bl c ∧ Q (.bl (!c)) H1) : tNotV ta σ H Q := h
theorem rd_ifE {c : TT} (h : c σ H fun b H1 => if b = true then ta σ H1 Q else tb σ H1 Q) : tIf c ta tb σ H Q := h
theorem rd_chain {r r' : R2} (h : ta σ H fun x H1 => tb σ H1 fun y H2 => r x y H2 fun z H3 => ∃ k, z = .bl k ∧ (if k = true then tc σ H3 fun w' H4 => r' y w' H4 Q else Q (.bl false) H3)) : tChain r r' ta tb tc σ H Q := h
theorem rd_chain3 {r r' r'' : R2} {td : TE} (h : ta σ H fun x H1 => tb σ H1 fun y H2 => r x y H2 fun z H3 => ∃ k, z = .bl k ∧
  (if k = true then tc σ H3 fun w' H4 => r' y w' H4 fun z' H5 => ∃ k', z' = .bl k' ∧ (if k' = true then td σ H5 fun v' H6 => r'' w' v' H6 Q else Q (.bl false) H5) else Q (.bl false) H3)) : tChain3 r r' r'' ta tb tc td σ H Q := h
theorem rd_nil (h : QL [] H) : tNil σ H QL := h
theorem rd_cons {tr : TA} (h : ta σ H fun x H1 => tr σ H1 fun xs H2 => QL (x :: xs) H2) : tCons ta tr σ H QL := h
theorem rd_call {sp : Sp} {dvs : List V} {t : TA} (h : t σ H fun vs H1 => sp (vs ++ dvs) H1 Q E) : tCall sp dvs E t σ H Q := h
theorem rd_CB {r : List V → Hp → VK → Prop} {t : TA} (h : t σ H fun vs H1 => r vs H1 Q) : tCB r t σ H Q := h
theorem rd_gname {j : Nat} (h : QS (σ.set j (some v)) H) : gName j v σ H QS := h
theorem rd_gcons {tg : TG} {ug : TGs} {r : List V} (h : tg v σ H fun σ' H' => ug r σ' H' QS) : gCons tg ug (v :: r) σ H QS := ⟨v, r, rfl, h⟩
theorem rd_gnil (h : QS σ H) : gNil [] σ H QS := ⟨rfl, h⟩
theorem rd_gtup {n : Nat} {tg : TGs} {a : Addr} {xs : List V} (e : H a = some (.tup xs)) (l : xs.length = n) (h : tg xs σ H QS) : gTup K n tg (.ref a) σ H QS := ⟨a, xs, rfl, SqT.of e, l, h⟩
theorem rd_max {a b : Int} (h : Q (.int (max a b)) H) : rMax2 [.int a, .int b] H Q := ⟨a, b, rfl, by
  have e : (if b > a then b else a) = max a b := by split <;> omega
  rw [e]; exact h⟩
theorem rd_min {a b : Int} (h : Q (.int (min a b)) H) : rMin2 [.int a, .int b] H Q := ⟨a, b, rfl, by
  have e : (if b < a then b else a) = min a b := by split <;> omega
  rw [e]; exact h⟩
theorem rd_lenL {a : Addr} {xs : List V} (e : H a = some (.lst xs)) (h : Q (.int xs.length) H) : rLenS K [.ref a] H Q := ⟨a, xs, rfl, .inl (SqL.of e), h⟩
theorem rd_lenT {a : Addr} {xs : List V} (e : H a = some (.tup xs)) (h : Q (.int xs.length) H) : rLenS K [.ref a] H Q := ⟨a, xs, rfl, .inr (SqT.of e), h⟩
theorem rd_lenSq {a : Addr} {xs : List V} (e : SqL K H a xs) (h : Q (.int xs.length) H) : rLenS K [.ref a] H Q := ⟨a, xs, rfl, .inl e, h⟩
theorem rd_int1 {a : Int} (h : Q (.int a) H) : rInt1 [.int a] H Q := .inl ⟨a, rfl, h⟩
theorem rd_abs {a : Int} (h : Q (.int a.natAbs) H) : rAbs [.int a] H Q := ⟨a, rfl, by
  have e : (if a < 0 then -a else a) = (a.natAbs : Int) := by split <;> omega
  rw [e]; exact h⟩
theorem rd_isC {C a dx : Addr} {fs : List (Str × V)} (e : H a = some (.ins C dx fs)) (h : Q (.bl true) H) : rIsC C [.ref a, .ref C] H Q := ⟨a, dx, fs, rfl, e, h⟩
theorem rd_tupOfL {a : Addr} {xs : List V} (e : H a = some (.lst xs)) (h : ∀ p H', H p = none → Same H H' → H' p = some (.tup xs) → H' = upd H p (.tup xs) → Q (.ref p) H') : rTupOf K [.ref a] H Q :=
  ⟨a, xs, rfl, .inl ⟨SqL.of e, fun p hp => h p _ hp (Same.new (Same.refl H) hp) upd_same rfl⟩⟩
theorem rd_tupOfT {a : Addr} {xs : List V} (e : H a = some (.tup xs)) (h : Q (.ref a) H) : rTupOf K [.ref a] H Q := ⟨a, xs, rfl, .inr ⟨SqT.of e, h⟩⟩
theorem rd_fld0 {f : Str} (h : te σ H fun x H1 => rFld K f x H1 Q) : tFld K te f σ H Q := h
theorem rd_fld {a C dx : Addr} {fs : List (Str × V)} {f : Str} (e : H a = some (.ins C dx fs)) (c : Cls K C) (n : NoAttr K C f) (l : fs.lookup f = some v) (h : Q v H) : rFld K f (.ref a) H Q :=
  ⟨a, C, dx, fs, v, rfl, e, c, n, l, h⟩
theorem rd_sum {a : Addr} {ns : List Int} (e : SqL K H a (ns.map V.int)) (h : Q (.int ns.sum) H) : rSum K [.ref a] H Q := ⟨a, ns, rfl, e, h⟩
theorem rd_sl0 {r : V → Option Int → Option Int → Hp → VK → Prop} {tl th : TO} (h : te σ H fun x H1 => tl σ H1 fun l H2 => th σ H2 fun u H3 => r x l u H3 Q) : tSl r te tl th σ H Q := h
theorem rd_noP {QO : Option Int → Hp → Prop} (h : QO none H) : tNoPart σ H QO := h
theorem rd_part {QO : Option Int → Hp → Prop} (h : te σ H fun x H1 => ∃ i, x = .int i ∧ QO (some i) H1) : tPart te σ H QO := h
theorem rd_part2 {R : Int → Prop} {j : Int} (h : R j) : ∃ i, V.int j = .int i ∧ R i := ⟨j, rfl, h⟩
theorem rd_slL {a : Addr} {xs : List V} {lo hi : Option Int} (e : SqL K H a xs) (h : ∀ p H', H p = none → Same H H' → H' p = some (.lst (cutV xs lo hi)) → H' = upd H p (.lst (cutV xs lo hi)) → Q (.ref p) H') : rSlL K (.ref a) lo hi H Q :=
  ⟨a, xs, rfl, e, fun p hp => h p _ hp (Same.new (Same.refl H) hp) upd_same rfl⟩
theorem cut_whole {xs : List V} {lo hi : Option Int} (h : HT.sIx xs.length 0 lo = 0 ∧ HT.sIx xs.length xs.length hi = xs.length) : cutV xs lo hi = xs := by
  unfold cutV
  rw [h.1, h.2]
  simp
theorem rd_slA {a : Addr} {xs : List V} {lo hi : Option Int} (e : H a = some (.tup xs)) (h : ∀ p H', Same H H' → H' p = some (.tup (cutV xs lo hi)) → Q (.ref p) H') : rSlA K (.ref a) lo hi H Q :=
  ⟨a, xs, rfl, SqT.of e, fun c => h a H (Same.refl H) (by rw [cut_whole c]; exact e), fun _ p hp => h p _ (Same.new (Same.refl H) hp) upd_same⟩
theorem rd_cat {a b : Addr} {xs ys : List V} (e1 : H a = some (.lst xs)) (e2 : H b = some (.lst ys)) (l : xs.length + ys.length ≤ 100000) (h : ∀ p H', H p = none → Same H H' → H' p = some (.lst (xs ++ ys)) → H' = upd H p (.lst (xs ++ ys)) → Q (.ref p) H') : rCat (.ref a) (.ref b) H Q :=
  ⟨a, b, xs, ys, rfl, rfl, e1, e2, Nat.le_trans l (by decide), fun p hp => h p _ hp (Same.new (Same.refl H) hp) upd_same rfl⟩
theorem rd_eqD {d e : PyData} (h1 : Dt H x d) (h2 : Dt H y e) (s1 : SeqAt.shaped d = true) (s2 : SeqAt.shaped e = true) (h : Q (.bl (PyData.eqv d e)) H) : rEqD K x y H Q := ⟨d, e, h1.dp, h2.dp, s1, s2, h⟩
theorem rd_neD {d e : PyData} (h1 : Dt H x d) (h2 : Dt H y e) (s1 : SeqAt.shaped d = true) (s2 : SeqAt.shaped e = true) (h : Q (.bl (!PyData.eqv d e)) H) : rNeD K x y H Q := ⟨d, e, h1.dp, h2.dp, s1, s2, h⟩
theorem rd_ownI {C a dx : Addr} {fs : List (Str × V)} {sp : Sp} {dvs : List V} (e : H a = some (.ins C dx fs)) (h : sp (.ref a :: ([y] ++ dvs)) H Q C8.E0) : rOwnI C sp dvs (.ref a) y H Q := ⟨a, dx, fs, rfl, e, h⟩
theorem rd_meth0 {C : Addr} {m : Str} {sp : Sp} {dvs : List V} {t : TA} (h : ta σ H fun x H1 => ∃ a dx fs, x = .ref a ∧ H1 a = some (.ins C dx fs) ∧ fs.lookup m = none ∧ t σ H1 fun vs H2 => sp (x :: (vs ++ dvs)) H2 Q E) : tMeth C m sp dvs E ta t σ H Q := h
theorem rd_star {t : TA} (h : te σ H fun x H1 => ∃ p xs, x = V.ref p ∧ (SqT K H1 p xs ∨ SqL K H1 p xs) ∧ t σ H1 fun ys H2 => QL (xs ++ ys) H2) : tStar K te t σ H QL := h
theorem rd_ixL {a : Addr} {xs : List V} {j : Int} (e : H a = some (.lst xs)) (n : atI xs j = some v) (h : Q v H) : rIxL K (.ref a) (.int j) H Q := ⟨a, xs, j, v, rfl, rfl, SqL.of e, n, h⟩
theorem rd_ixT {a : Addr} {xs : List V} {j : Int} (e : H a = some (.tup xs)) (n : atI xs j = some v) (h : Q v H) : rIxT K (.ref a) (.int j) H Q := ⟨a, xs, j, v, rfl, rfl, SqT.of e, n, h⟩
theorem rd_lst {t : TA} (h : t σ H fun xs H1 => rNewL Q xs H1) : tLst t σ H Q := h
theorem rd_tup {t : TA} (h : t σ H fun xs H1 => rNewT Q xs H1) : tTup t σ H Q := h
/-- a new object: its heap by a name -/
theorem rd_newL {xs : List V} (l : xs.length ≤ 100000) (h : ∀ p H', H p = none → Same H H' → H' p = some (.lst xs) → H' = upd H p (.lst xs) → Q (.ref p) H') : rNewL Q xs H :=
  ⟨Nat.le_trans l (by decide), fun p hp => h p _ hp (Same.new (Same.refl H) hp) upd_same rfl⟩
theorem rd_newT {xs : List V} (l : xs.length ≤ 100000) (h : ∀ p H', H p = none → Same H H' → H' p = some (.tup xs) → H' = upd H p (.tup xs) → Q (.ref p) H') : rNewT Q xs H :=
  ⟨Nat.le_trans l (by decide), fun p hp => h p _ hp (Same.new (Same.refl H) hp) upd_same rfl⟩
theorem rd_app {a : Addr} {xs : List V} (e : H a = some (.lst xs)) (l : xs.length < 100000) (h : ∀ H', H' = upd H a (.lst (xs ++ [y])) → H' a = some (.lst (xs ++ [y])) → Q .non H') : rAppend (.ref a) [y] H Q :=
  ⟨a, xs, y, rfl, rfl, e, Nat.lt_trans l (by decide), h _ rfl upd_same⟩
theorem rd_bm {r : V → List V → Hp → VK → Prop} {t : TA} (h : ta σ H fun x H1 => tyV K "list" x H1 ∧ t σ H1 fun xs H2 => r x xs H2 Q) : tBM K "list" r ta t σ H Q := h
theorem rd_tyL {a : Addr} {xs : List V} {R : Prop} (e : H a = some (.lst xs)) (h : R) : tyV K "list" (.ref a) H ∧ R := ⟨.inl ⟨rfl, xs, SqL.of e⟩, h⟩
theorem rd_ite {p : Prop} [Decidable p] {A B : Prop} (h1 : p → A) (h2 : ¬ p → B) : if decide p = true then A else B := by
  by_cases c : p
  · rw [if_pos (decide_eq_true c)]; exact h1 c
  · rw [if_neg (by rw [decide_eq_false c]; exact Bool.false_ne_true)]; exact h2 c
theorem rd_iteT {p : Prop} [Decidable p] {A B : Prop} (c : p) (h1 : A) : if decide p = true then A else B := by rw [if_pos (decide_eq_true c)]; exact h1
theorem rd_iteF {p : Prop} [Decidable p] {A B : Prop} (c : ¬ p) (h1 : B) : if decide p = true then A else B := by rw [if_neg (by rw [decide_eq_false c]; exact Bool.false_ne_true)]; exact h1
theorem rd_iteN {p : Prop} [Decidable p] {A B : Prop} (h1 : ¬ p → A) (h2 : p → B) : if (!decide p) = true then A else B := by
  by_cases c : p
  · rw [if_neg (by rw [decide_eq_true c]; decide)]; exact h2 c
  · rw [if_pos (by rw [decide_eq_false c]; rfl)]; exact h1 c
theorem rd_iteNT {p : Prop} [Decidable p] {A B : Prop} (c : ¬ p) (h1 : A) : if (!decide p) = true then A else B := by rw [if_pos (by rw [decide_eq_false c]; rfl)]; exact h1
theorem rd_iteNF {p : Prop} [Decidable p] {A B : Prop} (c : p) (h1 : B) : if (!decide p) = true then A else B := by rw [if_neg (by rw [decide_eq_true c]; decide)]; exact h1
theorem rd_iteTT {A B : Prop} (h : A) : if true = true then A else B := by rw [if_pos rfl]; exact h
theorem rd_iteFF {A B : Prop} (h : B) : if false = true then A else B := by rw [if_neg Bool.false_ne_true]; exact h
theorem rd_iteNTT {A B : Prop} (h : B) : if (!true) = true then A else B := h
theorem rd_iteNFF {A B : Prop} (h : A) : if (!false) = true then A else B := h
end
end Sl
set_option Elab.async false
set_option linter.all false
set_option maxRecDepth 100000
set_option maxHeartbeats 4000000
namespace Sl
open PySem L2 C8 StX
def rMake (C : Addr) (sp : Sp) (dvs : List V) (E : XK) (Q : VK) (vs : List V) (H1 : Hp) : Prop := ∀ x dx, H1 x = none → H1 dx = none → dx ≠ x →
  sp (.ref x :: (vs ++ dvs)) (upd (upd H1 dx (.own x)) x (.ins C dx [])) (fun v H2 => v = .non ∧ Q (.ref x) H2) E
def rDrawN (Q : VK) (xs : List V) (H1 : Hp) : Prop := ∃ sc i, xs = [.ref sc, .int i] ∧ ∀ p, H1 p = none → Q (.ref p) (upd H1 p (DrawO p sc))
section
variable {σ : L2.St} {H H1 : Hp} {wi : TI} {g : TG} {tb : TS} {ta : TA} {te : TE} {tt : TT} {c : TT} {nx bk ct : L2.St → Hp → Prop} {rt : VK} {R : It → Hp → Prop} {K : PySem.W.Frag} {Q : VK} {vs : List Nat} {D : Ends}
def ForR (J : It) (g : TG) (tb : TS) (D : Ends) (σ : L2.St) (H1 : Hp) : Prop := ∃ W : Nat → Nat → L2.St → Hp → Prop, (∃ m, W 0 m σ H1) ∧ ∀ i m σ H, W i m σ H →
  (J.stop i H ∧ D.nx σ H) ∨ (J.go i H ∧ ∃ N : L2.St → Hp → Prop, (∀ σ' H', N σ' H' → ∃ m', m' < m ∧ W (i + 1) m' σ' H') ∧ ∀ x H', J.yld i H x H' → g x σ H' fun σ2 H2 => tb { D with nx := N, ct := N, bk := D.nx } σ2 H2)
theorem rd_for (h : wi σ H fun J H1 => ForR J g tb D σ H1) : tFor wi g tb D σ H := h
/-- n turns -/
theorem forR_gen (J : It) (n : Nat) (Pv : Nat → L2.St → Hp → Prop) (h0 : Pv 0 σ H) (hg : ∀ i σ H, i < n → Pv i σ H → J.go i H) (he : ∀ σ H, Pv n σ H → J.stop n H)
    (hs : ∀ i σ H x H', i < n → Pv i σ H → J.yld i H x H' → g x σ H' fun σ2 H2 => tb ⟨Pv (i + 1), rt, nx, Pv (i + 1)⟩ σ2 H2) (hd : ∀ σ H, Pv n σ H → nx σ H) : ForR J g tb ⟨nx, rt, bk, ct⟩ σ H := by
  refine ⟨fun i m σ H => m = n - i ∧ i ≤ n ∧ Pv i σ H, ⟨n, by simp, Nat.zero_le _, h0⟩, ?_⟩
  rintro i m σ H ⟨rfl, hi, p⟩
  by_cases hlt : i < n
  · exact .inr ⟨hg i σ H hlt p, Pv (i + 1), fun σ' H' p' => ⟨n - (i + 1), by omega, rfl, hlt, p'⟩, fun x H' y => hs i σ H x H' hlt p y⟩
  · obtain rfl : i = n := by omega
    exact .inl ⟨he σ H p, hd σ H p⟩
theorem forR_rng {lo : Int} {n : Nat} (Pv : Nat → L2.St → Hp → Prop) (h0 : Pv 0 σ H) (hs : ∀ i σ H, i < n → Pv i σ H → g (.int (lo + i)) σ H fun σ2 H2 => tb ⟨Pv (i + 1), rt, nx, Pv (i + 1)⟩ σ2 H2) (hd : ∀ σ H, Pv n σ H → nx σ H) :
    ForR (Itr lo n) g tb ⟨nx, rt, bk, ct⟩ σ H := forR_gen _ n Pv h0 (fun i _ _ h _ => h) (fun _ _ _ => Nat.le_refl _) (fun i σ H x H' hi p ⟨e1, e2⟩ => by subst e1; subst e2; exact hs i σ _ hi p) hd
theorem forR_rngC {lo c : Int} {n : Nat} (Pv : Nat → L2.St → Hp → Prop) (h0 : Pv 0 σ H) (hs : ∀ (i : Nat) σ H, i < n → Pv i σ H → g (.int (lo + (i : Nat) * c)) σ H fun σ2 H2 => tb ⟨Pv (i + 1), rt, nx, Pv (i + 1)⟩ σ2 H2) (hd : ∀ σ H, Pv n σ H → nx σ H) :
    ForR (Itc lo c n) g tb ⟨nx, rt, bk, ct⟩ σ H := forR_gen _ n Pv h0 (fun i _ _ h _ => h) (fun _ _ _ => Nat.le_refl _) (fun i σ H x H' hi p ⟨e1, e2⟩ => by subst e1; subst e2; exact hs i σ _ hi p) hd
theorem forR_lst {a : Addr} {xs : List V} (Pv : Nat → L2.St → Hp → Prop) (hl : ∀ i σ H, Pv i σ H → SqL K H a xs) (h0 : Pv 0 σ H) (hs : ∀ i x σ H, xs[i]? = some x → Pv i σ H → g x σ H fun σ2 H2 => tb ⟨Pv (i + 1), rt, nx, Pv (i + 1)⟩ σ2 H2) (hd : ∀ σ H, Pv xs.length σ H → nx σ H) :
    ForR (Itl K a) g tb ⟨nx, rt, bk, ct⟩ σ H := forR_gen _ xs.length Pv h0 (fun i σ H h p => ⟨xs, xs[i], hl i σ H p, by simp [h]⟩) (fun σ H p => ⟨xs, hl _ σ H p, Nat.le_refl _⟩)
      (fun i σ H x H' hi p ⟨e1, e2⟩ => by subst e1; exact hs i x σ _ (e2 xs (hl i σ _ p)) p) hd
theorem forR_tup {a : Addr} {xs : List V} (Pv : Nat → L2.St → Hp → Prop) (hl : ∀ i σ H, Pv i σ H → SqT K H a xs) (h0 : Pv 0 σ H) (hs : ∀ i x σ H, xs[i]? = some x → Pv i σ H → g x σ H fun σ2 H2 => tb ⟨Pv (i + 1), rt, nx, Pv (i + 1)⟩ σ2 H2) (hd : ∀ σ H, Pv xs.length σ H → nx σ H) :
    ForR (Itt K a) g tb ⟨nx, rt, bk, ct⟩ σ H := forR_gen _ xs.length Pv h0 (fun i σ H h p => ⟨xs, xs[i], hl i σ H p, by simp [h]⟩) (fun σ H p => ⟨xs, hl _ σ H p, Nat.le_refl _⟩)
      (fun i σ H x H' hi p ⟨e1, e2⟩ => by subst e1; exact hs i x σ _ (e2 xs (hl i σ _ p)) p) hd
/-- the pair is a new tuple at t -/
theorem forR_enum {a : Addr} {xs : List V} (Pv : Nat → L2.St → Hp → Prop) (hl : ∀ i σ H, Pv i σ H → SqL K H a xs) (h0 : Pv 0 σ H)
    (hs : ∀ (i : Nat) x σ H t H', xs[i]? = some x → Pv i σ H → H t = none → Same H H' → H' t = some (.tup [.int (i : Nat), x]) → H' = upd H t (.tup [.int (i : Nat), x]) → g (.ref t) σ H' fun σ2 H2 => tb ⟨Pv (i + 1), rt, nx, Pv (i + 1)⟩ σ2 H2) (hd : ∀ σ H, Pv xs.length σ H → nx σ H) :
    ForR (Ite K a) g tb ⟨nx, rt, bk, ct⟩ σ H := forR_gen _ xs.length Pv h0 (fun i σ H h p => ⟨xs, xs[i], hl i σ H p, by simp [h]⟩) (fun σ H p => ⟨xs, hl _ σ H p, Nat.le_refl _⟩)
      (fun i σ H x H' hi p ⟨t, y, e1, e2, e3, e4⟩ => by subst e1; subst e3; exact hs i y σ H t _ (e4 xs (hl i σ _ p)) p e2 (Same.new (Same.refl H) e2) upd_same rfl) hd
/-! ### what is walked -/
def rgR1 (R : It → Hp → Prop) (vs : List V) (H : Hp) : Prop := ∃ j : Int, vs = [.int j] ∧ -(2 ^ 62) ≤ j ∧ j < 2 ^ 62 ∧ R (Itr 0 j.toNat) H
theorem rd_rng1 (h : ta σ H fun vs H1 => rgR1 R vs H1) : iRng1 ta σ H R := h
theorem rd_rgR1 {j : Int} (h0 : -(2 ^ 62) ≤ j) (h1 : j < 2 ^ 62) (h : R (Itr 0 j.toNat) H) : rgR1 R [.int j] H := ⟨j, rfl, h0, h1, h⟩
def rgR2 (R : It → Hp → Prop) (vs : List V) (H : Hp) : Prop := ∃ i j : Int, vs = [.int i, .int j] ∧ (-(2 ^ 62) ≤ i ∧ i < 2 ^ 62 ∧ -(2 ^ 62) ≤ j ∧ j < 2 ^ 62) ∧ R (Itr i (j - i).toNat) H
theorem rd_rng2 (h : ta σ H fun vs H1 => rgR2 R vs H1) : iRng2 ta σ H R := h
theorem rd_rgR2 {i j : Int} (h0 : -(2 ^ 62) ≤ i ∧ i < 2 ^ 62 ∧ -(2 ^ 62) ≤ j ∧ j < 2 ^ 62) (h : R (Itr i (j - i).toNat) H) : rgR2 R [.int i, .int j] H := ⟨i, j, rfl, h0, h⟩
def rgR3 (R : It → Hp → Prop) (vs : List V) (H : Hp) : Prop := ∃ (i j c : Int) (n : Nat), vs = [.int i, .int j, .int c] ∧ RgC i j c n ∧ R (Itc i c n) H
theorem rd_rng3 (h : ta σ H fun vs H1 => rgR3 R vs H1) : iRng3 ta σ H R := h
theorem rd_rgDn {i j : Int} (h0 : -(2 ^ 62) ≤ i ∧ i < 2 ^ 62 ∧ -(2 ^ 62) ≤ j ∧ j < 2 ^ 62) (h : R (Itc i (-1) (i - j).toNat) H) : rgR3 R [.int i, .int j, .int (-1)] H := ⟨i, j, -1, _, rfl, RgC.neg h0.1 h0.2.1 h0.2.2.1 h0.2.2.2, h⟩
def lsR (K : PySem.W.Frag) (R : It → Hp → Prop) (x : V) (H : Hp) : Prop := ∃ a, x = .ref a ∧ (∃ xs, SqL K H a xs) ∧ R (Itl K a) H
theorem rd_iList (h : te σ H fun x H1 => lsR K R x H1) : iList K te σ H R := h
theorem rd_lsR {a : Addr} {xs : List V} (e : SqL K H a xs) (h : R (Itl K a) H) : lsR K R (.ref a) H := ⟨a, rfl, ⟨xs, e⟩, h⟩
def tpR (K : PySem.W.Frag) (R : It → Hp → Prop) (x : V) (H : Hp) : Prop := ∃ a, x = .ref a ∧ (∃ xs, SqT K H a xs) ∧ R (Itt K a) H
theorem rd_iTup (h : te σ H fun x H1 => tpR K R x H1) : iTup K te σ H R := h
theorem rd_tpR {a : Addr} {xs : List V} (e : SqT K H a xs) (h : R (Itt K a) H) : tpR K R (.ref a) H := ⟨a, rfl, ⟨xs, e⟩, h⟩
def enR (K : PySem.W.Frag) (R : It → Hp → Prop) (vs : List V) (H : Hp) : Prop := ∃ a xs, vs = [.ref a] ∧ SqL K H a xs ∧ R (Ite K a) H
theorem rd_iEnum (h : ta σ H fun vs H1 => enR K R vs H1) : iEnum K ta σ H R := h
theorem rd_enR {a : Addr} {xs : List V} (e : SqL K H a xs) (h : R (Ite K a) H) : enR K R [.ref a] H := ⟨a, xs, rfl, e, h⟩
/-! ### while -/
def WhN (m : Nat) (W : Nat → L2.St → Hp → Prop) (tb : TS) (rt : VK) (nx : L2.St → Hp → Prop) (σ : L2.St) (H1 : Hp) : Prop := ∃ N : L2.St → Hp → Prop, (∀ σ' H', N σ' H' → ∃ m', m' < m ∧ W m' σ' H') ∧ tb ⟨N, rt, nx, N⟩ σ H1
theorem rd_whN {m : Nat} {W : Nat → L2.St → Hp → Prop} (h : tb ⟨fun σ' H' => ∃ m', m' < m ∧ W m' σ' H', rt, nx, fun σ' H' => ∃ m', m' < m ∧ W m' σ' H'⟩ σ H) : WhN m W tb rt nx σ H := ⟨_, fun _ _ q => q, h⟩
theorem rd_while (W : Nat → L2.St → Hp → Prop) (m0 : Nat) (h0 : W m0 σ H) (hs : ∀ m σ H, W m σ H → c σ H fun b H1 => if b = true then WhN m W tb rt nx σ H1 else nx σ H1) :
    tWhile c tb ⟨nx, rt, bk, ct⟩ σ H := ⟨W, ⟨m0, h0⟩, hs⟩
/-! ### a new instance -/
theorem rd_make0 {C : Addr} {sp : Sp} {dvs : List V} {E : XK} {t : TA} (h : t σ H fun vs H1 => rMake C sp dvs E Q vs H1) : tMake C sp dvs E t σ H Q := h
theorem rd_make {C : Addr} {sp : Sp} {dvs : List V} {E : XK} {ws : List V} (h : ∀ x dx H2, Same H H2 → H x = none → H2 x = some (.ins C dx []) → sp (.ref x :: (ws ++ dvs)) H2 (fun v H3 => v = .non ∧ Q (.ref x) H3) E) : rMake C sp dvs E Q ws H :=
  fun x dx hx hdx hne => h x dx _ (fun b o e => by rw [upd_ne (ne_of_none e hx), upd_ne (ne_of_none e hdx)]; exact e) hx upd_same
/-! ### draws -/
theorem rd_augS {to ti te : TE} {tget : V → V → Hp → VK → Prop} {tip : TIp} {tset : TSet} (h : to σ H fun o H1 => ti σ H1 fun i H2 => tget o i H2 fun x H3 => te σ H3 fun y H4 => tip x y H4 fun z H5 => tset o i z H5 fun H6 => nx σ H6) : tAugS to ti te tget tip tset ⟨nx, rt, bk, ct⟩ σ H := h
theorem rd_draw0 {a sc : Addr} (e : H a = some (DrawO a sc)) (h : Q (.ref sc) H) : rDraw0 (.ref a) (.int 0) H Q := ⟨a, sc, rfl, rfl, e, h⟩
theorem rd_draw1 {a sc : Addr} (e : H a = some (DrawO a sc)) (h : ∀ i : Int, Q (.int i) H) : rDraw1 (.ref a) (.int 1) H Q := ⟨a, sc, rfl, rfl, e, h⟩
theorem rd_setDraw1 {a sc : Addr} {j : Int} {QH : Hp → Prop} (e : H a = some (DrawO a sc)) (h : QH H) : sDraw1 (.ref a) (.int 1) (.int j) H QH := ⟨a, sc, j, rfl, rfl, rfl, e, h⟩
theorem rd_drawNew {t : TA} (h : t σ H fun xs H1 => rDrawN Q xs H1) : tDraw t σ H Q := h
theorem rd_drawN {sc : Addr} {j : Int} (h : ∀ p H', H p = none → Same H H' → H' p = some (DrawO p sc) → Q (.ref p) H') : rDrawN Q [.ref sc, .int j] H := ⟨sc, j, rfl, fun p hp => h p _ hp (Same.new (Same.refl H) hp) upd_same⟩
/-! ### comprehensions -/
theorem rd_yes {QB : Bool → Hp → Prop} (h : QB true H) : tYes σ H QB := h
def LcR (J : It) (g : TG) (tt : TT) (te : TE) (vs : List Nat) (σ : L2.St) (H1 : Hp) (Q : VK) : Prop := ∀ D, H1 D = none → ∃ W : Nat → Nat → Hp → Prop, (∃ m, W 0 m (upd H1 D (.lst []))) ∧ ∀ i m H, W i m H →
  (J.stop i H ∧ Q (.ref D) H) ∨ (J.go i H ∧ ∃ Nx : Hp → Prop, (∀ H', Nx H' → ∃ m', m' < m ∧ W (i + 1) m' H') ∧ ∀ x H', J.yld i H x H' → g x (wipe σ vs) H' fun σ2 H2 => wipe σ2 vs = wipe σ vs ∧ tt σ2 H2 fun b H3 =>
    if b = true then te σ2 H3 fun y H4 => ∃ acc, H4 D = some (.lst acc) ∧ acc.length < sizeLine ∧ Nx (upd H4 D (.lst (acc ++ [y]))) else Nx H3)
theorem rd_lc (h : wi σ H fun J H1 => LcR J g tt te vs σ H1 Q) : tLc wi g tt te vs σ H Q := h
/-- what a comprehension does with an element -/
def LcE (D : Addr) (Nx : Hp → Prop) (y : V) (H4 : Hp) : Prop := ∃ acc, H4 D = some (.lst acc) ∧ acc.length < sizeLine ∧ Nx (upd H4 D (.lst (acc ++ [y])))
theorem rd_lcE {D : Addr} {Nx : Hp → Prop} {y : V} {acc : List V} (e : H D = some (.lst acc)) (l : acc.length < 100000) (h : ∀ H', H' = upd H D (.lst (acc ++ [y])) → H' D = some (.lst (acc ++ [y])) → Nx H') : LcE D Nx y H := ⟨acc, e, Nat.lt_trans l (by decide), h _ rfl upd_same⟩
theorem lcR_gen (J : It) (n : Nat) (Pv : Addr → Nat → Hp → Prop) (h0 : ∀ D H', H D = none → Same H H' → H' D = some (.lst []) → H' = upd H D (.lst []) → Pv D 0 H') (hg : ∀ D i H', H D = none → i < n → Pv D i H' → J.go i H') (he : ∀ D H', H D = none → Pv D n H' → J.stop n H')
    (hs : ∀ D i H' x H2, H D = none → i < n → Pv D i H' → J.yld i H' x H2 → g x (wipe σ vs) H2 fun σ2 H2 => wipe σ2 vs = wipe σ vs ∧ tt σ2 H2 fun b H3 => if b = true then te σ2 H3 fun y H4 => LcE D (Pv D (i + 1)) y H4 else Pv D (i + 1) H3)
    (hd : ∀ D H', H D = none → Pv D n H' → Q (.ref D) H') : LcR J g tt te vs σ H Q := by
  intro D hD
  refine ⟨fun i m H => m = n - i ∧ i ≤ n ∧ Pv D i H, ⟨n, by simp, Nat.zero_le _, h0 D _ hD (Same.new (Same.refl H) hD) upd_same rfl⟩, ?_⟩
  rintro i m H' ⟨rfl, hi, p⟩
  by_cases hlt : i < n
  · exact .inr ⟨hg D i H' hD hlt p, Pv D (i + 1), fun H2 p' => ⟨n - (i + 1), by omega, rfl, hlt, p'⟩, fun x H2 y => hs D i H' x H2 hD hlt p y⟩
  · obtain rfl : i = n := by omega
    exact .inl ⟨he D H' hD p, hd D H' hD p⟩
theorem lcR_rng {lo : Int} {n : Nat} (Pv : Addr → Nat → Hp → Prop) (h0 : ∀ D H', H D = none → Same H H' → H' D = some (.lst []) → H' = upd H D (.lst []) → Pv D 0 H')
    (hs : ∀ D i H', H D = none → i < n → Pv D i H' → g (.int (lo + i)) (wipe σ vs) H' fun σ2 H2 => wipe σ2 vs = wipe σ vs ∧ tt σ2 H2 fun b H3 => if b = true then te σ2 H3 fun y H4 => LcE D (Pv D (i + 1)) y H4 else Pv D (i + 1) H3)
    (hd : ∀ D H', H D = none → Pv D n H' → Q (.ref D) H') : LcR (Itr lo n) g tt te vs σ H Q :=
  lcR_gen _ n Pv h0 (fun _ i _ _ h _ => h) (fun _ _ _ _ => Nat.le_refl _) (fun D i H x H' hD hi p ⟨e1, e2⟩ => by subst e1; subst e2; exact hs D i _ hD hi p) hd
theorem lcR_lst {a : Addr} {xs : List V} (Pv : Addr → Nat → Hp → Prop) (hl : ∀ D i H', H D = none → Pv D i H' → SqL K H' a xs) (h0 : ∀ D H', H D = none → Same H H' → H' D = some (.lst []) → H' = upd H D (.lst []) → Pv D 0 H')
    (hs : ∀ D i x H', H D = none → xs[i]? = some x → Pv D i H' → g x (wipe σ vs) H' fun σ2 H2 => wipe σ2 vs = wipe σ vs ∧ tt σ2 H2 fun b H3 => if b = true then te σ2 H3 fun y H4 => LcE D (Pv D (i + 1)) y H4 else Pv D (i + 1) H3)
    (hd : ∀ D H', H D = none → Pv D xs.length H' → Q (.ref D) H') : LcR (Itl K a) g tt te vs σ H Q :=
  lcR_gen _ xs.length Pv h0 (fun D i H' hD h p => ⟨xs, xs[i], hl D i H' hD p, by simp [h]⟩) (fun D H' hD p => ⟨xs, hl D _ H' hD p, Nat.le_refl _⟩)
    (fun D i H' x H2 hD hi p ⟨e1, e2⟩ => by subst e1; exact hs D i x _ hD (e2 xs (hl D i _ hD p)) p) hd
theorem lcR_enum {a : Addr} {xs : List V} (Pv : Addr → Nat → Hp → Prop) (hl : ∀ D i H', H D = none → Pv D i H' → SqL K H' a xs) (h0 : ∀ D H', H D = none → Same H H' → H' D = some (.lst []) → H' = upd H D (.lst []) → Pv D 0 H')
    (hs : ∀ D (i : Nat) x H' t H2, H D = none → xs[i]? = some x → Pv D i H' → H' t = none → Same H' H2 → H2 t = some (.tup [.int (i : Nat), x]) → H2 = upd H' t (.tup [.int (i : Nat), x]) → g (.ref t) (wipe σ vs) H2 fun σ2 H2 => wipe σ2 vs = wipe σ vs ∧ tt σ2 H2 fun b H3 => if b = true then te σ2 H3 fun y H4 => LcE D (Pv D (i + 1)) y H4 else Pv D (i + 1) H3)
    (hd : ∀ D H', H D = none → Pv D xs.length H' → Q (.ref D) H') : LcR (Ite K a) g tt te vs σ H Q :=
  lcR_gen _ xs.length Pv h0 (fun D i H' hD h p => ⟨xs, xs[i], hl D i H' hD p, by simp [h]⟩) (fun D H' hD p => ⟨xs, hl D _ H' hD p, Nat.le_refl _⟩)
    (fun D i H' x H2 hD hi p ⟨t, y, e1, e2, e3, e4⟩ => by subst e1; subst e3; exact hs D i y H' t _ hD (e4 xs (hl D i _ hD p)) p e2 (Same.new (Same.refl H') e2) upd_same rfl) hd
end
end Sl
set_option Elab.async false
set_option linter.all false
set_option maxRecDepth 100000
set_option maxHeartbeats 4000000
namespace L2
open PySem PySem.Spec PyProof.Rows
/-! ### defs that raise: a promise for the refused arguments -/
section
variable {X : Cx} {CX : CXT} {k j : Nat} {f C : Addr} {fd : FuncData} {ps : List Str} {ds : List Value} {dvs : List V} {sp : Sp} {E : St → XK} {x m : Str} {p pos apos : Pos} {e o : Expr} {es : List Expr} {ta : TE} {t : TA}
theorem run_fnSd {pins : List (Addr × Obj)} {σ : St} {H : Hp} {s : Shared} {Q : VK} {us : List Value} {vs : List V} (F : FnOk X.prog X.w X.K X.mg X.base CX k f fd ps sp) (hr : Room k X.A) (hb : Binds X.K fd ps ds) (hd : Vals dvs ds) (hx : PassesAt CX X σ (E σ))
    (I : Inv X pins σ H s) (r : Vals vs us) (h : sp (vs ++ dvs) H Q (E σ)) : wpAny (model X.prog X.w) X.A (call (.ref f) us) (EP X pins σ Q) X.xe s := by
  have r2 : Vals (vs ++ dvs) (us ++ ds) := r.append hd
  have hl : (us ++ ds).length = ps.length := by rw [← r2.length]; exact F.len _ _ _ _ h
  refine wpAny_call (codeAny_mono (F.run X.A X.stack s H ⟨us, []⟩ (us ++ ds) (vs ++ dvs) Q (E σ) hr I.env0 (hb s us I.kIn hl) r2 h) fun r s' hq => ?_)
  cases r with
  | error e => exact hx pins H s e s' I hq
  | ok fl =>
    cases fl with
    | ret u => exact I.after hq
    | next => exact False.elim hq
    | brk => exact False.elim hq
    | cont => exact False.elim hq
def tCallSd (sp : Sp) (dvs : List V) (E : St → XK) (t : TA) : TE := fun σ H Q => t σ H fun vs H1 => sp (vs ++ dvs) H1 Q (E σ)
/-- a def called by its name that may raise -/
structure CalX (P : Program) (w : World) (K : PySem.W.Frag) (mg : Str → Option Value) (base : Heap) (k : Nat) (x : Str) (sp : Sp) (dvs : List V) : Prop where
  ex : ∃ (f : Addr) (fd : FuncData) (ps : List Str) (ds : List Value), FnOk P w K mg base (L2.CX P w) k f fd ps sp ∧ mg x = some (.ref f) ∧ PySem.W.keepIn K (.ref f) = true ∧ Binds K fd ps ds ∧ Vals dvs ds
theorem pe_cX (c : CalX X.prog X.w X.K X.mg X.base k x sp dvs) (hr : Room j X.A) (hk : k ≤ j) (hg : Gl X x) (hx : ∀ σ, PassesAt (L2.CX X.prog X.w) X σ (E σ)) (ha : PA X (e :: es) t)
    (hdb : (x == ("__debug__" : Str)) = false := by decide) (he : starEach (e :: es) X.env = (false, eval e X.env) :: starEach es X.env := by rfl) (hpl : (backTo pos (starEach es X.env)).any (·.1) = false := by rfl) :
    PE X (.Call (.Name x p) (e :: es) [] pos) (tCallSd sp dvs E t) := by
  obtain ⟨f, fd, ps, ds, F, hm, kp, b, d⟩ := c.ex
  refine ⟨fun pins s σ H Q I h => ?_⟩
  refine wpAny_Call_Name_kw (ld_glob I hg hm ?_ hdb)
  refine PySem.W.callWith_K (h₀ := X.base) I.ok.mod.kin kp (thn (ha.run pos pins s σ H _ I h) fun us s1 ⟨vs, H1, I1, r, q⟩ => ⟨I1.kIn, ?_⟩) he hpl
  exact run_fnSd F (hr.mono hk) b d (hx σ) I1 r q
/-- around a body nothing is let out -/
theorem takesN {X : Cx} : Takes X (fun _ _ _ _ => False) := fun _ _ x => by
  obtain ⟨_, _, _, _, _, _, _, _, _, _, _, _, _, _, _, _, z⟩ := x
  exact z.elim
/-- a try by its name -/
def tTry (K : PySem.W.Frag) (c : Value) (tb : WX → TS) (ts : Addr → Value → Option Addr → TS) (Wout : WX) : TS := fun D σ H => tb (wOnly K c ts Wout D) D σ H
theorem ps_tryO {x : Str} {c : Value} {body suite : List Stmt} {b₀ : Stmt} {np pos pos' : Pos} {tb : WX → TS} {ts : Addr → Value → Option Addr → TS} {Wout : WX} (hs : X.stack = X.env :: X.outer) (hf : X.env.frame = some X.env.locals) (hc : Names X x c) (tk : Takes X Wout)
    (hb : ∀ (W : WX) (pn : List (Addr × Obj)) (xe : Value → Shared → Prop), Takes (X.tr pn xe) W → PSs (X.tr pn xe) body (tb W))
    (hsu : ∀ (a : Addr) (oe : Obj) (cls : Value) (d : Option Addr) (pn : List (Addr × Obj)), PSs (X.suite a ((a, oe) :: pn)) (b₀ :: suite) (ts a cls d)) :
    PS X (.Try body [.ExceptHandler (some (.Name x np)) none (b₀ :: suite) pos'] [] [] pos) (tTry X.K c tb ts Wout) :=
  ps_try_only hs hf hc tk (fun W pn xe tk _ => hb W pn xe tk) (fun a oe cls d pn _ _ => hsu a oe cls d pn)
end
end L2
namespace C8
open PySem PySem.Spec PyProof.Rows L2
section
variable {P : Program} {w : World} {K : PySem.W.Frag} {mg : Str → Option Value} {base : Heap}
theorem fnX {x qual : Str} {st : Stmt} {f : Addr} {fd : FuncData} {N ps : List Str} {k : Nat} {sp : Sp} (F : Fun K x qual st f fd) (S : FnScope N ps (fnScope st)) (len : ∀ vs H Q E, sp vs H Q E → vs.length = ps.length)
    (hbody : ∀ (cdv : Value) (A : Around) (outer : List Env) (s : Shared) (H : Hp) (vs : List V) (Q : VK) (E : XK), Room k (A.deeper (envOfC qual (fnScope st) s.heap.objs.size f cdv)) → sp vs H Q E →
      ∃ t, PSs (cxOf (L2.CX P w) P w K mg base N qual (fnScope st) f cdv A outer s H E) (fnBody st) t ∧ t { nx := fun _ H' => Q .non H', rt := Q } (start N vs) H) : FnOk P w K mg base (L2.CX P w) (k + 1) f fd ps sp := by
  obtain ⟨oc, od, dV, kV, doc, pm, an, cdv, ct, osl, rfl, lk, hcd⟩ := F.ex
  exact fn_of lk hcd S len fun A outer s H vs Q E hr hsp => hbody cdv A outer s H vs Q E hr hsp
theorem calX0 {x : Str} {st : Stmt} {f : Addr} {fd : FuncData} {N ps : List Str} {ds : List Value} {dvs : List V} {k : Nat} {sp : Sp} (F : Def K mg x st f fd) (b : Binds K fd ps ds) (d : Vals dvs ds) (S : FnScope N ps (fnScope st)) (len : ∀ vs H Q E, sp vs H Q E → vs.length = ps.length)
    (hbody : ∀ (cdv : Value) (A : Around) (outer : List Env) (s : Shared) (H : Hp) (vs : List V) (Q : VK) (E : XK), Room k (A.deeper (envOfC x (fnScope st) s.heap.objs.size f cdv)) → sp vs H Q E →
      ∃ t, PSs (cxOf (L2.CX P w) P w K mg base N x (fnScope st) f cdv A outer s H E) (fnBody st) t ∧ t { nx := fun _ H' => Q .non H', rt := Q } (start N vs) H) : CalX P w K mg base (k + 1) x sp dvs :=
  ⟨f, fd, ps, ds, fnX F.fn S len hbody, F.mgf, F.kp, b, d⟩
end
end C8
namespace Sl
open PySem L2 C8 StX
/-- an error of the class at S is what «except S» names -/
theorem exm_own {K : PySem.W.Frag} {S : Addr} (h1 : PySem.W.subIn K (.ref S) (.type "BaseException") = some true) (h2 : PySem.W.isClsIn K S = true) (h3 : PySem.W.typeIn K (.ref S) = some (.type "type")) (h4 : PySem.W.subIn K (.ref S) (.ref S) = some true) :
    PySem.W.exmOne K (.ref S) (.ref S) = some true := by
  have e1 : (PySem.W.subIn K (.ref S) (.type "BaseException") == some true) = true := by rw [h1] <;> rfl
  have e2 : ((PySem.W.clsIn K S).isSome && PySem.W.typeIn K (.ref S) == some (.type "type")) = true := by
    have h2' : (PySem.W.clsIn K S).isSome = true := h2
    rw [h2', h3] <;> rfl
  show (if (PySem.W.subIn K (.ref S) (.type "BaseException") == some true) = true then (if ((PySem.W.clsIn K S).isSome && PySem.W.typeIn K (.ref S) == some (.type "type")) = true then PySem.W.subIn K (.ref S) (.ref S) else none) else none) = some true
  rw [if_pos e1, if_pos e2]
  exact h4
/-- what is known of an own class of errors without its own __init__ -/
structure XOwn (K : PySem.W.Frag) (C : Addr) : Prop where
  x : PySem.W.excIn K C [.type "ValueError", .type "Exception", .type "BaseException", .type "object"] "ValueError.__new__" = true
  k : PySem.W.keepIn K (.ref C) = true
  b : PySem.W.subIn K (.ref C) (.type "BaseException") = some true
  t : PySem.W.typeIn K (.ref C) = some (.type "type")
  i : PySem.W.isClsIn K C = true
  s : PySem.W.subIn K (.ref C) (.ref C) = some true
theorem XOwn.e {K : PySem.W.Frag} {C : Addr} (T : XOwn K C) : PySem.W.exmOne K (.ref C) (.ref C) = some true := exm_own T.b T.i T.t T.s
section
variable {X : Cx} {x : Str} {np pos : Pos} {C : Addr} {W : WX}
/-- X('m') -/
theorem pmk_x {m : Str} {j : Nat} {p p2 pos : Pos} (T : XOwn X.K C) (gC : X.mg x = some (.ref C)) (hg : Gl X x) (hdb : (x == ("__debug__" : Str)) = false := by decide) : PMk X (.Call (.Name x p) [.Constant (.str m) j p2] [] pos) (fun _ H Q => Q (.ref C) none H) :=
  pmk_own PySem.F.excBase_ValueError T.x gC T.k (raises_own T.b T.t) hg hdb
/-- raise X('m') -/
def tRaise (C : Addr) (W : WX) : TS := fun _ σ H => W (.ref C) none σ H
theorem ps_raiseO {m : Str} {j : Nat} {p p2 pos pos2 : Pos} (hc : X.calm = true) (tk : Takes X W) (T : XOwn X.K C) (gC : X.mg x = some (.ref C)) (hg : Gl X x) (hdb : (x == ("__debug__" : Str)) = false := by decide) :
    PS X (.Raise (some (.Call (.Name x p) [.Constant (.str m) j p2] [] pos)) none pos2) (tRaise C W) := ps_raise hc tk (pmk_x T gC hg hdb)
end
section
variable {σ : L2.St} {H : Hp} {Q : VK} {K : PySem.W.Frag} {C : Addr} {W Wout : WX} {nx bk ct : L2.St → Hp → Prop} {rt : VK} {sp : Sp} {dvs : List V} {E : L2.St → XK} {t : TA} {tb : WX → TS} {ts : Addr → Value → Option Addr → TS} {c cls : Value} {d : Option Addr} {D : Ends} {vs : List V}
theorem rd_raise {E : XK} (h : E (.ref C) none H) : tRaise C (fun cls d _ H => E cls d H) ⟨nx, rt, bk, ct⟩ σ H := h
def rCallSd (sp : Sp) (dvs : List V) (E : XK) (Q : VK) (vs : List V) (H : Hp) : Prop := sp (vs ++ dvs) H Q E
theorem rd_callSd (h : t σ H fun vs H1 => rCallSd sp dvs (E σ) Q vs H1) : tCallSd sp dvs E t σ H Q := h
theorem rd_callSd2 {E : XK} {ws : List V} (h : sp (ws ++ dvs) H Q E) : rCallSd sp dvs E Q ws H := h
theorem rd_try (h : tb (wOnly K c ts Wout D) D σ H) : tTry K c tb ts Wout D σ H := h
theorem rd_caught (he : PySem.W.exmOne K cls c = some true) (h : ∀ a, H a = none → ts a cls d D σ H) : WE (wOnly K c ts Wout D) σ cls d H := ⟨true, he, fun _ => h, fun q => nomatch q⟩
theorem rd_isN0 {x : V} (h : Q (.bl (decide (x = .non))) H) : rIsNn x .non H Q := ⟨rfl, h⟩
theorem rd_notN0 {x : V} (h : Q (.bl (!decide (x = .non))) H) : rNotNn x .non H Q := ⟨rfl, h⟩
theorem rd_maxL {a : Addr} {ns : List Int} {m : Int} (e : SqL K H a (ns.map V.int)) (l : 0 < ns.length) (h : ∀ m, m ∈ ns → (∀ y, y ∈ ns → y ≤ m) → Q (.int m) H) : rMax K [.ref a] H Q := ⟨a, ns, rfl, e, l, h⟩
theorem rd_indexI {a : Addr} {ns : List Int} {y : Int} {j : Nat} (e : SqL K H a (ns.map V.int)) (hj : ns[j]? = some y) (hn : ∀ m z, m < j → ns[m]? = some z → z ≠ y) (h : Q (.int (j : Nat)) H) : rIndex K (.ref a) [.int y] H Q := by
  refine ⟨a, ns.map V.int, .int y, j, .int y, rfl, rfl, e, rfl, ?_, by rw [List.getElem?_map, hj]; rfl, by simp [eqV], ?_, h⟩
  · rw [List.all_eq_true]
    intro x hx
    obtain ⟨n, _, rfl⟩ := List.mem_map.mp hx
    rfl
  · intro m z' hm hz
    rw [List.getElem?_map] at hz
    cases q : ns[m]? with
    | none => rw [q] at hz; cases hz
    | some z =>
      rw [q] at hz
      cases hz
      have := hn m z hm q
      simp [eqV, this]
theorem rd_tyLq {a : Addr} {xs : List V} {R : Prop} (e : SqL K H a xs) (h : R) : tyV K "list" (.ref a) H ∧ R := ⟨.inl ⟨rfl, xs, e⟩, h⟩
end
end Sl
set_option Elab.async false
set_option linter.all false
set_option maxRecDepth 100000
set_option maxHeartbeats 400000
namespace L2
open PySem PySem.Spec PyProof.Rows NdefX
/-! ### an own error over ValueError whose __init__ begins with super().__init__('..') -/
section
variable {prog : Program} {w : World} {A : Around} {E : Value → Shared → Prop} {h : Heap} {g : Array GenState} {d : Drawn} {t : Nat} {os : OsState}
variable {nm q : Str} {C N u e t0 : Addr} {bs bm : List Value} {hd : Bool} {sn : List Str} {sub : List Value} {ab : Bool} {col : Option Bool} {dd : Option Addr} {k0 k1 k2 k3 k5 : Option Value}
/-- the bound ValueError.__init__ called: the error's texts are laid anew -/
theorem call_mw {us : List Value} {Q : Value → Shared → Prop} (hC : h.get? C = some (excClassObj nm q C N bs bm hd sn sub ab col dd k0 k1 k2 k3 k5 "ValueError.__new__")) (he : h.get? e = some (HandSPX.excO C t0))
    (hu : h.get? u = some (PySem.W.kxs_mw "ValueError.__init__" e)) (hl : us.length ≤ sizeLine)
    (hq : ∀ h' t1, (∀ b o, b ≠ e → h.get? b = some o → h'.get? b = some o) → h'.get? e = some (HandSPX.excO C t1) → Q .none ⟨h', g, d, t, os⟩) : wpAny (model prog w) A (call (.ref u) us) Q E ⟨h, g, d, t, os⟩ := by
  refine wpAny_call (codeAny_of_tree ?_)
  show wpAny _ A.in1 (callAny (.ref u) ⟨us, []⟩) _ _ _
  simp only [callAny]
  have two : (Value.type "method-wrapper" == Value.type "method" || Value.type "method-wrapper" == Value.type "builtin_function_or_method" || Value.type "method-wrapper" == Value.type "method-wrapper") = true := by decide
  refine wpAny_bind (wpAny_load hu ?_)
  simp only [PySem.W.kxs_mw, two, if_true]
  refine PySem.W.KFB.if_so (by decide) ?_
  refine wpAny_bind (PySem.ESX.check_bound (F.excBase_ValueError) hC he rfl ?_)
  refine (wpAny_bind (wpAny_pure (wpAny_pure ?_)))
  have EN := F.excBase_ValueError.initEntry
  refine ⟨Code.quiet_builtin _ (by decide +kernel), (codeAny_builtin EN ?_)⟩
  exact PySem.W.exc_init_tree (cls := .ref C) (t0 := t0) (dv := none) (c2 := .none) (c3 := .none) (b4 := .bool false) he hl fun h' k e' _ => hq h' _ k e'
end
/-- what the written part says of such a class and its __init__ -/
structure SupFn (P : Program) (K : PySem.W.Frag) (qual : Str) (st : Stmt) (f C : Addr) (fd : FuncData) : Prop where
  ex : ∃ (cc cda : Addr) (oc kV doc pm ct ccl cl : Value) (od an cdd cld : Option Addr) (osl ccs csl : Array (Option Value)) (vs : Array Value) (file : Str) (tf : Tok), fd = PySem.W.fnX "__init__" qual (C8.fnArgs st) (C8.fnBody st) (C8.fnScope st) [("__class__", cc)] .none kV doc pm an (.ref cda) ct ∧
    K.lookup f = some ⟨oc, od, .func fd, osl⟩ ∧ PySem.W.codeIn K (.ref cda) qual = true ∧ K.lookup cda = some ⟨ccl, cdd, .fields vs, ccs⟩ ∧ vs[2]? = some (.str file tf) ∧ ((P.main.file : Str) == file) = true ∧ K.lookup cc = some ⟨cl, cld, .cell (some (.ref C)), csl⟩
  top : (P.main.scope.names.lookup ("super" : Str)).isSome = false
  sub : PySem.W.mroIn K C (.ref C) = some true
  sup : PySem.W.ks_superIn K C C "__init__" = some (some (.builtin "ValueError.__init__"))
  ve : PySem.W.subIn K (.ref C) (.type "ValueError") = some true
  any : PySem.W.nsIn K cStatics "thirdparty.any" = some none
abbrev supNF (qual : Str) (st : Stmt) (cc cda : Addr) : NF := ⟨"__init__", qual, C8.fnArgs st, C8.fnBody st, C8.fnScope st, [("__class__", cc)], cda⟩
abbrev supCx (CX : CXT) (P : Program) (w : World) (K : PySem.W.Frag) (mg : Str → Option Value) (base : Heap) (N : List Str) (qual : Str) (st : Stmt) (cc cda f : Addr) (A : Around) (outer : List Env) (s : Shared) (H : Hp) (E : XK) : Cx := ncx CX P w K mg base N (supNF qual st cc cda) f A outer s H E
section
variable {CX : CXT} {P : Program} {w : World} {K : PySem.W.Frag} {mg : Str → Option Value} {base : Heap} {N ps : List Str} {f C : Addr} {qual txt : Str} {st : Stmt} {fd : FuncData} {k j : Nat} {sp : Sp} {p0 p1 p2 p3 p4 p5 : Pos} {rest : List Stmt} {ar : Arg}
theorem fn_sup (F : SupFn P K qual st f C fd) (S : NScope N ps ["__class__"] (C8.fnScope st)) (hc : ∀ env : Env, ∃ pl : Sem Bool, eval (.Call (.Attribute (.Call (.Name "super" p0) [] [] p1) "__init__" p2) [.Constant (.str txt) j p3] [] p4) env = (do
      let ov ← attributeBase (.Call (.Name "super" p0) [] [] p1) "__init__" env (eval (.Call (.Name "super" p0) [] [] p1) env)
      standAt p2.atName
      let (f, first) ← holding [ov] (getMethod ov "__init__" pl)
      callWith p4 f first (backTo p4 (starEach [.Constant (.str txt) j p3] env)) []))
    (hst : C8.fnBody st = .Expr (.Call (.Attribute (.Call (.Name "super" p0) [] [] p1) "__init__" p2) [.Constant (.str txt) j p3] [] p4) p5 :: rest)
    (hp : ((C8.fnArgs st).posonlyargs ++ (C8.fnArgs st).args).head? = some ar) (h0 : N[0]? = some ar.arg) (h1 : ar.arg ∈ ps) (hks : (C8.fnScope st).names.lookup ("super" : Str) = some .globalImplicit) (hm : mg "super" = none) (T : OexC K C)
    (len : ∀ vs H Q E, sp vs H Q E → vs.length = ps.length) (sp1 : ∀ vs H Q E, sp vs H Q E → ∃ a ws, vs = V.ref a :: ws ∧ H a = some (exo a C none))
    (hbody : ∀ (cc cda : Addr) (A : Around) (outer : List Env) (s : Shared) (H : Hp) (vs : List V) (Q : VK) (E : XK), Room k (A.deeper (envF (supNF qual st cc cda) f s.heap.objs.size)) → sp vs H Q E →
      ∃ t, PSs (supCx CX P w K mg base N qual st cc cda f A outer s H E) rest t ∧ t { nx := fun _ H' => Q .non H', rt := Q } (startF N vs [none]) H) : FnOk P w K mg base CX (k + 1) f fd ps sp := by
  obtain ⟨cc, cda, oc, kV, doc, pm, ct, ccl, cl, od, an, cdd, cld, osl, ccs, csl, vs2, file, tf, rfl, lk, hcd, lc, hvs, hfile, lcell⟩ := F.ex
  refine ⟨len, fun A outer s H args us vs Q E hr e0 hb r hsp => ?_⟩
  have hl := len _ _ _ _ hsp
  have KX : K.In s.heap := e0.mod.kin.keeps fun b o e => (e0.bs b o e).1
  have lim : s.heap.NoLimit := e0.mod.nolimit.keeps fun b o e => (e0.bs b o e).1
  obtain ⟨a, ws, rfl, ea⟩ := sp1 _ _ _ _ hsp
  obtain ⟨t, ht, hq⟩ := hbody cc cda A outer s H _ Q E (hr.deeper _) hsp
  have CA : CellsAt [((("__class__" : Str)), cc)] ["__class__"] [none] s.heap H := by
    have one : ∀ (y : Str) (c : Addr), List.lookup y [((("__class__" : Str)), cc)] = some c → y = ("__class__" : Str) ∧ c = cc := fun y c e => by
      have m := PySem.mem_of_lookup e
      have m := List.mem_singleton.mp m
      exact ⟨congrArg Prod.fst m, congrArg Prod.snd m⟩
    have hcb := e0.bs _ _ (e0.mod.kin _ _ lcell)
    refine ⟨rfl, fun y c e => ?_, fun x y c e1 e2 => ?_, fun i y e => ?_⟩
    · obtain ⟨rfl, rfl⟩ := one y c e
      exact ⟨hcb.2, _, _, hcb.1, rfl⟩
    · rw [(one x c e1).1, (one y c e2).1]
    · have hi : i = 0 := by
        have := (List.getElem?_eq_some_iff.mp e).1
        simp at this
        exact this
      subst hi
      cases e
      exact ⟨cc, List.lookup_cons_self, fun v ev => by cases ev⟩
  refine PySem.ks_codeAny_call_defAt (body := C8.fnBody st) (binds := ps.zip us) hr.depth (KX _ _ lk) rfl lim (PySem.W.codeRec_of KX hcd) rfl hb S.nocell (fun ⟨n, _⟩ hy => S.par n (List.of_mem_zip hy).1) (fun h₁ hns kp => ?_) S.co S.gen S.kind
  have I : Inv (supCx CX P w K mg base N qual st cc cda f A outer s H E) [] (startF N (V.ref a :: ws) [none]) H { s with heap := h₁, toks := s.toks + (ps.zip us).length } := inv_startN S hr.hd e0 hl r CA hns kp
  have kind : ∀ L, interactive (PySem.W.envX qual (C8.fnScope st) L f (.ref cda) [("__class__", cc)]) = false := fun L => by
    show ((C8.fnScope st).kind == .module && _) = false
    rw [S.kind]
    rfl
  show PySem.wpAt (model P w) (A.deeper (PySem.W.envX qual (C8.fnScope st) s.heap.objs.size f (.ref cda) [("__class__", cc)])) (.func (C8.fnBody st) (PySem.W.envX qual (C8.fnScope st) s.heap.objs.size f (.ref cda) [("__class__", cc)])) (execs (C8.fnBody st) (PySem.W.envX qual (C8.fnScope st) s.heap.objs.size f (.ref cda) [("__class__", cc)])) _ _ _
  obtain ⟨pl, he⟩ := hc (PySem.W.envX qual (C8.fnScope st) s.heap.objs.size f (.ref cda) [("__class__", cc)])
  have eB : execs (C8.fnBody st) (PySem.W.envX qual (C8.fnScope st) s.heap.objs.size f (.ref cda) [("__class__", cc)]) = execs (.Expr (.Call (.Attribute (.Call (.Name "super" p0) [] [] p1) "__init__" p2) [.Constant (.str txt) j p3] [] p4) p5 :: rest) (PySem.W.envX qual (C8.fnScope st) s.heap.objs.size f (.ref cda) [("__class__", cc)]) := by rw [hst]
  rw [eB]
  refine PySem.ks_wpAt_execs_cons (PySem.ks_wpAt_Expr_any (PySem.ks_wpAt_MethodCall (pl := pl) ?_ he) (kind _) rfl)
  obtain ⟨nm, qn, NS, bs, bm, sn, sub, ab, col, dd, k0, k1, k2, k3, k5, hC, hbm⟩ := T.cls
  obtain ⟨cd, hcl, hmro⟩ : ∃ cd, PySem.W.clsIn K C = some cd ∧ (∀ h : Heap, K.In h → PySem.W.Looks (model P w) h (mroOf (.ref C)) cd.mro) := by
    refine ⟨_, (by unfold PySem.W.clsIn; rw [hC]), fun h hk => ?_⟩
    exact (PySem.W.looks_clsIn hk (by unfold PySem.W.clsIn; rw [hC])).andThen .now
  have hsup := F.sup
  unfold PySem.W.ks_superIn at hsup
  rw [hcl] at hsup
  have hkc : (C8.fnScope st).names.lookup ("__class__" : Str) = some .free := S.frk _ List.mem_cons_self
  obtain ⟨t1, ho⟩ := exo_at I.hok ea
  obtain ⟨m, hn, hloc⟩ := I.loc
  obtain ⟨ua, rua, lua⟩ := hloc 0 ar.arg (.ref a) h0 rfl (.inl (S.par _ h1))
  obtain rfl : ua = Value.ref a := rua
  have hua : m ar.arg = some (.ref a) := by
    rcases lua with ⟨_, z⟩ | ⟨z, _⟩
    · exact z
    · have y := S.par _ h1
      rcases z with z | z
      · exact absurd (y.symm.trans z) (by simp)
      · exact absurd (y.symm.trans z) (by simp)
  have hCb : H C = none := (I.bs C _ (I.ok.mod.kin _ _ hC)).2
  have haC : a ≠ C := fun z => by rw [z, hCb] at ea; cases ea
  refine PySem.ks_wpAt_super_base hks hkc (by decide +kernel) rfl (I.kIn _ _ lk) rfl hp rfl (I.kIn _ _ lc) rfl hvs hfile F.top ?_
  refine PySem.W.ks_loadName_global S.kind hks ?_
  obtain ⟨mb, hb1, hb2⟩ := I.mod.blt
  refine Calls.loadGlobal_builtin (I.mod.glob.keeps I.bk) hm (hb1.keeps I.bk) ((hb2 _ (by decide +kernel)).trans (by decide +kernel)) ⟨rfl, ?_⟩
  refine wpAny_loadName_free S.kind hkc rfl ⟨_, I.kIn _ _ lcell, rfl⟩ ?_
  refine wpAny_loadName_local S.kind (S.par _ h1) hn hua ?_
  refine PySem.ks_wpAny_isType_cls (I.kIn _ _ hC) rfl ⟨rfl, ?_⟩
  refine PySem.ks_wpAny_call_super (I.kIn _ _ hC) rfl ho rfl (fun c z => nomatch z) (PySem.W.looks_mroIn I.kIn F.sub) (fun h2 hso k2 => ?_)
  -- .__init__
  have I2 := I.kept (t' := s.toks + (ps.zip us).length) k2
  have ho2 := k2 _ _ ho
  have II : PySem.W.InstAt h2 a _ C none := ⟨ho2, rfl, rfl, trivial⟩
  refine PySem.W.kxs_getMethod PySem.W.kxs_ValueError hso (PySem.W.looks_opaque I2.kIn F.any) (hmro _ I2.kIn) rfl I2.kIn hsup (II.type.andThen (PySem.W.looks_subIn I2.kIn F.ve)) haC (by decide +kernel) ?_
  have hmw : (h2.push (PySem.W.kxs_mw "ValueError.__init__" a)).get? h2.objs.size = some (PySem.W.kxs_mw "ValueError.__init__" a) := Heap.get?_push_at rfl rfl
  have k3 : ∀ b o, h2.get? b = some o → (h2.push (PySem.W.kxs_mw "ValueError.__init__" a)).get? b = some o := fun b o e => Heap.get?_push_of_some _ e
  have I3 := (I2.kept (t' := s.toks + (ps.zip us).length + 1) k3).pins_of (pins' := [(h2.objs.size, PySem.W.kxs_mw "ValueError.__init__" a)]) (fun p hp => by
    rw [List.mem_singleton.mp hp]
    exact ⟨hmw, I2.hok.fresh (Nat.le_refl _), Ne.symm (Nat.ne_of_lt I2.lt), I2.nofs (Nat.le_refl _), fun v z => nomatch z⟩)
  refine PySem.W.kxs_callWith (i := "ValueError.__init__") (x := a) rfl (PySem.Calls.evalArgs_plain ?_)
  refine thn ((pa_cons (pe_str (x := txt) (j := j) (pos := p3)) pa_nil).run p4 _ _ _ H (fun vs H1 => H1 = H ∧ vs.length = 1) I3 ⟨rfl, rfl⟩) fun us4 s4 ⟨vs4, H4, I4, r4, eH, hl4⟩ => ?_
  subst eH
  obtain ⟨hu4, -⟩ := I4.pin _ (List.mem_append_right _ (List.mem_singleton.mpr rfl))
  refine ⟨hu4, ?_⟩
  obtain ⟨t4, ho4⟩ := exo_at I4.hok ea
  obtain ⟨h4, g4, d4, tk4, os4⟩ := s4
  refine call_mw (I4.kIn _ _ hC) ho4 hu4 (by show us4.length ≤ sizeLine; rw [← r4.length, hl4]; decide) (fun h5 t5 k5 he5 => ?_)
  have J0 := I4.write (t' := tk4) (x := a) (e := a) (o := exo a C none) (by rw [ea]; exact True.intro) (.inl rfl) k5 ⟨_, he5⟩ (exo_ok he5)
  have eu : upd H4 a (exo a C none) = H4 := funext fun b => by
    by_cases hb : b = a
    · rw [hb, upd_same, ea]
    · exact upd_ne hb
  rw [eu] at J0
  have J := J0.pins_of (pins' := []) (fun p hp => nomatch hp)
  refine wpAt_of_wpAny (wpAny_mono (ht.run [] _ _ H4 _ J hq) (fun fl s6 hs => ?_) fun e s6 hs => hs)
  cases fl with
  | ret u =>
    obtain ⟨v, σ', H', J', rv, q⟩ := hs
    exact ⟨v, H', J'.os, J'.bare, J'.base, J'.hok, rv, q⟩
  | next =>
    obtain ⟨σ', H', J', q⟩ := hs
    exact ⟨V.non, H', J'.os, J'.bare, J'.base, J'.hok, rfl, q⟩
  | brk =>
    obtain ⟨_, _, _, q⟩ := hs
    exact False.elim q
  | cont =>
    obtain ⟨_, _, _, q⟩ := hs
    exact False.elim q
end
/-! ### raise C(place) -/
/-- the text of such an __init__: super().__init__('..'), self.place = place -/
structure SupSt (st : Stmt) (N : List Str) : Prop where
  S : NScope N ["self", "place"] ["__class__"] (C8.fnScope st)
  n0 : N[0]? = some ("self" : Str)
  n1 : N[1]? = some ("place" : Str)
  hp : ∃ ar, ((C8.fnArgs st).posonlyargs ++ (C8.fnArgs st).args).head? = some ar ∧ ar.arg = ("self" : Str)
  ks : (C8.fnScope st).names.lookup ("super" : Str) = some .globalImplicit
  tx : ∃ (p0 p1 p2 p3 p4 p5 a1 a2 a3 a4 : Pos) (txt : Str) (j : Nat), C8.fnBody st = [.Expr (.Call (.Attribute (.Call (.Name "super" p0) [] [] p1) "__init__" p2) [.Constant (.str txt) j p3] [] p4) p5, .Assign [.Attribute (.Name "self" a1) "place" a2] (.Name "place" a3) a4] ∧
    ∀ env : Env, ∃ pl : Sem Bool, eval (.Call (.Attribute (.Call (.Name "super" p0) [] [] p1) "__init__" p2) [.Constant (.str txt) j p3] [] p4) env = (do
      let ov ← attributeBase (.Call (.Name "super" p0) [] [] p1) "__init__" env (eval (.Call (.Name "super" p0) [] [] p1) env)
      standAt p2.atName
      let (f, first) ← holding [ov] (getMethod ov "__init__" pl)
      callWith p4 f first (backTo p4 (starEach [.Constant (.str txt) j p3] env)) [])
structure XSup (P : Program) (K : PySem.W.Frag) (C : Addr) (qual : Str) (st : Stmt) : Prop where
  o : OexC K C
  fn : ∃ f fd, SupFn P K qual st f C fd ∧ Binds K fd ["self", "place"] [] ∧ PySem.W.findIn K (.ref C) "__init__" = some (some (.ref f)) ∧ PySem.W.typeIn K (.ref f) = some (.type "function")
  np : PySem.W.findIn K (.ref C) "place" = some none
  xf : XfC K C
  i : PySem.W.isClsIn K C = true
  s : PySem.W.subIn K (.ref C) (.ref C) = some true
theorem XSup.e {P : Program} {K : PySem.W.Frag} {C : Addr} {qual : Str} {st : Stmt} (T : XSup P K C qual st) : PySem.W.exmOne K (.ref C) (.ref C) = some true := Sl.exm_own T.o.exC T.i T.o.tyC T.s
def spSup (C : Addr) : Sp := fun vs H Q _ => ∃ a v, vs = [V.ref a, v] ∧ H a = some (exo a C none) ∧ ∀ dx, H dx = none → dx ≠ a → Q .non (upd (upd H dx (exd dx [("place", v)])) a (exo a C (some dx)))
theorem fn_place {P : Program} {w : World} {K : PySem.W.Frag} {mg : Str → Option Value} {base : Heap} {C f : Addr} {fd : FuncData} {qual : Str} {st : Stmt} {N : List Str} (T : XSup P K C qual st) (F : SupFn P K qual st f C fd) (Z : SupSt st N) (hm : mg "super" = none) :
    FnOk P w K mg base C8.CX0 1 f fd ["self", "place"] (spSup C) := by
  obtain ⟨ar, ha, hn⟩ := Z.hp
  obtain ⟨p0, p1, p2, p3, p4, p5, a1, a2, a3, a4, txt, j, hb, he⟩ := Z.tx
  refine fn_sup (k := 0) F Z.S he hb ha (by rw [hn]; exact Z.n0) (by rw [hn]; exact List.mem_cons_self) Z.ks hm T.o (fun vs H Q E h => ?_) (fun vs H Q E h => ?_) (fun cc cda A outer s H vs Q E hr h => ?_)
  · obtain ⟨a, v, rfl, _⟩ := h
    rfl
  · obtain ⟨a, v, rfl, e, _⟩ := h
    exact ⟨a, [v], rfl, e⟩
  · obtain ⟨a, v, rfl, e, k⟩ := h
    refine ⟨_, pss_one (ps_ost (pe_var (i := 0) Z.n0 (.inl (Z.S.par _ List.mem_cons_self))) (pe_var (i := 1) Z.n1 (.inl (Z.S.par _ (.tail _ List.mem_cons_self))))), ?_⟩
    refine ⟨v, rfl, .ref a, rfl, a, C, rfl, T.o, T.np, .inl ⟨e, fun dx h1 h2 => ?_⟩⟩
    exact k dx h1 h2
/-- raise C(e) -/
def tRaP (C : Addr) (W : WX) (te : TE) : TS := fun _ σ H => tMkO C (spSup C) [] (tCons te tNil) σ H fun cls d H' => W cls d σ H'
theorem ps_raiseP {X : Cx} {W : WX} {x qual : Str} {C : Addr} {st : Stmt} {N : List Str} {e : Expr} {te : TE} {p pos pos2 : Pos} {n : Nat} (hc : X.calm = true) (tk : Takes X W) (T : XSup X.prog X.K C qual st) (Z : SupSt st N) (hm : X.mg "super" = none) (gC : X.mg x = some (.ref C)) (hr : Room n X.A) (hn : 2 ≤ n) (hg : Gl X x)
    (he : PE X e te) (hdb : (x == ("__debug__" : Str)) = false := by decide) (hs : starEach [e] X.env = (false, eval e X.env) :: starEach [] X.env := by rfl) :
    PS X (.Raise (some (.Call (.Name x p) [e] [] pos)) none pos2) (tRaP C W te) := by
  obtain ⟨f, fd, F, hb, iC, tI⟩ := T.fn
  exact ps_raise hc tk (pmk_oex T.o iC tI (fn_place (w := X.w) (base := X.base) T F Z hm) (hr.mono hn) hb .nil C8.pass0 hg gC (pa_cons he pa_nil hs) hdb hs rfl)
end L2
namespace Sl
open PySem L2 C8 StX
section
variable {σ : L2.St} {H : Hp} {C : Addr} {W : WX} {te : TE} {nx bk ct : L2.St → Hp → Prop} {rt : VK}
def rRaP (C : Addr) (W : WX) (σ : L2.St) (vs : List V) (H1 : Hp) : Prop := vs.length ≤ 1000 ∧ ∀ a, H1 a = none → spSup C (.ref a :: (vs ++ [])) (upd H1 a (exo a C none))
  (fun v H2 => v = .non ∧ ∃ (d : Addr) (fs : List (Str × V)), H2 a = some (exo a C (some d)) ∧ H2 d = some (exd d fs) ∧ H1 d = none ∧ W (.ref C) (some d) σ (upd (del H2 a) d (.xd fs))) (fun _ _ _ => False)
theorem rd_raP0 (h : tCons te tNil σ H fun vs H1 => rRaP C W σ vs H1) : tRaP C W te ⟨nx, rt, bk, ct⟩ σ H := h
theorem rd_raP {v : V} (h : ∀ d H', H d = none → Same H H' → H' d = some (.xd [("place", v)]) → W (.ref C) (some d) σ H') : rRaP C W σ [v] H := by
  refine ⟨(show 1 ≤ 1000 by decide), fun a ha => ⟨a, v, rfl, upd_same, fun dx h1 h2 => ?_⟩⟩
  have hd : H dx = none := by rw [upd_ne h2] at h1; exact h1
  have e : upd (del (upd (upd (upd H a (exo a C none)) dx (exd dx [("place", v)])) a (exo a C (some dx))) a) dx (.xd [("place", v)]) = upd H dx (.xd [("place", v)]) := by
    funext b
    by_cases hb : b = dx
    · rw [hb, upd_same, upd_same]
    · rw [upd_ne hb, upd_ne hb]
      by_cases hc : b = a
      · rw [hc, del_same, ha]
      · rw [del_ne hc, upd_ne hc, upd_ne hb, upd_ne hc]
  show V.non = V.non ∧ _
  refine ⟨rfl, dx, [("place", v)], upd_same, ?_, hd, ?_⟩
  · rw [upd_ne h2, upd_same]
  · rw [e]
    exact h dx _ hd (Same.new (Same.refl H) hd) upd_same
end
/-! ### try .. except X as n -/
end Sl
namespace L2
open PySem PySem.Spec PyProof.Rows
section
variable {X : Cx} {x n : Str} {c : Value} {i : Nat} {body suite : List Stmt} {b₀ : Stmt} {np pos pos' : Pos} {tb : WX → TS} {ts : Addr → Value → Option Addr → TS} {Wout : WX}
def tTryAs (K : PySem.W.Frag) (c : Value) (i : Nat) (tb : WX → TS) (ts : Addr → Value → Option Addr → TS) (Wout : WX) : TS := fun D σ H => tb (wAs K c i ts Wout D) D σ H
theorem ps_tryAsO (hs : X.stack = X.env :: X.outer) (hf : X.env.frame = some X.env.locals) (hN : X.N.Nodup) (hi : X.N[i]? = some n) (hln : X.env.kindOf n = some .local) (hc : Names X x c) (tk : Takes X Wout)
    (hb : ∀ (W : WX) (pn : List (Addr × Obj)) (xe : Value → Shared → Prop), Takes (X.tr pn xe) W → PSs (X.tr pn xe) body (tb W))
    (hsu : ∀ (a : Addr) (oe : Obj) (cls : Value) (d : Option Addr) (pn : List (Addr × Obj)), Zc cls d oe → (∃ vs, oe.data = .fields vs) → PSs (X.suite a ((a, oe) :: pn)) (b₀ :: suite) (ts a cls d)) :
    PS X (.Try body [.ExceptHandler (some (.Name x np)) (some n) (b₀ :: suite) pos'] [] [] pos) (tTryAs X.K c i tb ts Wout) :=
  ps_try_as hs hf hN hi hln hc tk (fun W pn xe k _ => hb W pn xe k) hsu
end
end L2
namespace Sl
open PySem L2 C8 StX
section
variable {σ : L2.St} {H : Hp} {Q : VK} {K : PySem.W.Frag} {C a dd : Addr} {Wout : WX} {te : TE} {tb : WX → TS} {ts : Addr → Value → Option Addr → TS} {c cls : Value} {d : Option Addr} {D : Ends} {i : Nat} {f : Str} {fs : List (Str × V)} {v : V}
theorem rd_tryAs (h : tb (wAs K c i ts Wout D) D σ H) : tTryAs K c i tb ts Wout D σ H := h
theorem rd_caughtAs (he : PySem.W.exmOne K cls c = some true) (h : ∀ a, H a = none → ts a cls d { nx := fun σ' H' => D.nx (σ'.set i none) H', rt := D.rt, bk := fun σ' H' => D.bk (σ'.set i none) H', ct := fun σ' H' => D.ct (σ'.set i none) H' } (σ.set i (some (.ref a))) H) :
    WE (wAs K c i ts Wout D) σ cls d H := ⟨true, he, fun _ => h, fun q => nomatch q⟩
def rXf (a : Addr) (cls : Value) (d : Option Addr) (C : Addr) (f : Str) (x : V) (H1 : Hp) (Q : VK) : Prop := x = .ref a ∧ cls = .ref C ∧ ∃ (dd : Addr) (fs : List (Str × V)) (v : V), d = some dd ∧ H1 dd = some (.xd fs) ∧ fs.lookup f = some v ∧ Q v H1
theorem rd_xf0 (h : te σ H fun x H1 => rXf a cls d C f x H1 Q) : tXf a cls d C f te σ H Q := h
theorem rd_xf (e : H dd = some (.xd fs)) (l : fs.lookup f = some v) (h : Q v H) : rXf a (.ref C) (some dd) C f (.ref a) H Q := ⟨rfl, rfl, dd, fs, v, rfl, e, l, h⟩
end
/-! ### the facts -/
section
open PySem.W
variable {P : Program} {K : PySem.W.Frag} {C f cc cda N dX : Addr} {qual nm q : Str} {st : Stmt} {bs bm : List Value} {sn : List Str} {sub : List Value} {ab : Bool} {col : Option Bool} {dd : Option Addr} {k0 k1 k2 k3 k5 : Option Value} {oc kV doc pm ct ccl cl : Value} {od an cdd cld : Option Addr} {osl ccs csl : Array (Option Value)} {vs : Array Value} {file : Str} {tf : Tok}
theorem xsupk (c1 : K.lookup C = some (excClassObj nm q C N bs bm true sn sub ab col dd k0 k1 k2 k3 k5 "ValueError.__new__")) (c2 : PySem.HandSPX.refsVE bm = true) (c3 : findIn K (.ref C) "__setattr__" = some (some (.builtin "object.__setattr__"))) (c4 : subIn K (.ref C) (.type "BaseException") = some true) (c5 : typeIn K (.ref C) = some (.type "type")) (c6 : keepIn K (.ref C) = true)
    (f1 : findIn K (.ref C) "__init__" = some (some (.ref f))) (f2 : K.lookup f = some ⟨oc, od, .func (fnX "__init__" qual (C8.fnArgs st) (C8.fnBody st) (C8.fnScope st) [("__class__", cc)] .none kV doc pm an (.ref cda) ct), osl⟩) (f3 : codeIn K (.ref cda) qual = true) (f4 : K.lookup cda = some ⟨ccl, cdd, .fields vs, ccs⟩) (f5 : vs[2]? = some (.str file tf)) (f6 : ((P.main.file : Str) == file) = true)
    (f7 : K.lookup cc = some ⟨cl, cld, .cell (some (.ref C)), csl⟩) (f8 : typeIn K (.ref f) = some (.type "function")) (s1 : (P.main.scope.names.lookup ("super" : Str)).isSome = false) (s2 : mroIn K C (.ref C) = some true) (s3 : ks_superIn K C C "__init__" = some (some (.builtin "ValueError.__init__"))) (s4 : subIn K (.ref C) (.type "ValueError") = some true) (s5 : nsIn K cStatics "thirdparty.any" = some none)
    (n1 : findIn K (.ref C) "place" = some none) (x1 : xfB K C = true) (i : isClsIn K C = true) (s : subIn K (.ref C) (.ref C) = some true)
    (bd : ∀ (kV doc pm : Value) (an : Option Addr) (cc cda : Addr) (ct : Value) (us : List Value), us.length = 2 → bindArgs (fnX "__init__" qual (C8.fnArgs st) (C8.fnBody st) (C8.fnScope st) [("__class__", cc)] .none kV doc pm an (.ref cda) ct) ⟨us, []⟩ = pure ((["self", "place"] : List Str).zip us)) : XSup P K C qual st :=
  ⟨⟨⟨_, _, _, _, _, _, _, _, _, _, _, _, _, _, _, c1, c2⟩, c3, c4, c5, c6⟩, ⟨f, _, ⟨⟨cc, cda, oc, kV, doc, pm, ct, ccl, cl, od, an, cdd, cld, osl, ccs, csl, vs, file, tf, rfl, f2, f3, f4, f5, f6, f7⟩, s1, s2, s3, s4, s5⟩, .all fun us hl => bd kV doc pm an cc cda ct us hl, f1, f8⟩, n1, xfB_ok x1, i, s⟩
end
end Sl
set_option Elab.async false
set_option linter.all false
set_option maxRecDepth 100000
set_option maxHeartbeats 4000000
/-! classes that may raise when made, methods that may raise: promises and their calls within a try -/
namespace L2
open PySem PySem.Spec PyProof.Rows
section
variable {X : Cx} {CX : CXT} {k j : Nat} {f C : Addr} {fd : FuncData} {ps : List Str} {ds : List Value} {dvs : List V} {sp : Sp} {E : St → XK} {x m : Str} {p pos apos : Pos} {e o : Expr} {es : List Expr} {ta : TE} {t : TA}
theorem run_makeSd {pins : List (Addr × Obj)} {σ : St} {H : Hp} {s : Shared} {Q : VK} {us : List Value} {vs : List V} (M : Mk X.K C f) (F : FnOk X.prog X.w X.K X.mg X.base CX k f fd ps sp) (hr : Room (k + 1) X.A) (hb : Binds X.K fd ps ds) (hd : Vals dvs ds)
    (hx : PassesAt CX X σ (E σ)) (I : Inv X pins σ H s) (r : Vals vs us)
    (h : ∀ x dx, H x = none → H dx = none → dx ≠ x → sp (.ref x :: (vs ++ dvs)) (upd (upd H dx (.own x)) x (.ins C dx [])) (fun v H2 => v = .non ∧ Q (.ref x) H2) (E σ)) :
    wpAny (model X.prog X.w) X.A (call (.ref C) us) (EP X pins σ Q) X.xe s := by
  have hq := h (s.heap.objs.size + 1) s.heap.objs.size (I.hok.fresh (Nat.le_succ _)) (I.hok.fresh (Nat.le_refl _)) (Nat.ne_of_lt (Nat.lt_succ_self _))
  have I2 := Inv.made (C := C) I
  have r2 : Vals (V.ref (s.heap.objs.size + 1) :: (vs ++ dvs)) (Value.ref (s.heap.objs.size + 1) :: (us ++ ds)) := .cons rfl (r.append hd)
  have hl : (Value.ref (s.heap.objs.size + 1) :: us ++ ds).length = ps.length := by
    have e := r2.length
    rw [F.len _ _ _ _ hq] at e
    exact e.symm
  refine wpAny_call (make_map (f := f) I.kIn M.makes M.init (beq_iff_eq.mp M.fn) (codeAny_mono (F.run _ X.stack _ _ ⟨Value.ref (s.heap.objs.size + 1) :: us, []⟩ (Value.ref (s.heap.objs.size + 1) :: (us ++ ds)) _ _ (E σ) (hr.make C us [])
    (I2.env0.make C us []) (hb _ (Value.ref (s.heap.objs.size + 1) :: us) I2.kIn hl) r2 hq) fun r s' hq' => ?_))
  cases r with
  | error e => exact hx pins _ _ e s' I2 hq'
  | ok fl =>
    cases fl with
    | ret u =>
      obtain ⟨v, H', I3, rv, ev, q3⟩ := I2.after hq'
      subst ev
      exact ⟨rv, ⟨V.ref (s.heap.objs.size + 1), H', I3, rfl, q3⟩⟩
    | next => exact False.elim hq'
    | brk => exact False.elim hq'
    | cont => exact False.elim hq'
def tMakeX (C : Addr) (sp : Sp) (dvs : List V) (E : St → XK) (t : TA) : TE := fun σ H Q => tMake C sp dvs (E σ) t σ H Q
/-- a class that may be made by its name and may raise -/
structure MakX (P : Program) (w : World) (K : PySem.W.Frag) (mg : Str → Option Value) (base : Heap) (k : Nat) (x : Str) (C : Addr) (sp : Sp) (dvs : List V) : Prop where
  ex : ∃ (f : Addr) (fd : FuncData) (ps : List Str) (ds : List Value), Mk K C f ∧ FnOk P w K mg base (L2.CX P w) k f fd ps sp ∧ mg x = some (.ref C) ∧ Binds K fd ps ds ∧ Vals dvs ds
theorem pe_mkX (c : MakX X.prog X.w X.K X.mg X.base k x C sp dvs) (hr : Room j X.A) (hk : k + 1 ≤ j) (hg : Gl X x) (hx : ∀ σ, PassesAt (L2.CX X.prog X.w) X σ (E σ)) (ha : PA X (e :: es) t)
    (hdb : (x == ("__debug__" : Str)) = false := by decide) (he : starEach (e :: es) X.env = (false, eval e X.env) :: starEach es X.env := by rfl) (hpl : (backTo pos (starEach es X.env)).any (·.1) = false := by rfl) :
    PE X (.Call (.Name x p) (e :: es) [] pos) (tMakeX C sp dvs E t) := by
  obtain ⟨f, fd, ps, ds, M, F, hm, b, d⟩ := c.ex
  refine ⟨fun pins s σ H Q I h => ?_⟩
  refine wpAny_Call_Name_kw (ld_glob I hg hm ?_ hdb)
  refine PySem.W.callWith_K (h₀ := X.base) I.ok.mod.kin M.kp (thn (ha.run pos pins s σ H _ I h) fun us s1 ⟨vs, H1, I1, r, q⟩ => ⟨I1.kIn, ?_⟩) he hpl
  exact run_makeSd M F (hr.mono hk) b d (hx σ) I1 r q
def tMethX (C : Addr) (m : Str) (sp : Sp) (dvs : List V) (E : St → XK) (ta : TE) (t : TA) : TE := fun σ H Q => tMeth C m sp dvs (E σ) ta t σ H Q
/-- a method that may raise -/
structure MetX (P : Program) (w : World) (K : PySem.W.Frag) (mg : Str → Option Value) (base : Heap) (k : Nat) (C : Addr) (m : Str) (sp : Sp) (dvs : List V) : Prop where
  ex : ∃ (f : Addr) (fd : FuncData) (ps : List Str) (ds : List Value), Cls K C ∧ Meth K C m f ∧ FnOk P w K mg base (L2.CX P w) k f fd ps sp ∧ Binds K fd ps ds ∧ Vals dvs ds
theorem pe_mtX {pl : Sem Bool} (c : MetX X.prog X.w X.K X.mg X.base k C m sp dvs) (hr : Room j X.A) (hk : k ≤ j) (hx : ∀ σ, PassesAt (L2.CX X.prog X.w) X σ (E σ)) (he : PE X o ta) (ha : PA X (e :: es) t)
    (hst : starEach (e :: es) X.env = (false, eval e X.env) :: starEach es X.env := by rfl) (hpl : (backTo pos (starEach es X.env)).any (·.1) = false := by rfl)
    (ht : eval (.Call (.Attribute o m apos) (e :: es) [] pos) X.env = (do
      let ov ← eval o X.env
      standAt apos.atName
      let (f, first) ← holding [ov] (getMethod ov m pl)
      callWith pos f first (backTo pos (starEach (e :: es) X.env)) (backToKw pos (keywordEach [] X.env))) := by rfl) :
    PE X (.Call (.Attribute o m apos) (e :: es) [] pos) (tMethX C m sp dvs E ta t) := by
  obtain ⟨f, fd, ps, ds, hc, hm, F, b, d⟩ := c.ex
  refine ⟨fun pins s σ H Q I h => ?_⟩
  refine PySem.W.methodCall_KW (pl := pl) (thn (he.run pins s σ H _ I h) fun u s1 ⟨x, H1, I1, rx, a, dx, fs, ex, ea, l, q⟩ => ?_) ht
  subst ex
  obtain rfl : u = Value.ref a := rx
  refine getmeth_ok I1 ea hc hm l ?_
  refine PySem.W.callWith_K (first := [.ref a]) (h₀ := X.base) I.ok.mod.kin hm.kp (thn (ha.run pos pins s1 σ H1 _ I1 q) fun us s2 ⟨vs, H2, I2, r, q2⟩ => ⟨I2.kIn, ?_⟩) hst hpl
  exact run_fnSd (us := .ref a :: us) (vs := .ref a :: vs) F (hr.mono hk) b d (hx σ) I2 (.cons rfl r) q2
end
end L2
namespace C8
open PySem PySem.Spec PyProof.Rows L2
section
variable {P : Program} {w : World} {K : PySem.W.Frag} {mg : Str → Option Value} {base : Heap}
theorem metX0 {m qual : Str} {C : Addr} {st : Stmt} {f : Addr} {fd : FuncData} {N ps : List Str} {k : Nat} {sp : Sp} (c : Cls K C) (me : Meth K C m f) (F : Fun K m qual st f fd) (b : Binds K fd ps []) (S : FnScope N ps (fnScope st)) (len : ∀ vs H Q E, sp vs H Q E → vs.length = ps.length)
    (hbody : ∀ (cdv : Value) (A : Around) (outer : List Env) (s : Shared) (H : Hp) (vs : List V) (Q : VK) (E : XK), Room k (A.deeper (envOfC qual (fnScope st) s.heap.objs.size f cdv)) → sp vs H Q E →
      ∃ t, PSs (cxOf (L2.CX P w) P w K mg base N qual (fnScope st) f cdv A outer s H E) (fnBody st) t ∧ t { nx := fun _ H' => Q .non H', rt := Q } (start N vs) H) : MetX P w K mg base (k + 1) C m sp [] :=
  ⟨f, fd, ps, [], c, me, fnX F S len hbody, b, .nil⟩
end
end C8
namespace Sl
open PySem L2 C8 StX
section
variable {σ : L2.St} {H : Hp} {Q : VK} {C : Addr} {m : Str} {sp : Sp} {dvs : List V} {E : L2.St → XK} {ta : TE} {t : TA}
theorem rd_makeX (h : t σ H fun vs H1 => rMake C sp dvs (E σ) Q vs H1) : tMakeX C sp dvs E t σ H Q := h
def rMethX (C : Addr) (m : Str) (sp : Sp) (dvs : List V) (E : XK) (t : TA) (σ : L2.St) (Q : VK) (x : V) (H1 : Hp) : Prop := ∃ a dx fs, x = .ref a ∧ H1 a = some (.ins C dx fs) ∧ fs.lookup m = none ∧ t σ H1 fun vs H2 => sp (x :: (vs ++ dvs)) H2 Q E
theorem rd_methX0 (h : ta σ H fun x H1 => rMethX C m sp dvs (E σ) t σ Q x H1) : tMethX C m sp dvs E ta t σ H Q := h
end
end Sl
set_option Elab.async false
set_option linter.all false
set_option maxRecDepth 100000
set_option maxHeartbeats 4000000
namespace L2
open PySem PySem.Spec PyProof.Rows
/-! ### min of a list of pairs of ints: the loop of the built-in, the order told by what the heap keeps -/
section
variable {prog : Program} {w : World} {A : Around} {R : Result → Shared → Prop} {J l : Addr} {its : Array Value} {bt : Nat → Nat → Bool} {Kp : Heap → Prop}
/-- what is told of the order: while Kp stands -/
def Ord (prog : Program) (w : World) (A : Around) (its : Array Value) (Kp : Heap → Prop) (bt : Nat → Nat → Bool) : Prop :=
  ∀ i j x y (t : Shared) (Q : Value → Shared → Prop) (E : Value → Shared → Prop), Kp t.heap → its[i]? = some x → its[j]? = some y → Q (.bool (bt i j)) t → wpAny (model prog w) A (richCompare .Lt x y) Q E t
/-- Kp stands while nothing changes but the iterator and the box -/
def Kpt (Kp : Heap → Prop) (J S : Addr) : Prop := ∀ h h' : Heap, Kp h → (∀ b o, b ≠ J → b ≠ S → h.get? b = some o → h'.get? b = some o) → Kp h'
theorem min_turns (hh : A.in1.handled = none) (hlJ : l ≠ J) (O : Ord prog w A.in1 its Kp bt) {S : Addr} (hSJ : S ≠ J) (hSl : S ≠ l) (Z : Kpt Kp J S) :
    ∀ (k j : Nat) (t : Shared) (best : Value) (c : Nat), its.size - (j + 1) = k → j + 1 ≤ its.size → (t.heap.IsListIter J l (j + 1) ∧ t.heap.IsList l its) → Kp t.heap → its[argBest bt j]? = some best →
    t.heap.get? S = some { cls := .type "list", dict := none, data := .seq #[best, best] c, slots := #[] } →
    (∀ v h' tk, its[argBest bt (its.size - 1)]? = some v → (∀ b o, b ≠ J → b ≠ S → t.heap.get? b = some o → h'.get? b = some o) → R (.ok (.ret v)) { t with heap := h', toks := tk }) →
    codeAny (model prog w) A (.builtin "min.loop" ⟨[.ref J, .none, .ref S], []⟩) R t := by
  have Wl := Walks.list (prog := prog) (w := w) (A := A.in1) hh J l hlJ its
  have nm : (toString "min" ++ toString ".loop" : String) = "min.loop" := by decide
  intro k
  induction k with
  | zero =>
    intro j t best c ek ej st kp eb eS back
    refine codeAny_builtin F.entry_min_loop (by
      rw [Around.under_plainId F.plain_min_loop _]
      refine (show wpAny _ A.in1 (seqItems? (.ref S) >>= _) _ _ t from wpAny_bind (wpAny_seqItems eS rfl ?_))
      refine (show wpAny _ A.in1 (tryCatch (pyNext (.ref J)) _ >>= _) _ _ t from wpAny_bind (wpAny_tryCatch (Wl.done t _ _ ((by omega : j + 1 = its.size) ▸ st) fun h2 tk kept => ?_)))
      have eS2 := kept S _ (by simpa using hSJ) eS
      refine (show wpAny _ A.in1 (updateSeq S (fun _ => #[]) >>= _) _ _ _ from wpAny_bind (wpAny_updateSeq eS2 rfl (wpAny_bind (wpAny_letGo (wpAny_pure (back best _ tk ?_ fun b o n1 n2 e => ?_))))))
      · rw [← (by omega : j + 1 = its.size)]; exact eb
      · exact (Heap.get?_update_other _ _ (Ne.symm n2)).trans (kept b o (by simpa using n1) e))
  | succ k ih =>
    intro j t best c ek ej st kp eb eS back
    refine codeAny_builtin F.entry_min_loop (by
      rw [Around.under_plainId F.plain_min_loop _]
      refine (show wpAny _ A.in1 (seqItems? (.ref S) >>= _) _ _ t from wpAny_bind (wpAny_seqItems eS rfl ?_))
      refine (show wpAny _ A.in1 (tryCatch (pyNext (.ref J)) _ >>= _) _ _ t from wpAny_bind (wpAny_tryCatch (Wl.item (j + 1) t _ _ (by omega) st fun v h2 tk ev st2 kept => ?_)))
      have eS2 := kept S _ (by simpa using hSJ) eS
      have kp2 : Kp h2 := Z _ _ kp fun b o n1 _ e => kept b o (by simpa using n1) e
      refine (show wpAny _ A.in1 (tryCatch (holding [v, v] (richCompare .Lt v best >>= _)) _ >>= _) _ _ _ from wpAny_bind (wpAny_tryCatch (wpAny_holding (wpAny_bind (O (j + 1) (argBest bt j) v best _ _ _ kp2 ev eb ?_)))))
      refine wpAny_bind (wpAny_holding (wpAny_truthy_bool (wpAny_bind (wpAny_letGo (wpAny_pure ?_)))))
      cases hb : bt (j + 1) (argBest bt j) with
      | true =>
        simp only [if_true]
        refine wpAny_bind (wpAny_updateSeq eS2 rfl (wpAny_bind (wpAny_letGo ?_)))
        rw [nm]
        have kp3 : ∀ (g : Obj → Obj) b o, b ≠ S → h2.get? b = some o → (h2.update S g).get? b = some o := fun g b o n e => (Heap.get?_update_other _ _ (Ne.symm n)).trans e
        refine wpAny_pure ⟨plainId_quiet F.plain_min_loop _, ih (j + 1) _ v _ (by omega) (by omega) (Wl.frame _ _ _ st2 fun b hb2 o e => ?_) (Z _ _ kp2 fun b o _ n e => kp3 _ b o n e) (by simp only [argBest, hb, if_true]; exact ev) (Heap.get?_update_self _ eS2 rfl)
          fun v' h3 tk3 e3 kept3 => back v' h3 tk3 e3 fun b o n1 n2 e => kept3 b o n1 n2 (kp3 _ b o n2 (kept b o (by simpa using n1) e))⟩
        refine kp3 _ b o (fun z => ?_) e
        rcases List.mem_cons.mp hb2 with q | q
        · exact hSJ (z.symm.trans q)
        · exact hSl (z.symm.trans (by simpa using q))
      | false =>
        simp only [Bool.false_eq_true, if_false]
        refine wpAny_bind (wpAny_letGo ?_)
        rw [nm]
        exact wpAny_pure ⟨plainId_quiet F.plain_min_loop _, ih (j + 1) _ best c (by omega) (by omega) st2 kp2 (by simp only [argBest, hb, Bool.false_eq_true, if_false]; exact eb) eS2
          fun v' h3 tk3 e3 kept3 => back v' h3 tk3 e3 fun b o n1 n2 e => kept3 b o n1 n2 (kept b o (by simpa using n1) e)⟩)
theorem min_start (hh : A.in1.handled = none) (hlJ : l ≠ J) (O : Ord prog w A.in1 its Kp bt) {S : Addr} (hSJ : S ≠ J) (hSl : S ≠ l) (Z : Kpt Kp J S) (n0 : 0 < its.size) {t : Shared} {c : Nat} (st : t.heap.IsListIter J l 0 ∧ t.heap.IsList l its) (kp : Kp t.heap)
    (eS : t.heap.get? S = some { cls := .type "list", dict := none, data := .seq #[] c, slots := #[] })
    (back : ∀ v h' tk, its[argBest bt (its.size - 1)]? = some v → (∀ b o, b ≠ J → b ≠ S → t.heap.get? b = some o → h'.get? b = some o) → R (.ok (.ret v)) { t with heap := h', toks := tk }) :
    codeAny (model prog w) A (.builtin "min.loop" ⟨[.ref J, .none, .ref S], []⟩) R t := by
  have Wl := Walks.list (prog := prog) (w := w) (A := A.in1) hh J l hlJ its
  have nm : (toString "min" ++ toString ".loop" : String) = "min.loop" := by decide
  refine codeAny_builtin F.entry_min_loop (by
    rw [Around.under_plainId F.plain_min_loop _]
    refine (show wpAny _ A.in1 (seqItems? (.ref S) >>= _) _ _ t from wpAny_bind (wpAny_seqItems eS rfl ?_))
    refine (show wpAny _ A.in1 (tryCatch (pyNext (.ref J)) _ >>= _) _ _ t from wpAny_bind (wpAny_tryCatch (Wl.item 0 t _ _ n0 st fun v h2 tk ev st2 kept => ?_)))
    have eS2 := kept S _ (by simpa using hSJ) eS
    have kp2 : Kp h2 := Z _ _ kp fun b o n1 _ e => kept b o (by simpa using n1) e
    refine (show wpAny _ A.in1 (updateSeq S (fun _ => #[v, v]) >>= _) _ _ _ from wpAny_bind (wpAny_updateSeq eS2 rfl ?_))
    rw [nm]
    have kp3 : ∀ (g : Obj → Obj) b o, b ≠ S → h2.get? b = some o → (h2.update S g).get? b = some o := fun g b o n e => (Heap.get?_update_other _ _ (Ne.symm n)).trans e
    refine wpAny_pure ⟨plainId_quiet F.plain_min_loop _, min_turns hh hlJ O hSJ hSl Z _ 0 _ v _ rfl n0 (Wl.frame _ _ _ st2 fun b hb2 o e => ?_) (Z _ _ kp2 fun b o _ n e => kp3 _ b o n e) ev (Heap.get?_update_self _ eS2 rfl)
      fun v' h3 tk3 e3 kept3 => back v' h3 tk3 e3 fun b o n1 n2 e => kept3 b o n1 n2 (kp3 _ b o n2 (kept b o (by simpa using n1) e))⟩
    refine kp3 _ b o (fun z => ?_) e
    rcases List.mem_cons.mp hb2 with q | q
    · exact hSJ (z.symm.trans q)
    · exact hSl (z.symm.trans (by simpa using q)))
end
/-- the least of pairs: an order that is transitive has no better one -/
theorem argBest_least {bt : Nat → Nat → Bool} (tr : ∀ a b c, bt a b = true → bt b c = true → bt a c = true) (ir : ∀ a, bt a a = false) : ∀ k, argBest bt k ≤ k ∧ ∀ j, j ≤ k → bt j (argBest bt k) = false
  | 0 => ⟨Nat.le_refl _, fun j hj => by
    rw [show j = 0 by omega]
    exact ir 0⟩
  | k + 1 => by
    obtain ⟨h1, h2⟩ := argBest_least tr ir k
    show (if bt (k + 1) (argBest bt k) then k + 1 else argBest bt k) ≤ k + 1 ∧ ∀ j, j ≤ k + 1 → bt j (if bt (k + 1) (argBest bt k) then k + 1 else argBest bt k) = false
    by_cases c : bt (k + 1) (argBest bt k) = true
    · rw [if_pos c]
      refine ⟨Nat.le_refl _, fun j hj => ?_⟩
      rcases Nat.lt_or_ge k j with z | z
      · rw [show j = k + 1 by omega]
        exact ir _
      · cases e : bt j (k + 1) with
        | false => rfl
        | true =>
          have := tr _ _ _ e c
          rw [h2 j z] at this
          cases this
    · rw [if_neg c]
      refine ⟨by omega, fun j hj => ?_⟩
      rcases Nat.lt_or_ge k j with z | z
      · rw [show j = k + 1 by omega]
        simpa using c
      · exact h2 j z
section
variable {prog : Program} {w : World} {A : Around} {E : Value → Shared → Prop} {l : Addr} {its : Array Value} {bt : Nat → Nat → Bool}
/-- the call: Kp is that all that was there stands -/
theorem min_callP {s : Shared} {Q : Value → Shared → Prop} (hh : A.in1.handled = none) (hl : s.heap.IsList l its) (n0 : 0 < its.size) (O : Ord prog w A.in1 its (fun h => ∀ b o, s.heap.get? b = some o → h.get? b = some o) bt)
    (back : ∀ v h' tk, its[argBest bt (its.size - 1)]? = some v → (∀ b o, s.heap.get? b = some o → h'.get? b = some o) → Q v { s with heap := h', toks := tk }) : wpAny (model prog w) A (call (.builtin "min") [.ref l]) Q E s := by
  have nm : (toString "min" ++ toString ".loop" : String) = "min.loop" := by decide
  refine call_function_tree F.kind_min F.plain_min F.entry_min (F.args_min1 _) (wpAny_bind (m := Builtin.Builtins.bindParams "min" ["key", "default"] 0 ⟨[], []⟩) (wpAny_of_eq (show Builtin.Builtins.bindParams "min" ["key", "default"] 0 ⟨[], []⟩ = pure [none, none] from rfl) (wpAny_bind (wpAny_pure ?_))))
  refine wpAny_bind (wpAny_pyIter_list hl (wpAny_bind (wpAny_newObj_type ?_)))
  rw [nm]
  have hlt : l < s.heap.objs.size := by
    obtain ⟨_, e, _⟩ := id hl
    exact Heap.lt_size e
  have z1 : (s.heap.push { cls := .type "list_iterator", data := .fields #[.ref l, .int 0 0] }).objs.size = s.heap.objs.size + 1 := Heap.size_push ..
  have old : ∀ b o, s.heap.get? b = some o → b < s.heap.objs.size := fun b o e => Heap.lt_size e
  refine wpAny_pure ⟨plainId_quiet F.plain_min_loop _, min_start (l := l) (its := its) hh (Nat.ne_of_lt hlt) O (S := (s.heap.push { cls := .type "list_iterator", data := .fields #[.ref l, .int 0 0] }).objs.size) (by rw [z1]; exact Nat.succ_ne_self _) (by rw [z1]; exact (Nat.ne_of_lt (Nat.lt_succ_of_lt hlt)).symm) (fun h h' k f b o e => f b o (Nat.ne_of_lt (old b o e)) (by rw [z1]; exact Nat.ne_of_lt (Nat.lt_succ_of_lt (old b o e))) (k b o e)) n0 ⟨⟨_, Heap.get?_push_of_some _ (Heap.get?_push_size _ rfl), rfl, rfl⟩, (hl.push _).push _⟩ (fun b o e => Heap.get?_push_of_some _ (Heap.get?_push_of_some _ e)) (Heap.get?_push_size _ rfl) fun v h' tk ev f => ?_⟩
  exact back v h' tk ev fun b o e => f b o (Nat.ne_of_lt (old b o e)) (by rw [z1]; exact Nat.ne_of_lt (Nat.lt_succ_of_lt (old b o e))) (Heap.get?_push_of_some _ (Heap.get?_push_of_some _ e))
end
/-- x is before y: by the first, then by the second -/
def ltPr (x y : Int × Int) : Bool := decide (x.1 < y.1 ∨ x.1 = y.1 ∧ x.2 < y.2)
/-- min(xs), xs a list of pairs of ints: one of the least -/
def rMinP (K : PySem.W.Frag) : List V → Hp → VK → Prop := fun vs H Q => ∃ (a : Addr) (xs : List V) (ks : List (Int × Int)), vs = [V.ref a] ∧ SqL K H a xs ∧ 0 < xs.length ∧ ks.length = xs.length ∧ (∀ (i : Nat) x k, xs[i]? = some x → ks[i]? = some k → ∃ t, x = V.ref t ∧ H t = some (.tup [.int k.1, .int k.2])) ∧
  ∀ (i : Nat) x k, xs[i]? = some x → ks[i]? = some k → (∀ y ∈ ks, ltPr y k = false) → Q x H
theorem lex_pair (a b : Int × Int) : HT.lexLt [a.1, a.2] [b.1, b.2] = ltPr a b := by
  rw [HT.lexLt_cons, HT.lexLt_cons, HT.lexLt_nil_nil]
  unfold ltPr
  by_cases c : a.1 = b.1
  · rw [if_pos c]
    by_cases d : a.2 = b.2
    · rw [if_pos d]
      symm
      rw [decide_eq_false_iff_not]
      omega
    · rw [if_neg d]
      rw [decide_eq_decide]
      omega
  · rw [if_neg c]
    rw [decide_eq_decide]
    omega
section
variable {X : Cx} {j : Nat}
theorem cr_minP (hc : X.calm = true) (hr : Room (j + 1) X.A) : CallR X (.builtin "min") (rMinP X.K) := by
  intro pins s σ H vs us Q I r h
  obtain ⟨a, xs, ks, rfl, hs, hne, hk, hx, q⟩ := h
  obtain ⟨its, rv, hl, _⟩ := I.list hs
  rw [Vals.ref1 r]
  have hlen : its.length = xs.length := rv.length.symm
  refine min_callP (bt := fun i j => ltPr (ks.getD i (0, 0)) (ks.getD j (0, 0))) (I.ok.hd hc) hl.isList (by simpa using (by omega : 0 < its.length)) ?_ fun v h' tk ev kept => ?_
  · intro i1 i2 x y t Q' E' kp e1 e2 q'
    have g1 : its[i1]? = some x := by simpa using e1
    have g2 : its[i2]? = some y := by simpa using e2
    have b1 : i1 < its.length := (List.getElem?_eq_some_iff.mp g1).1
    have b2 : i2 < its.length := (List.getElem?_eq_some_iff.mp g2).1
    obtain ⟨u1, hu1, r1⟩ := rv.get (List.getElem?_eq_getElem (by omega : i1 < xs.length))
    obtain ⟨u2, hu2, r2⟩ := rv.get (List.getElem?_eq_getElem (by omega : i2 < xs.length))
    rw [g1] at hu1
    rw [g2] at hu2
    cases hu1
    cases hu2
    obtain ⟨t1, z1, o1⟩ := hx i1 _ _ (List.getElem?_eq_getElem (by omega)) (List.getElem?_eq_getElem (by omega : i1 < ks.length))
    obtain ⟨t2, z2, o2⟩ := hx i2 _ _ (List.getElem?_eq_getElem (by omega)) (List.getElem?_eq_getElem (by omega : i2 < ks.length))
    rw [z1] at r1
    rw [z2] at r2
    obtain rfl : x = Value.ref t1 := r1
    obtain rfl : y = Value.ref t2 := r2
    obtain ⟨l1, w1, ⟨ob1, p1, rest1⟩, _⟩ := I.tuple (SqT.of o1)
    obtain ⟨l2, w2, ⟨ob2, p2, rest2⟩, _⟩ := I.tuple (SqT.of o2)
    refine HT.lt_tupInts (l := t1) (b := t2) (items := l1.toArray) (items2 := l2.toArray) (ns := [ks[i1].1, ks[i1].2]) (ms := [ks[i2].1, ks[i2].2]) ⟨ob1, kp _ _ p1, rest1⟩ ⟨ob2, kp _ _ p2, rest2⟩ (Vals.ints w1) (Vals.ints w2) hr.in1.units0 ?_
    rw [lex_pair]
    simp only [List.getD_eq_getElem?_getD, List.getElem?_eq_getElem (by omega : i1 < ks.length), List.getElem?_eq_getElem (by omega : i2 < ks.length), Option.getD_some] at q'
    exact q'
  · obtain ⟨m1, m2⟩ := argBest_least (bt := fun i j => ltPr (ks.getD i (0, 0)) (ks.getD j (0, 0))) (fun a b c => by unfold ltPr; simp only [decide_eq_true_iff]; omega) (fun a => by unfold ltPr; simp) (its.toArray.size - 1)
    generalize hB : argBest (fun i j => ltPr (ks.getD i (0, 0)) (ks.getD j (0, 0))) (its.toArray.size - 1) = B at *
    have zs : its.toArray.size = its.length := by simp
    rw [zs] at m1 m2
    have bB : B < xs.length := by omega
    have g : its[B]? = some v := by simpa using ev
    obtain ⟨u, hu, ru⟩ := rv.get (List.getElem?_eq_getElem bB)
    rw [g] at hu
    cases hu
    refine ⟨xs[B], H, I.kept kept, ru, q B _ ks[B] (List.getElem?_eq_getElem bB) (List.getElem?_eq_getElem (by omega)) fun y hy => ?_⟩
    obtain ⟨i, hi, rfl⟩ := List.getElem_of_mem hy
    have := m2 i (by omega)
    simpa only [List.getD_eq_getElem?_getD, List.getElem?_eq_getElem hi, List.getElem?_eq_getElem (by omega : B < ks.length), Option.getD_some] using this
end
end L2
set_option Elab.async false
set_option linter.all false
set_option maxRecDepth 100000
set_option maxHeartbeats 4000000
namespace L2
open PySem PySem.Spec PyProof.Rows
/-! ### evidence: own __bool__, own __eq__, isinstance of a class above -/
section
variable {X : Cx} {k j : Nat} {C D : Addr} {sp : Sp} {dvs : List V} {a : Expr} {ta : TE}
/-- an instance as a test, by its own __bool__ -/
def tTruO (C : Addr) (sp : Sp) (dvs : List V) (ta : TE) : TT := fun σ H Q => ta σ H fun x H1 => ∃ a dx fs, x = .ref a ∧ H1 a = some (.ins C dx fs) ∧ sp ([.ref a] ++ dvs) H1 (fun v H2 => ∃ b, v = .bl b ∧ Q b H2) C8.E0
theorem pt_own (c : C8.Met X.prog X.w X.K X.mg X.base k C "__bool__" sp dvs) (hr : Room j X.A) (hk : k ≤ j) (ha : PE X a ta) (he : ∀ whole, isTrue a X.env whole = (do let v ← whole; standAt a.pos; holding [v] (truthy v)) := by intro _; rfl) : PT X a (tTruO C sp dvs ta) := by
  obtain ⟨f, fd, ps, ds, cl, hm, F, bd, d⟩ := c.ex
  refine ⟨fun pins s σ H Q I h => isTrue_plain (thn (ha.run pins s σ H _ I h) fun v s1 z => ?_) (he _)⟩
  obtain ⟨x, H1, I1, rx, o, dx, fs, rfl, e, q⟩ := z
  obtain rfl : v = Value.ref o := rx
  obtain ⟨mA, O, _, _, _, _⟩ := ins_get I1.hok e
  obtain ⟨od, J, _⟩ := O.look
  obtain ⟨m, F0⟩ := I1.fr
  refine PySem.W.truthy_K F0 I1.ok.mod.kin J hm.at_ hm.fn (wpAny_mono (run_fn (us := [.ref o]) (vs := [.ref o]) F (hr.mono hk) bd d C8.pass0 I1 (.cons rfl .nil) q) (fun v s2 y => ?_) fun _ _ y => y)
  obtain ⟨x2, H2, I2, rx2, b, rfl, q2⟩ := y
  obtain rfl : v = Value.bool b := rx2
  exact ⟨H2, I2, q2⟩
/-- x == y by the own __eq__ of the class of both -/
def rEqO (C : Addr) (sp : Sp) (dvs : List V) : R2 := fun x y H Q => ∃ a b dx dy fs gs, x = .ref a ∧ y = .ref b ∧ H a = some (.ins C dx fs) ∧ H b = some (.ins C dy gs) ∧ sp ([.ref a, .ref b] ++ dvs) H (fun v H' => ∃ k, v = .bl k ∧ Q v H') C8.E0
theorem op_eqO (c : C8.Met X.prog X.w X.K X.mg X.base k C "__eq__" sp dvs) (hr : Room j X.A) (hk : k ≤ j) : OpR X (compareOp .Eq) (rEqO C sp dvs) := by
  obtain ⟨f, fd, ps, ds, cl, hm, F, bd, d⟩ := c.ex
  intro pins s σ H x y v u Q I rx ry h
  obtain ⟨o, o2, dx, dy, fs, gs, rfl, rfl, e, e2, q⟩ := h
  obtain rfl : v = Value.ref o := rx
  obtain rfl : u = Value.ref o2 := ry
  obtain ⟨mA, O, _, _, _, _⟩ := ins_get I.hok e
  obtain ⟨mB, O2, _, _, _, _⟩ := ins_get I.hok e2
  obtain ⟨od, J, _⟩ := O.look
  obtain ⟨od2, J2, _⟩ := O2.look
  obtain ⟨m, F0⟩ := I.fr
  refine PySem.W.cmp_K (op := .Eq) (tb := .ref C) hr.units0 F0 I.ok.mod.kin J J2.type (by simp [PySem.W.notFirst]) hm.at_ hm.fn (wpAny_mono (run_fn (us := [.ref o, .ref o2]) (vs := [.ref o, .ref o2]) F (hr.mono hk) bd d C8.pass0 I (.cons rfl (.cons rfl .nil)) q) (fun v s2 y => ?_) fun _ _ y => y)
  obtain ⟨x2, H2, I2, rx2, b, rfl, q2⟩ := y
  obtain rfl : v = Value.bool b := rx2
  exact ⟨.bl b, H2, I2, rfl, q2⟩
/-- an instance of C is one of D, a class above -/
structure InsB (K : PySem.W.Frag) (C D : Addr) : Prop where
  cl : Cls K C
  ha : PySem.W.findIn K (.ref C) "__class__" = some (some (.builtin "object.__class__"))
  hn : PySem.W.specialIn K (.builtin "object.__class__") "__get__" = some (some (.builtin "getset_descriptor.__get__"))
  htk : PySem.W.takesIn K (.builtin "object.__class__") = some true
  hm : PySem.W.mroIn K C (.type "object") = some true
  me : PySem.W.kitOne K (.ref C) (.ref D) = some true
def rIsUp (C D : Addr) : List V → Hp → VK → Prop := fun xs H Q => ∃ a dx fs, xs = [.ref a, .ref D] ∧ H a = some (.ins C dx fs) ∧ Q (.bl true) H
theorem cr_isUp (c : InsB X.K C D) : CallR X (.builtin "isinstance") (rIsUp C D) := by
  intro pins s σ H xs us Q I r h
  obtain ⟨o, dx, fs, rfl, e, q⟩ := h
  obtain ⟨u, u2, rfl, r1, r2⟩ := vals2 r
  obtain rfl : u2 = Value.ref D := r2
  exact isinst_ok I r1 (TyOf.ins e c.cl c.ha c.hn c.htk c.hm) c.me fun tk => ⟨.bl true, H, I.tok _, rfl, q⟩
end
end L2
namespace Sl
open PySem L2 C8 StX
section
variable {σ : L2.St} {H : Hp} {Q : VK} {QB : Bool → Hp → Prop} {K : PySem.W.Frag} {C D : Addr} {sp : Sp} {dvs : List V} {ta : TE} {v : V} {f : Str} {u : Value}
def rTruO (C : Addr) (sp : Sp) (dvs : List V) (x : V) (H1 : Hp) (Q : Bool → Hp → Prop) : Prop := ∃ a dx fs, x = .ref a ∧ H1 a = some (.ins C dx fs) ∧ sp ([.ref a] ++ dvs) H1 (fun v H2 => ∃ b, v = .bl b ∧ Q b H2) C8.E0
theorem rd_truO0 (h : ta σ H fun x H1 => rTruO C sp dvs x H1 QB) : tTruO C sp dvs ta σ H QB := h
theorem rd_truO {a dx : Addr} {fs : List (Str × V)} (e : H a = some (.ins C dx fs)) (h : sp ([.ref a] ++ dvs) H (fun v H2 => ∃ b, v = .bl b ∧ QB b H2) C8.E0) : rTruO C sp dvs (.ref a) H QB := ⟨a, dx, fs, rfl, e, h⟩
theorem rd_eqO {a b dx dy : Addr} {fs gs : List (Str × V)} (e : H a = some (.ins C dx fs)) (e2 : H b = some (.ins C dy gs)) (h : sp ([.ref a, .ref b] ++ dvs) H (fun v H' => ∃ k, v = .bl k ∧ Q v H') C8.E0) : rEqO C sp dvs (.ref a) (.ref b) H Q := ⟨a, b, dx, dy, fs, gs, rfl, rfl, e, e2, h⟩
theorem rd_isUp {a dx : Addr} {fs : List (Str × V)} (e : H a = some (.ins C dx fs)) (h : Q (.bl true) H) : rIsUp C D [.ref a, .ref D] H Q := ⟨a, dx, fs, rfl, e, h⟩
def rCon (K : PySem.W.Frag) (f : Str) (x : V) (H : Hp) (Q : VK) : Prop := ∃ a C dx fs v u, x = .ref a ∧ H a = some (.ins C dx fs) ∧ Cls K C ∧ Con K C f v u ∧ fs.lookup f = none ∧ Q v H
theorem rd_con0 (h : ta σ H fun x H1 => rCon K f x H1 Q) : tCon K ta f σ H Q := h
theorem rd_con {a dx : Addr} {fs : List (Str × V)} (e : H a = some (.ins C dx fs)) (c : Cls K C) (k : ∃ u, Con K C f v u) (l : fs.lookup f = none) (h : Q v H) : rCon K f (.ref a) H Q := by
  obtain ⟨u, k⟩ := k
  exact ⟨a, C, dx, fs, v, u, rfl, e, c, k, l, h⟩
theorem rd_minP {a : Addr} {xs : List V} {ks : List (Int × Int)} (e : SqL K H a xs) (n : 0 < xs.length) (l : ks.length = xs.length) (hx : ∀ (i : Nat) x k, xs[i]? = some x → ks[i]? = some k → ∃ t, x = V.ref t ∧ H t = some (.tup [.int k.1, .int k.2]))
    (h : ∀ (i : Nat) t k, xs[i]? = some (.ref t) → ks[i]? = some k → H t = some (.tup [.int k.1, .int k.2]) → (∀ y ∈ ks, ltPr y k = false) → Q (.ref t) H) : rMinP K [.ref a] H Q :=
  ⟨a, xs, ks, rfl, e, n, l, hx, fun i x k h1 h2 h3 => by
    obtain ⟨t, rfl, e⟩ := hx i x k h1 h2
    exact h i t k h1 h2 e h3⟩
end
end Sl
set_option Elab.async false
set_option linter.all false
set_option maxRecDepth 100000
set_option maxHeartbeats 4000000
namespace L2
open PySem PySem.Spec PyProof.Rows
/-- a dict from ints to ints -/
def dI (ls : List (Int × Int)) : List (Key × V) := ls.map fun q => (Sum.inl q.1, V.int q.2)
theorem dI_len (ls : List (Int × Int)) : (dI ls).length = ls.length := by unfold dI; rw [List.length_map]
theorem dI_keys (ls : List (Int × Int)) : (dI ls).map (·.1) = (ls.map (·.1)).map Sum.inl := by unfold dI; rw [List.map_map, List.map_map]; rfl
theorem dI_nodup {ls : List (Int × Int)} (h : (ls.map (·.1)).Nodup) : ((dI ls).map (·.1)).Nodup := by
  rw [dI_keys]
  exact List.Pairwise.map Sum.inl (fun a b n e => n (Sum.inl.inj e)) h
theorem dI_val {ls : List (Int × Int)} (h : (ls.map (·.1)).Nodup) : ∀ p ∈ dI ls, valV (dI ls) p.1 = some p.2 ∧ flatB p.2 = true := by
  intro p hp
  refine ⟨val_nodup (dI_nodup h) p hp, ?_⟩
  obtain ⟨q, _, rfl⟩ := List.mem_map.mp hp
  rfl
theorem dI_at {ls : List (Int × Int)} (h : (ls.map (·.1)).Nodup) {k v : Int} (m : (k, v) ∈ ls) : valV (dI ls) (Sum.inl k) = some (.int v) := val_nodup (dI_nodup h) (Sum.inl k, V.int v) (List.mem_map.mpr ⟨(k, v), m, rfl⟩)
theorem dI_no {ls : List (Int × Int)} {k : Int} (h : ∀ q ∈ ls, q.1 ≠ k) : valV (dI ls) (Sum.inl k) = none := by
  induction ls with
  | nil => rfl
  | cons q r ih =>
    show valV ((Sum.inl q.1, V.int q.2) :: dI r) (Sum.inl k) = none
    rw [valV_neg (fun z => h q List.mem_cons_self (Sum.inl.inj z))]
    exact ih fun q' m => h q' (List.mem_cons_of_mem _ m)
theorem dI_putNew {ls : List (Int × Int)} {k v : Int} (h : ∀ q ∈ ls, q.1 ≠ k) : putK (dI ls) (Sum.inl k) (.int v) = dI (ls ++ [(k, v)]) := by
  rw [putK_new _ (dI_no h)]
  unfold dI
  rw [List.map_append]
  rfl
/-! ### == of such dicts, both answers where the lengths differ -/
section
variable {X : Cx}
def rEqDI : R2 := fun x y H Q => ∃ a b ls ms, x = .ref a ∧ y = .ref b ∧ H a = some (.dK (dI ls)) ∧ H b = some (.dK (dI ms)) ∧ (ls.map (·.1)).Nodup ∧ (ls = ms ∨ ls.length ≠ ms.length) ∧ Q (.bl (decide (ls = ms))) H
def rNeDI : R2 := fun x y H Q => ∃ a b ls ms, x = .ref a ∧ y = .ref b ∧ H a = some (.dK (dI ls)) ∧ H b = some (.dK (dI ms)) ∧ (ls.map (·.1)).Nodup ∧ (ls = ms ∨ ls.length ≠ ms.length) ∧ Q (.bl (!decide (ls = ms))) H
theorem dI_hits {A : Around} {s : Shared} {ls ms : List (Int × Int)} {va vb : List (Key × Value)} (nd : (ls.map (·.1)).Nodup) (h : ls = ms ∨ ls.length ≠ ms.length) (ra : KV (dI ls) va) (rb : KV (dI ms) vb) (e : va.length = vb.length) : ls = ms ∧ PySem.W.KeqHits A s vb va true := by
  rcases h with h | h
  · subst h
    exact ⟨rfl, hits_all rb ra (dI_val nd)⟩
  · exfalso
    have h1 := ra.length
    have h2 := rb.length
    rw [dI_len] at h1 h2
    omega
theorem dI_ans {ls ms : List (Int × Int)} {va vb : List (Key × Value)} (h : ls = ms ∨ ls.length ≠ ms.length) (ra : KV (dI ls) va) (rb : KV (dI ms) vb) : (va.length == vb.length && true) = decide (ls = ms) := by
  have h1 := ra.length
  have h2 := rb.length
  rw [dI_len] at h1 h2
  rw [Bool.and_true]
  rcases h with h | h
  · subst h
    rw [decide_eq_true rfl, ← h1, ← h2]
    simp
  · rw [decide_eq_false (fun z => h (by rw [z])), ← h1, ← h2]
    simpa using h
theorem op_eqDI (hu : X.A.units < cLine) : OpR X (compareOp .Eq) rEqDI := by
  intro pins s σ H x y v u Q I rx ry h
  obtain ⟨a, b, ls, ms, rfl, rfl, ea, eb, nd, hh, q⟩ := h
  obtain rfl : v = Value.ref a := rx
  obtain rfl : u = Value.ref b := ry
  obtain ⟨_, ya, va, ra, da⟩ := (show ObjOk X.prog X.w H s.heap a (.dK (dI ls)) from I.hok a _ ea)
  obtain ⟨_, yb, vb, rb, db⟩ := (show ObjOk X.prog X.w H s.heap b (.dK (dI ms)) from I.hok b _ eb)
  refine PySem.W.keq_eq (knd := mixKind X.prog X.w) (r := true) ya yb da db hu (fun e => (dI_hits nd hh ra rb e).2) ?_
  rw [dI_ans hh ra rb]
  exact ⟨.bl _, H, I, rfl, q⟩
theorem op_neDI (hu : X.A.units < cLine) : OpR X (compareOp .NotEq) rNeDI := by
  intro pins s σ H x y v u Q I rx ry h
  obtain ⟨a, b, ls, ms, rfl, rfl, ea, eb, nd, hh, q⟩ := h
  obtain rfl : v = Value.ref a := rx
  obtain rfl : u = Value.ref b := ry
  obtain ⟨_, ya, va, ra, da⟩ := (show ObjOk X.prog X.w H s.heap a (.dK (dI ls)) from I.hok a _ ea)
  obtain ⟨_, yb, vb, rb, db⟩ := (show ObjOk X.prog X.w H s.heap b (.dK (dI ms)) from I.hok b _ eb)
  refine PySem.W.keq_ne (knd := mixKind X.prog X.w) (r := true) ya yb da db hu (fun e => (dI_hits nd hh ra rb e).2) ?_
  rw [dI_ans hh ra rb]
  exact ⟨.bl _, H, I, rfl, q⟩
end
end L2
namespace Sl
open PySem L2 C8 StX
section
variable {σ : L2.St} {H H1 : Hp} {wi : TI} {g : TG} {tb : TS} {ta : TA} {td te ty tk tv : TE} {tt : TT} {nx bk ct : L2.St → Hp → Prop} {rt : VK} {K : PySem.W.Frag} {Q : VK} {QB : Bool → Hp → Prop} {vs : List Nat} {x y v : V}
theorem rd_dnew (h : ∀ p H', H p = none → Same H H' → H' p = some (.dK (dI [])) → H' = upd H p (.dK (dI [])) → Q (.ref p) H') : tDNewK σ H Q := fun p hp => h p _ hp (Same.new (Same.refl H) hp) upd_same rfl
def rDIn (y x : V) (H : Hp) (Q : VK) : Prop := ∃ a o, x = .ref a ∧ DGet H a y o ∧ Q (.bl o.isSome) H
def rDNot (y x : V) (H : Hp) (Q : VK) : Prop := ∃ a o, x = .ref a ∧ DGet H a y o ∧ Q (.bl (!o.isSome)) H
theorem rd_din0 (h : ty σ H fun y H1 => td σ H1 fun x H2 => rDIn y x H2 Q) : tDIn ty td σ H Q := h
theorem rd_dnot0 (h : ty σ H fun y H1 => td σ H1 fun x H2 => rDNot y x H2 Q) : tDNotIn ty td σ H Q := h
theorem rd_dnot {a : Addr} {ls : List (Int × Int)} {k : Int} (e : H a = some (.dK (dI ls))) (h : Q (.bl (!(valV (dI ls) (Sum.inl k)).isSome)) H) : rDNot (.int k) (.ref a) H Q := ⟨a, _, rfl, DGet.k (k := Sum.inl k) e, h⟩
def rDGet (x y : V) (H : Hp) (Q : VK) : Prop := ∃ a v, x = .ref a ∧ DGet H a y (some v) ∧ Q v H
theorem rd_dget0 (h : td σ H fun x H1 => ty σ H1 fun y H2 => rDGet x y H2 Q) : tDGet td ty σ H Q := h
theorem rd_dget {a : Addr} {ls : List (Int × Int)} {k w : Int} (e : Rd H a (.dK (dI ls))) (l : valV (dI ls) (Sum.inl k) = some (.int w)) (h : Q (.int w) H) : rDGet (.ref a) (.int k) H Q := ⟨a, .int w, rfl, .inl ⟨_, Sum.inl k, e, rfl, l.symm⟩, h⟩
def rDPut (nx : L2.St → Hp → Prop) (σ : L2.St) (v x y : V) (H : Hp) : Prop := ∃ a H4, x = .ref a ∧ DPut H a y v H4 ∧ nx σ H4
theorem rd_dput0 (h : tv σ H fun v H1 => td σ H1 fun x H2 => ty σ H2 fun y H3 => rDPut nx σ v x y H3) : sDPut td ty tv ⟨nx, rt, bk, ct⟩ σ H := h
theorem rd_dput {a : Addr} {ls : List (Int × Int)} {k w : Int} (e : H a = some (.dK (dI ls))) (l : ls.length < 100000) (h : ∀ H', H' = upd H a (.dK (putK (dI ls) (Sum.inl k) (.int w))) → H' a = some (.dK (putK (dI ls) (Sum.inl k) (.int w))) → nx σ H') : rDPut nx σ (.int w) (.ref a) (.int k) H :=
  ⟨a, _, rfl, DPut.k (k := Sum.inl k) e (by rw [dI_len]; exact Nat.lt_trans l (by decide)), h _ rfl upd_same⟩
def rDictD : List V → Hp → VK → Prop := fun xs H Q => ∃ (a : Addr) (kvs : List (Key × V)), xs = [.ref a] ∧ Rd H a (.dK kvs) ∧ ∀ p, H p = none → Q (.ref p) (upd H p (.dK kvs))
theorem cr_dictD {X : Cx} : CallR X (.type "dict") rDictD := call_dictD
theorem rd_dictD {a : Addr} {kvs : List (Key × V)} (e : H a = some (.dK kvs)) (h : ∀ p H', H p = none → Same H H' → H' p = some (.dK kvs) → H' = upd H p (.dK kvs) → Q (.ref p) H') : rDictD [.ref a] H Q := ⟨a, kvs, rfl, .inl e, fun p hp => h p _ hp (Same.new (Same.refl H) hp) upd_same rfl⟩
def rSortDI : List V → Hp → VK → Prop := fun xs H Q => ∃ (a : Addr) (kvs : List (Key × V)) (ks : List Int), xs = [.ref a] ∧ Rd H a (.dK kvs) ∧ kvs.map (·.1) = ks.map Sum.inl ∧ ks.length < 64 ∧ ∀ (ys : List Int) (p : Addr), ys.Perm ks → ys.Pairwise (· ≤ ·) → H p = none → Q (.ref p) (upd H p (.lst (ys.map V.int)))
theorem cr_sortDI {X : Cx} (hc : X.calm = true) : CallR X (.builtin "sorted") rSortDI := call_sortedDI hc
theorem perm_sorted : ∀ {ys ks : List Int}, ys.Perm ks → ys.Pairwise (· ≤ ·) → ks.Pairwise (· < ·) → ys = ks
  | [], ks, p, _, _ => (List.nil_perm.mp p).symm
  | y :: ys, [], p, _, _ => by have := p.length_eq; simp at this
  | y :: ys, k :: ks, p, s1, s2 => by
    have h1 := List.pairwise_cons.mp s1
    have h2 := List.pairwise_cons.mp s2
    have e : y = k := by
      have a : y ∈ k :: ks := p.mem_iff.mp List.mem_cons_self
      have b : k ∈ y :: ys := p.mem_iff.mpr List.mem_cons_self
      rcases List.mem_cons.mp a with z | z
      · exact z
      · rcases List.mem_cons.mp b with w | w
        · exact w.symm
        · have q1 := h2.1 y z
          have q2 := h1.1 k w
          omega
    subst e
    rw [perm_sorted p.cons_inv h1.2 h2.2]
theorem rd_sortDI {a : Addr} {ls : List (Int × Int)} (e : H a = some (.dK (dI ls))) (s : (ls.map (·.1)).Pairwise (· < ·)) (l : ls.length < 64) (h : ∀ p H', H p = none → Same H H' → H' p = some (.lst ((ls.map (·.1)).map V.int)) → Q (.ref p) H') : rSortDI [.ref a] H Q :=
  ⟨a, _, ls.map (·.1), rfl, .inl e, dI_keys ls, by rw [List.length_map]; exact l, fun ys p pm sr hp => by
    rw [perm_sorted pm sr s]
    exact h p _ hp (Same.new (Same.refl H) hp) upd_same⟩
theorem rd_sortL {a : Addr} {ks : List Int} (e : SqL K H a (ks.map V.int)) (s : ks.Pairwise (· < ·)) (l : ks.length < 64) (h : ∀ p H', H p = none → Same H H' → H' p = some (.lst (ks.map V.int)) → Q (.ref p) H') : rSorted K [.ref a] H Q :=
  ⟨a, ks, rfl, e, l, fun ys p pm sr hp => by
    rw [perm_sorted pm sr s]
    exact h p _ hp (Same.new (Same.refl H) hp) upd_same⟩
theorem rd_listD {a : Addr} {ls : List (Int × Int)} (e : H a = some (.dK (dI ls))) (h : ∀ p H', H p = none → Same H H' → H' p = some (.lst ((ls.map (·.1)).map V.int)) → Q (.ref p) H') : rListD [.ref a] H Q :=
  ⟨a, _, rfl, e, fun p hp => h p _ hp (Same.new (Same.refl H) hp) (by rw [upd_same]; unfold dI; rw [List.map_map, List.map_map]; rfl)⟩
theorem rd_eqDI {a b : Addr} {ls ms : List (Int × Int)} (ea : H a = some (.dK (dI ls))) (eb : H b = some (.dK (dI ms))) (nd : (ls.map (·.1)).Nodup) (hh : ls = ms ∨ ls.length ≠ ms.length) (q : Q (.bl (decide (ls = ms))) H) : rEqDI (.ref a) (.ref b) H Q := ⟨a, b, ls, ms, rfl, rfl, ea, eb, nd, hh, q⟩
theorem rd_neDI {a b : Addr} {ls ms : List (Int × Int)} (ea : H a = some (.dK (dI ls))) (eb : H b = some (.dK (dI ms))) (nd : (ls.map (·.1)).Nodup) (hh : ls = ms ∨ ls.length ≠ ms.length) (q : Q (.bl (!decide (ls = ms))) H) : rNeDI (.ref a) (.ref b) H Q := ⟨a, b, ls, ms, rfl, rfl, ea, eb, nd, hh, q⟩
/-! ### dict comprehensions -/
def DcE (D : Addr) (Nx : Hp → Prop) (y z : V) (H5 : Hp) : Prop := ∃ kvs k, y = kV k ∧ H5 D = some (.dK kvs) ∧ kvs.length < sizeLine ∧ Nx (upd H5 D (.dK (putK kvs k z)))
def DcR (J : It) (g : TG) (tt : TT) (tk tv : TE) (vs : List Nat) (σ : L2.St) (H1 : Hp) (Q : VK) : Prop := ∀ D, H1 D = none → ∃ W : Nat → Nat → Hp → Prop, (∃ m, W 0 m (upd H1 D (.dK []))) ∧ ∀ i m H, W i m H →
  (J.stop i H ∧ Q (.ref D) H) ∨ (J.go i H ∧ ∃ Nx : Hp → Prop, (∀ H', Nx H' → ∃ m', m' < m ∧ W (i + 1) m' H') ∧ ∀ x H', J.yld i H x H' → g x (wipe σ vs) H' fun σ2 H2 => wipe σ2 vs = wipe σ vs ∧ tt σ2 H2 fun b H3 =>
    if b = true then tk σ2 H3 fun y H4 => tv σ2 H4 fun z H5 => DcE D Nx y z H5 else Nx H3)
theorem rd_dc (h : wi σ H fun J H1 => DcR J g tt tk tv vs σ H1 Q) : tDc wi g tt tk tv vs σ H Q := h
theorem rd_dcE {D : Addr} {Nx : Hp → Prop} {ls : List (Int × Int)} {k w : Int} (e : H D = some (.dK (dI ls))) (l : ls.length < 100000) (n : ∀ q ∈ ls, q.1 ≠ k) (h : ∀ H', H' = upd H D (.dK (dI (ls ++ [(k, w)]))) → H' D = some (.dK (dI (ls ++ [(k, w)]))) → Nx H') : DcE D Nx (.int k) (.int w) H :=
  ⟨_, Sum.inl k, rfl, e, by rw [dI_len]; exact Nat.lt_trans l (by decide), by rw [dI_putNew n]; exact h _ rfl upd_same⟩
theorem dcR_gen (J : It) (n : Nat) (Pv : Addr → Nat → Hp → Prop) (h0 : ∀ D H', H D = none → Same H H' → H' D = some (.dK (dI [])) → H' = upd H D (.dK (dI [])) → Pv D 0 H') (hg : ∀ D i H', H D = none → i < n → Pv D i H' → J.go i H') (he : ∀ D H', H D = none → Pv D n H' → J.stop n H')
    (hs : ∀ D i H' x H2, H D = none → i < n → Pv D i H' → J.yld i H' x H2 → g x (wipe σ vs) H2 fun σ2 H2 => wipe σ2 vs = wipe σ vs ∧ tt σ2 H2 fun b H3 => if b = true then tk σ2 H3 fun y H4 => tv σ2 H4 fun z H5 => DcE D (Pv D (i + 1)) y z H5 else Pv D (i + 1) H3)
    (hd : ∀ D H', H D = none → Pv D n H' → Q (.ref D) H') : DcR J g tt tk tv vs σ H Q := by
  intro D hD
  refine ⟨fun i m H => m = n - i ∧ i ≤ n ∧ Pv D i H, ⟨n, by simp, Nat.zero_le _, h0 D _ hD (Same.new (Same.refl H) hD) upd_same rfl⟩, ?_⟩
  rintro i m H' ⟨rfl, hi, p⟩
  by_cases hlt : i < n
  · exact .inr ⟨hg D i H' hD hlt p, Pv D (i + 1), fun H2 p' => ⟨n - (i + 1), by omega, rfl, hlt, p'⟩, fun x H2 y => hs D i H' x H2 hD hlt p y⟩
  · obtain rfl : i = n := by omega
    exact .inl ⟨he D H' hD p, hd D H' hD p⟩
theorem dcR_lst {a : Addr} {xs : List V} (Pv : Addr → Nat → Hp → Prop) (hl : ∀ D i H', H D = none → Pv D i H' → SqL K H' a xs) (h0 : ∀ D H', H D = none → Same H H' → H' D = some (.dK (dI [])) → H' = upd H D (.dK (dI [])) → Pv D 0 H')
    (hs : ∀ D i x H', H D = none → xs[i]? = some x → Pv D i H' → g x (wipe σ vs) H' fun σ2 H2 => wipe σ2 vs = wipe σ vs ∧ tt σ2 H2 fun b H3 => if b = true then tk σ2 H3 fun y H4 => tv σ2 H4 fun z H5 => DcE D (Pv D (i + 1)) y z H5 else Pv D (i + 1) H3)
    (hd : ∀ D H', H D = none → Pv D xs.length H' → Q (.ref D) H') : DcR (Itl K a) g tt tk tv vs σ H Q :=
  dcR_gen _ xs.length Pv h0 (fun D i H' hD h p => ⟨xs, xs[i], hl D i H' hD p, by simp [h]⟩) (fun D H' hD p => ⟨xs, hl D _ H' hD p, Nat.le_refl _⟩)
    (fun D i H' x H2 hD hi p ⟨e1, e2⟩ => by subst e1; exact hs D i x _ hD (e2 xs (hl D i _ hD p)) p) hd
/-! ### the keys of a dict that is walked -/
def KeysR (R : It → Hp → Prop) (x : V) (H : Hp) : Prop := ∃ d o, x = .ref d ∧ ((∃ kvs, H d = some (.frz o (.dK kvs)) ∧ R (Itk d o kvs) H) ∨ ∃ kvs, H d = some (.frz o (.dT kvs)) ∧ R (Itkt d o kvs) H)
theorem rd_iKeys {R : It → Hp → Prop} (h : td σ H fun x H1 => KeysR R x H1) : iKeys td σ H R := h
theorem rd_keysR {R : It → Hp → Prop} {d : Addr} {o : Obj} {kvs : List (Key × V)} (e : H d = some (.frz o (.dK kvs))) (h : R (Itk d o kvs) H) : KeysR R (.ref d) H := ⟨d, o, rfl, .inl ⟨kvs, e, h⟩⟩
theorem rd_lock {d : Addr} {u : HO} (e : H d = some u) (m : Mut (some u)) (h : ∀ od, te σ (upd H d (.frz od u)) fun v H' => H' d = some (.frz od u) ∧ Q v (upd H' d u)) : tLockE te σ H Q := ⟨d, u, e, m, h⟩
theorem dcR_keys {d : Addr} {o : Obj} {kvs : List (Key × V)} (Pv : Addr → Nat → Hp → Prop) (hl : ∀ D i H', H D = none → Pv D i H' → H' d = some (.frz o (.dK kvs))) (h0 : ∀ D H', H D = none → Same H H' → H' D = some (.dK (dI [])) → H' = upd H D (.dK (dI [])) → Pv D 0 H')
    (hs : ∀ D i k z H', H D = none → kvs[i]? = some (k, z) → Pv D i H' → g (kV k) (wipe σ vs) H' fun σ2 H2 => wipe σ2 vs = wipe σ vs ∧ tt σ2 H2 fun b H3 => if b = true then tk σ2 H3 fun y H4 => tv σ2 H4 fun z H5 => DcE D (Pv D (i + 1)) y z H5 else Pv D (i + 1) H3)
    (hd : ∀ D H', H D = none → Pv D kvs.length H' → Q (.ref D) H') : DcR (Itk d o kvs) g tt tk tv vs σ H Q :=
  dcR_gen _ kvs.length Pv h0 (fun D i H' hD h p => ⟨hl D i H' hD p, h⟩) (fun D H' hD p => ⟨hl D _ H' hD p, Nat.le_refl _⟩)
    (fun D i H' x H2 hD hi p ⟨e1, k, v, e2, e3⟩ => by subst e1; subst e3; exact hs D i k v _ hD e2 p) hd
theorem lcR_keys {d : Addr} {o : Obj} {kvs : List (Key × V)} (Pv : Addr → Nat → Hp → Prop) (hl : ∀ D i H', H D = none → Pv D i H' → H' d = some (.frz o (.dK kvs))) (h0 : ∀ D H', H D = none → Same H H' → H' D = some (.lst []) → H' = upd H D (.lst []) → Pv D 0 H')
    (hs : ∀ D i k z H', H D = none → kvs[i]? = some (k, z) → Pv D i H' → g (kV k) (wipe σ vs) H' fun σ2 H2 => wipe σ2 vs = wipe σ vs ∧ tt σ2 H2 fun b H3 => if b = true then te σ2 H3 fun y H4 => LcE D (Pv D (i + 1)) y H4 else Pv D (i + 1) H3)
    (hd : ∀ D H', H D = none → Pv D kvs.length H' → Q (.ref D) H') : LcR (Itk d o kvs) g tt te vs σ H Q :=
  lcR_gen _ kvs.length Pv h0 (fun D i H' hD h p => ⟨hl D i H' hD p, h⟩) (fun D H' hD p => ⟨hl D _ H' hD p, Nat.le_refl _⟩)
    (fun D i H' x H2 hD hi p ⟨e1, k, v, e2, e3⟩ => by subst e1; subst e3; exact hs D i k v _ hD e2 p) hd
end
end Sl
set_option Elab.async false
set_option linter.all false
set_option maxRecDepth 100000
set_option maxHeartbeats 4000000
/-! ### t != u of tuples whose items are all equal, one of them a dict -/
namespace GQ
open PySem PySem.SeqAt
open AutoSeq1 (wpAny_loadPart')
open MeetsSeq MeetsSeq2 MeetsSeq3 SeqRoads2
section
variable {prog : Program} {w : World} {A : Around} {R : Result → Shared → Prop} {E : Value → Shared → Prop}
theorem tup_neT (t u : Addr) (xs ys : Array Value) (n m : Nat) (d1 d2 : Option Addr) (l1 l2 : Array (Option Value)) (len : xs.size = ys.size) {s : Shared}
    (each : ∀ i (h1 : i < xs.size) (h2 : i < ys.size) (E' : Value → Shared → Prop) (Q : Bool → Shared → Prop), Q true s → wpAny (model prog w) A.in1 (eqBool xs[i] ys[i]) Q E' s)
    (e1 : s.heap.get? t = some { cls := .type "tuple", dict := d1, data := .seq xs n, slots := l1 }) (e2 : s.heap.get? u = some { cls := .type "tuple", dict := d2, data := .seq ys m, slots := l2 }) (fin : R (.ok (.ret (.bool false))) s) :
    wpAny (model prog w) A.in1 (Builtin.«tuple.__ne__» ⟨[.ref t, .ref u], []⟩) (FinOf prog w A R) (fun e s' => R (.error e) s') s := by
  have f2 := AutoSeq1.sub_tuple_tuple
  have hz : (xs.toList.zip ys.toList).length = xs.size := by simp [len]
  obtain ⟨hp, gn, dr, tk, os⟩ := s
  wp_walk using wpAny_loadPart' e1, wpAny_loadPart' e2, wpAny_forIn_list _ (fun rest b s' => b.1 = none ∧ s' = (⟨hp, gn, dr, tk, os⟩ : Shared) ∧ ∃ i, rest = (xs.toList.zip ys.toList).drop i ∧ i ≤ xs.size) _
  case turn =>
    rintro ⟨y, x⟩ rest b s' ⟨hb, rfl, i, hr, hi⟩
    have lt : i < (xs.toList.zip ys.toList).length := by
      rcases Nat.lt_or_ge i (xs.toList.zip ys.toList).length with z | z
      · exact z
      · rw [List.drop_of_length_le z] at hr
        cases hr
    have h1 : i < xs.size := hz ▸ lt
    have h2 : i < ys.size := len ▸ h1
    rw [List.drop_eq_getElem_cons lt] at hr
    injection hr with q1 q2
    obtain rfl : y = xs[i] := by simpa using congrArg Prod.fst q1
    obtain rfl : x = ys[i] := by simpa using congrArg Prod.snd q1
    refine wpAny_bind (each i h1 h2 _ _ ?_)
    wp_walk
    exact ⟨rfl, rfl, i + 1, q2, h1⟩
  case fin =>
    rintro ⟨b1, b2⟩ s' ⟨hb, rfl, i, hr, hi⟩
    simp only at hb
    subst hb
    wp_walk
    simpa [Builtin.Tuple.tupleCompareSizes, len] using fin
  case h =>
    exact ⟨rfl, rfl, 0, rfl, Nat.zero_le _⟩
theorem rcne_tup {t u : Addr} {xs ys : Array Value} {Q : Value → Shared → Prop} {s : Shared} (len : xs.size = ys.size) (hu : A.units < cLine) (h1 : s.heap.IsTuple t xs) (h2 : s.heap.IsTuple u ys)
    (each : ∀ i (h1 : i < xs.size) (h2 : i < ys.size) (E' : Value → Shared → Prop) (Q : Bool → Shared → Prop), Q true s → wpAny (model prog w) A.in1 (eqBool xs[i] ys[i]) Q E' s) (fin : Q (.bool false) s) : wpAny (model prog w) A (richCompare .NotEq (.ref t) (.ref u)) Q E s := by
  obtain ⟨⟨c1, d1, k1, l1⟩, o1, z1, n, y1⟩ := id h1
  obtain ⟨⟨c2, d2, k2, l2⟩, o2, z2, m, y2⟩ := id h2
  simp only at z1 y1 z2 y2
  subst z1 y1 z2 y2
  refine wpAny_richCompare_same_room (op := .NotEq) ⟨_, o1, rfl⟩ ⟨_, o2, rfl⟩ F.slot_tuple_ne (call_here F.slot_tuple_ne ⟨_, o1, rfl⟩ F.entry_tuple_ne (F.args_tuple_ne_2 _ _) ?_) hu
  exact tup_neT (R := wants (fun v s' => v ≠ .notImplemented ∧ Q v s') E) t u xs ys n m d1 d2 l1 l2 len each o1 o2 ⟨(fun x => nomatch x), fin⟩
end
end GQ
namespace L2
open PySem PySem.Spec PyProof.Rows
section
variable {X : Cx}
/-- (i, d) != (i, e), d and e equal dicts -/
def rNePD (K : PySem.W.Frag) : R2 := fun x y H Q => ∃ t u i a b ls, x = .ref t ∧ y = .ref u ∧ H t = some (.tup [.int i, .ref a]) ∧ H u = some (.tup [.int i, .ref b]) ∧ H a = some (.dK (dI ls)) ∧ H b = some (.dK (dI ls)) ∧ (ls.map (·.1)).Nodup ∧ Q (.bl false) H
theorem op_nePD (hu : X.A.units + 64 < cLine) : OpR X (compareOp .NotEq) (rNePD X.K) := by
  intro pins s σ H x y v u' Q I rx ry h
  obtain ⟨t, u, i, a, b, ls, rfl, rfl, et, eu, ea, eb, nd, q⟩ := h
  obtain rfl : v = Value.ref t := rx
  obtain rfl : u' = Value.ref u := ry
  obtain ⟨xs, r1, p1, _⟩ := I.tuple (SqT.of et)
  obtain ⟨ys, r2, p2, _⟩ := I.tuple (SqT.of eu)
  obtain ⟨x1, x2, rfl, ⟨tx, rfl⟩, w2⟩ := vals2 r1
  obtain ⟨y1, y2, rfl, ⟨ty, rfl⟩, z2⟩ := vals2 r2
  obtain rfl : x2 = Value.ref a := w2
  obtain rfl : y2 = Value.ref b := z2
  obtain ⟨_, ya, va, ra, da⟩ := (show ObjOk X.prog X.w H s.heap a (.dK (dI ls)) from I.hok a _ ea)
  obtain ⟨_, yb, vb, rb, db⟩ := (show ObjOk X.prog X.w H s.heap b (.dK (dI ls)) from I.hok b _ eb)
  show wpAny (model X.prog X.w) X.A (richCompare .NotEq (.ref t) (.ref u)) (EP X pins σ Q) X.xe s
  refine GQ.rcne_tup (by simp) (by omega) p1 p2 (fun j h1 h2 E' Q' q' => ?_) ⟨.bl false, H, I, rfl, q⟩
  match j, h1, h2 with
  | 0, _, _ => exact (eqAt_same (A := X.A.in1) (s := s) (show RelV (V.int i) (Value.int i tx) from ⟨tx, rfl⟩) (show RelV (V.int i) (Value.int i ty) from ⟨ty, rfl⟩) rfl) X.prog X.w E' Q' q'
  | 1, _, _ =>
    show wpAny (model X.prog X.w) X.A.in1 (eqBool (Value.ref a) (Value.ref b)) Q' E' s
    by_cases c : a = b
    · subst c
      exact SeqAt.EqAt.same (A := X.A.in1) (s := s) (.ref a) X.prog X.w E' Q' q'
    · refine GQ.eqBool_refG c ?_
      show wpAny (model X.prog X.w) X.A.in1 (compareOp .Eq (.ref a) (.ref b)) _ E' s
      refine PySem.W.keq_eq (knd := mixKind X.prog X.w) (r := true) ya yb da db (by show X.A.units + 1 < cLine; omega) (fun e => (dI_hits nd (.inl rfl) ra rb e).2) ?_
      rw [dI_ans (.inl rfl) ra rb, decide_eq_true rfl]
      exact ⟨true, rfl, q'⟩
  | j + 2, h1, _ => exact absurd h1 (by simp)
end
end L2
namespace Sl
open PySem L2 C8 StX
theorem rd_nePD {K : PySem.W.Frag} {H : Hp} {Q : VK} {t u a b : Addr} {i : Int} {ls : List (Int × Int)} (et : H t = some (.tup [.int i, .ref a])) (eu : H u = some (.tup [.int i, .ref b])) (ea : H a = some (.dK (dI ls))) (eb : H b = some (.dK (dI ls))) (nd : (ls.map (·.1)).Nodup) (q : Q (.bl false) H) : rNePD K (.ref t) (.ref u) H Q :=
  ⟨t, u, i, a, b, ls, rfl, rfl, et, eu, ea, eb, nd, q⟩
end Sl
set_option Elab.async false
set_option linter.all false
set_option maxRecDepth 100000
set_option maxHeartbeats 4000000
namespace L2
open PySem PySem.Spec PyProof.Rows
/-! ### sum(d.values()) of a dict from ints to ints -/
def rSumV (x : V) (H : Hp) (Q : VK) : Prop := ∃ a ls, x = V.ref a ∧ H a = some (.dK (dI ls)) ∧ Q (.int ((ls.map (·.2)).sum)) H
def tSumV (td : TE) : TE := fun σ H Q => td σ H fun x H1 => rSumV x H1 Q
theorem dI_vals (ls : List (Int × Int)) : (dI ls).map (·.2) = (ls.map (·.2)).map V.int := by unfold dI; rw [List.map_map, List.map_map]; rfl
theorem preSum_list (l : List Int) : ∀ n : Nat, preSum (fun i => l.getD i 0) n = (l.take n).sum
  | 0 => by simp [preSum]
  | n + 1 => by
    rw [preSum, preSum_list l n, List.take_succ, List.sum_append]
    cases e : l[n]? with
    | none => simp [List.getD_eq_getElem?_getD, e]
    | some x => simp [List.getD_eq_getElem?_getD, e]
section
variable {X : Cx} {o : Expr} {p pos apos mpos : Pos} {td : TE}
theorem pe_sumVals (hc : X.calm = true) (hg : Gl X "sum") (hm : X.mg "sum" = none) (hd : PE X o td) (base : attributeBase o "values" X.env (eval o X.env) = eval o X.env := by rfl) (line : (apos.endLine == mpos.line) = true := by rfl)
    (each : starEach [Expr.Call (.Attribute o "values" apos) [] [] mpos] X.env = [(false, eval (Expr.Call (.Attribute o "values" apos) [] [] mpos) X.env)] := by rfl) : PE X (.Call (.Name "sum" p) [.Call (.Attribute o "values" apos) [] [] mpos] [] pos) (tSumV td) := by
  refine ⟨fun pins s σ H Q I h => wpAny_Call_Name_kw (ld_blt I hg hm (u := .builtin "sum") (by first | rfl | decide +kernel) ?_ (by first | decide +kernel | decide) (by first | decide +kernel | decide))⟩
  rw [each]
  refine PySem.callWith_builtin1 (wpAny_Call_method0_late base line (thn (hd.run pins s σ H _ I h) fun v s1 z => ?_))
  obtain ⟨x, H1, I1, rx, a, ls, rfl, ea, q⟩ := z
  obtain rfl : v = Value.ref a := rx
  obtain ⟨_, low, vs, rel, dof⟩ := dk_of I1.hok ea
  obtain ⟨ep, dat⟩ := dof.dictAt
  obtain ⟨ob, es, ho, ex, _⟩ := id dat
  refine ⟨"dict", "dict.values", F.plainAttrs_dict, F.slot_dict_values, F.type_dict_values, ⟨ob, ho, ex.1⟩, fun b e => (by cases e; exact ⟨ob, ho, ex.2.1⟩), Calls.callWith_builtin rfl (PySem.evalArgs_none (call_meetsIn F.slot_dict_values ⟨ob, ho, ex.1⟩ F.entry_dict_values (F.args_dict_values_1 _) (meets_dict_values (mixKind X.prog X.w) a low) ⟨⟨vs, dof⟩, ?_⟩))⟩
  have kept1 : ∀ b u, s1.heap.get? b = some u → (s1.heap.push { cls := .type "dict_values", data := .fields #[.ref a] }).get? b = some u := fun _ _ e => Heap.get?_push_of_some _ e
  have dat1 := dat.keep kept1
  have lt : a < s1.heap.objs.size := Heap.lt_size ho
  have sz : (s1.heap.push { cls := .type "dict_values", data := .fields #[.ref a] }).objs.size = s1.heap.objs.size + 1 := Heap.size_push _ _
  have lv : vs.length = ls.length := by rw [← rel.length, dI_len]
  have val : ∀ (i : Nat) (v : Value), (∃ k, vs[i]? = some (k, v)) → ∃ t, v = Value.int ((ls.map (·.2)).getD i 0) t := by
    rintro i v ⟨k, hk⟩
    obtain ⟨x, h1, h2⟩ := KV.at' rel hk
    have e : ((dI ls).map (·.2))[i]? = some x := by rw [List.getElem?_map, h1]; rfl
    rw [dI_vals, List.getElem?_map] at e
    cases w : (ls.map (·.2))[i]? with
    | none => rw [w] at e; cases e
    | some j =>
      rw [w] at e
      cases e
      obtain ⟨t, rfl⟩ := h2
      refine ⟨t, ?_⟩
      rw [List.getD_eq_getElem?_getD, w]; rfl
  refine call_sum_walkG (wpAny_pyIter_values (v := s1.heap.objs.size) (d := a) ⟨_, Heap.get?_push_size _ rfl, rfl, rfl⟩ dat1 ⟨_, _, _, _, _, _, fun i => (ls.map (·.2)).getD i 0, rfl,
    Walks.dictValues (knd := mixKind X.prog X.w) (A := X.A.in1) (I.ok.hd hc) _ a (by rw [sz]; exact Nat.ne_of_lt (Nat.lt_succ_of_lt lt)) vs ep, ⟨⟨_, Heap.get?_push_size _ rfl, rfl, rfl⟩, dat1.keep fun _ _ e => Heap.get?_push_of_some _ e⟩, fun b hb => ?_, val, fun h' tk t' kp => ?_⟩)
  · show b < ((s1.heap.push _).push _).objs.size
    rw [Heap.size_push, sz]
    rcases List.mem_cons.mp hb with e | hb
    · rw [e, sz]; exact Nat.lt_succ_self _
    · rw [List.mem_singleton.mp hb]; exact Nat.lt_succ_of_lt (Nat.lt_succ_of_lt lt)
  · have es : preSum (fun i => (ls.map (·.2)).getD i 0) vs.length = (ls.map (·.2)).sum := by
      rw [preSum_list, List.take_of_length_le (by rw [List.length_map, lv]; exact Nat.le_refl _)]
    rw [es]
    refine ⟨.int _, H1, I1.kept (t' := tk) fun b u e => kp b u (fun mem => ?_) (Heap.get?_push_of_some _ (kept1 b u e)), ⟨t', rfl⟩, q⟩
    have e2 := Heap.lt_size e
    rw [List.mem_singleton.mp mem, sz] at e2
    exact Nat.lt_irrefl _ (Nat.lt_of_succ_lt e2)
end
end L2
namespace Sl
open PySem L2 C8 StX
section
variable {σ : L2.St} {H : Hp} {Q : VK} {td ty tx : TE}
theorem rd_sumV0 (h : td σ H fun x H1 => rSumV x H1 Q) : tSumV td σ H Q := h
theorem rd_sumV {a : Addr} {ls : List (Int × Int)} (e : H a = some (.dK (dI ls))) (h : Q (.int ((ls.map (·.2)).sum)) H) : rSumV (.ref a) H Q := ⟨a, ls, rfl, e, h⟩
/-- d.get(k, z) -/
def rGetD (x : V) (ty tx : TE) (σ : L2.St) (H1 : Hp) (Q : VK) : Prop := ∃ a, x = .ref a ∧ IsD H1 a ∧ ty σ H1 fun y H2 => tx σ H2 fun z H3 => ∃ o, DGet H3 a y o ∧ Q (o.getD z) H3
theorem rd_getD0 (h : td σ H fun x H1 => rGetD x ty tx σ H1 Q) : tDGet2 td ty tx σ H Q := h
def rGetD2 (a : Addr) (y z : V) (H3 : Hp) (Q : VK) : Prop := ∃ o, DGet H3 a y o ∧ Q (o.getD z) H3
theorem rd_getD {a : Addr} {kvs : List (Key × V)} (e : Rd H a (.dK kvs)) (h : ty σ H fun y H2 => tx σ H2 fun z H3 => rGetD2 a y z H3 Q) : rGetD (.ref a) ty tx σ H Q := ⟨a, rfl, .inl ⟨kvs, e⟩, h⟩
theorem rd_getD2 {a : Addr} {ls : List (Int × Int)} {k w z : Int} (e : Rd H a (.dK (dI ls))) (l : (valV (dI ls) (Sum.inl k)).getD (.int z) = .int w) (h : Q (.int w) H) : rGetD2 a (.int k) (.int z) H Q := ⟨_, .inl ⟨_, Sum.inl k, e, rfl, rfl⟩, by rw [l]; exact h⟩
theorem rd_dinI {a : Addr} {ls : List (Int × Int)} {k : Int} (e : H a = some (.dK (dI ls))) (h : Q (.bl (valV (dI ls) (Sum.inl k)).isSome) H) : rDIn (.int k) (.ref a) H Q := ⟨a, _, rfl, DGet.k (k := Sum.inl k) e, h⟩
end
/-! ### truth of one of two classes of evidence -/
end Sl
namespace L2
open PySem PySem.Spec PyProof.Rows
section
variable {X : Cx} {k k2 j : Nat} {C D : Addr} {sp sp2 : Sp} {dvs dvs2 : List V} {a : Expr} {ta : TE}
def tTruO2 (C D : Addr) (sp sp2 : Sp) (dvs dvs2 : List V) (ta : TE) : TT := fun σ H Q => ta σ H fun x H1 => ∃ a dx fs, x = .ref a ∧ ((H1 a = some (.ins C dx fs) ∧ sp ([.ref a] ++ dvs) H1 (fun v H2 => ∃ b, v = .bl b ∧ Q b H2) C8.E0) ∨ (H1 a = some (.ins D dx fs) ∧ sp2 ([.ref a] ++ dvs2) H1 (fun v H2 => ∃ b, v = .bl b ∧ Q b H2) C8.E0))
theorem pt_own2 (c : C8.Met X.prog X.w X.K X.mg X.base k C "__bool__" sp dvs) (c2 : C8.Met X.prog X.w X.K X.mg X.base k2 D "__bool__" sp2 dvs2) (hr : Room j X.A) (hk : k ≤ j) (hk2 : k2 ≤ j) (ha : PE X a ta) (he : ∀ whole, isTrue a X.env whole = (do let v ← whole; standAt a.pos; holding [v] (truthy v)) := by intro _; rfl) : PT X a (tTruO2 C D sp sp2 dvs dvs2 ta) := by
  refine ⟨fun pins s σ H Q I h => isTrue_plain (thn (ha.run pins s σ H _ I h) fun v s1 z => ?_) (he _)⟩
  obtain ⟨x, H1, I1, rx, o, dx, fs, rfl, z⟩ := z
  obtain rfl : v = Value.ref o := rx
  obtain ⟨m, F0⟩ := I1.fr
  rcases z with ⟨e, q⟩ | ⟨e, q⟩
  · obtain ⟨f, fd, ps, ds, cl, hm, F, bd, d⟩ := c.ex
    obtain ⟨mA, O, _, _, _, _⟩ := ins_get I1.hok e
    obtain ⟨od, J, _⟩ := O.look
    refine PySem.W.truthy_K F0 I1.ok.mod.kin J hm.at_ hm.fn (wpAny_mono (run_fn (us := [.ref o]) (vs := [.ref o]) F (hr.mono hk) bd d C8.pass0 I1 (.cons rfl .nil) q) (fun v s2 y => ?_) fun _ _ y => y)
    obtain ⟨x2, H2, I2, rx2, b, rfl, q2⟩ := y
    obtain rfl : v = Value.bool b := rx2
    exact ⟨H2, I2, q2⟩
  · obtain ⟨f, fd, ps, ds, cl, hm, F, bd, d⟩ := c2.ex
    obtain ⟨mA, O, _, _, _, _⟩ := ins_get I1.hok e
    obtain ⟨od, J, _⟩ := O.look
    refine PySem.W.truthy_K F0 I1.ok.mod.kin J hm.at_ hm.fn (wpAny_mono (run_fn (us := [.ref o]) (vs := [.ref o]) F (hr.mono hk2) bd d C8.pass0 I1 (.cons rfl .nil) q) (fun v s2 y => ?_) fun _ _ y => y)
    obtain ⟨x2, H2, I2, rx2, b, rfl, q2⟩ := y
    obtain rfl : v = Value.bool b := rx2
    exact ⟨H2, I2, q2⟩
end
end L2
namespace Sl
open PySem L2 C8 StX
section
variable {σ : L2.St} {H : Hp} {QB : Bool → Hp → Prop} {C D : Addr} {sp sp2 : Sp} {dvs dvs2 : List V} {ta : TE}
def rTruO2 (C D : Addr) (sp sp2 : Sp) (dvs dvs2 : List V) (x : V) (H1 : Hp) (Q : Bool → Hp → Prop) : Prop := ∃ a dx fs, x = .ref a ∧ ((H1 a = some (.ins C dx fs) ∧ sp ([.ref a] ++ dvs) H1 (fun v H2 => ∃ b, v = .bl b ∧ Q b H2) C8.E0) ∨ (H1 a = some (.ins D dx fs) ∧ sp2 ([.ref a] ++ dvs2) H1 (fun v H2 => ∃ b, v = .bl b ∧ Q b H2) C8.E0))
theorem rd_truO20 (h : ta σ H fun x H1 => rTruO2 C D sp sp2 dvs dvs2 x H1 QB) : tTruO2 C D sp sp2 dvs dvs2 ta σ H QB := h
theorem rd_truO2a {a dx : Addr} {fs : List (Str × V)} (e : H a = some (.ins C dx fs)) (h : sp ([.ref a] ++ dvs) H (fun v H2 => ∃ b, v = .bl b ∧ QB b H2) C8.E0) : rTruO2 C D sp sp2 dvs dvs2 (.ref a) H QB := ⟨a, dx, fs, rfl, .inl ⟨e, h⟩⟩
theorem rd_truO2b {a dx : Addr} {fs : List (Str × V)} (e : H a = some (.ins D dx fs)) (h : sp2 ([.ref a] ++ dvs2) H (fun v H2 => ∃ b, v = .bl b ∧ QB b H2) C8.E0) : rTruO2 C D sp sp2 dvs dvs2 (.ref a) H QB := ⟨a, dx, fs, rfl, .inr ⟨e, h⟩⟩
end
end Sl
/-! ### walks over the keys of a dict as a statement; a list turned round -/
namespace Sl
open PySem L2 C8 StX
section
variable {σ : L2.St} {H : Hp} {g : TG} {tb : TS} {te : TE} {nx bk ct : L2.St → Hp → Prop} {rt : VK} {K : PySem.W.Frag} {Q : VK} {D : Ends} {t : TS}
theorem forR_keys {d : Addr} {o : Obj} {kvs : List (Key × V)} (Pv : Nat → L2.St → Hp → Prop) (hl : ∀ i σ H, Pv i σ H → H d = some (.frz o (.dK kvs))) (h0 : Pv 0 σ H) (hs : ∀ i k z σ H, kvs[i]? = some (k, z) → Pv i σ H → g (kV k) σ H fun σ2 H2 => tb ⟨Pv (i + 1), rt, nx, Pv (i + 1)⟩ σ2 H2) (hd : ∀ σ H, Pv kvs.length σ H → nx σ H) :
    ForR (Itk d o kvs) g tb ⟨nx, rt, bk, ct⟩ σ H := forR_gen _ kvs.length Pv h0 (fun i σ H hi p => ⟨hl i σ H p, hi⟩) (fun σ H p => ⟨hl _ σ H p, Nat.le_refl _⟩)
      (fun i σ H x H' hi p ⟨e1, k, v, e2, e3⟩ => by subst e1; subst e3; exact hs i k v σ _ e2 p) hd
theorem rd_lockS {d : Addr} {u : HO} (e : H d = some u) (m : Mut (some u)) (h : ∀ od HL, HL = upd H d (.frz od u) → HL d = some (.frz od u) → t ⟨fun σ' H' => H' d = some (.frz od u) ∧ nx σ' (upd H' d u), fun v H' => H' d = some (.frz od u) ∧ rt v (upd H' d u), fun σ' H' => H' d = some (.frz od u) ∧ bk σ' (upd H' d u), fun σ' H' => H' d = some (.frz od u) ∧ ct σ' (upd H' d u)⟩ σ HL) : tLock t ⟨nx, rt, bk, ct⟩ σ H :=
  ⟨d, u, e, m, fun od => h od _ rfl upd_same⟩
def rRevL (K : PySem.W.Frag) (x : V) (H : Hp) (Q : VK) : Prop := ∃ a xs, x = .ref a ∧ SqL K H a xs ∧ ∀ p, H p = none → Q (.ref p) (upd H p (.lst xs.reverse))
theorem rd_revL0 (h : te σ H fun x H1 => rRevL K x H1 Q) : tRevL K te σ H Q := h
theorem rd_revL {a : Addr} {xs : List V} (e : SqL K H a xs) (h : ∀ p H', H p = none → Same H H' → H' p = some (.lst xs.reverse) → Q (.ref p) H') : rRevL K (.ref a) H Q :=
  ⟨a, xs, rfl, e, fun p hp => h p _ hp (Same.new (Same.refl H) hp) upd_same⟩
end
end Sl
set_option Elab.async false
set_option linter.all false
set_option maxRecDepth 100000
set_option maxHeartbeats 4000000
set_option exponentiation.threshold 9000
namespace LamK
open PySem PySem.Spec PyProof.Rows L2 NdefX LamX
/-- a lambda: its words, the cells that it captured, its code object -/
structure LF where
  qual : Str
  params : Arguments
  body : Expr
  scope : Scope
  cl : List (Str × Addr)
  c : Addr
abbrev LF.obj (F : LF) (pm ctv : Value) : Obj := PySem.W.kla_obj "<lambda>" F.qual F.params F.body F.scope F.cl pm F.c ctv
/-- the object at f is the lambda F -/
def FnL (f : Addr) (F : LF) : HO := .ext fun h => ∃ (sl : Array (Option Value)) (pm ctv : Value), h.get? f = some ({ F.obj pm ctv with slots := sl } : Obj)
theorem fnL_ne {f : Addr} {F : LF} (ps : Array Value) : FnL f F ≠ .tbl ps := fun z => by
  unfold FnL at z
  cases z
theorem fnL_at {P : Program} {w : World} {H : Hp} {h : Heap} {f : Addr} {F : LF} (hok : HOk P w H h) (e : H f = some (FnL f F)) : ∃ (sl : Array (Option Value)) (pm ctv : Value), h.get? f = some ({ F.obj pm ctv with slots := sl } : Obj) := by
  obtain ⟨z, _, _⟩ := hok f _ e
  exact z
section
variable {X : Cx} {pins : List (Addr × Obj)} {σ : L2.St} {H : Hp} {s : Shared}
theorem inv_fnL {F : LF} {o : Obj} {t' : Nat} {pm ctv : Value} (I : Inv X pins σ H s) (ho : o = F.obj pm ctv) :
    Inv X pins σ (upd H s.heap.objs.size (FnL s.heap.objs.size F)) { s with heap := s.heap.push o, toks := t' } := by
  subst ho
  refine I.laid (a := s.heap.objs.size) (fun b u e => Heap.get?_push_of_some _ e) (Nat.le_refl _) ?_
  have e : (s.heap.push (F.obj pm ctv)).get? s.heap.objs.size = some (F.obj pm ctv) := Heap.get?_push_size _ rfl
  exact ⟨⟨_, pm, ctv, e⟩, ⟨_, e⟩, fun h1 h2 ⟨sl, p, t, z⟩ st => ⟨sl, p, t, st _ z⟩⟩
/-- the lambda's object is made: its code object is new, or found in the table -/
theorem lamL_make {T : List (Addr × Str)} {c P : Addr} {params : Arguments} {body : Expr} {scope : Scope} {pos : Pos} {E : Value → Shared → Prop} {Q : Value → Shared → Prop} (I : Inv X pins σ H s) (TB : TabB X.base X.mg c P) (hcode : X.env.code = .ref c)
    (hm : (P, X.env.qual ++ "<lambda>") ∈ T) (hu : ∀ p ∈ T, p.1 = P → p.2 = X.env.qual ++ "<lambda>") (hT : Tabs T H) (hdef : defaultsOf params X.env = ([], [])) (hfree : ∀ y ∈ scope.names, y.2 = .free → ∃ c, X.env.cells.lookup y.1 = some c)
    (h : ∀ (f c' : Addr) (H1 : Hp) (s' : Shared), Inv X pins σ H1 s' → ExtN H H1 → (∀ b, H1 b = Option.none → H b = Option.none) → Tabs T H1 → H f = none → H1 f = some (FnL f ⟨X.env.qual ++ "<lambda>", params, body, scope, cloFrom X.env.cells scope.names [], c'⟩) → H1 c' = some (CodeO c' (X.env.qual ++ "<lambda>")) → Q (.ref f) s') :
    wpAny (model X.prog X.w) X.A (eval (.Lambda params body scope pos) X.env) Q E s := by
  obtain ⟨ps, hP, ht, ha⟩ := hT _ hm
  refine PySem.W.kla_eval hdef ?_
  have bP : s.heap.BuiltinsAt X.mg P := TB.bm.keeps I.bk
  have hP' : s.heap.get? P = some { cls := .none, data := .fields ps } := I.hok P _ hP
  cases hc : codeAmong pos ps.toList with
  | none =>
    refine PySem.W.kla_makeFunction (mg := X.mg) (c := c) (P := P) (ps := ps) (closure_ok hfree) I.ok.glob (I.mod.glob.keeps I.bk) hcode (TB.code.keeps I.bk) hP' ht hc TB.gP bP fun c' ctv h' tk hx hge hlt hrec htb => ?_
    obtain ⟨c2, oc, vs, t, e2, hoc, hd, hv⟩ := hrec
    cases e2
    have nC : H c' = none := I.hok.fresh hge
    have I1 := inv_table (t' := tk) (more := #[rawInt pos.line, rawInt pos.col, .ref c']) (h' := h') I hP (fun b o hb e => hx b o hb e) htb hge ⟨oc, vs, t, hoc, hd, hv⟩
    have hE : ExtN H (upd (upd H P (.tbl (ps ++ #[rawInt pos.line, rawInt pos.col, .ref c']))) c' (CodeO c' (X.env.qual ++ "<lambda>"))) := fun b o e n => by
      rw [upd_ne (ne_of_none e nC), upd_ne (fun z => n ps (Option.some.inj (e.symm.trans (by rw [z]; exact hP))))]
      exact e
    have eL : (ps ++ #[rawInt pos.line, rawInt pos.col, .ref c']).toList = ps.toList ++ [rawInt pos.line, rawInt pos.col, .ref c'] := by simp
    have T1 : Tabs T (upd (upd H P (.tbl (ps ++ #[rawInt pos.line, rawInt pos.col, .ref c']))) c' (CodeO c' (X.env.qual ++ "<lambda>"))) := fun p hp => by
      by_cases hb : p.1 = P
      · rw [hu p hp hb, hb]
        refine ⟨_, by rw [upd_ne (ne_of_none hP nC), upd_same], by rw [eL]; exact PySem.TriplesOk_snoc _ _ _ _ ht, fun p' cv hcv => ?_⟩
        rw [eL] at hcv
        rcases among_app _ ht hcv with z | z
        · obtain ⟨c0, e1, e2⟩ := ha p' cv z
          exact ⟨c0, e1, hE _ _ e2 codeO_ne⟩
        · exact ⟨c', z, upd_same⟩
      · obtain ⟨ps', a1, a2, a3⟩ := hT p hp
        refine ⟨ps', by rw [upd_ne (ne_of_none a1 nC), upd_ne hb]; exact a1, a2, fun p' cv hcv => ?_⟩
        obtain ⟨c0, e1, e2⟩ := a3 p' cv hcv
        exact ⟨c0, e1, hE _ _ e2 codeO_ne⟩
    have nF := I1.hok.fresh (Nat.le_refl _)
    have I2 := inv_fnL (F := ⟨X.env.qual ++ "<lambda>", params, body, scope, cloFrom X.env.cells scope.names [], c'⟩) (t' := tk) (pm := (X.mg "__name__").getD .none) (ctv := ctv) I1 rfl
    refine h h'.objs.size c' _ _ I2 (fun b o e n => ?_) (fun b e => upd_none (upd_none (upd_none e))) (T1.ext fun b o e => ?_) (I.hok.fresh (Nat.le_trans hge (Nat.le_of_lt hlt))) upd_same ?_
    · have e1 := hE b o e n
      exact (upd_ne (ne_of_none e1 nF)).trans e1
    · exact (upd_ne (ne_of_none e nF)).trans e
    · exact (upd_ne (Nat.ne_of_lt hlt)).trans upd_same
  | some cv =>
    obtain ⟨c', e, hco⟩ := ha pos cv hc
    subst e
    refine PySem.W.kla_makeFunctionHit (mg := X.mg) (c := c) (P := P) (ps := ps) (closure_ok hfree) I.ok.glob (I.mod.glob.keeps I.bk) hcode (TB.code.keeps I.bk) hP' ht hc bP fun ctv h' tk hx hsz => ?_
    have I1 : Inv X pins σ H { s with heap := h', toks := tk } := I.kept hx
    have nF : H h'.objs.size = none := I1.hok.fresh (Nat.le_refl _)
    have I2 := inv_fnL (F := ⟨X.env.qual ++ "<lambda>", params, body, scope, cloFrom X.env.cells scope.names [], c'⟩) (t' := tk) (pm := (X.mg "__name__").getD .none) (ctv := ctv) I1 rfl
    refine h h'.objs.size c' _ _ I2 (fun b o e n => ?_) (fun b e => upd_none e) (hT.ext fun b o e => ?_) nF upd_same ?_
    · exact (upd_ne (ne_of_none e nF)).trans e
    · exact (upd_ne (ne_of_none e nF)).trans e
    · exact (upd_ne (ne_of_none hco nF)).trans hco
end
/-- the reading of a lambda: a new function -/
def tLamV (T : List (Addr × Str)) (mk : Addr → LF) : TE := fun σ H Q => Tabs T H ∧ ∀ (f c' : Addr) (H1 : Hp), ExtN H H1 → (∀ b, H1 b = Option.none → H b = Option.none) → Tabs T H1 → H f = none → H1 f = some (FnL f (mk c')) → H1 c' = some (CodeO c' (mk c').qual) → Q (.ref f) H1
theorem pe_lamV {X : Cx} {T : List (Addr × Str)} {c P : Addr} {params : Arguments} {body : Expr} {scope : Scope} {pos : Pos} (TB : TabB X.base X.mg c P) (hcode : X.env.code = .ref c) (hm : (P, X.env.qual ++ "<lambda>") ∈ T) (hu : ∀ p ∈ T, p.1 = P → p.2 = X.env.qual ++ "<lambda>")
    (hdef : defaultsOf params X.env = ([], [])) (hfree : ∀ y ∈ scope.names, y.2 = .free → X.env.scope.names.lookup y.1 = some .cell ∨ X.env.scope.names.lookup y.1 = some .free) :
    PE X (.Lambda params body scope pos) (tLamV T fun c' => ⟨X.env.qual ++ "<lambda>", params, body, scope, cloFrom X.env.cells scope.names [], c'⟩) := by
  refine ⟨fun pins s σ H Q I h => ?_⟩
  obtain ⟨hT, h⟩ := h
  have hfr : ∀ y ∈ scope.names, y.2 = .free → ∃ c, X.env.cells.lookup y.1 = some c := fun y hy e => (hfree y hy e).elim (fun z => I.ok.has _ (.inl z)) fun z => I.ok.has _ (.inr z)
  exact lamL_make I TB hcode hm hu hT hdef hfr fun f c' H1 s' I1 eN nn T1 f0 f1 c1 => ⟨.ref f, H1, I1, rfl, h f c' H1 eN nn T1 f0 f1 c1⟩
/-! ### sorted(xs, key=lambda x: (x[0], x[1])), the items lists of three ints -/
/-- what must be seen of the lambda -/
structure KeyF (F : LF) (x : Str) : Prop where
  body : ∃ p1 p2 p3 p4 p5 j1 j2 j3 p6 p7, F.body = .Tuple [.Subscript (.Name x p1) (.Constant (.int 0) j1 p2) p3, .Subscript (.Name x p4) (.Constant (.int 1) j2 p5) p6] j3 p7
  kind : F.scope.kind = .function
  co : F.scope.isCoroutine = false
  gen : F.scope.isGenerator = false
  loc : F.scope.names.lookup x = some .local
  nocell : ∀ y ∈ F.scope.names, y.2 ≠ .cell
  bind : ∀ (pm ctv u : Value), bindArgs (PySem.W.kla_fn "<lambda>" F.qual F.params F.body F.scope F.cl pm (.ref F.c) ctv) ⟨[u], []⟩ = pure [(x, u)]
  dbg : (x == ("__debug__" : Str)) = false
section
variable {prog : Program} {w : World} {A : Around} {s : Shared}
theorem key_call {F : LF} {x : Str} {f r : Addr} {sl : Array (Option Value)} {pm ctv : Value} {i j k : Int} {t1 t2 t3 : Tok} {n : Nat} {E : Value → Shared → Prop} (KF : KeyF F x) (hroom : A.depth < recursionLimit) (lim : s.heap.NoLimit)
    (ho : s.heap.get? f = some ({ F.obj pm ctv with slots := sl } : Obj)) (hcd : s.heap.CodeRec (.ref F.c) F.qual)
    (hr : s.heap.get? r = some { cls := .type "list", data := .seq #[.int i t1, .int j t2, .int k t3] n }) :
    wpAny (model prog w) A (call (.ref f) [.ref r]) (PySem.W.KeyPure (.tuple [.int i, .int j]) s) E s := by
  refine wpAny_call ?_
  refine PySem.W.kla_callFunE hroom ho rfl KF.co KF.gen rfl hcd ?_
  rw [KF.bind pm ctv (.ref r)]
  refine wpAny_pure (wpAny_newFunctionEnv KF.nocell (fun y hy => by rw [List.mem_singleton.mp hy]; exact KF.loc) (fun h₁ hns hsb => ⟨lim.fresh _ hsb, ?_⟩) KF.kind)
  have kp : ∀ b o, s.heap.get? b = some o → h₁.get? b = some o := fun b o e => hsb.extBut b o (Nat.ne_of_lt (Heap.lt_size e)) (Heap.get?_push_of_some _ e)
  have hr1 := kp _ _ hr
  refine PySem.W.kla_codeExpr ?_
  obtain ⟨p1, p2, p3, p4, p5, j1, j2, j3, p6, p7, eb⟩ := KF.body
  have eb : F.body = _ := eb
  show wpAny _ _ (eval F.body _) _ _ _
  rw [eb]
  refine wpAny_Tuple_spliced ?_
  have name : ∀ {A' : Around} {E' : Value → Shared → Prop} {Q' : Value → Shared → Prop} {tk : Nat} {pp : Pos}, Q' (.ref r) { s with heap := h₁, toks := tk } →
      wpAny (model prog w) A' (eval (.Name x pp) (PySem.W.envX F.qual F.scope s.heap.objs.size f (.ref F.c) F.cl)) Q' E' { s with heap := h₁, toks := tk } := fun hq =>
    wpAny_Name (wpAny_loadName_local KF.kind KF.loc hns (by simp) hq) KF.dbg
  have item : ∀ {A' : Around} {E' : Value → Shared → Prop} {Q' : Value → Shared → Prop} {tk : Nat} {pp pq pr : Pos} {jj : Nat} {m : Int} {v : Value}, 0 ≤ m → m < 2 ^ 63 → (#[.int i t1, .int j t2, .int k t3] : Array Value)[m.toNat]? = some v →
      (∀ tk', Q' v { s with heap := h₁, toks := tk' }) → wpAny (model prog w) A' (eval (.Subscript (.Name x pp) (.Constant (.int m) jj pq) pr) (PySem.W.envX F.qual F.scope s.heap.objs.size f (.ref F.c) F.cl)) Q' E' { s with heap := h₁, toks := tk } := fun h0 h1 hx hq =>
    Subscript_ (name (wpAny_Constant_int (item_listR (items := #[.int i t1, .int j t2, .int k t3]) ⟨_, hr1, rfl, n, rfl⟩ h0 h1 hx (hq _))))
  refine Calls.spliced_cons (item (by decide) (by decide) rfl fun tk1 => ?_)
  refine Calls.spliced_cons (item (by decide) (by decide) rfl fun tk2 => ?_)
  refine Calls.spliced_nil ⟨by show 2 ≤ sizeLine; decide, ?_⟩
  refine ⟨_, _, rfl, fun b o e => Heap.get?_push_of_some _ (kp b o e), ?_⟩
  refine .tuple (Heap.get?_push_size _ rfl) rfl rfl ?_
  exact .cons (.int _ _) (.cons (.int _ _) .nil)
end
/-- the order of the keys -/
abbrev leK (x y : Int × Int × Int) : Prop := x.1 < y.1 ∨ (x.1 = y.1 ∧ x.2.1 ≤ y.2.1)
def rSortL : List V → List V → Hp → VK → Prop := fun vs zs H Q => ∃ (a f : Addr) (F : LF) (x : Str) (rs : List Addr) (G : Addr → Int × Int × Int), vs = [.ref a] ∧ zs = [.ref f] ∧ KeyF F x ∧ H f = some (FnL f F) ∧ H F.c = some (CodeO F.c F.qual) ∧
  H a = some (.lst (rs.map V.ref)) ∧ (∀ r ∈ rs, H r = some (.lst [.int (G r).1, .int (G r).2.1, .int (G r).2.2])) ∧ rs.length ≤ 100000 ∧
  ∀ (p : Addr) (rs' : List Addr), rs'.Perm rs → rs'.Pairwise (fun x y => leK (G x) (G y)) → H p = none → Q (.ref p) (upd H p (.lst (rs'.map V.ref)))
theorem vals_refsB : ∀ {rs : List Addr} {us : List Value}, Vals (rs.map V.ref) us → us = rs.map Value.ref
  | [], _, .nil => rfl
  | _ :: rs, _, .cons h t => by
    have h : _ = Value.ref _ := h
    rw [h, vals_refsB t]
    rfl
theorem vals_refsF : ∀ bs : List Addr, Vals (bs.map V.ref) (bs.map Value.ref)
  | [] => .nil
  | _ :: r => .cons rfl (vals_refsF r)
theorem each_refs (rs : List Addr) : PySem.W.EachIs (fun (v : Value) (r : Addr) => v = .ref r) (rs.map Value.ref) rs := by
  induction rs with
  | nil => exact .nil
  | cons r rs ih => exact .cons rfl ih
theorem each_refs_eq : ∀ {vs : List Value} {rs : List Addr}, PySem.W.EachIs (fun (v : Value) (r : Addr) => v = .ref r) vs rs → vs = rs.map Value.ref
  | _, _, .nil => rfl
  | _, _, .cons h t => by rw [h, each_refs_eq t]; rfl
theorem cr_sortL {X : Cx} {k : Nat} (hr : Room (k + 1) X.A) : CallRK X (.builtin "sorted") [Str.ofString "key"] rSortL := by
  intro pins s σ H vs zs us ws Q I r rz h
  obtain ⟨a, f, F, x, rs, G, rfl, rfl, KF, hf, hc, ha, hrs, hlen, q⟩ := h
  obtain rfl := Vals.ref1 r
  obtain rfl := Vals.ref1 rz
  obtain ⟨hz, its, n, rv, hob⟩ := I.hok a _ ha
  have eits := vals_refsB rv
  subst eits
  obtain ⟨sl, pm, ctv, hfo⟩ := fnL_at I.hok hf
  have hcr := codeO_at I.hok hc
  have lim := I.nolimit
  have un := hr.units0
  have hl : s.heap.IsList a (rs.map Value.ref).toArray := ⟨_, hob, rfl, n, rfl⟩
  refine PySem.W.sorted_key_data (b := false) (β := Addr) (R := fun (v : Value) (r : Addr) => v = .ref r) (f := .ref f) (fun r => .tuple [.int (G r).1, .int (G r).2.1]) hl (each_refs rs) (PySem.W.AllAlike.of fun _ _ => by simp [PySem.W.alike, PySem.W.alikeAll]) (PySem.W.Sortable.tuples fun _ => ⟨_, _, rfl⟩)
    (by rw [sizeLine_eq]; omega) (fun r _ => ?_) (ksk_s1 _ _) (fun _ => ksk_l1 _ _) (fun _ => ksk_t1 _ _) (fun v r hv hm h tk kp => ?_) fun out c h' tk kp fr hD ho eo => ?_
  · have hd : (PyData.tuple [.int (G r).1, .int (G r).2.1]).depth = 1 := by simp [PyData.depth, PyData.depthAll]
    have := hr.units
    omega
  · subst hv
    obtain ⟨_, its2, n2, rv2, hr2⟩ := I.hok r _ (hrs r hm)
    cases rv2 with
    | cons h1 t1 =>
      cases t1 with
      | cons h2 t2 =>
        cases t2 with
        | cons h3 t3 =>
          cases t3
          obtain ⟨k1, rfl⟩ := h1
          obtain ⟨k2, rfl⟩ := h2
          obtain ⟨k3, rfl⟩ := h3
          obtain ⟨c2, oc, vs2, tq, g1, g2, g3, g4⟩ := hcr
          exact key_call (s := { s with heap := h, toks := tk }) KF hr.depth (lim.keeps kp) (kp _ _ hfo) ⟨c2, oc, vs2, tq, g1, kp _ _ g2, g3, g4⟩ (kp _ _ hr2)
  · rw [PySem.W.dataLe_ii (β := Addr) (fun r => (G r).1) (fun r => (G r).2.1)] at eo
    have e2 := each_refs_eq eo
    subst e2
    have hp : H (s.heap.objs.size + 1) = none := I.hok.fresh (Nat.le_succ _)
    generalize hrs' : rs.mergeSort (fun p q => decide ((G p).1 < (G q).1 ∨ (G p).1 = (G q).1 ∧ (G p).2.1 ≤ (G q).2.1)) = rs' at *
    have pm2 : rs'.Perm rs := by rw [← hrs']; exact List.mergeSort_perm _ _
    have pw : rs'.Pairwise (fun x y => leK (G x) (G y)) := by
      rw [← hrs']
      refine (List.pairwise_mergeSort (fun a b c h1 h2 => ?_) (fun a b => ?_) rs).imp fun h => of_decide_eq_true h
      · rw [decide_eq_true_iff] at h1 h2 ⊢
        omega
      · rw [Bool.or_eq_true, decide_eq_true_iff, decide_eq_true_iff]
        omega
    refine ⟨.ref (s.heap.objs.size + 1), upd H (s.heap.objs.size + 1) (.lst (rs'.map V.ref)), I.laid (t' := tk) (h' := h') kp (Nat.le_succ _) ⟨?_, rs'.map Value.ref, c, ?_, hD⟩, rfl, q _ rs' pm2 pw hp⟩
    · rw [List.length_map, pm2.length_eq, sizeLine_eq]
      omega
    · exact vals_refsF rs'
end LamK
set_option Elab.async false
set_option linter.all false
set_option maxRecDepth 100000
set_option maxHeartbeats 4000000
set_option exponentiation.threshold 9000
namespace BoolX
open PySem
open PySem.Sem (wp)
theorem bool_new_own {prog : Program} {w : World} (v : Value) : MeetsIn prog w (Builtin.«bool.__new__» ⟨[.type "bool", v], []⟩) (fun A R s => ∀ tk, wpAny (model prog w) A.in1 (truthy v) (fun b s1 => R (.ok (.ret (.bool b))) s1) (fun e s' => R (.error e) s') { s with toks := tk }) :=
  MeetsIn.of_wp fun A R s hs => by
    obtain ⟨hp, g, d, tk, os⟩ := s
    have f1 := F.conv_sub_bool
    repeat (any_goals (first | assumption | (with_reducible refine wpAny_bind (wpAny_mono (hs _) (fun b s1 hb => ?_) fun _ _ e => e)) | wp_step))
    all_goals first | exact ⟨_, rfl, hb⟩ | skip
end BoolX
namespace L2
open PySem PySem.Spec PyProof.Rows LamX
section
variable {X : Cx} {CX : CXT} {k j : Nat} {f C : Addr} {fd : FuncData} {ps : List Str} {sp : Sp} {dvs : List V} {ds : List Value} {E : XK}
theorem run_fn2 {pins : List (Addr × Obj)} {σ : St} {H : Hp} {s : Shared} {Q : VK} {us : List Value} {vs : List V} (F : FnOk X.prog X.w X.K X.mg X.base CX k f fd ps sp) (hr : Room (k + 2) X.A) (hb : Binds X.K fd ps ds) (hd : Vals dvs ds) (hx : Passes CX X E)
    (I : Inv X pins σ H s) (r : Vals vs us) (h : sp (vs ++ dvs) H Q E) : wpAny (model X.prog X.w) X.A.in1.in1 (call (.ref f) us) (EP X pins σ Q) X.xe s := by
  have r2 : Vals (vs ++ dvs) (us ++ ds) := r.append hd
  have hl : (us ++ ds).length = ps.length := by rw [← r2.length]; exact F.len _ _ _ _ h
  refine wpAny_call (codeAny_mono (F.run X.A.in1.in1 X.stack s H ⟨us, []⟩ (us ++ ds) (vs ++ dvs) Q E hr.in1.in1 I.env0.in1.in1 (hb s us I.kIn hl) r2 h) fun r s' hq => ?_)
  cases r with
  | error e => exact hx pins σ H s e s' I hq
  | ok fl =>
    cases fl with
    | ret u => exact I.after hq
    | next => exact False.elim hq
    | brk => exact False.elim hq
    | cont => exact False.elim hq
/-- bool(o), o of an own class with its own __bool__ -/
def rBoolO (C : Addr) (sp : Sp) (dvs : List V) : List V → Hp → VK → Prop := fun vs H Q => ∃ o dx fs, vs = [.ref o] ∧ H o = some (.ins C dx fs) ∧ sp ([.ref o] ++ dvs) H (fun v H' => ∃ b, v = .bl b ∧ Q (.bl b) H') C8.E0
theorem cr_boolO (c : C8.Met X.prog X.w X.K X.mg X.base k C "__bool__" sp dvs) (hr : Room j X.A) (hk : k + 2 ≤ j) : CallR X (.type "bool") (rBoolO C sp dvs) := by
  obtain ⟨f, fd, ps, ds, cl, hm, Fo, bd, d⟩ := c.ex
  intro pins s σ H vs us Q I r h
  obtain ⟨o, dx, fs, rfl, e, q⟩ := h
  obtain rfl := Vals.ref1 r
  obtain ⟨mA, O, _, _, _, _⟩ := ins_get I.hok e
  obtain ⟨od, J, _⟩ := O.look
  refine callType_newIn F.called_bool F.newNe_bool (F.typeCall_bool_1 _) (F.newCall_bool_1 _) (fun obj => F.args_object_init_2 obj _) F.entry_bool_new (BoolX.bool_new_own (.ref o)) fun tk => ?_
  have I1 : Inv X pins σ H { s with toks := tk } := I.tok _
  obtain ⟨m, F0⟩ := I1.fr
  refine PySem.W.truthy_K F0 I1.ok.mod.kin J hm.at_ hm.fn (wpAny_mono (run_fn2 (us := [.ref o]) (vs := [.ref o]) Fo (hr.mono hk) bd d C8.pass0 I1 (.cons rfl .nil) q) (fun v s2 y => ?_) fun _ _ y => y)
  obtain ⟨x2, H2, I2, rx2, b, rfl, q2⟩ := y
  obtain rfl : v = Value.bool b := rx2
  exact ⟨by first | rfl | trivial | (unfold Shared.TypeIs; rfl) | simp [Shared.TypeIs], ⟨.bl b, H2, I2, rfl, q2⟩⟩
/-- xs[i] of a list, for xs[i] op= e -/
def rGetL : V → V → Hp → VK → Prop := fun x y H Q => ∃ (p : Addr) (xs : List V) (i : Nat) (v : V), x = .ref p ∧ y = .int (i : Int) ∧ H p = some (.lst xs) ∧ i < 1000000 ∧ xs[i]? = some v ∧ Q v H
theorem get_listL : PGet X rGetL := by
  intro pins s σ H x y v u Q I rx ry h
  obtain ⟨p, xs, i, z, rfl, rfl, hp, hi, he, q⟩ := h
  cases rx
  obtain ⟨t, rfl⟩ := ry
  obtain ⟨its, n, r, ho, hz⟩ := I.lst hp
  obtain ⟨w, ew, rw'⟩ := r.get he
  exact wpAny_getItem_list (items := its.toArray) (x := w) ⟨_, ho, rfl, n, rfl⟩ (by omega) (by omega) (by simpa using ew) ⟨z, H, I, rw', q⟩
/-- one of two readings -/
theorem pe_alt {e : Expr} {t u : TE} (h1 : PE X e t) (h2 : PE X e u) : PE X e (fun σ H Q => t σ H Q ∨ u σ H Q) := ⟨fun pins s σ H Q I h => h.elim (h1.run pins s σ H Q I) (h2.run pins s σ H Q I)⟩
theorem cr_alt {f : Value} {r q : List V → Hp → VK → Prop} (h1 : CallR X f r) (h2 : CallR X f q) : CallR X f (fun vs H Q => r vs H Q ∨ q vs H Q) := fun pins s σ H vs us Q I rv h => h.elim (h1 pins s σ H vs us Q I rv) (h2 pins s σ H vs us Q I rv)
end
/-- a lambda's name -/
abbrev qL (x : Str) : Str := x ++ ".<locals>." ++ "<lambda>"
section
variable {P : Program} {w : World} {K : PySem.W.Frag} {mg : Str → Option Value} {base : Heap}
open C8
/-- a def that makes lambdas: its code object is known -/
theorem fnL0 {x qual : Str} {st : Stmt} {f c : Addr} {fd : FuncData} {N ps : List Str} {k : Nat} {sp : Sp} (F : C8.Fun K x qual st f fd) (hc : fd.code = .ref c) (S : FnScope N ps (C8.fnScope st)) (len : ∀ vs H Q E, sp vs H Q E → vs.length = ps.length)
    (hbody : ∀ (A : Around) (outer : List Env) (s : Shared) (H : Hp) (vs : List V) (Q : VK) (E : XK), Room k (A.deeper (envOfC qual (C8.fnScope st) s.heap.objs.size f (.ref c))) → sp vs H Q E →
      ∃ t, PSs (cxOf CX0 P w K mg base N qual (C8.fnScope st) f (.ref c) A outer s H E).nox (C8.fnBody st) t ∧ t { nx := fun _ H' => Q .non H', rt := Q } (start N vs) H) : FnOk P w K mg base CX0 (k + 1) f fd ps sp := by
  obtain ⟨oc, od, dV, kV, doc, pm, an, cdv, ct, osl, rfl, lk, hcd⟩ := F.ex
  have e : cdv = .ref c := hc
  subst e
  refine fn_of lk hcd S len fun A outer s H vs Q E hr hsp => ?_
  obtain ⟨t, h, q⟩ := hbody A outer s H vs Q E hr hsp
  exact ⟨t, h.nox, q⟩
theorem calL0 {x : Str} {st : Stmt} {f c : Addr} {fd : FuncData} {N ps : List Str} {ds : List Value} {dvs : List V} {k : Nat} {sp : Sp} (F : C8.Def K mg x st f fd) (hc : fd.code = .ref c) (b : Binds K fd ps ds) (d : Vals dvs ds) (S : FnScope N ps (C8.fnScope st)) (len : ∀ vs H Q E, sp vs H Q E → vs.length = ps.length)
    (hbody : ∀ (A : Around) (outer : List Env) (s : Shared) (H : Hp) (vs : List V) (Q : VK) (E : XK), Room k (A.deeper (envOfC x (C8.fnScope st) s.heap.objs.size f (.ref c))) → sp vs H Q E →
      ∃ t, PSs (cxOf CX0 P w K mg base N x (C8.fnScope st) f (.ref c) A outer s H E).nox (C8.fnBody st) t ∧ t { nx := fun _ H' => Q .non H', rt := Q } (start N vs) H) : Cal P w K mg base (k + 1) x sp dvs :=
  ⟨f, fd, ps, ds, fnL0 F.fn hc S len hbody, F.mgf, F.kp, b, d⟩
end
end L2
namespace Sl
open PySem L2 C8 LamX
/-- the facts of a def that makes lambdas -/
structure TabK (K : PySem.W.Frag) (x : Str) (Lc Lp : Addr) : Prop where
  tab : PySem.W.tabIn K x = some (Lc, Lp)
  nT : K.lookup Lp = none
theorem tabk {K : PySem.W.Frag} {x : Str} {Lc Lp : Addr} (h1 : PySem.W.tabIn K x = some (Lc, Lp)) (h2 : (K.lookup Lp).isNone = true) : TabK K x Lc Lp := ⟨h1, Option.isNone_iff_eq_none.mp h2⟩
theorem tab_get {o : Option (Addr × Addr)} (h : o.isSome = true) : o = some ((o.get h).1, (o.get h).2) := (Option.some_get h).symm
theorem tcmk {K : PySem.W.Frag} {h : Heap} {mg : Str → Option Value} {x : Str} {st : Stmt} {Lc Lp : Addr} (X : K.In h) (G : h.Ns mainGlobals mg) (t : TabK K x Lc Lp) : ∀ f fd, C8.Def K mg x st f fd → fd.code = .ref Lc := fun f fd D => by
  obtain ⟨oc, od, dV, kV, doc, pm, an, cdv, ct, osl, e, lk, hcd⟩ := D.fn.ex
  exact PySem.W.law_code X G t.tab D.mgf (X _ _ lk) rfl
end Sl
namespace LamX
open PySem PySem.Spec PyProof.Rows L2
/-- walk_ofTs, the top's facts handed on -/
theorem walk_ofTT {l : PySem.W.OpenLaw} {n k : Nat} {q : Program} {loose : List Str} {XP : (Str → Option Value) → Heap → Prop} {YP : World → Heap → Prop} {d : DefRec} {K : Params → PySem.W.Frag} {CX : World → CXT} {x : Str}
    (hn : l.most = some n) (hn2 : n ≤ sizeLine) (hdf : d.params.defaults = []) (hr : Room k callerA) (hY : ∀ (w : World) (h : Heap), YP w h → (K w.params).In h)
    (F : ∀ (w : World) (mg : Str → Option Value) (fa : Addr) (h : Heap) (tb : ∀ (x : Str) (c P : Addr), ((recsOf q).find? (fun e => e.name == x)).isSome = true → PySem.W.tabIn (K w.params) x = some (c, P) → PySem.W.CodeHd h c P ∧ h.get? P = some (PySem.W.tabObj #[])), (K w.params).In h → h.Ns mainGlobals mg → mg d.name = some (.ref fa) → LawAtS l w (K w.params) (CX w) k n x mg fa h)
    (hCX : ∀ (w : World) (H : Hp) (s : Shared) (e : Value) (s' : Shared), CX w [] H s (fun _ _ _ => False) e s' → False) :
    PySem.W.WalkO q loose XP YP l.row.toRowW d [] (fun f vs => PySem.call f vs) := by
  refine Att.attach_callB hn hdf fun w s₀ s₁ mg mb fa o pm cd doc a vs ns G Y ho hd hcd hmg hobj hints hlen hbits hg => ?_
  have KX := hY w _ Y
  obtain ⟨fd, cs, sp, hT, nT, C, hb, hsp, hF⟩ := F w mg fa _ (fun x c P hs ht => by
    obtain ⟨d', hd'⟩ := Option.isSome_iff_exists.mp hs
    exact PySem.W.tab_of G.T KX hd' ht) KX G.T.g hmg
  exact law_callTs KX G.T.g G.T.b G.T.builtins G.T.nolimit hg hT nT C G.T.bmain hobj hints (Nat.le_trans hlen hn2) hr hF hb (fun H hH hS => hsp H a ns hlen hbits hH hS) fun H e s' => hCX w H s₁ e s'
end LamX
namespace Sl
open PySem L2 C8 StX LamX LamK
section
variable {σ : L2.St} {H H' : Hp} {Q : VK} {te ta tb : TE} {t tk : TA} {K : PySem.W.Frag} {QS : L2.St → Hp → Prop} {x y v : V}
theorem rd_cKw {r : List V → List V → Hp → VK → Prop} (h : t σ H fun vs H1 => tk σ H1 fun zs H2 => r vs zs H2 Q) : tCKw r t tk σ H Q := h
theorem rd_lamV {T : List (Addr × Str)} {mk : Addr → LF} (hT : Tabs T H) (h : ∀ (f c' : Addr) (H1 : Hp), ExtN H H1 → (∀ b, H1 b = Option.none → H b = Option.none) → Tabs T H1 → H f = none → H1 f = some (FnL f (mk c')) → H1 c' = some (CodeO c' (mk c').qual) → Q (.ref f) H1) : tLamV T mk σ H Q := ⟨hT, h⟩
theorem rd_gunl {n : Nat} {tg : TGs} {a : Addr} {xs : List V} (e : H a = some (.lst xs)) (l : xs.length = n) (h : tg xs σ H QS) : gUnl K n tg (.ref a) σ H QS := ⟨a, xs, rfl, SqL.of e, l, h⟩
theorem rd_getL {p : Addr} {xs : List V} {i : Nat} (e : H p = some (.lst xs)) (hi : i < 1000000) (n : xs[i]? = some v) (h : Q v H) : rGetL (.ref p) (.int (i : Int)) H Q := ⟨p, xs, i, v, rfl, rfl, e, hi, n, h⟩
theorem rd_setL {p : Addr} {xs : List V} {i : Int} {j : Nat} {QH : Hp → Prop} (e : H p = some (.lst xs)) (hj : ixN xs.length i = some j) (h : ∀ H', H' = upd H p (.lst (xs.set j v)) → H' p = some (.lst (xs.set j v)) → QH H') : rSetL (.ref p) (.int i) v H QH := ⟨p, xs, i, j, rfl, rfl, e, hj, h _ rfl upd_same⟩
theorem rd_boolO {C o dx : Addr} {fs : List (Str × V)} {sp : Sp} {dvs : List V} (e : H o = some (.ins C dx fs)) (h : sp ([.ref o] ++ dvs) H (fun v H' => ∃ b, v = .bl b ∧ Q (.bl b) H') C8.E0) : rBoolO C sp dvs [.ref o] H Q := ⟨o, dx, fs, rfl, e, h⟩
theorem rd_sortLK {a f : Addr} {F : LF} {x : Str} {rs : List Addr} {G : Addr → Int × Int × Int} (KF : KeyF F x) (hf : H f = some (FnL f F)) (hc : H F.c = some (CodeO F.c F.qual)) (ha : H a = some (.lst (rs.map V.ref))) (hr : ∀ r ∈ rs, H r = some (.lst [.int (G r).1, .int (G r).2.1, .int (G r).2.2])) (hl : rs.length ≤ 100000)
    (h : ∀ (p : Addr) (rs' : List Addr) H', rs'.Perm rs → rs'.Pairwise (fun x y => leK (G x) (G y)) → H p = none → Same H H' → H' p = some (.lst (rs'.map V.ref)) → Q (.ref p) H') : rSortL [.ref a] [.ref f] H Q :=
  ⟨a, f, F, x, rs, G, rfl, rfl, KF, hf, hc, ha, hr, hl, fun p rs' p1 p2 hp => h p rs' _ p1 p2 hp (Same.new (Same.refl H) hp) upd_same⟩
end
/-! ### heaps without their tables -/
def nT (H : Hp) : Hp := fun a => match H a with
  | some (.tbl _) => none
  | o => o
theorem nT_of {H : Hp} {a : Addr} {o : HO} (e : H a = some o) (n : ∀ ps, o ≠ .tbl ps) : nT H a = some o := by
  unfold nT
  rw [e]
  cases o <;> first | rfl | exact absurd rfl (n _)
theorem nT_in {H : Hp} {a : Addr} {o : HO} (e : nT H a = some o) : H a = some o ∧ ∀ ps, o ≠ .tbl ps := by
  unfold nT at e
  cases q : H a with
  | none => rw [q] at e; cases e
  | some u =>
    rw [q] at e
    cases u <;> first | (cases e; exact ⟨rfl, fun ps z => by cases z⟩) | cases e
theorem nT_none {H : Hp} {a : Addr} (e : H a = none) : nT H a = none := by
  unfold nT
  rw [e]
theorem extN_same {H H' : Hp} (e : ExtN H H') : Same (nT H) H' := fun a o h => e a o (nT_in h).1 (nT_in h).2
theorem same_extN {H H' : Hp} (s : Same (nT H) H') : ExtN H H' := fun a o h n => s a o (nT_of h n)
mutual
theorem Dt.nT {H : Hp} : ∀ {v : V} {d : PyData}, Dt H v d → Dt (nT H) v d
  | _, _, .non => .non
  | _, _, .bl b => .bl b
  | _, _, .int i => .int i
  | _, _, .str x => .str x
  | _, _, .lst e h => .lst (nT_of e (fun _ z => by cases z)) (DtAll.nT h)
  | _, _, .tup e h => .tup (nT_of e (fun _ z => by cases z)) (DtAll.nT h)
theorem DtAll.nT {H : Hp} : ∀ {vs : List V} {ds : List PyData}, DtAll H vs ds → DtAll (nT H) vs ds
  | _, _, .nil => .nil
  | _, _, .cons h t => .cons (Dt.nT h) (DtAll.nT t)
end
theorem SqL.nT {K : PySem.W.Frag} {H : Hp} {a : Addr} {xs : List V} (h : SqL K H a xs) : SqL K (nT H) a xs := by
  rcases h with h | h
  · left
    rcases h with h | ⟨o, h⟩
    · exact .inl (nT_of h (fun _ z => by cases z))
    · exact .inr ⟨o, nT_of h (fun _ z => by cases z)⟩
  · exact .inr h
end Sl
set_option Elab.async false
set_option linter.all false
set_option maxRecDepth 100000
set_option maxHeartbeats 2000000
namespace L2
open PySem PySem.Spec PyProof.Rows
/-! ### enumerate(t) of a tuple -/
abbrev enO (it : Addr) : Obj := { cls := .type "enumerate", data := .fields #[.none, .bool false, .ref it, rawInt 0, .none, .none] }
theorem enum_new1 {v : Value} {o ob : Obj} {a : Addr} {I : Heap → Prop} (B : Begins v o I) (hv : v = .ref a) (hc : ob.cls = .type "tuple") : Meets (Builtin.«enumerate.__new__» ⟨[.type "enumerate", v], []⟩) (fun _ R s => (s.heap.get? a = some ob ∧ I s.heap) ∧
    R (.ok (.ret (.ref (s.heap.push o).objs.size))) { s with heap := (s.heap.push o).push (enO s.heap.objs.size) }) :=
  .of_wp fun prog w A R s h => by
    obtain ⟨hp, g, d, tk, os⟩ := s
    obtain ⟨⟨hl, h1⟩, h2⟩ := h
    subst hv
    have hs := PySem.sub_enumerate
    have it0 : ∀ {A' : Around} {E Q : Value → Shared → Prop}, Q (.ref hp.objs.size) ⟨hp.push o, g, d, tk, os⟩ → wpAny (model prog w) A' (pyIter (.ref a)) Q E ⟨hp, g, d, tk, os⟩ := fun q => B.iter prog w _ _ ⟨hp, g, d, tk, os⟩ _ h1 q
    wp_walk using wpAny_loadPart' hl, it0
    refine (wpAny_stack_any fun st => (wpAny_pure ?_))
    split
    · rename_i c _ _ _ _ _
      cases (c == Value.type "enumerate") <;> (wp_walk using wpAny_loadPart' hl, it0; exact ⟨_, rfl, h2⟩)
    · wp_walk using wpAny_loadPart' hl, it0
      exact ⟨_, rfl, h2⟩
section
variable {prog : Program} {w : World} {A : Around} {E : Value → Shared → Prop} {s : Shared}
theorem call_enumT {a : Addr} {items : Array Value} {Q : Value → Shared → Prop} (ht : s.heap.IsTuple a items)
    (h : ∀ h', IsEnum h' (s.heap.objs.size + 1) s.heap.objs.size 0 .none → h'.IsTupleIter s.heap.objs.size a 0 → (∀ b o, s.heap.get? b = some o → h'.get? b = some o) → Q (.ref (s.heap.objs.size + 1)) { s with heap := h' }) :
    wpAny (model prog w) A (call (.type "enumerate") [.ref a]) Q E s := by
  obtain ⟨ob, ho, hc, hd⟩ := id ht
  have two : (s.heap.push { cls := .type "tuple_iterator", data := .fields #[.ref a, .int 0 0] }).objs.size = s.heap.objs.size + 1 := Heap.size_push ..
  have M := enum_new1 (begins_tuple a items) rfl hc
  refine callType_new PySem.F.called_enumerate (by decide) (PySem.F.typeCall_enumerate_1 _) (PySem.F.newCall_enumerate_1 _) (fun obj => PySem.F.args_object_init_2 obj _) PySem.F.entry_enumerate_new M ⟨⟨ho, ht⟩, ?_⟩
  show _ ∧ _
  rw [two]
  have he : IsEnum ((s.heap.push { cls := .type "tuple_iterator", data := .fields #[.ref a, .int 0 0] }).push (enO s.heap.objs.size)) (s.heap.objs.size + 1) s.heap.objs.size 0 .none := by
    have q := Heap.get?_push_size (s.heap.push { cls := .type "tuple_iterator", data := .fields #[.ref a, .int 0 0] }) (o := enO s.heap.objs.size) rfl
    rw [two] at q
    exact q
  exact ⟨⟨_, he, rfl⟩, h _ he ⟨_, Heap.get?_push_of_some _ (Heap.get?_push_size _ rfl), rfl, rfl⟩ fun b o x => Heap.get?_push_of_some _ (Heap.get?_push_of_some _ x)⟩
end
theorem next_enumT_end {prog : Program} {w : World} {A : Around} {E : Value → Shared → Prop} {s : Shared} {e it a : Addr} {i : Nat} {c : Int} {items : Array Value} {old : Value} {Q : Option Value → Shared → Prop} (hh : A.handled = none)
    (he : IsEnum s.heap e it c old) (hit : s.heap.IsTupleIter it a i) (ht : s.heap.IsTuple a items) (hi : items.size ≤ i)
    (hQ : ∀ h', Heap.ExtBut it s.heap h' → Q none { s with heap := h' }) : wpAny (model prog w) A (pyNext (.ref e)) Q E s := by
  have hT : s.TypeIs (.ref e) "enumerate" := ⟨_, he, rfl⟩
  unfold pyNext
  refine wpAny_bind (wpAny_attempt (wpAny_callSpecial?_slot (name := Str.ofString "__next__") hT F.slot_enumerate_next
    (wpAny_call_entry F.slot_enumerate_next hT F.entry_enumerate_next ?_ (F.args_enumerate_next_1 _))))
  show wpAny _ _ (field (.ref e) 2 >>= _) _ _ _
  refine wpAny_bind (wpAny_field he rfl (x := .ref it) rfl ?_)
  refine wpAny_bind (wpAny_nextOf_tuple_end (A := A.in1) hh hit ht (by simp [hi]) fun h' x he' hx' => ?_)
  obtain ⟨o, ho, hc⟩ := hx'
  refine wpAny_bind (wpAny_isInstance (T := "StopIteration") (b := true) ⟨o, ho, hc⟩ isSubtype_stop ?_)
  exact wpAny_pure (hQ _ he')
/-- the tuple at a as it stands at each turn, each item in a new pair -/
def IteT (K : PySem.W.Frag) (a : Addr) : It :=
  ⟨fun i H => ∃ (xs : List V) (x : V), SqT K H a xs ∧ xs[i]? = some x, fun i H v H' => ∃ T x, v = .ref T ∧ H T = none ∧ H' = upd H T (.tup [.int (i : Nat), x]) ∧ ∀ xs, SqT K H a xs → xs[i]? = some x, fun i H => ∃ xs : List V, SqT K H a xs ∧ xs.length ≤ i⟩
theorem apart_cls {h : Heap} {a b : Addr} {o u : Obj} (ha : h.get? a = some o) (hb : h.get? b = some u) (hn : o.cls ≠ u.cls) : a ≠ b := fun z => by
  rw [z, hb] at ha
  exact hn (by rw [Option.some.inj ha])
theorem turn_enumT {P : Program} {w : World} {K : PySem.W.Frag} {elts : List Expr} {kk : Nat} {tpos : Pos} (a e it : Addr) :
    Turn P w K (.Tuple elts kk tpos) (IteT K a) [e, it] e (fun i h => (∃ old, IsEnum h e it ((i : Nat) : Int) old) ∧ h.IsTupleIter it a i ∧ e ≠ it) where
  mem := by simp
  obj := fun i h st b hb => by
    obtain ⟨⟨old, he⟩, ⟨o, ho, hc, hd⟩, _⟩ := st
    rcases (show b = e ∨ b = it by simpa using hb) with rfl | rfl
    · exact ⟨_, he, fun v q => nomatch q⟩
    · exact ⟨o, ho, fun v q => by rw [hd] at q; cases q⟩
  keep := fun i h h' st k => let ⟨⟨old, he⟩, hi, hne⟩ := st; ⟨⟨old, k e (by simp) _ he⟩, hi.at fun o q => k it (by simp) o q, hne⟩
  item := by
    intro X hP hw hK hc i pins s σ H E I hf st hg
    subst hP hw hK
    obtain ⟨⟨old, he⟩, hit, hne⟩ := st
    obtain ⟨xs, x, hq, hx⟩ := hg
    obtain ⟨its, rv, p, hz⟩ := I.tuple hq
    obtain ⟨u, hu, ru⟩ := rv.get hx
    have hp : s.heap.IsTuple a its.toArray := p
    obtain ⟨op, gp, cp, _⟩ := id hp
    obtain ⟨oi, gi, ci, _⟩ := id hit
    have hai : a ≠ it := apart_cls gp gi (by rw [cp, ci]; decide)
    have hea : e ≠ a := apart_cls he gp (by rw [cp]; show Value.type "enumerate" ≠ Value.type "tuple"; decide)
    have hlt : i < its.toArray.size := by
      have := (List.getElem?_eq_some_iff.mp hu).1
      simpa using this
    have hel : e < s.heap.objs.size := Heap.lt_size he
    refine wpAny_pyNext_enum_itemD (Draws.tuple (A := X.A.in1) (I.ok.hd hc) it a hai its.toArray) he ⟨hit, hp⟩ hlt hne (by simp [hne, hea]) fun u2 h' tk hu2 ho st2 hT hsz hk => ?_
    have hu2' : u2 = u := by
      have q : its.toArray[i]? = some u := by simpa using hu
      rw [q] at hu2
      exact (Option.some.inj hu2).symm
    subst hu2'
    refine ⟨_, rfl, (wpAny_letOwnedTupleGo_enum (s := { s with heap := h', toks := tk + 1 }) ho fun h'' he' sb => ?_)⟩
    have hT2 : h''.get? s.heap.objs.size = some { cls := .type "tuple", data := .seq #[.int i tk, u2] } := (sb.2 _ (Nat.ne_of_gt hel)).trans hT
    have new : ObjOk X.prog X.w (upd H s.heap.objs.size (.tup [.int (i : Nat), x])) h'' s.heap.objs.size (.tup [.int (i : Nat), x]) :=
      ⟨(show 2 ≤ sizeLine by decide), [.int i tk, u2], .cons ⟨tk, rfl⟩ (.cons ru .nil), ⟨_, hT2, rfl, _, rfl⟩⟩
    have I1 : Inv X pins σ (upd H s.heap.objs.size (.tup [.int (i : Nat), x])) { s with heap := h'', toks := tk + 1 } :=
      I.turnedNew (ch := [e, it]) (fun b ob hb q => (sb.2 b fun z => hb (by simp [z])).trans (hk b ob (fun z => hb (by simp [z])) (fun z => hb (by simp [z])) q)) hf (Nat.le_refl _) new
    refine ⟨.ref s.heap.objs.size, _, I1, rfl, ⟨_, x, rfl, I.hok.fresh (Nat.le_refl _), rfl, fun ys hy => by rw [I.tuple_inj hy hq]; exact hx⟩, ⟨⟨u2, ?_⟩, st2.1.at fun o q => (sb.2 it hne.symm).trans q, hne⟩, fun b hb => ?_⟩
    · rw [show ((i + 1 : Nat) : Int) = (i : Int) + 1 by omega]
      exact he'
    · have hb' : b < s.heap.objs.size := by
        rcases (show b = e ∨ b = it by simpa using hb) with z | z
        · rw [z]; exact hel
        · rw [z]; exact Heap.lt_size gi
      rw [upd_ne (Nat.ne_of_lt hb')]
      exact (hf b hb).1
  done := by
    intro X hP hw hK hc i pins s σ H E I hf st hg
    subst hP hw hK
    obtain ⟨⟨old, he⟩, hit, hne⟩ := st
    obtain ⟨xs, hq, hx⟩ := hg
    obtain ⟨its, rv, p, hz⟩ := I.tuple hq
    obtain ⟨f0, f1, f2, f3, f4, f5⟩ := hf it (by simp)
    have hl := rv.length
    have hp : s.heap.IsTuple a its.toArray := p
    refine next_enumT_end (I.ok.hd hc) he hit hp (by simp; omega) fun h' eb => ⟨rfl, I.turned (t' := s.toks) (fun b o hb q => eb b o hb q) f0 f1 f3 f4 f5⟩
  self := fun A i s Q E st h => let ⟨⟨_, he⟩, _⟩ := st; wpAny_pyIter_enum he h
def iEnumT (K : PySem.W.Frag) (ta : TA) : TI := fun σ H R => ta σ H fun vs H1 => ∃ a xs, vs = [.ref a] ∧ SqT K H1 a xs ∧ R (IteT K a) H1
theorem pi_enumT {X : Cx} {e : Expr} {ta : TA} {p pos tpos : Pos} {elts : List Expr} {kk : Nat} (hg : Gl X "enumerate") (hm : X.mg "enumerate" = none) (ha : PA X [e] ta) (hs : starEach [e] X.env = [(false, eval e X.env)] := by rfl) :
    PI X (.Tuple elts kk tpos) (.Call (.Name "enumerate" p) [e] [] pos) (iEnumT X.K ta) := by
  refine ⟨fun pins s σ H R I h => ?_⟩
  refine Call_ (ld_blt I hg hm boot_enumerate (PyProof.Rows.callWith_type1 (thn (ha.run pos pins s σ H _ I h) fun us s1 ⟨vs, H1, I1, r1, q1⟩ => ?_) hs rfl))
  obtain ⟨a, xs, ex, hq, q⟩ := q1
  subst ex
  cases r1 with
  | cons r rr =>
    cases rr
    cases r
    obtain ⟨its, rv, p', hz⟩ := I1.tuple hq
    refine call_enumT (show s1.heap.IsTuple a its.toArray from p') fun h' he hit hk => wpAny_pyIter_enum he ?_
    have I2 : Inv X pins σ H1 { s1 with heap := h' } := I1.kept (t' := s1.toks) hk
    refine ⟨s1.heap.objs.size + 1, [s1.heap.objs.size + 1, s1.heap.objs.size], _, _, H1, rfl, I2, turn_enumT a (s1.heap.objs.size + 1) s1.heap.objs.size, ⟨⟨.none, he⟩, hit, Nat.succ_ne_self _⟩, fun b hb => ?_, q⟩
    have hle : s1.heap.objs.size ≤ b := by
      rcases (show b = s1.heap.objs.size + 1 ∨ b = s1.heap.objs.size by simpa using hb) with z | z
      · rw [z]; exact Nat.le_add_right _ _
      · rw [z]; exact Nat.le_refl _
    exact I1.fpOk hle (I1.hok.fresh hle)
end L2

namespace Sl
open PySem L2 C8 StX
section
variable {σ : L2.St} {H H1 : Hp} {g : TG} {tb : TS} {ta : TA} {te : TE} {tt : TT} {nx bk ct : L2.St → Hp → Prop} {rt : VK} {R : It → Hp → Prop} {K : PySem.W.Frag} {Q : VK} {vs : List Nat}
def enRT (K : PySem.W.Frag) (R : It → Hp → Prop) (vs : List V) (H : Hp) : Prop := ∃ a xs, vs = [.ref a] ∧ SqT K H a xs ∧ R (IteT K a) H
theorem rd_iEnumT (h : ta σ H fun vs H1 => enRT K R vs H1) : iEnumT K ta σ H R := h
theorem rd_enRT {a : Addr} {xs : List V} (e : SqT K H a xs) (h : R (IteT K a) H) : enRT K R [.ref a] H := ⟨a, xs, rfl, e, h⟩
theorem forR_enumT {a : Addr} {xs : List V} (Pv : Nat → L2.St → Hp → Prop) (hl : ∀ i σ H, Pv i σ H → SqT K H a xs) (h0 : Pv 0 σ H)
    (hs : ∀ (i : Nat) x σ H t H', xs[i]? = some x → Pv i σ H → H t = none → Same H H' → H' t = some (.tup [.int (i : Nat), x]) → H' = upd H t (.tup [.int (i : Nat), x]) → g (.ref t) σ H' fun σ2 H2 => tb ⟨Pv (i + 1), rt, nx, Pv (i + 1)⟩ σ2 H2) (hd : ∀ σ H, Pv xs.length σ H → nx σ H) :
    ForR (IteT K a) g tb ⟨nx, rt, bk, ct⟩ σ H := forR_gen _ xs.length Pv h0 (fun i σ H h p => ⟨xs, xs[i], hl i σ H p, by simp [h]⟩) (fun σ H p => ⟨xs, hl _ σ H p, Nat.le_refl _⟩)
      (fun i σ H x H' hi p ⟨t, y, e1, e2, e3, e4⟩ => by subst e1; subst e3; exact hs i y σ H t _ (e4 xs (hl i σ _ p)) p e2 (Same.new (Same.refl H) e2) upd_same rfl) hd
theorem lcR_enumT {a : Addr} {xs : List V} (Pv : Addr → Nat → Hp → Prop) (hl : ∀ D i H', H D = none → Pv D i H' → SqT K H' a xs) (h0 : ∀ D H', H D = none → Same H H' → H' D = some (.lst []) → H' = upd H D (.lst []) → Pv D 0 H')
    (hs : ∀ D (i : Nat) x H' t H2, H D = none → xs[i]? = some x → Pv D i H' → H' t = none → Same H' H2 → H2 t = some (.tup [.int (i : Nat), x]) → H2 = upd H' t (.tup [.int (i : Nat), x]) → g (.ref t) (wipe σ vs) H2 fun σ2 H2 => wipe σ2 vs = wipe σ vs ∧ tt σ2 H2 fun b H3 => if b = true then te σ2 H3 fun y H4 => LcE D (Pv D (i + 1)) y H4 else Pv D (i + 1) H3)
    (hd : ∀ D H', H D = none → Pv D xs.length H' → Q (.ref D) H') : LcR (IteT K a) g tt te vs σ H Q :=
  lcR_gen _ xs.length Pv h0 (fun D i H' hD h p => ⟨xs, xs[i], hl D i H' hD p, by simp [h]⟩) (fun D H' hD p => ⟨xs, hl D _ H' hD p, Nat.le_refl _⟩)
    (fun D i H' x H2 hD hi p ⟨t, y, e1, e2, e3, e4⟩ => by subst e1; subst e3; exact hs D i y H' t _ hD (e4 xs (hl D i _ hD p)) p e2 (Same.new (Same.refl H') e2) upd_same rfl) hd
theorem lcR_tup {a : Addr} {xs : List V} (Pv : Addr → Nat → Hp → Prop) (hl : ∀ D i H', H D = none → Pv D i H' → SqT K H' a xs) (h0 : ∀ D H', H D = none → Same H H' → H' D = some (.lst []) → H' = upd H D (.lst []) → Pv D 0 H')
    (hs : ∀ D i x H', H D = none → xs[i]? = some x → Pv D i H' → g x (wipe σ vs) H' fun σ2 H2 => wipe σ2 vs = wipe σ vs ∧ tt σ2 H2 fun b H3 => if b = true then te σ2 H3 fun y H4 => LcE D (Pv D (i + 1)) y H4 else Pv D (i + 1) H3)
    (hd : ∀ D H', H D = none → Pv D xs.length H' → Q (.ref D) H') : LcR (Itt K a) g tt te vs σ H Q :=
  lcR_gen _ xs.length Pv h0 (fun D i H' hD h p => ⟨xs, xs[i], hl D i H' hD p, by simp [h]⟩) (fun D H' hD p => ⟨xs, hl D _ H' hD p, Nat.le_refl _⟩)
    (fun D i H' x H2 hD hi p ⟨e1, e2⟩ => by subst e1; exact hs D i x _ hD (e2 xs (hl D i _ hD p)) p) hd
end
end Sl
set_option Elab.async false
set_option linter.all false
set_option maxRecDepth 100000
set_option maxHeartbeats 4000000
/-! ### x != y by the own __eq__ of the class of both (object.__ne__) -/
namespace HNe
open PySem PySem.Spec PyProof.Rows PySem.SeqAt
section
variable {M : Model} {prog : Program} {w : World} {A : Around} {E : Value → Shared → Prop} {s : Shared} {K : PySem.W.Frag} {x y C f : Addr} {ox : Obj} {od : Option Obj}
theorem ifBound_objNe {args : List Value} {Q : Option Value → Shared → Prop} (X : K.In s.heap) (I : PySem.W.InstAt s.heap x ox C od) (hs : PySem.W.findIn K (.ref C) "__ne__" = some (some (.builtin "object.__ne__")))
    (h : wpAny M A (call (.builtin "object.__ne__") (.ref x :: args)) (fun v => Q (some v)) E s) : wpAny M A (callSpecialIfBound? (.ref x) "__ne__" args) Q E s := by
  simp only [callSpecialIfBound?, bindSpecialIfBound?]
  refine wpAny_holding (wpAny_bind (wpAny_bind (wpAny_bind (I.type.here ((PySem.W.looks_findIn X hs).here ?_)))))
  refine wpAny_bind (wpAny_askSetting (wpAny_ite ?_))
  have fin : wpAny M A (call (.builtin "object.__ne__") ([.ref x] ++ args) >>= fun v => pure (some v)) Q E s := wpAny_bind (wpAny_mono h (fun v s' h' => wpAny_pure h') fun _ _ h' => h')
  split
  · exact wpAny_bind (wpAny_of_eq (F.cmp_object.ne.bind _) (wpAny_pure (by exact fin)))
  · exact wpAny_tryCatch (wpAny_bind (wpAny_of_eq (F.cmp_object.ne.bind _) (wpAny_pure (by exact fin))))
theorem entry_ne (X : K.In s.heap) (I : PySem.W.InstAt s.heap x ox C od) (hs : PySem.W.findIn K (.ref C) "__eq__" = some (some (.ref f))) (hf : PySem.W.isFn K (.ref f) = true) (hu : A.units < cLine) {Q : Fin → Shared → Prop}
    (hcall : wpAny M A (call (.ref f) [.ref x, .ref y]) (fun v s' => ∃ b, v = .bool b ∧ Q (.done (.ret (.bool (!b)))) s') E s) : wpAny M A (Builtin.«object.__ne__» ⟨[.ref x, .ref y], []⟩) Q E s := by
  unfold Builtin.«object.__ne__»
  repeat (first
    | with_reducible refine wpAny_cRoomFor hu ?_
    | (refine wpAny_bind (m := callSpecialIfBound? (.ref x) (Str.ofString "__eq__") [.ref y])
        (PySem.W.ifBound_K X I hs hf (wpAny_mono hcall (fun r s' hr => by
          obtain ⟨b, rfl, hq⟩ := hr
          repeat (first | exact hq | exact wpAny_pure hq | exact wpAny_truthy_bool hq | (refine wpAny_bind (m := truthy (.bool _)) (wpAny_truthy_bool ?_)) | wp_step)) fun _ _ e => e)))
    | wp_step)
theorem call_objNe {Q : Value → Shared → Prop} (X : K.In s.heap) (I : PySem.W.InstAt s.heap x ox C od) (hm : PySem.W.mroIn K C (.type "object") = some true) (hs : PySem.W.findIn K (.ref C) "__eq__" = some (some (.ref f))) (hf : PySem.W.isFn K (.ref f) = true) (hu : A.units + 1 < cLine)
    (hcall : wpAny (model prog w) A.in1 (call (.ref f) [.ref x, .ref y]) (fun v s' => ∃ b, v = .bool b ∧ Q (.bool (!b)) s') E s) :
    wpAny (model prog w) A (call (.builtin "object.__ne__") [.ref x, .ref y]) Q E s :=
  wpAny_call (codeAny_call_builtin F.cmp_object.ne.plain F.cmpEntry_ne (PySem.W.check_slot F.cmpKind_ne F.cmpSplit_ne (I.type.andThen (PySem.W.looks_mroIn X hm)) (F.cmpArgs_ne _ _)
    (entry_ne (A := A.in1) X I hs hf hu (wpAny_mono hcall (fun v s' hv => by
      obtain ⟨b, rfl, hq⟩ := hv
      exact ⟨b, rfl, hq⟩) fun _ _ e => e))))
theorem cmp_neK {Q : Value → Shared → Prop} (X : K.In s.heap) (I : PySem.W.InstAt s.heap x ox C od) {oy : Obj} {od2 : Option Obj} (J : PySem.W.InstAt s.heap y oy C od2) (hm : PySem.W.mroIn K C (.type "object") = some true)
    (hn : PySem.W.findIn K (.ref C) "__ne__" = some (some (.builtin "object.__ne__"))) (hs : PySem.W.findIn K (.ref C) "__eq__" = some (some (.ref f))) (hf : PySem.W.isFn K (.ref f) = true) (hu : A.units + 1 < cLine)
    (hcall : wpAny (model prog w) A.in1 (call (.ref f) [.ref x, .ref y]) (fun v s' => ∃ b, v = .bool b ∧ Q (.bool (!b)) s') E s) : wpAny (model prog w) A (compareOp .NotEq (.ref x) (.ref y)) Q E s := by
  show wpAny (model prog w) A (richCompare .NotEq (.ref x) (.ref y)) Q E s
  have one : wpAny (model prog w) A (tryCompare (.ref x) "__ne__" (.ref y)) (fun r s' => ∃ v, r = some v ∧ Q v s') E s := by
    unfold tryCompare
    refine wpAny_bind (ifBound_objNe X I hn (call_objNe X I hm hs hf hu (wpAny_mono hcall (fun v s' hv => ?_) fun _ _ e => e)))
    obtain ⟨b, rfl, hq⟩ := hv
    exact ⟨b, rfl, wpAny_pure ⟨_, rfl, hq⟩⟩
  unfold richCompare
  simp only [oneThing_ref]
  refine wpAny_holding (wpAny_bind (wpAny_cRoomFor (Nat.lt_of_succ_lt hu) ?_))
  rw [cmpInfo_NotEq]
  dsimp only
  refine wpAny_bind (I.type.here (wpAny_bind (J.type.here ?_)))
  rw [show (Value.ref C != Value.ref C) = false from by simp]
  simp only [Bool.false_eq_true, if_false]
  refine wpAny_bind (wpAny_pure ?_)
  simp only [Bool.false_eq_true, if_false]
  refine wpAny_bind (wpAny_mono one (fun r s' z => ?_) fun _ _ e => e)
  obtain ⟨v, rfl, hq⟩ := z
  exact wpAny_pure hq
end
end HNe
namespace L2
open PySem PySem.Spec PyProof.Rows
section
variable {X : Cx} {k j : Nat} {C D : Addr} {sp : Sp} {dvs : List V} {a : Expr} {ta : TE}
/-- x != y by the own __eq__ of the class of both -/
def rNeO (C : Addr) (sp : Sp) (dvs : List V) : R2 := fun x y H Q => ∃ a b dx dy fs gs, x = .ref a ∧ y = .ref b ∧ H a = some (.ins C dx fs) ∧ H b = some (.ins C dy gs) ∧ sp ([.ref a, .ref b] ++ dvs) H (fun v H' => ∃ k, v = .bl k ∧ Q (.bl (!k)) H') C8.E0
theorem op_neO (c : C8.Met X.prog X.w X.K X.mg X.base k C "__eq__" sp dvs) (hr : Room j X.A) (hk : k + 1 ≤ j) (hm : PySem.W.mroIn X.K C (.type "object") = some true) (hn : PySem.W.findIn X.K (.ref C) "__ne__" = some (some (.builtin "object.__ne__"))) : OpR X (compareOp .NotEq) (rNeO C sp dvs) := by
  obtain ⟨f, fd, ps, ds, cl, hme, F, bd, d⟩ := c.ex
  intro pins s σ H x y v u Q I rx ry h
  obtain ⟨o, o2, dx, dy, fs, gs, rfl, rfl, e, e2, q⟩ := h
  obtain rfl : v = Value.ref o := rx
  obtain rfl : u = Value.ref o2 := ry
  obtain ⟨mA, O, _, _, _, _⟩ := ins_get I.hok e
  obtain ⟨mB, O2, _, _, _, _⟩ := ins_get I.hok e2
  obtain ⟨od, J, _⟩ := O.look
  obtain ⟨od2, J2, _⟩ := O2.look
  refine HNe.cmp_neK I.kIn J J2 hm hn hme.at_ hme.fn (by have := hr.units; omega) (wpAny_mono (run_fn1 (us := [.ref o, .ref o2]) (vs := [.ref o, .ref o2]) F (hr.mono hk) bd d C8.pass0 I (.cons rfl (.cons rfl .nil)) q) (fun v s2 y => ?_) fun _ _ y => y)
  obtain ⟨x2, H2, I2, rx2, b, rfl, q2⟩ := y
  obtain rfl : v = Value.bool b := rx2
  exact ⟨b, rfl, .bl (!b), H2, I2, rfl, q2⟩
/-- (i, d) == (i, e), d and e equal dicts -/
def rEqPD (K : PySem.W.Frag) : R2 := fun x y H Q => ∃ t u i a b ls, x = .ref t ∧ y = .ref u ∧ H t = some (.tup [.int i, .ref a]) ∧ H u = some (.tup [.int i, .ref b]) ∧ H a = some (.dK (dI ls)) ∧ H b = some (.dK (dI ls)) ∧ (ls.map (·.1)).Nodup ∧ Q (.bl true) H
theorem op_eqPD (hu : X.A.units + 64 < cLine) : OpR X (compareOp .Eq) (rEqPD X.K) := by
  intro pins s σ H x y v u' Q I rx ry h
  obtain ⟨t, u, i, a, b, ls, rfl, rfl, et, eu, ea, eb, nd, q⟩ := h
  obtain rfl : v = Value.ref t := rx
  obtain rfl : u' = Value.ref u := ry
  obtain ⟨xs, r1, p1, _⟩ := I.tuple (SqT.of et)
  obtain ⟨ys, r2, p2, _⟩ := I.tuple (SqT.of eu)
  obtain ⟨x1, x2, rfl, ⟨tx, rfl⟩, w2⟩ := vals2 r1
  obtain ⟨y1, y2, rfl, ⟨ty, rfl⟩, z2⟩ := vals2 r2
  obtain rfl : x2 = Value.ref a := w2
  obtain rfl : y2 = Value.ref b := z2
  obtain ⟨_, ya, va, ra, da⟩ := (show ObjOk X.prog X.w H s.heap a (.dK (dI ls)) from I.hok a _ ea)
  obtain ⟨_, yb, vb, rb, db⟩ := (show ObjOk X.prog X.w H s.heap b (.dK (dI ls)) from I.hok b _ eb)
  show wpAny (model X.prog X.w) X.A (richCompare .Eq (.ref t) (.ref u)) (EP X pins σ Q) X.xe s
  refine GQ.rc_tupG (by simp) (by omega) (fun _ s' => s' = s) p1 p2 (fun j h1 h2 s' es => ?_) (fun s' es => ?_) rfl
  · subst es
    match j, h1, h2 with
    | 0, _, _ => exact (eqAt_same (A := X.A.in1) (s := s') (show RelV (V.int i) (Value.int i tx) from ⟨tx, rfl⟩) (show RelV (V.int i) (Value.int i ty) from ⟨ty, rfl⟩) rfl) X.prog X.w _ _ ⟨rfl, rfl⟩
    | 1, _, _ =>
      show wpAny (model X.prog X.w) X.A.in1 (eqBool (Value.ref a) (Value.ref b)) _ _ s'
      by_cases c : a = b
      · subst c
        exact SeqAt.EqAt.same (A := X.A.in1) (s := s') (.ref a) X.prog X.w _ _ ⟨rfl, rfl⟩
      · refine GQ.eqBool_refG c ?_
        show wpAny (model X.prog X.w) X.A.in1 (compareOp .Eq (.ref a) (.ref b)) _ _ s'
        refine PySem.W.keq_eq (knd := mixKind X.prog X.w) (r := true) ya yb da db (by show X.A.units + 1 < cLine; omega) (fun e => (dI_hits nd (.inl rfl) ra rb e).2) ?_
        rw [dI_ans (.inl rfl) ra rb, decide_eq_true rfl]
        exact ⟨true, rfl, rfl, rfl⟩
    | j + 2, h1, _ => exact absurd h1 (by simp)
  · subst es
    exact ⟨.bl true, H, I, rfl, q⟩
end
end L2
namespace Sl
open PySem L2 C8 StX
section
variable {σ : L2.St} {H : Hp} {Q : VK} {K : PySem.W.Frag} {C : Addr} {sp : Sp} {dvs : List V}
theorem rd_neO {a b dx dy : Addr} {fs gs : List (Str × V)} (e : H a = some (.ins C dx fs)) (e2 : H b = some (.ins C dy gs)) (h : sp ([.ref a, .ref b] ++ dvs) H (fun v H' => ∃ k, v = .bl k ∧ Q (.bl (!k)) H') C8.E0) : rNeO C sp dvs (.ref a) (.ref b) H Q := ⟨a, b, dx, dy, fs, gs, rfl, rfl, e, e2, h⟩
theorem rd_eqPD {t u a b : Addr} {i : Int} {ls : List (Int × Int)} (et : H t = some (.tup [.int i, .ref a])) (eu : H u = some (.tup [.int i, .ref b])) (ea : H a = some (.dK (dI ls))) (eb : H b = some (.dK (dI ls))) (nd : (ls.map (·.1)).Nodup) (q : Q (.bl true) H) : rEqPD K (.ref t) (.ref u) H Q :=
  ⟨t, u, i, a, b, ls, rfl, rfl, et, eu, ea, eb, nd, q⟩
/-- isinstance(x, C) of an int, or None: no -/
theorem sub_int {K : PySem.W.Frag} {C : Addr} : PySem.W.subIn K (.type "int") (.ref C) = some false := by
  have e : fastBuiltinMro "int" = some [.type "int", .type "object"] := by decide +kernel
  show (fastBuiltinMro "int").map (·.contains (.ref C)) = some false
  rw [e]
  first
    | rfl
    | simp
theorem kit_not {K : PySem.W.Frag} {C : Addr} {n : String} (h1 : PySem.W.isClsIn K C = true) (h2 : PySem.W.typeIn K (.ref C) = some (.type "type")) (h3 : PySem.W.subIn K (.type n) (.ref C) = some false) : PySem.W.kitOne K (.type n) (.ref C) = some false := by
  have e2 : ((PySem.W.clsIn K C).isSome && PySem.W.typeIn K (.ref C) == some (.type "type")) = true := by
    have h1' : (PySem.W.clsIn K C).isSome = true := h1
    rw [h1', h2] <;> rfl
  unfold PySem.W.kitOne
  rw [if_neg (by simp)]
  show (if ((PySem.W.clsIn K C).isSome && PySem.W.typeIn K (.ref C) == some (.type "type")) = true then PySem.W.subIn K (.type n) (.ref C) else none) = some false
  rw [if_pos e2]
  exact h3
theorem rd_isiCi {C : Addr} {i : Int} (k : PySem.W.kitOne K (.type "int") (.ref C) = some false) (h : Q (.bl false) H) : rIsi K [.int i, .ref C] H Q := ⟨_, _, _, _, false, rfl, .own C, .base (.int i), k, h⟩
theorem rd_isiCn {C : Addr} (k : PySem.W.kitOne K (.type "NoneType") (.ref C) = some false) (h : Q (.bl false) H) : rIsi K [.non, .ref C] H Q := ⟨_, _, _, _, false, rfl, .own C, .base .non, k, h⟩
theorem rd_isiC {C a dx : Addr} {fs : List (Str × V)} (c : InsC K C) (e : H a = some (.ins C dx fs)) (h : Q (.bl true) H) : rIsi K [.ref a, .ref C] H Q := ⟨_, _, _, _, true, rfl, .own C, .base (TyOf.ins e c.cl c.ha c.hn c.htk c.hm), c.me, h⟩
/-- dict([(k, v), ..]) -/
def rDictP (K : PySem.W.Frag) : List V → Hp → VK → Prop := fun xs H Q => ∃ (a : Addr) (ps : List Addr) (kvs : List (Key × V)), xs = [.ref a] ∧ SqL K H a (ps.map V.ref) ∧ Paired (fun p kv => SqT K H p [kV kv.1, kv.2]) ps kvs ∧ ∀ p, H p = none → Q (.ref p) (upd H p (.dK (mergeK [] kvs)))
theorem cr_dictP {X : Cx} (hc : X.calm = true) : CallR X (.type "dict") (rDictP X.K) := call_dictP hc
end
end Sl
set_option Elab.async false
set_option linter.all false
set_option maxRecDepth 100000
set_option maxHeartbeats 4000000
set_option exponentiation.threshold 9000
namespace L2
open PySem PySem.Spec PyProof.Rows
theorem hu65 {k : Nat} {A : Around} (r : Room k A) : A.units + 65 < cLine := by have := r.un; omega
/-- one of two walks -/
theorem pi_alt {X : Cx} {tg e : Expr} {t u : TI} (h1 : PI X tg e t) (h2 : PI X tg e u) : PI X tg e (fun σ H R => t σ H R ∨ u σ H R) := ⟨fun pins s σ H R I h => h.elim (h1.run pins s σ H R I) (h2.run pins s σ H R I)⟩
section
variable {X : Cx} {CX : CXT} {k j : Nat} {f C : Addr} {fd : FuncData} {ps : List Str} {sp : Sp} {dvs : List V} {ds : List Value} {E : XK}
theorem run_fnL {pins : List (Addr × Obj)} {σ : St} {H : Hp} {s : Shared} {Q : VK} {us : List Value} {vs : List V} (F : FnOk X.prog X.w X.K X.mg X.base CX k f fd ps sp) (hr : Room (k + 1) X.A) (hb : Binds X.K fd ps ds) (hd : Vals dvs ds) (hx : Passes CX X E)
    (I : Inv X pins σ H s) (r : Vals vs us) (h : sp (vs ++ dvs) H Q E) : wpAny (model X.prog X.w) X.A.in1 (call (.ref f) us) (EP X pins σ Q) X.xe s := by
  have r2 : Vals (vs ++ dvs) (us ++ ds) := r.append hd
  have hl : (us ++ ds).length = ps.length := by rw [← r2.length]; exact F.len _ _ _ _ h
  refine wpAny_call (codeAny_mono (F.run X.A.in1 X.stack s H ⟨us, []⟩ (us ++ ds) (vs ++ dvs) Q E hr.in1 I.env0.in1 (hb s us I.kIn hl) r2 h) fun r s' hq => ?_)
  cases r with
  | error e => exact hx pins σ H s e s' I hq
  | ok fl =>
    cases fl with
    | ret u => exact I.after hq
    | next => exact False.elim hq
    | brk => exact False.elim hq
    | cont => exact False.elim hq
/-- len(o), o of an own class with its own __len__ -/
def rLenO (C : Addr) (sp : Sp) (dvs : List V) : List V → Hp → VK → Prop := fun vs H Q => ∃ o dx fs, vs = [.ref o] ∧ H o = some (.ins C dx fs) ∧ sp ([.ref o] ++ dvs) H (fun v H' => ∃ i : Nat, v = .int i ∧ i < 2 ^ 62 ∧ Q (.int i) H') C8.E0
theorem cr_lenO (c : C8.Met X.prog X.w X.K X.mg X.base k C "__len__" sp dvs) (hr : Room j X.A) (hk : k + 1 ≤ j) : CallR X (.builtin "len") (rLenO C sp dvs) := by
  obtain ⟨f, fd, ps, ds, cl, hm, Fo, bd, d⟩ := c.ex
  intro pins s σ H vs us Q I r h
  obtain ⟨o, dx, fs, rfl, e, q⟩ := h
  obtain rfl := Vals.ref1 r
  obtain ⟨mA, O, _, _, _, _⟩ := ins_get I.hok e
  obtain ⟨od, J, _⟩ := O.look
  obtain ⟨m, F0⟩ := I.fr
  refine PySem.W.len_K F0 I.ok.mod.kin J hm.at_ hm.fn (wpAny_mono (run_fnL (us := [.ref o]) (vs := [.ref o]) Fo (hr.mono hk) bd d C8.pass0 I (.cons rfl .nil) q) (fun v s2 y => ?_) fun _ _ y => y)
  obtain ⟨x2, H2, I2, rx2, i, rfl, hi, q2⟩ := y
  obtain ⟨t, rfl⟩ : ∃ t, v = Value.int i t := rx2
  exact ⟨⟨by omega, by omega⟩, ⟨.int i, H2, I2.tok _, ⟨_, rfl⟩, q2⟩⟩
/-- x in o, o of an own class with its own __contains__ -/
def rInO (C : Addr) (sp : Sp) (dvs : List V) : R2 := fun x y H Q => ∃ o dx fs, y = .ref o ∧ H o = some (.ins C dx fs) ∧ sp ([.ref o, x] ++ dvs) H (fun v H' => ∃ b, v = .bl b ∧ Q (.bl b) H') C8.E0
theorem op_inO (c : C8.Met X.prog X.w X.K X.mg X.base k C "__contains__" sp dvs) (hr : Room j X.A) (hk : k ≤ j) : OpR X (compareOp .In) (rInO C sp dvs) := by
  obtain ⟨f, fd, ps, ds, cl, hm, Fo, bd, d⟩ := c.ex
  intro pins s σ H x y v u Q I rx ry h
  obtain ⟨o, dx, fs, rfl, e, q⟩ := h
  obtain rfl : u = Value.ref o := ry
  obtain ⟨mA, O, _, _, _, _⟩ := ins_get I.hok e
  obtain ⟨od, J, _⟩ := O.look
  obtain ⟨m, F0⟩ := I.fr
  refine PySem.W.in_K F0 I.ok.mod.kin J hm.at_ hm.fn (wpAny_mono (run_fn (us := [.ref o, v]) (vs := [.ref o, x]) Fo (hr.mono hk) bd d C8.pass0 I (.cons rfl (.cons rx .nil)) q) (fun v s2 y => ?_) fun _ _ y => y)
  obtain ⟨x2, H2, I2, rx2, b, rfl, q2⟩ := y
  obtain rfl : v = Value.bool b := rx2
  exact wpAny_truthy_bool ⟨.bl b, H2, I2, rfl, q2⟩
/-- (d, g) == (e, h): d and e dicts of the same entries, g and h data -/
def rEqDG (K : PySem.W.Frag) : R2 := fun x y H Q => ∃ t u a b g h ks d e, x = .ref t ∧ y = .ref u ∧ H t = some (.tup [.ref a, .ref g]) ∧ H u = some (.tup [.ref b, .ref h]) ∧ H a = some (.dK ks) ∧ H b = some (.dK ks) ∧ (∀ p ∈ ks, valV ks p.1 = some p.2 ∧ flatB p.2 = true) ∧
  Dp K H (.ref g) d ∧ Dp K H (.ref h) e ∧ SeqAt.shaped d = true ∧ SeqAt.shaped e = true ∧ Q (.bl (PyData.eqv d e)) H
theorem op_eqDG (hu : X.A.units + 65 < cLine) : OpR X (compareOp .Eq) (rEqDG X.K) := by
  intro pins s σ H x y v u' Q I rx ry h
  obtain ⟨t, u, a, b, g, h', ks, d, e, rfl, rfl, et, eu, ea, eb, fl, hd, he, sd, se, q⟩ := h
  obtain rfl : v = Value.ref t := rx
  obtain rfl : u' = Value.ref u := ry
  obtain ⟨xs, r1, p1, _⟩ := I.tuple (SqT.of et)
  obtain ⟨ys, r2, p2, _⟩ := I.tuple (SqT.of eu)
  obtain ⟨x1, x2, rfl, w1, w2⟩ := vals2 r1
  obtain ⟨y1, y2, rfl, z1, z2⟩ := vals2 r2
  obtain rfl : x1 = Value.ref a := w1
  obtain rfl : y1 = Value.ref b := z1
  obtain ⟨as, q1⟩ := Dp.reads I d _ x2 hd w2
  obtain ⟨bs, q2⟩ := Dp.reads I e _ y2 he z2
  obtain ⟨_, ya, va, ra, da⟩ := (show ObjOk X.prog X.w H s.heap a (.dK ks) from I.hok a _ ea)
  obtain ⟨_, yb, vb, rb, db⟩ := (show ObjOk X.prog X.w H s.heap b (.dK ks) from I.hok b _ eb)
  have hl : va.length = vb.length := by rw [← ra.length, ← rb.length]
  show wpAny (model X.prog X.w) X.A (richCompare .Eq (.ref t) (.ref u)) (EP X pins σ Q) X.xe s
  refine SeqAt.rcIn_tuples (e := fun j => if j = 0 then true else PyData.eqv d e) p1 p2 (by omega) (fun j h1 h2 => ?_) ⟨.bl (PyData.eqv d e), H, I, ?_, q⟩
  · match j, h1, h2 with
    | 0, _, _ =>
      show SeqAt.EqIn X.prog X.w X.A.in1 s (Value.ref a) (Value.ref b) true
      by_cases c : a = b
      · subst c
        exact (SeqAt.EqAt.same (A := X.A.in1) (s := s) (.ref a)).inModel X.prog X.w
      · refine SeqAt.EqIn.of_refs c fun E' Q' q' => ?_
        show wpAny (model X.prog X.w) X.A.in1 (compareOp .Eq (.ref a) (.ref b)) _ E' s
        refine PySem.W.keq_eq (knd := mixKind X.prog X.w) (r := true) ya yb da db (by show X.A.units + 1 < cLine; omega) (fun _ => hits_all rb ra fl) ?_
        simpa [hl] using q'
    | 1, _, _ => exact (SeqAt.eqAt_reads d e X.A.in1 s x2 y2 as bs q1 q2 (SeqAt.canLay_of_shaped sd) (SeqAt.canLay_of_shaped se) (SeqAt.room_of_shaped sd (by show X.A.units + 1 + 64 < cLine; omega))).inModel X.prog X.w
    | j + 2, h1, _ => exact absurd h1 (by simp)
  · show RelV (V.bl (PyData.eqv d e)) _
    simp [List.range_succ, RelV]
end
end L2
namespace Sl
open PySem L2 C8 StX
section
variable {σ : L2.St} {H H' : Hp} {Q : VK} {te ta tb : TE} {t tk : TA} {K : PySem.W.Frag} {QS : L2.St → Hp → Prop} {x y v : V} {R : It → Hp → Prop} {g : TG} {tt : TT} {vs : List Nat}
theorem rd_gSub {to ti : TE} {st : TSet} (h : to σ H fun o H1 => ti σ H1 fun i H2 => st o i v H2 fun H3 => QS σ H3) : gSub to ti st v σ H QS := h
/-! ### texts walked -/
def stR (R : It → Hp → Prop) (v : V) (H1 : Hp) : Prop := ∃ x, v = .str x ∧ R (Its x) H1
theorem rd_iStr (h : te σ H fun v H1 => stR R v H1) : iStr te σ H R := h
theorem rd_stR {x : Str} (h : R (Its x) H) : stR R (.str x) H := ⟨x, rfl, h⟩
theorem lcR_str {x : Str} (Pv : Addr → Nat → Hp → Prop) (h0 : ∀ D H', H D = none → Same H H' → H' D = some (.lst []) → H' = upd H D (.lst []) → Pv D 0 H')
    (hs : ∀ D i c H', H D = none → x.cps[i]? = some c → Pv D i H' → g (.str ⟨#[c]⟩) (wipe σ vs) H' fun σ2 H2 => wipe σ2 vs = wipe σ vs ∧ tt σ2 H2 fun b H3 => if b = true then te σ2 H3 fun y H4 => LcE D (Pv D (i + 1)) y H4 else Pv D (i + 1) H3)
    (hd : ∀ D H', H D = none → Pv D x.cps.size H' → Q (.ref D) H') : LcR (Its x) g tt te vs σ H Q :=
  lcR_gen _ x.cps.size Pv h0 (fun _ i _ _ h _ => h) (fun _ _ _ _ => Nat.le_refl _) (fun D i H x2 H' hD hi p ⟨e1, c, e2, e3⟩ => by subst e1; subst e3; exact hs D i c _ hD e2 p) hd
/-! ### order of texts -/
def rLeS : R2 := fun x y H Q => ∃ i j, x = .str i ∧ y = .str j ∧ Q (.bl (!decide (j.cps.toList < i.cps.toList))) H
theorem op_leS {X : Cx} : OpR X (compareOp .LtE) rLeS := op_le_str
theorem rd_leS {i j : Str} (h : Q (.bl (!decide (j.cps.toList < i.cps.toList))) H) : rLeS (.str i) (.str j) H Q := ⟨i, j, rfl, rfl, h⟩
def rIxS (x y : V) (H : Hp) (Q : VK) : Prop := ∃ (z : Str) (i : Int) (c : Nat), x = .str z ∧ y = .int i ∧ 0 ≤ i ∧ i < 2 ^ 63 ∧ i < z.length ∧ z.cps[i.toNat]? = some c ∧ Q (.str ⟨#[c]⟩) H
theorem pe_ixS {X : Cx} {a b : Expr} {pos : Pos} {ta tb : TE} (ha : PE X a ta) (hb : PE X b tb) (hs : PlainIxT b) : PE X (.Subscript a b pos) (tOp rIxS ta tb) := pe_item_str ha hb hs
theorem rd_ixS {z : Str} {i : Int} {c : Nat} (h0 : 0 ≤ i) (h1 : i < 2 ^ 62) (h2 : i < z.length) (h3 : z.cps[i.toNat]? = some c) (h : Q (.str ⟨#[c]⟩) H) : rIxS (.str z) (.int i) H Q := ⟨z, i, c, rfl, rfl, h0, by omega, h2, h3, h⟩
/-! ### lengths, texts of ints -/
def rLenTx : List V → Hp → VK → Prop := fun xs H Q => ∃ z, xs = [.str z] ∧ z.length ≤ sizeLine ∧ Q (.int z.length) H
theorem cr_lenTx {X : Cx} : CallR X (.builtin "len") rLenTx := call_len_str
theorem rd_lenTx {z : Str} (hz : z.length ≤ sizeLine) (h : Q (.int z.length) H) : rLenTx [.str z] H Q := ⟨z, rfl, hz, h⟩
def rLenDk : List V → Hp → VK → Prop := fun xs H Q => ∃ a kvs, xs = [V.ref a] ∧ H a = some (.dK kvs) ∧ Q (.int kvs.length) H
theorem cr_lenDk {X : Cx} : CallR X (.builtin "len") rLenDk := call_lenD
theorem rd_lenDk {a : Addr} {kvs : List (Key × V)} (e : H a = some (.dK kvs)) (h : Q (.int kvs.length) H) : rLenDk [.ref a] H Q := ⟨a, kvs, rfl, e, h⟩
def rStrI : List V → Hp → VK → Prop := fun xs H Q => ∃ i, xs = [.int i] ∧ i.natAbs.log2 < 1920 ∧ Q (.str (toString i)) H
theorem cr_strI {X : Cx} : CallR X (.type "str") rStrI := call_str_int
theorem rd_strI {i : Int} (hi : i.natAbs.log2 < 1920) (h : Q (.str (toString i)) H) : rStrI [.int i] H Q := ⟨i, rfl, hi, h⟩
theorem rd_lenO {C o dx : Addr} {fs : List (Str × V)} {sp : Sp} {dvs : List V} (e : H o = some (.ins C dx fs)) (h : sp ([.ref o] ++ dvs) H (fun v H' => ∃ i : Nat, v = .int i ∧ i < 2 ^ 62 ∧ Q (.int i) H') C8.E0) : rLenO C sp dvs [.ref o] H Q := ⟨o, dx, fs, rfl, e, h⟩
theorem rd_inO {C o dx : Addr} {fs : List (Str × V)} {sp : Sp} {dvs : List V} (e : H o = some (.ins C dx fs)) (h : sp ([.ref o, x] ++ dvs) H (fun v H' => ∃ b, v = .bl b ∧ Q (.bl b) H') C8.E0) : rInO C sp dvs x (.ref o) H Q := ⟨o, dx, fs, rfl, e, h⟩
def rAddS : R2 := fun x y H Q => ∃ i j, x = .str i ∧ y = .str j ∧ i.length + j.length ≤ sizeLine ∧ Q (.str (i ++ j)) H
theorem op_addS {X : Cx} : OpR X (binaryOp .Add) rAddS := op_add_str
theorem rd_addS {i j : Str} (l : i.length + j.length ≤ 100000) (h : Q (.str (i ++ j)) H) : rAddS (.str i) (.str j) H Q := ⟨i, j, rfl, rfl, Nat.le_trans l (by decide), h⟩
/-! ### isinstance of plain values -/
def tyS : V → Option String
  | .int _ => some "int"
  | .bl _ => some "bool"
  | .str _ => some "str"
  | .non => some "NoneType"
  | _ => none
theorem tyS_of {v : V} {a : String} (h : tyS v = some a) : TyOf K H v (.type a) := by
  cases v <;> first | (cases h; first | exact .int _ | exact .bl _ | exact .str _ | exact .non) | cases h
theorem rd_isiS {v : V} {a b : String} {r : Bool} (h1 : tyS v = some a) (h2 : kitB a b = some r) (h : Q (.bl r) H) : rIsi K [v, .ty b] H Q := ⟨_, _, _, _, r, rfl, .ty _, .base (tyS_of h1), kit_ty h2, h⟩
theorem rd_isiTup {a : Addr} {xs : List V} {b : String} {r : Bool} (e : H a = some (.tup xs)) (h2 : kitB "tuple" b = some r) (h : Q (.bl r) H) : rIsi K [.ref a, .ty b] H Q := ⟨_, _, _, _, r, rfl, .ty _, .base (.tup e), kit_ty h2, h⟩
theorem rd_isiLst {a : Addr} {xs : List V} {b : String} {r : Bool} (e : H a = some (.lst xs)) (h2 : kitB "list" b = some r) (h : Q (.bl r) H) : rIsi K [.ref a, .ty b] H Q := ⟨_, _, _, _, r, rfl, .ty _, .base (.lst e), kit_ty h2, h⟩
theorem rd_isiD {a : Addr} {kvs : List (Key × V)} {b : String} {r : Bool} (e : H a = some (.dK kvs)) (h2 : kitB "dict" b = some r) (h : Q (.bl r) H) : rIsi K [.ref a, .ty b] H Q := ⟨_, _, _, _, r, rfl, .ty _, .base (.dK e), kit_ty h2, h⟩
theorem rd_eqDG {t u a b g h' : Addr} {ks : List (Key × V)} {d e : PyData} (et : H t = some (.tup [.ref a, .ref g])) (eu : H u = some (.tup [.ref b, .ref h'])) (ea : H a = some (.dK ks)) (eb : H b = some (.dK ks)) (fl : ∀ p ∈ ks, valV ks p.1 = some p.2 ∧ flatB p.2 = true)
    (hd : Dt H (.ref g) d) (he : Dt H (.ref h') e) (sd : SeqAt.shaped d = true) (se : SeqAt.shaped e = true) (q : Q (.bl (PyData.eqv d e)) H) : rEqDG K (.ref t) (.ref u) H Q := ⟨t, u, a, b, g, h', ks, d, e, rfl, rfl, et, eu, ea, eb, fl, hd.dp, he.dp, sd, se, q⟩
/-! ### sorted pairs -/
theorem rd_sortPO {a : Addr} {xs : List V} {k : V → Int × Int} (e : SqL K H a xs) (hx : ∀ x ∈ xs, ∃ t, x = V.ref t ∧ H t = some (.tup [.int (k x).1, .int (k x).2]))
    (h : ∀ ys p H', SrtO.Srtd (ltP k) ys → SrtO.Stb (ltP k) ys xs → H p = none → Same H H' → H' p = some (.lst ys) → Q (.ref p) H') : rSortedPO K [.ref a] H Q :=
  ⟨a, xs, k, rfl, e, hx, fun ys p h1 h2 hp => h ys p _ h1 h2 hp (Same.new (Same.refl H) hp) upd_same⟩
/-! ### dicts with any values, keys ints -/
def dV (ls : List (Int × V)) : List (Key × V) := ls.map fun q => (Sum.inl q.1, q.2)
theorem dV_len (ls : List (Int × V)) : (dV ls).length = ls.length := by unfold dV; rw [List.length_map]
theorem dV_keys (ls : List (Int × V)) : (dV ls).map (·.1) = (ls.map (·.1)).map Sum.inl := by unfold dV; rw [List.map_map, List.map_map]; rfl
end
end Sl
set_option Elab.async false
set_option linter.all false
set_option maxRecDepth 100000
set_option maxHeartbeats 4000000
set_option exponentiation.threshold 9000
/-! ### dict(reversed(a list of pairs)) -/
namespace PySem
open Sem (wp)
namespace F
theorem slot_lri_getattribute : Slot "list_reverseiterator" "__getattribute__" "object.__getattribute__" :=
  .of (owner := "object") (n := "__getattribute__") (by rw [typeLookup_type, builtinLookup_eq_fast]; kernel_rfl) (by decide +kernel) (by decide +kernel) (by decide +kernel)
    (by first | exact .inl (by decide +kernel) | exact .inr (by decide +kernel)) (by rw [isSubtype_type]; kernel_rfl)
end F
theorem lri_no_keys : typeLookup (.type "list_reverseiterator") "keys" = pure none := am_miss_of_fast (by decide +kernel)
theorem lri_getattr_none : typeLookup (.type "list_reverseiterator") "__getattr__" = pure none := am_miss_of_fast (by decide +kernel)
theorem meets_getattribute_miss_lri (a : Addr) (fs : Array Value) (sl : Array (Option Value)) (name : Str) (u : Tok) (hmiss : typeLookup (.type "list_reverseiterator") name = pure none) (hname : (["__module__", "__name__", "__qualname__", "__doc__", "__annotations__"] : List Str).contains name = false) (hsz : name.length + 100 ≤ sizeLine := by size_fits) :
    Meets (Builtin.«object.__getattribute__» ⟨[.ref a, .str name u], []⟩) (fun A R s => s.heap.get? a = some { cls := .type "list_reverseiterator", dict := none, data := .fields fs, slots := sl } ∧ raisesAttr (.ref a) name A R s) :=
  Meets.of_wp fun prog w A R s hs => by
    obtain ⟨hp, g, d, tk, os⟩ := s
    obtain ⟨hx, hs⟩ := hs
    have hT : (⟨hp, g, d, tk, os⟩ : Shared).TypeIs (.ref a) "list_reverseiterator" := ⟨_, hx, rfl⟩
    unfold Builtin.«object.__getattribute__»
    repeat (any_goals (first | assumption | wp_step))
    simp only [hname, Bool.false_eq_true, if_false]
    repeat (any_goals (first | assumption | wp_step))
    exact wpAny_raiseAttrError hs.1 hs.2 (attrMsg_fits (by decide +kernel) hsz)
theorem getAttrOr_miss_lri {prog : Program} {w : World} {A : Around} {E : Value → Shared → Prop} {s : Shared} {a : Addr} {o : Obj} {fs : Array Value} {name : Str} {Q : Option Value → Shared → Prop} (hx : s.heap.get? a = some o) (hc : o.cls = .type "list_reverseiterator") (hdat : o.data = .fields fs) (hd : o.dict = none) (hmiss : typeLookup (.type "list_reverseiterator") name = pure none)
    (hname : (["__module__", "__name__", "__qualname__", "__doc__", "__annotations__"] : List Str).contains name = false) (hA : A.handled = none)
    (h : ∀ h' tk, (∀ b o, s.heap.get? b = some o → h'.get? b = some o) → Q none { s with heap := h', toks := tk }) (hsz : name.length + 100 ≤ sizeLine := by size_fits) :
    wpAny (model prog w) A (getAttr? (.ref a) name) Q E s := by
  obtain ⟨c, dct, dat, sl⟩ := o
  simp only at hc hdat hd
  subst hc hdat hd
  obtain ⟨hp, g, d, tk, os⟩ := s
  have hT : ∀ tk', (⟨hp, g, d, tk', os⟩ : Shared).TypeIs (.ref a) "list_reverseiterator" := fun _ => ⟨_, hx, rfl⟩
  have f1 := sub_AttributeError
  have f3 := F.slot_lri_getattribute.lookup
  have f4 := F.slot_lri_getattribute.bind (.ref a)
  have f5 := lri_getattr_none
  unfold getAttr? getAttrBy?
  repeat (any_goals (first | assumption | exact hT _ | ((with_reducible show wpAny _ _ (call (Value.builtin "object.__getattribute__") _ _) _ _ _); refine call_meets F.slot_lri_getattribute (hT _) F.entry_object_getattribute (F.args_object_getattribute_2 _ _) (meets_getattribute_miss_lri a fs sl name _ hmiss hname hsz) ⟨hx, hA, fun h' tk' e hx' => ?_⟩) | wp_step))
  obtain ⟨t', u', he⟩ := hx'.there
  show wpAny _ _ (getattributeRaised _ _ _ _ _ _ _) _ _ _
  unfold getattributeRaised
  repeat (any_goals (first | assumption | wp_step))
  exact h _ _ hx'.keeps
theorem PairArg.rev {prog : Program} {w : World} (it l : Addr) (hli : l ≠ it) (items : Array Value) (Ts : Nat → Addr) (ps : List (Value × Value)) (hT : ∀ j, j < ps.length → Ts j ≠ it) :
    PairArg prog w "list_reverseiterator" it (it :: l :: (List.range ps.length).map Ts) [it] ps.length (fun i k v => i < ps.length ∧ ps[ps.length - 1 - i]? = some (k, v))
      (fun h => h.get? it = some (revObj l ((items.size : Int) - 1)) ∧ h.IsList l items ∧ PairItems h items Ts ps) where
  type := fun s ok => ⟨_, ok.1, rfl⟩
  notDict := by decide
  keep := fun h h' ok hk => ⟨hk _ _ ok.1, ok.2.1.at fun o x => hk _ o x, ok.2.2.at fun j _ o e => hk _ o e⟩
  there := fun h ok b hb => by
    obtain ⟨h1, ⟨o2, h2, _⟩, hp⟩ := ok
    rcases List.mem_cons.mp hb with rfl | hb
    · exact ⟨_, h1⟩
    · rcases List.mem_cons.mp hb with rfl | hb
      · exact ⟨_, h2⟩
      · obtain ⟨j, hj, rfl⟩ := List.mem_map.mp hb
        exact hp.there (List.mem_range.mp hj)
  sub := fun b hb => by rw [List.mem_singleton.mp hb]; exact List.mem_cons_self
  noKeys := fun A s Q E hA ok h => getAttrOr_miss_lri ok.1 rfl rfl rfl lri_no_keys (by decide +kernel) hA h
  iter := fun A s d Q E hA ok hd hdf h => by
    obtain ⟨h1, hl, hp⟩ := ok
    have hdi : it ≠ d := fun e => hdf (e ▸ List.mem_cons_self)
    have hdl : l ≠ d := fun e => hdf (e ▸ List.mem_cons_of_mem _ List.mem_cons_self)
    have hdT : ∀ j, j < ps.length → Ts j ≠ d := fun j hj e => hdf (List.mem_cons_of_mem _ (List.mem_cons_of_mem _ (List.mem_map.mpr ⟨j, List.mem_range.mpr hj, e⟩)))
    have hsz : items.size = ps.length := hp.1
    refine wpAny_pyIter_revIter (l := l) (i := (items.size : Int) - 1) ⟨_, h1, rfl, rfl⟩ (h it [it] (fun i h => i ≤ ps.length ∧ h.IsRevIter it l ((ps.length : Int) - 1 - i) ∧ h.IsList l items ∧ PairItems h items Ts ps) s.heap s.toks ?_ ⟨Nat.zero_le _, ⟨_, h1, rfl, by rw [hsz]; simp [revObj]⟩, hl, hp⟩ (fun _ _ e => e) fun b hb => .inl hb)
    exact {
      off := fun hm => hdi (List.mem_singleton.mp hm).symm
      frame := fun i h₁ h₂ st hk => ⟨st.1, st.2.1.at fun o e => hk _ o hdi e, st.2.2.1.at fun o e => hk _ o hdl e, st.2.2.2.at fun j hj o e => hk _ o (hdT j hj) e⟩
      item := fun i s₁ Q₁ E₁ hi st _ hQ => by
        have hkv' : ps[ps.length - 1 - i]? = some ps[ps.length - 1 - i] := List.getElem?_eq_getElem (by omega)
        obtain ⟨⟨k, v⟩, hkv⟩ : ∃ p, ps[ps.length - 1 - i]? = some p := ⟨_, hkv'⟩
        have hit : s₁.heap.IsRevIter it l ((ps.length - 1 - i : Nat) : Int) := by
          have := st.2.1
          rw [show (ps.length : Int) - 1 - (i : Int) = ((ps.length - 1 - i : Nat) : Int) by omega] at this
          exact this
        refine wpAny_pyNext_rev_item hit st.2.2.1 (x := .ref (Ts (ps.length - 1 - i))) (st.2.2.2.2 _ k v hkv).1 fun h' hit' hs' => ?_
        have pi : PairItems h' items Ts ps := st.2.2.2.at fun j hj o e => (hs'.2 (Ts j) (hT j hj)).trans e
        refine hQ (Ts (ps.length - 1 - i)) k v h' s₁.toks ⟨hi, hkv⟩ (pi.2 _ k v hkv).2 ⟨hi, ?_, st.2.2.1.at fun o' e => (hs'.2 l hli).trans e, pi⟩ fun b o hb e => (hs'.2 b (fun h => hb (by simp [h]))).trans e
        rw [show (ps.length : Int) - 1 - ((i + 1 : Nat) : Int) = ((ps.length - 1 - i : Nat) : Int) - 1 by omega]
        exact hit'
      done := fun s₁ Q₁ E₁ st hQ => by
        have hit := st.2.1
        rw [show (ps.length : Int) - 1 - (ps.length : Int) = -1 by omega] at hit
        exact wpAny_pyNext_rev_end hA hit fun h' he' => hQ h' s₁.toks fun b o hb e => he' b o (fun h => hb (by simp [h])) e }
end PySem

namespace L2
open PySem PySem.Spec PyProof.Rows
theorem pair_vals {h : Heap} : ∀ {ps : List Addr} {prs : List (Key × Value)}, prs.length = ps.length → (∀ (j : Nat) (q : Key × Value), prs[j]? = some q → ∃ (b : Addr) (u : Value), ps[j]? = some b ∧ IsTup h b #[u, q.2] ∧ keyIs q.1 u = true) →
    ∃ vps : List (Value × Value), vps.length = prs.length ∧ ∀ (j : Nat) (q : Key × Value), prs[j]? = some q → ∃ (b : Addr) (u : Value), ps[j]? = some b ∧ vps[j]? = some (u, q.2) ∧ IsTup h b #[u, q.2] ∧ keyIs q.1 u = true
  | [], [], _, _ => ⟨[], rfl, fun j q e => by simp at e⟩
  | [], _ :: _, l, _ => by simp at l
  | _ :: _, [], l, _ => by simp at l
  | p :: ps, q :: prs, l, hp => by
    obtain ⟨b, u, e1, e2, e3⟩ := hp 0 q rfl
    obtain ⟨vps, l2, h2⟩ := pair_vals (ps := ps) (prs := prs) (by simpa using l) fun j q' e => by
      obtain ⟨b, u, f1, f2, f3⟩ := hp (j + 1) q' (by simpa using e)
      exact ⟨b, u, by simpa using f1, f2, f3⟩
    refine ⟨(u, q.2) :: vps, by simp [l2], fun j q' e => ?_⟩
    match j, e with
    | 0, e =>
      have e : q = q' := by simpa using e
      subst e
      exact ⟨b, u, e1, rfl, e2, e3⟩
    | j + 1, e =>
      obtain ⟨b, u, f1, f2, f3, f4⟩ := h2 j q' (by simpa using e)
      exact ⟨b, u, by simpa using f1, by simpa using f2, f3, f4⟩
theorem paired_app {α β : Type} {R : α → β → Prop} : ∀ {a c : List α} {b d : List β}, Paired R a b → Paired R c d → Paired R (a ++ c) (b ++ d)
  | _, _, _, _, .nil, h => h
  | _, _, _, _, .cons h t, k => .cons h (paired_app t k)
theorem paired_rev {α β : Type} {R : α → β → Prop} : ∀ {a : List α} {b : List β}, Paired R a b → Paired R a.reverse b.reverse
  | _, _, .nil => .nil
  | _, _, .cons h t => by
    rw [List.reverse_cons, List.reverse_cons]
    exact paired_app (paired_rev t) (.cons h .nil)
/-- dict(reversed(x)), x a list of pairs -/
def tDictRev (K : PySem.W.Frag) (te : TE) : TE := fun σ H Q => te σ H fun v H1 => ∃ (a : Addr) (ps : List Addr) (kvs : List (Key × V)), v = .ref a ∧ SqL K H1 a (ps.map V.ref) ∧ Paired (fun p kv => SqT K H1 p [kV kv.1, kv.2]) ps kvs ∧ ∀ p, H1 p = none → Q (.ref p) (upd H1 p (.dK (mergeK [] kvs.reverse)))
section
variable {X : Cx}
theorem pe_dictRev {e : Expr} {te : TE} {p p2 pos pos2 : Pos} (hc : X.calm = true) (hg : Gl X "dict") (hm : X.mg "dict" = none) (hg2 : Gl X "reversed") (hm2 : X.mg "reversed" = none) (he : PE X e te)
    (hs : starEach [e] X.env = (false, eval e X.env) :: starEach [] X.env := by rfl)
    (hs2 : starEach [.Call (.Name "reversed" p2) [e] [] pos2] X.env = (false, eval (.Call (.Name "reversed" p2) [e] [] pos2) X.env) :: starEach [] X.env := by rfl) :
    PE X (.Call (.Name "dict" p) [.Call (.Name "reversed" p2) [e] [] pos2] [] pos) (tDictRev X.K te) := by
  refine ⟨fun pins s σ H Q I h => ?_⟩
  refine Call_ (ld_blt I hg hm (show bootBuiltins "dict" = some (.type "dict") from by decide +kernel) (PyProof.Rows.callWith_type1 (args_cons (Call_ (ld_blt I hg2 hm2 PyProof.Rows.boot_reversed (PyProof.Rows.callWith_type1 (args_cons (thn (he.run pins s σ H _ I h) fun u s1 ⟨v, H1, I1, r1, q1⟩ => args_nil ?_) hs) hs rfl))) hs2) hs2 rfl))
  obtain ⟨a, ps, kvs, ev, hq, hp, q⟩ := q1
  subst ev
  obtain rfl : u = Value.ref a := r1
  obtain ⟨its, rv, p', hz⟩ := I1.list hq
  have ei := refs_at rv
  subst ei
  rw [List.length_map] at hz
  obtain ⟨prs, rel, hl, hpr⟩ := pairs_of I1 hp
  obtain ⟨vps, lv, hv⟩ := pair_vals hl hpr
  refine call_reversed_list p'.isList (args_nil ?_)
  have hlist := p'.isList
  obtain ⟨ol, hol, _⟩ := id hlist
  have hne : a ≠ s1.heap.objs.size := Nat.ne_of_lt (Heap.lt_size hol)
  have hat : ∀ j, j < vps.length → ∃ b u qv, ps[j]? = some b ∧ vps[j]? = some (u, qv) ∧ IsTup s1.heap b #[u, qv] := fun j hj => by
    obtain ⟨b, u, e1, e2, e3, e4⟩ := hv j _ (List.getElem?_eq_getElem (by omega : j < prs.length))
    exact ⟨b, u, _, e1, e2, e3⟩
  have hT : ∀ j, j < vps.length → ps.getD j 0 ≠ s1.heap.objs.size := fun j hj => by
    obtain ⟨b, u, qv, e1, e2, ⟨o, ho, _⟩⟩ := hat j hj
    rw [List.getD_eq_getElem?_getD, e1]
    exact Nat.ne_of_lt (Heap.lt_size ho)
  have hitems : ((ps.map Value.ref).toArray).size = vps.length := by simp; omega
  refine PySem.call_dict_pairs (knd := mixKind X.prog X.w) (kvs := prs.reverse) (s := { s1 with heap := s1.heap.push (revObj a (((ps.map Value.ref).toArray.size : Int) - 1)) }) (PairArg.rev s1.heap.objs.size a hne (ps.map Value.ref).toArray (fun j => ps.getD j 0) vps hT) (I1.ok.hd hc) ⟨Heap.get?_push_size _ rfl, hlist.push _, hitems, fun j k v e => ?_⟩ ⟨by rw [List.length_reverse, lv], fun i key v hr => ?_⟩ (by omega) fun h' tk hd' hk => ?_
  · have hj := (List.getElem?_eq_some_iff.mp e).1
    obtain ⟨b, u, qv, e1, e2, e3⟩ := hat j hj
    rw [e] at e2
    cases e2
    have eb : ps.getD j 0 = b := by rw [List.getD_eq_getElem?_getD, e1]; rfl
    refine ⟨by simp [e1], .inl ?_⟩
    show IsTup _ (ps.getD j 0) _
    rw [eb]
    exact e3.keeps fun b o z => Heap.get?_push_of_some _ z
  · obtain ⟨hi, e⟩ := hr
    obtain ⟨b, u, e1, e2, e3, e4⟩ := hv (vps.length - 1 - i) _ (List.getElem?_eq_getElem (by omega : vps.length - 1 - i < prs.length))
    rw [e] at e2
    have e2 := Option.some.inj e2
    have f1 : key = u := congrArg Prod.fst e2
    have f2 : v = (prs[vps.length - 1 - i]'(by omega)).2 := congrArg Prod.snd e2
    subst f1 f2
    refine ⟨_, ?_, e4⟩
    rw [List.getElem?_reverse (by omega), show prs.length - 1 - i = vps.length - 1 - i by omega]
    exact List.getElem?_eq_getElem (by omega)
  · have k1 : ∀ b o, s1.heap.get? b = some o → h'.get? b = some o := fun b o e => hk b o (fun z => by rw [List.mem_singleton.mp z] at e; exact absurd (Heap.lt_size e) (Nat.lt_irrefl _)) (Heap.get?_push_of_some _ e)
    have hm' : (((s1.heap.push (revObj a (((ps.map Value.ref).toArray.size : Int) - 1))).objs.size) == sysModules) = false := by
      have := I1.big
      exact beq_eq_false_iff_ne.mpr (Nat.ne_of_gt (Nat.lt_of_lt_of_le this (by simp [Heap.push])))
    have hlen : (mergeK [] kvs.reverse).length ≤ sizeLine := by
      refine Nat.le_trans (length_mergeK kvs.reverse []) ?_
      rw [List.length_nil, Nat.zero_add, List.length_reverse, rel.length, hl]
      exact hz
    have hge : s1.heap.objs.size ≤ (s1.heap.push (revObj a (((ps.map Value.ref).toArray.size : Int) - 1))).objs.size := by simp [Heap.push]
    exact ⟨.ref _, upd H1 _ (.dK (mergeK [] kvs.reverse)), I1.laid (t' := tk) k1 hge (show ObjOk X.prog X.w _ _ _ (.dK (mergeK [] kvs.reverse)) from ⟨hlen, hm', merged [] prs.reverse, KV.merge (paired_rev rel) .nil, hd'⟩), rfl, q _ (I1.hok.fresh hge)⟩
end
end L2
set_option Elab.async false
set_option linter.all false
set_option maxRecDepth 100000
set_option maxHeartbeats 4000000
set_option exponentiation.threshold 9000
/-! readings for the stores' laws: items of a dict, dicts of lists, displays of one pair, get, text * int -/
namespace Sl
open PySem L2 C8 StX PySem.Spec PyProof.Rows LiI RT
section
variable {σ : L2.St} {H H' : Hp} {Q : VK} {te td ty tv : TE} {K : PySem.W.Frag} {R : It → Hp → Prop} {g : TG} {tt : TT} {vs : List Nat} {x y v : V}
def itR (R : It → Hp → Prop) (x : V) (H1 : Hp) : Prop := ∃ d o kvs, x = .ref d ∧ H1 d = some (.frz o (.dK kvs)) ∧ R (Iti d o kvs) H1
theorem rd_iItems (h : td σ H fun x H1 => itR R x H1) : iItems td σ H R := h
theorem rd_itR {d : Addr} {o : Obj} {kvs : List (Key × V)} (e : H d = some (.frz o (.dK kvs))) (h : R (Iti d o kvs) H) : itR R (.ref d) H := ⟨d, o, kvs, rfl, e, h⟩
theorem lcR_items {d : Addr} {o : Obj} {kvs : List (Key × V)} (Pv : Addr → Nat → Hp → Prop) (hl : ∀ D i H', H D = none → Pv D i H' → H' d = some (.frz o (.dK kvs))) (h0 : ∀ D H', H D = none → Same H H' → H' D = some (.lst []) → H' = upd H D (.lst []) → Pv D 0 H')
    (hs : ∀ D i k z t H' H2, H D = none → kvs[i]? = some (k, z) → Pv D i H' → Same H' H2 → H2 t = some (.tup [kV k, z]) → g (.ref t) (wipe σ vs) H2 fun σ2 H2 => wipe σ2 vs = wipe σ vs ∧ tt σ2 H2 fun b H3 => if b = true then te σ2 H3 fun y H4 => LcE D (Pv D (i + 1)) y H4 else Pv D (i + 1) H3)
    (hd : ∀ D H', H D = none → Pv D kvs.length H' → Q (.ref D) H') : LcR (Iti d o kvs) g tt te vs σ H Q :=
  lcR_gen _ kvs.length Pv h0 (fun D i H' hD h p => ⟨hl D i H' hD p, h⟩) (fun D H' hD p => ⟨hl D _ H' hD p, Nat.le_refl _⟩)
    (fun D i H' x H2 hD hi p ⟨t, k, v, e1, e2, e3, e4⟩ => by subst e2; subst e4; exact hs D i k v t H' _ hD e1 p (Same.new (Same.refl H') e3) upd_same) hd
theorem rd_listIt0 (h : te σ H fun x H1 => rItemsL x H1 Q) : tListItems te σ H Q := h
theorem rd_listIt {d : Addr} {kvs : List (Key × V)} (e : H d = some (.dK kvs)) (h : ∀ H' p (ts : List Addr), Same H H' → H p = none → H' p = some (.lst (ts.map V.ref)) → Paired (fun (t : Addr) (q : Key × V) => H' t = some (.tup [kV q.1, q.2])) ts kvs → Q (.ref p) H') : rItemsL (.ref d) H Q :=
  ⟨d, kvs, rfl, e, fun H' p ts s hp _ _ ep pr => h H' p ts s hp ep pr⟩
def rDictRev (K : PySem.W.Frag) (v : V) (H1 : Hp) (Q : VK) : Prop := ∃ (a : Addr) (ps : List Addr) (kvs : List (Key × V)), v = .ref a ∧ SqL K H1 a (ps.map V.ref) ∧ Paired (fun p kv => SqT K H1 p [kV kv.1, kv.2]) ps kvs ∧ ∀ p, H1 p = none → Q (.ref p) (upd H1 p (.dK (mergeK [] kvs.reverse)))
theorem rd_dictRev0 (h : te σ H fun v H1 => rDictRev K v H1 Q) : tDictRev K te σ H Q := h
def rTupRev (K : PySem.W.Frag) (v : V) (H1 : Hp) (Q : VK) : Prop := ∃ (a : Addr) (xs : List V), v = .ref a ∧ SqL K H1 a xs ∧ ∀ q, H1 q = none → Q (.ref q) (upd H1 q (.tup xs.reverse))
theorem rd_tupRev0 (h : te σ H fun v H1 => rTupRev K v H1 Q) : tTupRev K te σ H Q := h
theorem rd_tupRev {a : Addr} {xs : List V} (e : SqL K H a xs) (h : ∀ q H', H q = none → Same H H' → H' q = some (.tup xs.reverse) → Q (.ref q) H') : rTupRev K (.ref a) H Q := ⟨a, xs, rfl, e, fun q hq => h q _ hq (Same.new (Same.refl H) hq) upd_same⟩
def rDGet1 (ty : TE) (x : V) (σ : L2.St) (H1 : Hp) (Q : VK) : Prop := ∃ a, x = .ref a ∧ IsD H1 a ∧ ty σ H1 fun y H2 => ∃ o, DGet H2 a y o ∧ Q (o.getD .non) H2
theorem rd_dget10 (h : td σ H fun x H1 => rDGet1 ty x σ H1 Q) : tDGet1 td ty σ H Q := h
/-- text * int -/
def rMulS : R2 := fun x y H Q => ∃ z n, x = .str z ∧ y = .int n ∧ 2 ≤ n ∧ n ≤ 100 ∧ 1 ≤ z.length ∧ z.length ≤ 100 ∧ ((⟨(List.replicate n.toNat z.cps).foldl (· ++ ·) #[]⟩ : Str).length ≤ 100000) ∧ Q (.str ⟨(List.replicate n.toNat z.cps).foldl (· ++ ·) #[]⟩) H
theorem op_mulS {X : Cx} : OpR X (binaryOp .Mult) rMulS := by
  intro pins s σ H x y v u Q I rx ry h
  obtain ⟨z, n, rfl, rfl, n0, n1, z0, z1, lz, q⟩ := h
  obtain ⟨t, rfl⟩ := rx
  obtain ⟨t', rfl⟩ := ry
  have e1 : (n == 1 || z.length == 0) = false := by
    rw [Bool.or_eq_false_iff]
    exact ⟨beq_eq_false_iff_ne.mpr (by omega), beq_eq_false_iff_ne.mpr (by omega)⟩
  refine PySem.P.mul_str (by rw [decide_eq_false (by omega), decide_eq_false (by omega)]; rfl) (fun _ _ => ?_) (fun _ _ => ?_) ?_
  · have h1 : (z.length : Int) * n ≤ 100 * 100 := Int.mul_le_mul (by omega) n1 (by omega) (by omega)
    have h2 : (z.length : Int) ≤ (2 ^ 63 - 1) / n := (Int.le_ediv_iff_mul_le (by omega)).mpr (Int.le_trans h1 (by decide))
    omega
  · refine decide_eq_false (Nat.not_lt.mpr (Nat.le_trans (m := 10000) ?_ (by decide)))
    have : n.toNat ≤ 100 := by omega
    exact Nat.mul_le_mul z1 this
  · rw [if_neg (by omega), e1, if_neg (by decide)]
    exact ⟨Nat.le_trans lz (by decide), ⟨.str _, H, I.tok _, ⟨_, rfl⟩, q⟩⟩
end
end Sl
set_option Elab.async false
set_option linter.all false
set_option maxRecDepth 100000
set_option maxHeartbeats 4000000
set_option exponentiation.threshold 9000
/-! {True: x}: a dict whose one key is a truth value -/
namespace L2
open PySem PySem.Spec PyProof.Rows PpSet
/-- the object at p is o -/
def BkO (p : Addr) (o : Obj) : HO := .ext fun h => h.get? p = some o
/-- o is a dict with the one key b -/
structure BkOk (P : Program) (w : World) (p : Addr) (o : Obj) (b : Bool) : Prop where
  sys : (p == sysModules) = false
  ex : o.ExactDict
  dt : ∃ es ep en, o.data = .dict es ep ∧ es.size = 1 ∧ es[0]? = some en ∧ en.key = Value.bool b
  of : ∃ u, ∀ h : Heap, h.get? p = some o → h.DictOf (boolK P w) p [(b, u)]
section
variable {X : Cx} {pins : List (Addr × Obj)} {σ : L2.St} {H : Hp} {s : Shared}
theorem bk_at {p : Addr} {o : Obj} (I : Inv X pins σ H s) (e : H p = some (BkO p o)) : s.heap.get? p = some o := (I.hok p _ e).1
/-- the display -/
def tDispB (P : Program) (w : World) (b : Bool) (tv : TE) : TE := fun σ H Q => ∀ p, H p = none → tv σ (upd H p (.dK [])) fun y H2 => H2 p = some (.dK []) ∧ ∀ o, BkOk P w p o b → Q (.ref p) (upd H2 p (BkO p o))
theorem pairs_nil {P : Program} {w : World} {h : Heap} {a : Addr} (d : h.DictOf (mixKind P w) a []) : h.DictOf (boolK P w) a [] := by
  obtain ⟨o, es, ep, h1, h2, h3, h4, h5, h6⟩ := d
  have e : es = #[] := by
    cases es with
    | mk l => cases l with
      | nil => rfl
      | cons x l => cases h5
  subst e
  exact ⟨o, #[], ep, h1, h2, h3, fun x hx => by simp at hx, .nil, List.nodup_nil⟩
theorem pe_dispB {b : Bool} {j : Nat} {pos pos' : Pos} {v : Expr} {tv : TE} (hv : PE X v tv) (hk : PE X (.Constant (.bool b) j pos') (tC (.bl b))) : PE X (.Dict [some (.Constant (.bool b) j pos')] [v] pos) (tDispB X.prog X.w b tv) := by
  refine ⟨fun pins s σ H Q I q => ?_⟩
  have hn := I.hok.fresh (Nat.le_refl s.heap.objs.size)
  have I1 := I.laid (a := s.heap.objs.size) (o := .dK []) (h' := s.heap.push { cls := .type "dict", data := .dict #[] }) (t' := s.toks) (fun _ _ q => Heap.get?_push_of_some _ q) (Nat.le_refl _) (dk_empty s.heap I.big)
  have q1 := q s.heap.objs.size hn
  refine wpAny_Dict_walk (knd := boolK X.prog X.w) rfl rfl (by simp) (by simp) ?_
  refine pairTrees_cons_walk (Constant_bool (thn (hv.run pins _ σ _ _ I1 q1) fun w2 s2 ⟨y, H2, I2, ry, e, q2⟩ => pairTrees_nil_walk ?_))
  obtain ⟨z, hd, vs0, r0, dd⟩ := dk_of I2.hok e
  cases r0
  refine ⟨[(b, w2)], ⟨boolK_is _ _ b, rfl, True.intro⟩, pairs_nil dd, fun h' dd' hs => ?_⟩
  obtain ⟨o, es, ep, h1, h2, h3, h4, h5, h6⟩ := dd'
  have hz : es.size = 1 ∧ ∃ en : DictEntry, es[0]? = some en ∧ en.key = Value.bool b := by
    have h5 : Pairs (boolK X.prog X.w) es.toList [(b, w2)] := h5
    cases hl : es.toList with
    | nil => rw [hl] at h5; cases h5
    | cons x l =>
      rw [hl] at h5
      cases h5 with
      | cons a c d =>
        cases d
        refine ⟨by rw [← Array.length_toList, hl]; rfl, x, by rw [← Array.getElem?_toList, hl]; rfl, isB_shape a⟩
  obtain ⟨hz, en, hen, hk⟩ := hz
  have ok : BkOk X.prog X.w s.heap.objs.size o b := ⟨hd, h2, ⟨es, ep, en, h3, hz, hen, hk⟩, w2, fun h e => ⟨o, es, ep, e, h2, h3, h4, h5, h6⟩⟩
  have new : ObjOk X.prog X.w (upd H2 s.heap.objs.size (BkO s.heap.objs.size o)) h' s.heap.objs.size (BkO s.heap.objs.size o) := ⟨h1, ⟨o, h1⟩, fun g1 g2 e1 k => k _ e1⟩
  exact ⟨.ref s.heap.objs.size, _, d_write I2 (by rw [e]; exact True.intro) hs ⟨o, h1⟩ new, rfl, q2 o ok⟩
/-- isinstance(x, dict) of such a dict -/
def rIsiB (P : Program) (w : World) : List V → Hp → VK → Prop := fun xs H Q => ∃ (p : Addr) (o : Obj) (b : Bool), xs = [.ref p, .ty "dict"] ∧ H p = some (BkO p o) ∧ BkOk P w p o b ∧ Q (.bl true) H
theorem cr_isiB : CallR X (.builtin "isinstance") (rIsiB X.prog X.w) := by
  intro pins s σ H xs us Q I r h
  obtain ⟨p, o, b, rfl, e, ok, q⟩ := h
  obtain ⟨u1, u2, rfl, r1, r2⟩ := vals2 r
  cases (show u1 = Value.ref p from r1)
  cases (show u2 = Value.type "dict" from r2)
  exact PySem.W.kia_one PySem.W.kitx_dict I.kIn ⟨o, bk_at I e, ok.ex.1⟩ (kit_ty (show kitB "dict" "dict" = some true by decide +kernel)) (fun z => nomatch z) fun tk => ⟨.bl true, H, I.tok tk, rfl, q⟩
/-- len of such a dict -/
def rLenB (P : Program) (w : World) : List V → Hp → VK → Prop := fun xs H Q => ∃ (p : Addr) (o : Obj) (b : Bool), xs = [.ref p] ∧ H p = some (BkO p o) ∧ BkOk P w p o b ∧ Q (.int 1) H
theorem cr_lenB : CallR X (.builtin "len") (rLenB X.prog X.w) := by
  intro pins s σ H xs us Q I r h
  obtain ⟨p, o, b, rfl, e, ok, q⟩ := h
  obtain ⟨u1, rfl, r1⟩ := vals1 r
  cases (show u1 = Value.ref p from r1)
  obtain ⟨u, d⟩ := ok.of
  exact PySem.call_len_dict ok.sys (d _ (bk_at I e)) (show (((1 : Nat) : Int)) < 2 ^ 63 by decide) ⟨.int 1, H, I.tok _, ⟨_, rfl⟩, q⟩
/-- the keys of such a dict -/
def Itb (d : Addr) (o : Obj) (b : Bool) : It :=
  ⟨fun i H => H d = some (BkO d o) ∧ i < 1, fun i H x H' => H' = H ∧ x = .bl b, fun i H => H d = some (BkO d o) ∧ 1 ≤ i⟩
theorem turn_keysB {P : Program} {w : World} {K : PySem.W.Frag} {tg : Expr} {d : Addr} {o : Obj} {b : Bool} {es : Array DictEntry} {ep : Nat} {en : DictEntry} (it : Addr) (hd : o.data = .dict es ep) (hz : es.size = 1) (hen : es[0]? = some en) (hk : en.key = Value.bool b) :
    Turn P w K tg (Itb d o b) [it] it (fun i h => h.IsKeyIter it d i 1 ep) where
  mem := by simp
  obj := fun i h st b hb => by
    have e : b = it := by simpa using hb
    subst e
    obtain ⟨oi, e, c, dd⟩ := st
    exact ⟨oi, e, fun v z => by rw [dd] at z; cases z⟩
  keep := fun i h h' st k => st.at fun oi e => k it (by simp) oi e
  item := by
    intro X hP hw hK hc i pins s σ H E I hf st hg
    subst hP hw hK
    obtain ⟨hdd, hi⟩ := hg
    obtain ⟨f0, f1, f2, f3, f4, f5⟩ := hf it (by simp)
    obtain rfl : i = 0 := by omega
    refine next_key_item st (bk_at I hdd) hd hz hen fun h' st' sb => ?_
    have I1 : Inv X pins σ H { s with heap := h' } := I.turned (t' := s.toks) (fun b ob hb e => (sb.2 b hb).trans e) f0 f1 f3 f4 f5
    obtain ⟨oi, e, c, dd⟩ := id st'
    exact ⟨en.key, rfl, go_of (s := { s with heap := h' }) e c dd (by decide) ⟨.bl b, H, I1, hk, ⟨rfl, rfl⟩, st', fun b hb => (hf b hb).1⟩⟩
  done := by
    intro X hP hw hK hc i pins s σ H E I hf st hg
    subst hP hw hK
    obtain ⟨hdd, hi⟩ := hg
    obtain ⟨f0, f1, f2, f3, f4, f5⟩ := hf it (by simp)
    exact next_key_end (I.ok.hd hc) st (bk_at I hdd) hd hz hi fun h' eb => ⟨rfl, I.turned (t' := s.toks) (fun b ob hb e => eb b ob hb e) f0 f1 f3 f4 f5⟩
  self := fun A i s Q E st h => wpAny_pyIter_keyiter st h
def iKeysB (P : Program) (w : World) (td : TE) : TI := fun σ H R => td σ H fun x H1 => ∃ d o b, x = .ref d ∧ H1 d = some (BkO d o) ∧ BkOk P w d o b ∧ R (Itb d o b) H1
theorem pi_keysB {tg e : Expr} {td : TE} (he : PE X e td) : PI X tg e (iKeysB X.prog X.w td) := by
  refine ⟨fun pins s σ H R I h => ?_⟩
  refine thn (he.run pins s σ H _ I h) fun u s1 ⟨x, H1, I1, rx, d, o, b, ex, hd, ok, q⟩ => ?_
  subst ex
  obtain rfl : u = Value.ref d := rx
  obtain ⟨es, ep, en, h3, hz, hen, hk⟩ := ok.dt
  refine iter_keys ok.sys (bk_at I1 hd) ok.ex h3 (pi_one (tk := s1.toks) I1 _ (turn_keysB _ h3 hz hen hk) ⟨_, Heap.get?_push_size _ rfl, rfl, ?_⟩ q)
  rw [hz] <;> rfl
end
end L2
namespace Sl
open PySem L2 C8 StX
section
variable {σ : L2.St} {H H1 : Hp} {Q : VK} {K : PySem.W.Frag} {P : Program} {w : World} {te td : TE} {R : It → Hp → Prop} {g : TG} {tt : TT} {vs : List Nat}
theorem rd_isiB {p : Addr} {o : Obj} {b : Bool} (e : H p = some (BkO p o)) (ok : BkOk P w p o b) (h : Q (.bl true) H) : rIsiB P w [.ref p, .ty "dict"] H Q := ⟨p, o, b, rfl, e, ok, h⟩
theorem rd_lenB {p : Addr} {o : Obj} {b : Bool} (e : H p = some (BkO p o)) (ok : BkOk P w p o b) (h : Q (.int 1) H) : rLenB P w [.ref p] H Q := ⟨p, o, b, rfl, e, ok, h⟩
def rKeysB (P : Program) (w : World) (R : It → Hp → Prop) (x : V) (H1 : Hp) : Prop := ∃ d o b, x = .ref d ∧ H1 d = some (BkO d o) ∧ BkOk P w d o b ∧ R (Itb d o b) H1
theorem rd_iKeysB (h : td σ H fun x H1 => rKeysB P w R x H1) : iKeysB P w td σ H R := h
theorem rd_keysB {d : Addr} {o : Obj} {b : Bool} (e : H d = some (BkO d o)) (ok : BkOk P w d o b) (h : R (Itb d o b) H) : rKeysB P w R (.ref d) H := ⟨d, o, b, rfl, e, ok, h⟩
end
end Sl
set_option Elab.async false
set_option linter.all false
set_option maxRecDepth 100000
set_option maxHeartbeats 4000000
/-! an own instance == an int, by the own __eq__ -/
namespace L2
open PySem PySem.Spec PyProof.Rows
section
variable {X : Cx} {k j : Nat} {C : Addr} {sp : Sp} {dvs : List V}
def rEqOI (C : Addr) (sp : Sp) (dvs : List V) : R2 := fun x y H Q => ∃ (a dx : Addr) (fs : List (Str × V)) (i : Int), x = .ref a ∧ y = .int i ∧ H a = some (.ins C dx fs) ∧ sp ([.ref a, .int i] ++ dvs) H (fun v H' => ∃ k, v = .bl k ∧ Q v H') C8.E0
theorem op_eqOI (c : C8.Met X.prog X.w X.K X.mg X.base k C "__eq__" sp dvs) (hr : Room j X.A) (hk : k ≤ j) (hn : PySem.W.subIn X.K (.type "int") (.ref C) = some false) : OpR X (compareOp .Eq) (rEqOI C sp dvs) := by
  obtain ⟨f, fd, ps, ds, cl, hm, F, bd, d⟩ := c.ex
  intro pins s σ H x y v u Q I rx ry h
  obtain ⟨o, dx, fs, i, rfl, rfl, e, q⟩ := h
  obtain rfl : v = Value.ref o := rx
  obtain ⟨t, rfl⟩ := ry
  obtain ⟨mA, O, _, _, _, _⟩ := ins_get I.hok e
  obtain ⟨od, J, _⟩ := O.look
  obtain ⟨m, F0⟩ := I.fr
  refine PySem.W.cmp_K (op := .Eq) (tb := .type "int") hr.units0 F0 I.ok.mod.kin J (fun _ _ _ _ _ q => wpAny_pure q) (by unfold PySem.W.notFirst; rw [hn]; simp) hm.at_ hm.fn (wpAny_mono (run_fn (us := [.ref o, .int i t]) (vs := [.ref o, .int i]) F (hr.mono hk) bd d C8.pass0 I (.cons rfl (.cons ⟨t, rfl⟩ .nil)) q) (fun v s2 y => ?_) fun _ _ y => y)
  obtain ⟨x2, H2, I2, rx2, b, rfl, q2⟩ := y
  obtain rfl : v = Value.bool b := rx2
  exact ⟨.bl b, H2, I2, rfl, q2⟩
end
end L2
namespace Sl
open PySem L2 C8 StX
theorem rd_eqOI {H : Hp} {Q : VK} {C a dx : Addr} {sp : Sp} {dvs : List V} {fs : List (Str × V)} {i : Int} (e : H a = some (.ins C dx fs)) (h : sp ([.ref a, .int i] ++ dvs) H (fun v H' => ∃ k, v = .bl k ∧ Q v H') C8.E0) : rEqOI C sp dvs (.ref a) (.int i) H Q := ⟨a, dx, fs, i, rfl, rfl, e, h⟩
end Sl
set_option Elab.async false
set_option linter.all false
set_option maxRecDepth 100000
set_option maxHeartbeats 4000000
set_option exponentiation.threshold 9000
/-! readings: displays of one pair, tuple + tuple, list(range), dict of pairs -/
namespace Sl
open PySem L2 C8 StX PySem.Spec PyProof.Rows
section
variable {σ : L2.St} {H H' : Hp} {Q : VK} {te tk tv : TE} {K : PySem.W.Frag} {x y v : V} {P : Program} {w : World}
def rDisp1 (p : Addr) (Q : VK) (x y : V) (H2 : Hp) : Prop := H2 p = some (.dK []) ∧ ∃ kvs : List (Key × V), [(x, y)] = kvs.map (fun kv => (kV kv.1, kv.2)) ∧ kvs.length ≤ 15 ∧ Q (.ref p) (upd H2 p (.dK (mergeK [] kvs)))
theorem rd_disp1 (h : ∀ p H1, H p = none → Same H H1 → H1 p = some (.dK []) → tk σ H1 fun x H2 => tv σ H2 fun y H3 => rDisp1 p Q x y H3) : tDisp [(tk, tv)] σ H Q :=
  fun p hp => h p _ hp (Same.new (Same.refl H) hp) upd_same
theorem rd_d1 {p : Addr} {i : Int} {H2 : Hp} (e : H2 p = some (.dK [])) (h : ∀ H3, H3 = upd H2 p (.dK [(Sum.inl i, y)]) → H3 p = some (.dK [(Sum.inl i, y)]) → Q (.ref p) H3) : rDisp1 p Q (.int i) y H2 := ⟨e, [(Sum.inl i, y)], rfl, Nat.le_of_lt_succ (by decide : 1 < 16), h _ rfl upd_same⟩
def rDispB (P : Program) (w : World) (b : Bool) (p : Addr) (Q : VK) (y : V) (H2 : Hp) : Prop := H2 p = some (.dK []) ∧ ∀ o, BkOk P w p o b → Q (.ref p) (upd H2 p (BkO p o))
theorem rd_dispB {b : Bool} (h : ∀ p H1, H p = none → Same H H1 → H1 p = some (.dK []) → tv σ H1 fun y H2 => rDispB P w b p Q y H2) : tDispB P w b tv σ H Q :=
  fun p hp => h p _ hp (Same.new (Same.refl H) hp) upd_same
theorem rd_dB {b : Bool} {p : Addr} {H2 : Hp} (e : H2 p = some (.dK [])) (h : ∀ o H3, BkOk P w p o b → H3 = upd H2 p (BkO p o) → H3 p = some (BkO p o) → Q (.ref p) H3) : rDispB P w b p Q y H2 := ⟨e, fun o ok => h o _ ok rfl upd_same⟩
theorem rd_catA {a b : Addr} {xs ys : List V} (e1 : H a = some (.tup xs)) (e2 : H b = some (.tup ys)) (l : xs.length + ys.length ≤ 100000) (h : ∀ p H', Same H H' → H' p = some (.tup (xs ++ ys)) → Q (.ref p) H') : rCatA K (.ref a) (.ref b) H Q := by
  refine ⟨a, b, xs, ys, rfl, rfl, SqT.of e1, SqT.of e2, Nat.le_trans l (by decide), fun z => ?_, fun _ z => ?_, fun _ _ p hp => h p _ (Same.new (Same.refl H) hp) upd_same⟩
  · subst z; exact h b H (Same.refl H) e2
  · subst z; exact h a H (Same.refl H) (by rw [List.append_nil]; exact e1)
def rLstRg (Q : VK) (a b : Int) (H1 : Hp) : Prop := RgOk a b ∧ ∀ q, H1 q = none → Q (.ref q) (upd H1 q (.lst (rgV a b)))
theorem rd_listRg0 {tr : L2.St → Hp → (Int → Int → Hp → Prop) → Prop} (h : tr σ H fun a b H1 => rLstRg Q a b H1) : tLstRg tr σ H Q := h
end
end Sl
set_option Elab.async false
set_option linter.all false
set_option maxRecDepth 100000
set_option maxHeartbeats 4000000
set_option exponentiation.threshold 9000
/-! ### list(reversed(a list)) -/
namespace LiR
open PySem PySem.Spec PyProof.Rows RT
section
variable {prog : Program} {w : World} {A : Around} {s : Shared} {R : Result → Shared → Prop}
theorem extend_rev (hh : A.handled = none) {it l S : Addr} {items : Array Value} (res : Value) (c0 : Nat) (hit : s.heap.IsRevIter it l ((items.size : Int) - 1)) (hl : s.heap.IsList l items) (hne : l ≠ it) (hn : items.size ≤ sizeLine) (hS : s.heap.get? S = some { cls := Value.type "list", data := Data.seq #[] c0 }) (hSi : S ≠ it) (hSl : S ≠ l)
    (hR : ∀ (h' : Heap) (tk : Nat) (acc' : Array Value) (c' : Nat), (∀ (b : Addr) (o : Obj), b ≠ S → b ≠ it → s.heap.get? b = some o → h'.get? b = some o) → h'.get? S = some { cls := Value.type "list", data := Data.seq acc' c' } →
      ItemsOf (fun i v => items[items.size - 1 - i]? = some v) acc' items.size → R (.ok (.ret res)) { heap := h', gens := s.gens, drawn := s.drawn, toks := tk, os := s.os }) :
    wpAny (model prog w) A.in1 (Builtin.List.listExtendWith (.ref S) (.ref it) res) (fun fin s' => match fin with | .done f => R (.ok f) s' | .again c' => c'.quiet = true ∧ codeAny (model prog w) A c' R s') (fun e s' => R (.error e) s') s := by
  have W := Walks.toS (Walks.listRev (prog := prog) (w := w) (A := A.in1) hh it l hne items)
  have hT := hit.typeIs
  have h1 : Builtin.List.listSameRef (.ref S) (.ref it) = false := by simp [Builtin.List.listSameRef, hSi]
  unfold Builtin.List.listExtendWith
  refine wpAny_bind (wpAny_typeOf hT ?_)
  rw [if_neg (by rw [h1]; decide)]
  refine wpAny_bind (wpAny_pyIter_revIter hit (wpAny_bind (wpAny_holding ?_)))
  unfold Builtin.List.listLengthHint
  refine wpAny_bind (wpAny_specialOf hT nolen_lri ?_)
  refine wpAny_bind (wpAny_specialOf hT hint_lri ?_)
  have e1 : splitId "list_reverseiterator.__length_hint__" = some ("list_reverseiterator", "__length_hint__") := by decide +kernel
  simp only [e1]
  have f5 : isSubtype (.type "list_reverseiterator") (.type "list_reverseiterator") = pure true := by rw [isSubtype_type]; kernel_rfl
  refine wpAny_bind ?_
  iterate 6 (any_goals (first | assumption | wp_step))
  refine wpAny_pure ⟨plainId_quiet F.plain_extend_loop _, codeAny_extend_loopS W hn S (by simp [hSi, hSl]) res items.size 0 s #[] c0 (Nat.sub_zero _) (Nat.zero_le _) ⟨Nat.zero_le _, by simpa using hit, hl⟩ hS ?_ fun s' acc' c' mv hS' hacc => ?_⟩
  · exact ⟨rfl, fun j v h => by simp at h⟩
  · obtain ⟨hp, g, d, tk, os⟩ := s'
    obtain ⟨m1, m2, m3, m4, m5⟩ := mv
    have m2 : g = s.gens := m2
    have m3 : d = s.drawn := m3
    have m4 : os = s.os := m4
    subst m2 m3 m4
    exact hR hp tk acc' c' (fun b o h1 h2 => m1 b o (by simp [h1, h2])) hS' hacc
theorem list_init_rev (hh : A.handled = none) {it l S : Addr} {items : Array Value} (hit : s.heap.IsRevIter it l ((items.size : Int) - 1)) (hl : s.heap.IsList l items) (hne : l ≠ it) (hn : items.size ≤ sizeLine) (hS : s.heap.get? S = some { cls := Value.type "list", data := Data.seq #[] }) (hSi : S ≠ it) (hSl : S ≠ l)
    (hR : ∀ (h' : Heap) (tk : Nat) (acc' : Array Value) (c' : Nat), (∀ (b : Addr) (o : Obj), b ≠ S → b ≠ it → s.heap.get? b = some o → h'.get? b = some o) → h'.get? S = some { cls := Value.type "list", data := Data.seq acc' c' } →
      ItemsOf (fun i v => items[items.size - 1 - i]? = some v) acc' items.size → R (.ok (.ret .none)) { heap := h', gens := s.gens, drawn := s.drawn, toks := tk, os := s.os }) :
    wpAny (model prog w) A.in1 (Builtin.«list.__init__» { pos := [.ref S, .ref it] }) (fun fin s' => match fin with | .done f => R (.ok f) s' | .again c' => c'.quiet = true ∧ codeAny (model prog w) A c' R s') (fun e s' => R (.error e) s') s := by
  refine wpAny_bind ?_
  refine wpAny_bind (wpAny_seqItems hS rfl (wpAny_pure ?_))
  refine wpAny_bind (wpAny_updateSeq hS rfl ?_ (by rw [sizeLine_eq]; simp) (by rw [sizeLine_eq]; simp))
  have hS₂ := Heap.get?_update_self (Obj.mapSeq fun x => #[]) hS rfl
  have oth : ∀ b o, b ≠ S → s.heap.get? b = some o → (s.heap.update S (Obj.mapSeq fun x => #[])).get? b = some o := fun b o hb e => (Heap.get?_update_other s.heap (Obj.mapSeq fun x => #[]) (Ne.symm hb)).trans e
  refine wpAny_bind (wpAny_letGo ?_)
  obtain ⟨oi, hoi, r1⟩ := id hit
  obtain ⟨ol, hol, r2⟩ := id hl
  refine extend_rev (s := { s with heap := s.heap.update S (Obj.mapSeq fun x => #[]) }) hh (it := it) (l := l) .none _ ⟨oi, oth _ _ hSi.symm hoi, r1⟩ ⟨ol, oth _ _ hSl.symm hol, r2⟩ hne hn hS₂ hSi hSl fun h' tk acc' c' k1 k2 k3 => ?_
  exact hR h' tk acc' c' (fun b o h1 h2 e => k1 b o h1 h2 (oth b o h1 e)) k2 k3
theorem call_list_rev {E : Value → Shared → Prop} {Q : Value → Shared → Prop} (hh : A.handled = none) {it l : Addr} {items : Array Value} (hit : s.heap.IsRevIter it l ((items.size : Int) - 1)) (hl : s.heap.IsList l items) (hne : l ≠ it) (hn : items.size ≤ sizeLine)
    (hQ : ∀ (h' : Heap) (tk : Nat) (acc' : Array Value) (c' : Nat), (∀ (b : Addr) (o : Obj), b ≠ it → s.heap.get? b = some o → h'.get? b = some o) → h'.get? s.heap.objs.size = some { cls := Value.type "list", data := Data.seq acc' c' } →
      ItemsOf (fun i v => items[items.size - 1 - i]? = some v) acc' items.size → Q (.ref s.heap.objs.size) { heap := h', gens := s.gens, drawn := s.drawn, toks := tk, os := s.os }) :
    wpAny (model prog w) A (call (.type "list") [.ref it]) Q E s := by
  refine callType_codes (Q₁ := fun obj s₁ => obj = .ref s.heap.objs.size ∧ s₁ = { s with heap := s.heap.push { cls := Value.type "list", data := Data.seq #[] } }) F.called_list (F.typeCall_list_1 (.ref it)) F.entry_list_init (code_list_new (.ref it) ⟨rfl, rfl⟩) fun obj s₁ h₁ => ?_
  obtain ⟨e1, e2⟩ := h₁
  subst e1 e2
  obtain ⟨oi, hoi, r1⟩ := id hit
  obtain ⟨ol, hol, r2⟩ := id hl
  have hS : (s.heap.push { cls := Value.type "list", data := Data.seq #[] }).get? s.heap.objs.size = some { cls := Value.type "list", data := Data.seq #[] } := Heap.get?_push_size s.heap rfl
  have kp : ∀ b o, s.heap.get? b = some o → (s.heap.push { cls := Value.type "list", data := Data.seq #[] }).get? b = some o := fun b o e => Heap.get?_push_of_some _ e
  refine ⟨⟨_, hS, rfl⟩, F.args_list_init_2 _ _, list_init_rev (A := A.in1) (R := wants (fun r s₂ => r = Value.none ∧ Q (.ref s.heap.objs.size) s₂) E) (s := { s with heap := s.heap.push { cls := Value.type "list", data := Data.seq #[] } }) hh (it := it) (l := l) ⟨oi, kp _ _ hoi, r1⟩ ⟨ol, kp _ _ hol, r2⟩ hne hn hS (Nat.ne_of_gt (Heap.lt_size hoi)) (Nat.ne_of_gt (Heap.lt_size hol)) fun h' tk acc' c' k1 k2 k3 => ⟨rfl, hQ h' tk acc' c' (fun b o h1 e => k1 b o (Nat.ne_of_lt (Heap.lt_size e)) h1 (kp b o e)) k2 k3⟩⟩
end
end LiR
namespace L2
open PySem PySem.Spec PyProof.Rows RT
def rLstRev (K : PySem.W.Frag) (v : V) (H1 : Hp) (Q : VK) : Prop := ∃ (a : Addr) (xs : List V), v = .ref a ∧ SqL K H1 a xs ∧ ∀ q, H1 q = none → Q (.ref q) (upd H1 q (.lst xs.reverse))
/-- list(reversed(x)), x a list -/
def tLstRev (K : PySem.W.Frag) (te : TE) : TE := fun σ H Q => te σ H fun v H1 => ∃ (a : Addr) (xs : List V), v = .ref a ∧ SqL K H1 a xs ∧ ∀ q, H1 q = none → Q (.ref q) (upd H1 q (.lst xs.reverse))
theorem pe_lstRev {X : Cx} {e : Expr} {te : TE} {p p2 pos pos2 : Pos} (hc : X.calm = true) (hg : Gl X "list") (hm : X.mg "list" = none) (hg2 : Gl X "reversed") (hm2 : X.mg "reversed" = none) (he : PE X e te)
    (hs : starEach [e] X.env = (false, eval e X.env) :: starEach [] X.env := by rfl)
    (hs2 : starEach [.Call (.Name "reversed" p2) [e] [] pos2] X.env = (false, eval (.Call (.Name "reversed" p2) [e] [] pos2) X.env) :: starEach [] X.env := by rfl) :
    PE X (.Call (.Name "list" p) [.Call (.Name "reversed" p2) [e] [] pos2] [] pos) (tLstRev X.K te) := by
  refine ⟨fun pins s σ H Q I h => ?_⟩
  refine Call_ (ld_blt I hg hm (show bootBuiltins "list" = some (.type "list") from by decide +kernel) (PyProof.Rows.callWith_type1 (args_cons (Call_ (ld_blt I hg2 hm2 PyProof.Rows.boot_reversed (PyProof.Rows.callWith_type1 (args_cons (thn (he.run pins s σ H _ I h) fun u s1 ⟨v, H1, I1, r1, q1⟩ => args_nil ?_) hs) hs rfl))) hs2) hs2 rfl))
  obtain ⟨a, xs, ev, hq, q⟩ := q1
  subst ev
  obtain rfl : u = Value.ref a := r1
  obtain ⟨its, rv, p', hz⟩ := I1.list hq
  refine call_reversed_list p'.isList (args_nil ?_)
  have hlist := p'.isList
  obtain ⟨ol, hol, hl2⟩ := id hlist
  have hne : a ≠ s1.heap.objs.size := Nat.ne_of_lt (Heap.lt_size hol)
  have lz : its.length = xs.length := rv.length.symm
  refine LiR.call_list_rev (s := { s1 with heap := s1.heap.push (revObj a ((its.toArray.size : Int) - 1)) }) (I1.ok.hd hc) (it := s1.heap.objs.size) (l := a) (items := its.toArray) ⟨_, Heap.get?_push_size _ rfl, rfl, ?_⟩ (hlist.push _) hne (by rw [List.size_toArray, lz]; exact hz) fun h' tk acc' c' k1 k2 k3 => ?_
  · rfl
  · have k0 : ∀ b o, s1.heap.get? b = some o → h'.get? b = some o := fun b o e => k1 b o (Nat.ne_of_lt (Heap.lt_size e)) (Heap.get?_push_of_some _ e)
    have hge : s1.heap.objs.size ≤ (s1.heap.push (revObj a ((its.toArray.size : Int) - 1))).objs.size := by simp [Heap.push]
    have eacc : acc'.toList = its.reverse := by
      obtain ⟨z1, z2⟩ := k3
      have z1 : acc'.size = its.length := z1
      refine List.ext_getElem? fun j => ?_
      by_cases c : j < its.length
      · have hj : j < acc'.size := by omega
        have := z2 j acc'[j] (by simp [hj])
        have e1 : its[its.length - 1 - j]? = some acc'[j] := by simpa using this
        rw [Array.getElem?_toList, List.getElem?_reverse c, e1]
        simp [hj]
      · rw [List.getElem?_eq_none (by rw [Array.length_toList]; omega), List.getElem?_eq_none (by rw [List.length_reverse]; omega)]
    refine ⟨.ref _, upd H1 _ (.lst xs.reverse), I1.laid (t' := tk) k0 hge (show ObjOk X.prog X.w _ _ _ (.lst xs.reverse) from ⟨by rw [List.length_reverse]; exact hz, its.reverse, c', rv.reverse, ?_⟩), rfl, q _ (I1.hok.fresh hge)⟩
    rw [← eacc]
    exact k2
end L2
namespace Sl
open PySem L2 C8 StX
theorem rd_lstRev0 {te : TE} {σ : L2.St} {H : Hp} {Q : VK} {K : PySem.W.Frag} (h : te σ H fun v H1 => rLstRev K v H1 Q) : tLstRev K te σ H Q := h
theorem rd_lstRev {H : Hp} {Q : VK} {K : PySem.W.Frag} {a : Addr} {xs : List V} (e : SqL K H a xs) (h : ∀ q H', H q = none → Same H H' → H' q = some (.lst xs.reverse) → Q (.ref q) H') : rLstRev K (.ref a) H Q := ⟨a, xs, rfl, e, fun q hq => h q _ hq (Same.new (Same.refl H) hq) upd_same⟩
end Sl
set_option Elab.async false
set_option linter.all false
set_option maxRecDepth 100000
set_option maxHeartbeats 4000000
/-! max of a tuple of ints -/
namespace L2
open PySem PySem.Spec PyProof.Rows RT
def rMaxT (K : PySem.W.Frag) : List V → Hp → VK → Prop := fun vs H Q => ∃ (a : Addr) (ns : List Int), vs = [V.ref a] ∧ SqT K H a (ns.map V.int) ∧ 0 < ns.length ∧ ∀ m, m ∈ ns → (∀ y, y ∈ ns → y ≤ m) → Q (.int m) H
theorem cmp_gt_ints {prog : Program} {w : World} {A : Around} {its : List Value} {ns : List Int} (h : Vals (ns.map V.int) its) : CmpOf prog w A CmpOp.Gt (fun i v => its.toArray[i]? = some v) (fun i j => decide (ns.getD i 0 > ns.getD j 0)) := by
  have key : ∀ i v, its.toArray[i]? = some v → ∃ t, v = Value.int (ns.getD i 0) t := by
    intro i v hv
    have hv : its[i]? = some v := by simpa using hv
    have hi := (List.getElem?_eq_some_iff.mp hv).1
    have hl := h.length
    rw [List.length_map] at hl
    cases e : ns[i]? with
    | none =>
      have := List.getElem?_eq_none_iff.mp e
      omega
    | some n =>
      obtain ⟨u, hu, rx⟩ := Vals.get h (i := i) (x := V.int n) (by rw [List.getElem?_map, e]; rfl)
      rw [hv] at hu
      cases hu
      obtain ⟨t, rfl⟩ := rx
      refine ⟨t, ?_⟩
      rw [List.getD_eq_getElem?_getD, e]
      rfl
  intro i j vi vj s Q E h1 h2 hq
  obtain ⟨t1, rfl⟩ := key i vi h1
  obtain ⟨t2, rfl⟩ := key j vj h2
  have ht : ∀ bb, (Made.val (Value.bool bb)).takes := fun bb => by cases bb <;> (unfold Made.takes; simp)
  exact richCompare_gives (T := "int") rfl rfl F.slot_int_gt F.entry_int_gt (F.args_int_gt_2 _ _) (gives_int_gt _ _ _ _) (ht _) hq
theorem cr_maxT {X : Cx} (hc : X.calm = true) : CallR X (.builtin "max") (rMaxT X.K) := by
  intro pins s σ H xs us Q I r h
  obtain ⟨a, ns, rfl, hs, hne, q⟩ := h
  have e1 := Vals.ref1 r
  subst e1
  obtain ⟨its, rv, hl, hz⟩ := I.tuple hs
  have lz : its.length = ns.length := by have := rv.length; rw [List.length_map] at this; exact this.symm
  obtain ⟨o, ho, hc2, n, hd⟩ := id hl
  refine call_max_walk (wpAny_pyIter_tuple ⟨o, ho, hc2, n, hd⟩ ?_)
  have hne2 : a ≠ s.heap.objs.size := Nat.ne_of_lt (Heap.lt_size ho)
  refine ⟨s.heap.objs.size, _, _, _, _, _, _, rfl, Walks.tuple (A := X.A.in1) (I.ok.hd hc) s.heap.objs.size a hne2 its.toArray, ⟨⟨_, Heap.get?_push_size _ rfl, rfl, rfl⟩, ⟨o, Heap.get?_push_of_some _ ho, hc2, n, hd⟩⟩, fun b hb => ?_, by rw [List.size_toArray, lz]; exact hne, cmp_gt_ints rv, fun v h' tk hP hk => ?_⟩
  · rcases List.mem_cons.mp hb with rfl | hb
    · simp [Heap.push]
    · rw [List.mem_singleton.mp hb]
      exact Nat.lt_of_lt_of_le (Heap.lt_size ho) (by simp [Heap.push])
  · have kp : ∀ b o, s.heap.get? b = some o → h'.get? b = some o := fun b o e => hk b o (fun z => by rw [List.mem_singleton.mp z] at e; exact absurd (Heap.lt_size e) (Nat.lt_irrefl _)) (Heap.get?_push_of_some _ e)
    obtain ⟨g1, g2⟩ := argBest_gt (fun i => ns.getD i 0) (its.toArray.size - 1)
    rw [List.size_toArray, lz] at g1 g2 hP
    generalize argBest (fun i j => decide (ns.getD i 0 > ns.getD j 0)) (ns.length - 1) = b at *
    have hb : b < ns.length := by omega
    obtain ⟨u, hu, t, rfl⟩ := Vals.get rv (i := b) (x := V.int ns[b]) (by rw [List.getElem?_map, List.getElem?_eq_getElem hb]; rfl)
    have hP : its[b]? = some v := by simpa using hP
    rw [hu] at hP
    cases hP
    refine ⟨.int ns[b], H, I.kept kp, ⟨t, rfl⟩, q ns[b] (List.getElem_mem hb) fun y hy => ?_⟩
    obtain ⟨j, hj, rfl⟩ := List.getElem_of_mem hy
    have := g2 j (by omega)
    have e1 : ns.getD j 0 = ns[j] := by rw [List.getD_eq_getElem?_getD, List.getElem?_eq_getElem hj]; rfl
    have e2 : ns.getD b 0 = ns[b] := by rw [List.getD_eq_getElem?_getD, List.getElem?_eq_getElem hb]; rfl
    rw [e1, e2] at this
    exact this
end L2
namespace Sl
open PySem L2 C8 StX
theorem rd_maxT {K : PySem.W.Frag} {H : Hp} {Q : VK} {a : Addr} {ns : List Int} (e : SqT K H a (ns.map V.int)) (l : 0 < ns.length) (h : ∀ m, m ∈ ns → (∀ y, y ∈ ns → y ≤ m) → Q (.int m) H) : rMaxT K [.ref a] H Q := ⟨a, ns, rfl, e, l, h⟩
end Sl
set_option linter.all false
namespace Silt
/-! ### stretches of keys -/
abbrev Iv := Int × Int
def inR (rs : List Iv) (k : Int) : Prop := ∃ r ∈ rs, r.1 ≤ k ∧ k ≤ r.2
def Canon (rs : List Iv) : Prop := (∀ r ∈ rs, r.1 ≤ r.2) ∧ rs.Pairwise (fun a b => a.2 + 1 < b.1)
theorem inR_nil (k : Int) : ¬ inR [] k := fun ⟨_, h, _⟩ => by cases h
theorem inR_cons {r : Iv} {rs : List Iv} {k : Int} : inR (r :: rs) k ↔ (r.1 ≤ k ∧ k ≤ r.2) ∨ inR rs k := by
  constructor
  · rintro ⟨x, hx, h⟩
    rcases List.mem_cons.mp hx with rfl | y
    · exact .inl h
    · exact .inr ⟨x, y, h⟩
  · rintro (h | ⟨x, hx, h⟩)
    · exact ⟨r, List.mem_cons_self, h⟩
    · exact ⟨x, List.mem_cons_of_mem _ hx, h⟩
theorem inR_app {rs ts : List Iv} {k : Int} : inR (rs ++ ts) k ↔ inR rs k ∨ inR ts k := by
  constructor
  · rintro ⟨x, hx, h⟩
    rcases List.mem_append.mp hx with y | y
    · exact .inl ⟨x, y, h⟩
    · exact .inr ⟨x, y, h⟩
  · rintro (⟨x, hx, h⟩ | ⟨x, hx, h⟩)
    · exact ⟨x, List.mem_append_left _ hx, h⟩
    · exact ⟨x, List.mem_append_right _ hx, h⟩
theorem inR_perm {rs ts : List Iv} (p : rs.Perm ts) (k : Int) : inR rs k ↔ inR ts k :=
  ⟨fun ⟨x, hx, h⟩ => ⟨x, p.mem_iff.mp hx, h⟩, fun ⟨x, hx, h⟩ => ⟨x, p.mem_iff.mpr hx, h⟩⟩
theorem Canon.nil : Canon [] := ⟨(fun r h => by cases h), List.Pairwise.nil⟩
theorem Canon.tail {r : Iv} {rs : List Iv} (h : Canon (r :: rs)) : Canon rs := ⟨fun x hx => h.1 x (List.mem_cons_of_mem _ hx), (List.pairwise_cons.mp h.2).2⟩
theorem Canon.head {r : Iv} {rs : List Iv} (h : Canon (r :: rs)) : r.1 ≤ r.2 ∧ ∀ x ∈ rs, r.2 + 1 < x.1 := ⟨h.1 r List.mem_cons_self, (List.pairwise_cons.mp h.2).1⟩
theorem Canon.above {r : Iv} {rs : List Iv} (h : Canon (r :: rs)) {k : Int} (hk : inR rs k) : r.2 + 1 < k := by
  obtain ⟨x, hx, h1, _⟩ := hk
  have := h.head.2 x hx
  omega
theorem canon_uniq : ∀ {a b : List Iv}, Canon a → Canon b → (∀ k, inR a k ↔ inR b k) → a = b
  | [], [], _, _, _ => rfl
  | [], r :: b, _, hb, h => by
    have := (h r.1).mpr ⟨r, List.mem_cons_self, Int.le_refl _, hb.head.1⟩
    exact absurd this (inR_nil _)
  | r :: a, [], ha, _, h => by
    have := (h r.1).mp ⟨r, List.mem_cons_self, Int.le_refl _, ha.head.1⟩
    exact absurd this (inR_nil _)
  | r :: a, t :: b, ha, hb, h => by
    have h1 := ha.head.1
    have h2 := hb.head.1
    have e1 : r.1 = t.1 := by
      have x := (h r.1).mp (inR_cons.mpr (.inl ⟨Int.le_refl _, h1⟩))
      have y := (h t.1).mpr (inR_cons.mpr (.inl ⟨Int.le_refl _, h2⟩))
      rcases inR_cons.mp x with x | x
      · rcases inR_cons.mp y with y | y
        · omega
        · have := ha.above y; omega
      · have := hb.above x
        rcases inR_cons.mp y with y | y
        · omega
        · have := ha.above y; omega
    have e2 : r.2 = t.2 := by
      rcases Int.lt_trichotomy r.2 t.2 with c | c | c
      · have x := (h (r.2 + 1)).mpr (inR_cons.mpr (.inl ⟨by omega, by omega⟩))
        rcases inR_cons.mp x with x | x
        · omega
        · have := ha.above x; omega
      · exact c
      · have x := (h (t.2 + 1)).mp (inR_cons.mpr (.inl ⟨by omega, by omega⟩))
        rcases inR_cons.mp x with x | x
        · omega
        · have := hb.above x; omega
    have e : r = t := Prod.ext e1 e2
    subst e
    rw [canon_uniq ha.tail hb.tail fun k => ?_]
    constructor
    · intro x
      have := ha.above x
      rcases inR_cons.mp ((h k).mp (inR_cons.mpr (.inr x))) with y | y
      · omega
      · exact y
    · intro x
      have := hb.above x
      rcases inR_cons.mp ((h k).mpr (inR_cons.mpr (.inr x))) with y | y
      · omega
      · exact y
theorem Canon.snoc {rs : List Iv} {r : Iv} (h : Canon rs) (h1 : r.1 ≤ r.2) (h2 : ∀ x ∈ rs, x.2 + 1 < r.1) : Canon (rs ++ [r]) := by
  refine ⟨fun x hx => ?_, ?_⟩
  · rcases List.mem_append.mp hx with y | y
    · exact h.1 x y
    · rw [List.mem_singleton.mp y]; exact h1
  · rw [List.pairwise_append]
    refine ⟨h.2, List.pairwise_singleton _ _, fun x hx y hy => ?_⟩
    rw [List.mem_singleton.mp hy]
    exact h2 x hx
theorem Canon.init {rs : List Iv} {r : Iv} (h : Canon (rs ++ [r])) : Canon rs ∧ r.1 ≤ r.2 ∧ ∀ x ∈ rs, x.2 + 1 < r.1 := by
  have h2 := List.pairwise_append.mp h.2
  exact ⟨⟨fun x hx => h.1 x (List.mem_append_left _ hx), h2.1⟩, h.1 r (by simp), fun x hx => h2.2.2 x hx r (by simp)⟩
/-- what is known when the next stretch does not touch -/
theorem join_new {f : List Iv} {r : Iv} (h : Canon f) (hr : r.1 ≤ r.2) (hl : ∀ t ∈ f, t.1 ≤ r.1) (hn : ∀ t ∈ f, t.2 + 1 < r.1) : Canon (f ++ [r]) ∧ (∀ k, inR (f ++ [r]) k ↔ inR f k ∨ (r.1 ≤ k ∧ k ≤ r.2)) ∧ ∀ t ∈ f ++ [r], t.1 ≤ r.1 := by
  refine ⟨h.snoc hr hn, fun k => ?_, fun t ht => ?_⟩
  · rw [inR_app, inR_cons]
    exact ⟨fun x => x.elim .inl fun y => y.elim .inr fun z => absurd z (inR_nil k), fun x => x.elim .inl fun y => .inr (.inl y)⟩
  · rcases List.mem_append.mp ht with y | y
    · exact hl t y
    · rw [List.mem_singleton.mp y]; exact Int.le_refl _
/-- .. and when it touches the last one -/
theorem join_last {f : List Iv} {t r : Iv} (h : Canon (f ++ [t])) (hr : r.1 ≤ r.2) (hl : ∀ x ∈ f ++ [t], x.1 ≤ r.1) (c : r.1 ≤ t.2 + 1) : Canon (f ++ [(t.1, max t.2 r.2)]) ∧ (∀ k, inR (f ++ [(t.1, max t.2 r.2)]) k ↔ inR (f ++ [t]) k ∨ (r.1 ≤ k ∧ k ≤ r.2)) ∧ ∀ x ∈ f ++ [(t.1, max t.2 r.2)], x.1 ≤ r.1 := by
  obtain ⟨h1, h2, h3⟩ := h.init
  have ht := hl t (by simp)
  refine ⟨h1.snoc (by show t.1 ≤ max t.2 r.2; omega) (fun x hx => h3 x hx), fun k => ?_, fun x hx => ?_⟩
  · rw [inR_app, inR_app, inR_cons, inR_cons]
    have := inR_nil k
    constructor
    · rintro (x | x | x)
      · exact .inl (.inl x)
      · have x : t.1 ≤ k ∧ k ≤ max t.2 r.2 := x
        by_cases z : k ≤ t.2
        · exact .inl (.inr (.inl ⟨x.1, z⟩))
        · exact .inr ⟨by omega, by omega⟩
      · exact absurd x this
    · rintro ((x | x | x) | x)
      · exact .inl x
      · exact .inr (.inl ⟨x.1, by show k ≤ max t.2 r.2; omega⟩)
      · exact absurd x this
      · exact .inr (.inl ⟨by show t.1 ≤ k; omega, by show k ≤ max t.2 r.2; omega⟩)
  · rcases List.mem_append.mp hx with y | y
    · exact hl x (List.mem_append_left _ y)
    · rw [List.mem_singleton.mp y]; exact ht
/-- within a stretch: what stands ahead of first, without the keys -/
structure Cut (base : List Iv) (keys : Int → Prop) (lo first : Int) (f : List Iv) : Prop where
  can : Canon f
  gap : ∀ t ∈ f, t.2 + 1 < first
  mem : ∀ k, inR f k ↔ inR base k ∨ (lo ≤ k ∧ k < first ∧ ¬ keys k)
theorem Cut.start {base : List Iv} {keys : Int → Prop} {lo : Int} (h : Canon base) (g : ∀ t ∈ base, t.2 + 1 < lo) : Cut base keys lo lo base :=
  ⟨h, g, fun k => ⟨.inl, fun x => x.elim id fun ⟨a, b, _⟩ => by omega⟩⟩
/-- the next key lies right there -/
theorem Cut.skip {base f : List Iv} {keys : Int → Prop} {lo first : Int} (h : Cut base keys lo first f) (hk : keys first) : Cut base keys lo (first + 1) f := by
  refine ⟨h.can, fun t ht => by have := h.gap t ht; omega, fun k => (h.mem k).trans ⟨fun x => x.elim .inl fun ⟨a, b, c⟩ => .inr ⟨a, by omega, c⟩, fun x => x.elim .inl fun ⟨a, b, c⟩ => ?_⟩⟩
  by_cases z : k = first
  · rw [z] at c; exact absurd hk c
  · exact .inr ⟨a, by omega, c⟩
/-- .. or further up -/
theorem Cut.piece {base f : List Iv} {keys : Int → Prop} {lo first key : Int} (h : Cut base keys lo first f) (hl : lo ≤ first) (c : first < key) (hn : ∀ k, first ≤ k → k < key → ¬ keys k) (hk : keys key) : Cut base keys lo (key + 1) (f ++ [(first, key - 1)]) := by
  refine ⟨h.can.snoc (by show first ≤ key - 1; omega) (fun x hx => h.gap x hx), fun t ht => ?_, fun k => ?_⟩
  · rcases List.mem_append.mp ht with y | y
    · have := h.gap t y; omega
    · rw [List.mem_singleton.mp y]; show key - 1 + 1 < key + 1; omega
  · rw [inR_app, inR_cons, h.mem k]
    have := inR_nil k
    constructor
    · rintro ((x | ⟨a, b, d⟩) | x | x)
      · exact .inl x
      · exact .inr ⟨a, by omega, d⟩
      · have x : first ≤ k ∧ k ≤ key - 1 := x
        exact .inr ⟨by omega, by omega, hn k x.1 (by omega)⟩
      · exact absurd x this
    · rintro (x | ⟨a, b, d⟩)
      · exact .inl (.inl x)
      · by_cases z : k < first
        · exact .inl (.inr ⟨a, z, d⟩)
        · by_cases y : k = key
          · rw [y] at d; exact absurd hk d
          · exact .inr (.inl ⟨by show first ≤ k; omega, by show k ≤ key - 1; omega⟩)
/-- behind the last key -/
theorem Cut.done {base f : List Iv} {keys : Int → Prop} {lo first hi : Int} (h : Cut base keys lo first f) (hl : lo ≤ first) (hf : first ≤ hi + 1) (hn : ∀ k, first ≤ k → k ≤ hi → ¬ keys k) :
    ∃ f', f' = (if first ≤ hi then f ++ [(first, hi)] else f) ∧ Canon f' ∧ (∀ t ∈ f', t.2 ≤ hi) ∧ ∀ k, inR f' k ↔ inR base k ∨ (lo ≤ k ∧ k ≤ hi ∧ ¬ keys k) := by
  refine ⟨_, rfl, ?_⟩
  by_cases c : first ≤ hi
  · rw [if_pos c]
    refine ⟨h.can.snoc c (fun x hx => h.gap x hx), fun t ht => ?_, fun k => ?_⟩
    · rcases List.mem_append.mp ht with y | y
      · have := h.gap t y; omega
      · rw [List.mem_singleton.mp y]; exact Int.le_refl _
    · rw [inR_app, inR_cons, h.mem k]
      have := inR_nil k
      constructor
      · rintro ((x | ⟨a, b, d⟩) | x | x)
        · exact .inl x
        · exact .inr ⟨a, by omega, d⟩
        · have x : first ≤ k ∧ k ≤ hi := x
          exact .inr ⟨by omega, x.2, hn k x.1 x.2⟩
        · exact absurd x this
      · rintro (x | ⟨a, b, d⟩)
        · exact .inl (.inl x)
        · by_cases z : k < first
          · exact .inl (.inr ⟨a, z, d⟩)
          · exact .inr (.inl ⟨by show first ≤ k; omega, b⟩)
  · rw [if_neg c]
    refine ⟨h.can, fun t ht => by have := h.gap t ht; omega, fun k => (h.mem k).trans ⟨fun x => x.elim .inl fun ⟨a, b, d⟩ => .inr ⟨a, by omega, d⟩, fun x => x.elim .inl fun ⟨a, b, d⟩ => .inr ⟨a, by omega, d⟩⟩⟩
/-- keys within stretches that do not touch: not more than there are keys -/
def within (keys : List Int) (r : Iv) : List Int := keys.filter fun k => decide (r.1 ≤ k ∧ k ≤ r.2)
theorem within_sum : ∀ {rs : List Iv}, Canon rs → ∀ keys : List Int, (rs.map fun r => (within keys r).length).sum ≤ (keys.filter fun k => rs.any fun r => decide (r.1 ≤ k ∧ k ≤ r.2)).length
  | [], _, keys => by simp
  | r :: rs, h, keys => by
    have ih := within_sum h.tail keys
    rw [List.map_cons, List.sum_cons]
    have : (within keys r).length + (keys.filter fun k => rs.any fun r => decide (r.1 ≤ k ∧ k ≤ r.2)).length ≤ (keys.filter fun k => (r :: rs).any fun r => decide (r.1 ≤ k ∧ k ≤ r.2)).length := by
      clear ih
      unfold within
      induction keys with
      | nil => simp
      | cons k ks ih2 =>
        by_cases c : r.1 ≤ k ∧ k ≤ r.2
        · have hn : (rs.any fun r => decide (r.1 ≤ k ∧ k ≤ r.2)) = false := by
            rw [List.any_eq_false]
            intro x hx
            have := h.head.2 x hx
            rw [decide_eq_true_iff]
            omega
          rw [List.filter_cons, List.filter_cons, List.filter_cons, if_pos (decide_eq_true c), if_neg (by rw [hn]; decide), if_pos (by rw [List.any_cons, decide_eq_true c]; rfl), List.length_cons, List.length_cons]
          omega
        · have e : ((r :: rs).any fun r => decide (r.1 ≤ k ∧ k ≤ r.2)) = (rs.any fun r => decide (r.1 ≤ k ∧ k ≤ r.2)) := by rw [List.any_cons, decide_eq_false c]; rfl
          rw [List.filter_cons, List.filter_cons, List.filter_cons, if_neg (by rw [decide_eq_false c]; decide), e]
          cases (rs.any fun r => decide (r.1 ≤ k ∧ k ≤ r.2))
          · exact ih2
          · rw [if_pos rfl, if_pos rfl, List.length_cons, List.length_cons]
            omega
    omega
theorem within_le {rs : List Iv} (h : Canon rs) (keys : List Int) : (rs.map fun r => (within keys r).length).sum ≤ keys.length := Nat.le_trans (within_sum h keys) (List.length_filter_le _ _)
end Silt
set_option linter.all false
set_option Elab.async false
/-! scripts of falls and bakes: layers as lists of days, what is read -/
namespace Silt
inductive Deed where
  | fall : Deed
  | bake (ns : List Nat) (p : Nat) (k : Bool) : Deed
deriving DecidableEq
inductive Mk where
  | leaf : Mk
  | late : Mk
  | mark : Mk
deriving DecidableEq
section
variable {α β : Type}
theorem fm_congr {f g : α → Option β} : ∀ {l : List α}, (∀ x ∈ l, f x = g x) → l.filterMap f = l.filterMap g
  | [], _ => rfl
  | x :: l, h => by
    rw [List.filterMap_cons, List.filterMap_cons, h x List.mem_cons_self, fm_congr fun y hy => h y (List.mem_cons_of_mem _ hy)]
def restL (xs : List α) (ns : List Nat) : List α := (xs.zipIdx.filter fun q => decide (q.2 ∉ ns)).map (·.1)
def pickL (xs : List α) (ns : List Nat) : List α := ns.filterMap fun n => xs[n]?
def insP (xs : List α) (p : Nat) (y : α) : List α := xs.take p ++ y :: xs.drop p
theorem insP_map (g : α → β) (xs : List α) (p : Nat) (y : α) : insP (xs.map g) p (g y) = (insP xs p y).map g := by
  unfold insP
  rw [List.map_append, List.map_cons, List.map_take, List.map_drop]
theorem pickL_map (g : α → β) (xs : List α) (ns : List Nat) : pickL (xs.map g) ns = (pickL xs ns).map g := by
  unfold pickL
  rw [List.map_filterMap]
  refine fm_congr fun n _ => ?_
  rw [List.getElem?_map]
theorem rest_eq (ns : List Nat) : ∀ (m : Nat) (xs : List α), xs.length = m → restL xs ns = ((List.range m).filter fun i => decide (i ∉ ns)).filterMap fun i => xs[i]?
  | 0, xs, h => by
    obtain rfl : xs = [] := List.length_eq_zero_iff.mp h
    rfl
  | m + 1, xs, h => by
    obtain ⟨ys, x, rfl⟩ : ∃ ys x, xs = ys ++ [x] := by
      rcases List.eq_nil_or_concat xs with e | ⟨ys, x, e⟩
      · rw [e] at h; cases h
      · exact ⟨ys, x, by rw [e]; simp⟩
    have hy : ys.length = m := by rw [List.length_append] at h; simpa using h
    have ih := rest_eq ns m ys hy
    have e1 : (ys ++ [x]).zipIdx = ys.zipIdx ++ [(x, m)] := by
      rw [List.zipIdx_append, hy]
      simp
    unfold restL
    rw [e1, List.filter_append, List.map_append, List.range_succ, List.filter_append, List.filterMap_append]
    congr 1
    · show restL ys ns = _
      rw [ih]
      refine fm_congr fun i hi => ?_
      have := List.mem_range.mp (List.mem_filter.mp hi).1
      rw [List.getElem?_append_left (by omega)]
    · by_cases c : m ∉ ns
      · rw [List.filter_cons_of_pos (by simpa using c), List.filter_cons_of_pos (by simpa using c)]
        have : (ys ++ [x])[m]? = some x := by rw [← hy]; simp
        simp [this]
      · rw [List.filter_cons_of_neg (by simpa using c), List.filter_cons_of_neg (by simpa using c)]
        rfl
theorem restL_map (g : α → β) (xs : List α) (ns : List Nat) : restL (xs.map g) ns = (restL xs ns).map g := by
  rw [rest_eq ns xs.length (xs.map g) (List.length_map g), rest_eq ns xs.length xs rfl, List.map_filterMap]
  refine fm_congr fun i _ => ?_
  rw [List.getElem?_map]
theorem rest_pick {xs : List α} {ns : List Nat} (nd : ns.Nodup) (lt : ∀ n ∈ ns, n < xs.length) : (restL xs ns ++ pickL xs ns).Perm xs := by
  have e0 : (List.range xs.length).filterMap (fun i => xs[i]?) = xs := by
    have : ∀ (m : Nat) (ys : List α), ys.length = m → (List.range m).filterMap (fun i => ys[i]?) = ys := fun m ys h => by
      have := rest_eq [] m ys h
      rw [List.filter_eq_self.mpr (by simp)] at this
      rw [← this]
      unfold restL
      rw [List.filter_eq_self.mpr (by simp)]
      simp
    exact this _ xs rfl
  have p1 : ns.Perm ((List.range xs.length).filter fun i => decide (i ∈ ns)) := by
    refine (List.perm_ext_iff_of_nodup nd (List.Pairwise.filter _ List.nodup_range)).mpr fun a => ?_
    rw [List.mem_filter, List.mem_range, decide_eq_true_iff]
    exact ⟨fun h => ⟨lt a h, h⟩, fun h => h.2⟩
  rw [rest_eq ns xs.length xs rfl]
  have p2 : (pickL xs ns).Perm (((List.range xs.length).filter fun i => decide (i ∈ ns)).filterMap fun i => xs[i]?) := p1.filterMap _
  refine (List.Perm.append_left _ p2).trans ?_
  rw [← List.filterMap_append]
  have p3 : ((List.range xs.length).filter (fun i => decide (i ∉ ns)) ++ (List.range xs.length).filter fun i => decide (i ∈ ns)).Perm (List.range xs.length) := by
    have := List.filter_append_perm (fun i => decide (i ∉ ns)) (List.range xs.length)
    have e : (List.range xs.length).filter (fun i => decide (i ∈ ns)) = (List.range xs.length).filter fun i => !decide (i ∉ ns) := List.filter_congr fun x _ => by simp
    rw [e]
    exact this
  have p4 := p3.filterMap fun i => xs[i]?
  rw [e0] at p4
  exact p4
theorem insP_perm (xs : List α) (p : Nat) (y : α) : (insP xs p y).Perm (xs ++ [y]) := by
  unfold insP
  have : (xs.take p ++ y :: xs.drop p).Perm (xs.take p ++ (xs.drop p ++ [y])) := List.Perm.append_left _ (List.perm_append_comm (l₁ := [y]))
  refine this.trans ?_
  rw [← List.append_assoc, List.take_append_drop]
end
/-- the layers behind a deed that falls on the day d -/
def stepD (ls : List (List Int)) (d : Int) : Deed → List (List Int)
  | .fall => [d] :: ls
  | .bake ns p _ => insP (restL ls ns) p (pickL ls ns).flatten
/-- what a bake leaves of some values -/
def valK (told : List (Option Mk)) (k : Bool) : Option Mk := if (told.filterMap id).head? = some .mark ∧ k = false then none else (told.filterMap id).head?
/-- what one key tells in each layer behind a deed -/
def stepV (f : Int → Option Mk) (vs : List (Option Mk)) (d : Int) : Deed → List (Option Mk)
  | .fall => f d :: vs
  | .bake ns p k => insP (restL vs ns) p (valK (pickL vs ns) k)
def readV (vs : List (Option Mk)) : Mk := (vs.filterMap id).head?.getD .mark
def isFall : Deed → Bool
  | .fall => true
  | _ => false
/-- how many layers there are behind a deed, none if it has not its layers, or its place -/
def manyB (m : Nat) : Deed → Option Nat
  | .fall => some (m + 1)
  | .bake ns p _ => if (∀ n ∈ ns, n < m) ∧ p < m + 1 - ns.length then some (m + 1 - ns.length) else none
/-- a deed by itself -/
def okD : Deed → Prop
  | .fall => True
  | .bake ns _ _ => ns ≠ [] ∧ ns.Nodup ∧ ∀ n ∈ ns, n < 20
/-- a script, with m layers at first -/
def okS : Nat → List Deed → Prop
  | _, [] => True
  | m, d :: ds => okD d ∧ ∃ m', manyB m d = some m' ∧ okS m' ds
/-- the first pair side by side that rises -/
def fallIn : List Int → Option (Int × Int)
  | a :: b :: r => if a < b then some (a, b) else fallIn (b :: r)
  | _ => none
def losesM (ls : List (List Int)) : Deed → Bool
  | .fall => false
  | .bake _ p k => !k && decide (p + 1 < ls.length)
def dayB (d : Int) (x : Deed) : Int := d + (if isFall x then 1 else 0)
/-- the layers behind each deed -/
def rowsF : List (List Int) → Int → List Deed → List (List (List Int))
  | _, _, [] => []
  | ls, d, x :: r => stepD ls (dayB d x) x :: rowsF (stepD ls (dayB d x) x) (dayB d x) r
/-- the values behind each deed -/
def valsF (f : Int → Option Mk) : List (Option Mk) → Int → List Deed → List (List (Option Mk))
  | _, _, [] => []
  | vs, d, x :: r => stepV f vs (dayB d x) x :: valsF f (stepV f vs (dayB d x) x) (dayB d x) r
/-- something is wrong behind this deed -/
def badB (ls : List (List Int)) (x : Deed) : Bool := (fallIn ls.flatten).isSome || losesM ls x
/-- the least number of deeds behind which something is wrong -/
def wrongF : List (List Int) → Int → List Deed → Option Nat
  | _, _, [] => none
  | ls, d, x :: r => if badB (stepD ls (dayB d x) x) x = true then some 1 else (wrongF (stepD ls (dayB d x) x) (dayB d x) r).map (· + 1)
/-! ### what is read -/
def win (f : Int → Option Mk) (l : List Int) : Option Mk := l.findSome? f
/-- what a layer tells: the first day that tells something; a mark may be gone in the layer with day 1 -/
def Tells (f : Int → Option Mk) (l : List Int) (v : Option Mk) : Prop := v = win f l ∨ (1 ∈ l ∧ v = none ∧ win f l = some .mark)
theorem win_append (f : Int → Option Mk) (a b : List Int) : win f (a ++ b) = (win f a).or (win f b) := by
  unfold win
  rw [List.findSome?_append]
theorem fallIn_none : ∀ {l : List Int}, fallIn l = none → l.Nodup → l.Pairwise (· > ·)
  | [], _, _ => List.Pairwise.nil
  | [a], _, _ => List.pairwise_singleton _ _
  | a :: b :: r, h, nd => by
    unfold fallIn at h
    by_cases c : a < b
    · rw [if_pos c] at h; cases h
    · rw [if_neg c] at h
      have nd2 := List.nodup_cons.mp nd
      have ih := fallIn_none h nd2.2
      have hb := List.pairwise_cons.mp ih
      have hab : a > b := by
        have : a ≠ b := fun z => nd2.1 (by rw [z]; exact List.mem_cons_self)
        omega
      refine List.pairwise_cons.mpr ⟨fun x hx => ?_, ih⟩
      rcases List.mem_cons.mp hx with rfl | hx
      · exact hab
      · have := hb.1 x hx
        omega
theorem fallIn_some : ∀ {l : List Int} {a b : Int}, fallIn l = some (a, b) → a < b ∧ ∃ u v, l = u ++ a :: b :: v
  | [], _, _, h => by cases h
  | [_], _, _, h => by cases h
  | x :: y :: r, a, b, h => by
    unfold fallIn at h
    by_cases c : x < y
    · rw [if_pos c] at h
      cases h
      exact ⟨c, [], r, rfl⟩
    · rw [if_neg c] at h
      obtain ⟨h1, u, v, e⟩ := fallIn_some h
      exact ⟨h1, x :: u, v, by rw [e]; rfl⟩

/-- pairs of a layer and what it tells -/
abbrev LV := List Int × Option Mk
def stepP (f : Int → Option Mk) (zs : List LV) (d : Int) : Deed → List LV
  | .fall => ([d], f d) :: zs
  | .bake ns p k => insP (restL zs ns) p ((pickL (zs.map (·.1)) ns).flatten, valK (pickL (zs.map (·.2)) ns) k)
theorem stepP_fst (f : Int → Option Mk) (zs : List LV) (d : Int) (x : Deed) : (stepP f zs d x).map (·.1) = stepD (zs.map (·.1)) d x := by
  cases x with
  | fall => rfl
  | bake ns p k =>
    show (insP (restL zs ns) p _).map (·.1) = insP (restL (zs.map (·.1)) ns) p _
    rw [← insP_map, restL_map]
theorem stepP_snd (f : Int → Option Mk) (zs : List LV) (d : Int) (x : Deed) : (stepP f zs d x).map (·.2) = stepV f (zs.map (·.2)) d x := by
  cases x with
  | fall => rfl
  | bake ns p k =>
    show (insP (restL zs ns) p _).map (·.2) = insP (restL (zs.map (·.2)) ns) p _
    rw [← insP_map, restL_map]
theorem manyB_bake {m m' p : Nat} {ns : List Nat} {k : Bool} (h : manyB m (.bake ns p k) = some m') : (∀ n ∈ ns, n < m) ∧ p < m + 1 - ns.length ∧ m' = m + 1 - ns.length := by
  simp only [manyB] at h
  split at h
  · rename_i c
    cases h
    exact ⟨c.1, c.2, rfl⟩
  · cases h
theorem stepD_len {ls : List (List Int)} {d : Int} {x : Deed} {m : Nat} (ok : okD x) (h : manyB ls.length x = some m) : (stepD ls d x).length = m := by
  cases x with
  | fall => cases h; rfl
  | bake ns p k =>
    obtain ⟨c1, c2, rfl⟩ := manyB_bake h
    · have c : (∀ n ∈ ns, n < ls.length) ∧ p < ls.length + 1 - ns.length := ⟨c1, c2⟩
      have h1 := (insP_perm (restL ls ns) p (pickL ls ns).flatten).length_eq
      have h2 := (rest_pick ok.2.1 c.1).length_eq
      have h3 : (pickL ls ns).length = ns.length := by
        have : ∀ ms : List Nat, (∀ n ∈ ms, n < ls.length) → (pickL ls ms).length = ms.length := fun ms => by
          induction ms with
          | nil => intro _; rfl
          | cons a ms ih =>
            intro h
            unfold pickL at ih ⊢
            rw [List.filterMap_cons, List.getElem?_eq_getElem (h a List.mem_cons_self)]
            simp only [List.length_cons]
            rw [ih fun n hn => h n (List.mem_cons_of_mem _ hn)]
        exact this ns c.1
      rw [List.length_append] at h1 h2
      show (insP (restL ls ns) p (pickL ls ns).flatten).length = _
      rw [h1]
      simp only [List.length_cons, List.length_nil]
      have : ns.length ≤ ls.length := by omega
      omega
/-- what stands of the layers as long as all is right -/
structure Good (ls : List (List Int)) (now : Int) : Prop where
  ne : ∀ l ∈ ls, l ≠ []
  nd : ls.flatten.Nodup
  mem : ∀ y, y ∈ ls.flatten ↔ 1 ≤ y ∧ y ≤ now
  pos : 0 ≤ now
theorem pick_lt {α : Type} {xs : List α} {ns : List Nat} (lt : ∀ n ∈ ns, n < xs.length) (h : ns ≠ []) : pickL xs ns ≠ [] := by
  cases ns with
  | nil => exact absurd rfl h
  | cons n ns =>
    unfold pickL
    rw [List.filterMap_cons, List.getElem?_eq_getElem (lt n List.mem_cons_self)]
    simp
theorem mem_pick {α : Type} {xs : List α} {ns : List Nat} {x : α} (h : x ∈ pickL xs ns) : x ∈ xs := by
  obtain ⟨n, _, e⟩ := List.mem_filterMap.mp h
  exact List.mem_of_getElem? e
theorem mem_rest {α : Type} {xs : List α} {ns : List Nat} {x : α} (h : x ∈ restL xs ns) : x ∈ xs := by
  rw [rest_eq ns xs.length xs rfl] at h
  obtain ⟨n, _, e⟩ := List.mem_filterMap.mp h
  exact List.mem_of_getElem? e
theorem mem_insP {α : Type} {xs : List α} {p : Nat} {x y : α} : x ∈ insP xs p y ↔ x ∈ xs ∨ x = y := by
  rw [(insP_perm xs p y).mem_iff, List.mem_append, List.mem_singleton]
theorem perm_flat {a b : List (List Int)} (h : a.Perm b) : a.flatten.Perm b.flatten := h.flatten
theorem Good.step {ls : List (List Int)} {now : Int} {x : Deed} {m : Nat} (g : Good ls now) (ok : okD x) (h : manyB ls.length x = some m) : Good (stepD ls (dayB now x) x) (dayB now x) := by
  cases x with
  | fall =>
    have e : dayB now .fall = now + 1 := rfl
    rw [e]
    have pos := g.pos
    refine ⟨fun l hl => ?_, ?_, fun y => ?_, by omega⟩
    · rcases List.mem_cons.mp hl with rfl | hl
      · simp
      · exact g.ne l hl
    · show (([now + 1] :: ls).flatten).Nodup
      rw [List.flatten_cons, List.singleton_append, List.nodup_cons]
      exact ⟨fun z => by have := (g.mem _).mp z; omega, g.nd⟩
    · show y ∈ ([now + 1] :: ls).flatten ↔ _
      rw [List.flatten_cons, List.singleton_append, List.mem_cons, g.mem]
      omega
  | bake ns p k =>
    have e : dayB now (.bake ns p k) = now := by show now + 0 = now; omega
    rw [e]
    obtain ⟨c1, c2, rfl⟩ := manyB_bake h
    · have c : (∀ n ∈ ns, n < ls.length) ∧ p < ls.length + 1 - ns.length := ⟨c1, c2⟩
      have pm : (stepD ls now (.bake ns p k)).flatten.Perm ls.flatten := by
        have p1 := perm_flat (insP_perm (restL ls ns) p (pickL ls ns).flatten)
        have p2 := perm_flat (rest_pick ok.2.1 c.1)
        rw [List.flatten_append] at p1 p2
        have e2 : [(pickL ls ns).flatten].flatten = (pickL ls ns).flatten := by simp
        rw [e2] at p1
        exact p1.trans p2
      refine ⟨fun l hl => ?_, pm.nodup_iff.mpr g.nd, fun y => by rw [pm.mem_iff]; exact g.mem y, g.pos⟩
      rcases mem_insP.mp hl with z | rfl
      · exact g.ne l (mem_rest z)
      · intro z
        have hp := pick_lt c.1 ok.1
        cases hq : pickL ls ns with
        | nil => exact hp hq
        | cons a r =>
          rw [hq] at z
          rw [List.flatten_cons] at z
          exact g.ne a (mem_pick (by rw [hq]; exact List.mem_cons_self)) (List.append_eq_nil_iff.mp z).1

theorem win_none {f : Int → Option Mk} : win f [] = none := rfl
/-- picked layers as one: the first that tells something -/
theorem tells_flat {f : Int → Option Mk} : ∀ {qs : List LV}, (∀ q ∈ qs, Tells f q.1 q.2) → (qs.map (·.1)).flatten.Pairwise (· > ·) → (∀ y ∈ (qs.map (·.1)).flatten, 1 ≤ y) → Tells f (qs.map (·.1)).flatten ((qs.map (·.2)).filterMap id).head?
  | [], _, _, _ => .inl rfl
  | (l, v) :: qs, ht, hd, h1 => by
    rw [List.map_cons, List.flatten_cons] at hd h1
    have hd2 := List.pairwise_append.mp hd
    have ih := tells_flat (qs := qs) (fun q hq => ht q (List.mem_cons_of_mem _ hq)) hd2.2.1 (fun y hy => h1 y (List.mem_append_right _ hy))
    rw [List.map_cons, List.flatten_cons, List.map_cons, List.filterMap_cons]
    rcases ht (l, v) List.mem_cons_self with e | ⟨e1, e2, e3⟩
    · have e : v = win f l := e
      cases hv : v with
      | some m =>
        refine .inl ?_
        rw [win_append, ← e, hv]
        rfl
      | none =>
        have : win f (l ++ (qs.map (·.1)).flatten) = win f (qs.map (·.1)).flatten := by rw [win_append, ← e, hv]; rfl
        rcases ih with z | ⟨z1, z2, z3⟩
        · exact .inl (by rw [this]; exact z)
        · exact .inr ⟨List.mem_append_right _ z1, z2, by rw [this]; exact z3⟩
    · have e2 : v = none := e2
      have e3 : win f l = some .mark := e3
      subst e2
      have e4 : (qs.map (·.1)).flatten = [] := by
        cases hq : (qs.map (·.1)).flatten with
        | nil => rfl
        | cons y r =>
          have hy : y ∈ (qs.map (·.1)).flatten := by rw [hq]; exact List.mem_cons_self
          have := hd2.2.2 1 e1 y hy
          have := h1 y (List.mem_append_right _ hy)
          omega
      have e5 : ((qs.map (·.2)).filterMap id).head? = none := by
        rcases ih with z | ⟨z1, _, _⟩
        · rw [e4] at z; exact z
        · rw [e4] at z1; cases z1
      refine .inr ⟨List.mem_append_left _ e1, e5, ?_⟩
      rw [win_append, e3]
      rfl
def Desc (ls : List (List Int)) : Prop := ls.flatten.Pairwise (· > ·)
theorem tells_step {f : Int → Option Mk} {zs : List LV} {now : Int} {x : Deed} {m : Nat} (g : Good (zs.map (·.1)) now) (ok : okD x) (h : manyB zs.length x = some m) (ht : ∀ z ∈ zs, Tells f z.1 z.2)
    (hd : Desc (stepD (zs.map (·.1)) (dayB now x) x)) (hl : losesM (stepD (zs.map (·.1)) (dayB now x) x) x = false) : ∀ z ∈ stepP f zs (dayB now x) x, Tells f z.1 z.2 := by
  cases x with
  | fall =>
    intro z hz
    rcases List.mem_cons.mp hz with rfl | hz
    · refine .inl ?_
      show f _ = win f [_]
      unfold win
      simp [List.findSome?]
      cases f (dayB now .fall) <;> rfl
    · exact ht z hz
  | bake ns p k =>
    obtain ⟨c1, c2, rfl⟩ := manyB_bake h
    have g2 := g.step (x := .bake ns p k) ok (by rw [List.length_map]; exact h)
    intro z hz
    rcases mem_insP.mp hz with hz | rfl
    · exact ht z (mem_rest hz)
    · have e1 : pickL (zs.map (·.1)) ns = (pickL zs ns).map (·.1) := pickL_map _ _ _
      have e2 : pickL (zs.map (·.2)) ns = (pickL zs ns).map (·.2) := pickL_map _ _ _
      show Tells f (pickL (zs.map (·.1)) ns).flatten (valK (pickL (zs.map (·.2)) ns) k)
      have hT : (pickL (zs.map (·.1)) ns).flatten ∈ stepD (zs.map (·.1)) (dayB now (.bake ns p k)) (.bake ns p k) := mem_insP.mpr (.inr rfl)
      have sub : (pickL (zs.map (·.1)) ns).flatten.Sublist (stepD (zs.map (·.1)) (dayB now (.bake ns p k)) (.bake ns p k)).flatten := List.sublist_flatten_of_mem hT
      have hd1 : (pickL (zs.map (·.1)) ns).flatten.Pairwise (· > ·) := hd.sublist sub
      have key := tells_flat (f := f) (qs := pickL zs ns) (fun q hq => ht q (mem_pick hq)) (by rw [← e1]; exact hd1) (fun y hy => ((g2.mem y).mp (sub.subset (by rw [e1]; exact hy))).1)
      rw [← e1, ← e2] at key
      unfold valK
      split
      · rename_i c
        have hw : win f (pickL (zs.map (·.1)) ns).flatten = some .mark := by
          rcases key with z | ⟨_, _, z⟩
          · rw [← z]; exact c.1
          · exact z
        refine .inr ⟨?_, rfl, hw⟩
        -- the layer is the last one
        have hlen : (restL (zs.map (·.1)) ns).length ≤ p := by
          have hl : (!k && decide (p + 1 < (stepD (zs.map (·.1)) (dayB now (.bake ns p k)) (.bake ns p k)).length)) = false := hl
          rw [c.2] at hl
          have hl : decide (p + 1 < (stepD (zs.map (·.1)) (dayB now (.bake ns p k)) (.bake ns p k)).length) = false := hl
          have := of_decide_eq_false hl
          have h2 := (insP_perm (restL (zs.map (·.1)) ns) p (pickL (zs.map (·.1)) ns).flatten).length_eq
          rw [List.length_append, List.length_singleton] at h2
          have h3 : (stepD (zs.map (·.1)) (dayB now (.bake ns p k)) (.bake ns p k)).length = (restL (zs.map (·.1)) ns).length + 1 := h2
          omega
        have e3 : stepD (zs.map (·.1)) (dayB now (.bake ns p k)) (.bake ns p k) = restL (zs.map (·.1)) ns ++ [(pickL (zs.map (·.1)) ns).flatten] := by
          show insP _ p _ = _
          unfold insP
          rw [List.take_of_length_le hlen, List.drop_of_length_le hlen]
        have hne := g2.ne _ hT
        have pos : 1 ≤ dayB now (.bake ns p k) := by
          cases hq : (pickL (zs.map (·.1)) ns).flatten with
          | nil => exact absurd hq hne
          | cons y r =>
            have := (g2.mem y).mp (sub.subset (by rw [hq]; exact List.mem_cons_self))
            omega
        have h1 := (g2.mem 1).mpr ⟨Int.le_refl _, pos⟩
        rw [e3, List.flatten_append, List.mem_append] at h1
        rcases h1 with h1 | h1
        · exfalso
          cases hq : (pickL (zs.map (·.1)) ns).flatten with
          | nil => exact hne hq
          | cons y r =>
            have hy : y ∈ (pickL (zs.map (·.1)) ns).flatten := by rw [hq]; exact List.mem_cons_self
            unfold Desc at hd
            rw [e3, List.flatten_append] at hd
            have := (List.pairwise_append.mp hd).2.2 1 h1 y (by simp only [List.flatten_cons, List.flatten_nil, List.append_nil]; exact hy)
            have := (g2.mem y).mp (sub.subset hy)
            omega
        · simpa using h1
      · exact key
theorem read_tells {f : Int → Option Mk} {zs : List LV} {now : Int} (g : Good (zs.map (·.1)) now) (hd : Desc (zs.map (·.1))) (ht : ∀ z ∈ zs, Tells f z.1 z.2) : readV (zs.map (·.2)) = (win f (zs.map (·.1)).flatten).getD .mark := by
  unfold readV
  rcases tells_flat ht hd (fun y hy => ((g.mem y).mp hy).1) with z | ⟨_, z2, z3⟩
  · rw [z]
  · rw [z2, z3]; rfl
/-- what falls of a key with one or two versions -/
def fl (a b : Int) (k : Mk) (y : Int) : Option Mk := if y = b then some (if a = b then .leaf else k) else if y = a then some .leaf else none
def due (a b : Int) (k : Mk) (now : Int) : Mk := if b ≤ now then (if a = b then .leaf else k) else if a ≤ now then .leaf else .mark
theorem win_skip {f : Int → Option Mk} : ∀ {u : List Int}, (∀ y ∈ u, f y = none) → ∀ v, win f (u ++ v) = win f v
  | [], _, _ => rfl
  | y :: u, h, v => by
    show ((y :: u) ++ v).findSome? f = _
    rw [List.cons_append, List.findSome?_cons, h y List.mem_cons_self]
    exact win_skip (fun z hz => h z (List.mem_cons_of_mem _ hz)) v
theorem win_due {l : List Int} {now a b : Int} {k : Mk} (hd : l.Pairwise (· > ·)) (mem : ∀ y, y ∈ l ↔ 1 ≤ y ∧ y ≤ now) (ha : 1 ≤ a) (hab : a ≤ b) : (win (fl a b k) l).getD .mark = due a b k now := by
  unfold due
  by_cases cb : b ≤ now
  · rw [if_pos cb]
    obtain ⟨u, v, rfl⟩ := List.append_of_mem ((mem b).mpr ⟨by omega, cb⟩)
    rw [win_skip (fun y hy => ?_)]
    · show (win (fl a b k) (b :: v)).getD .mark = _
      unfold win
      rw [List.findSome?_cons]
      have : fl a b k b = some (if a = b then .leaf else k) := by unfold fl; rw [if_pos rfl]
      rw [this]
      rfl
    · have := (List.pairwise_append.mp hd).2.2 y hy b List.mem_cons_self
      unfold fl
      rw [if_neg (by omega), if_neg (by omega)]
  · rw [if_neg cb]
    by_cases ca : a ≤ now
    · rw [if_pos ca]
      obtain ⟨u, v, rfl⟩ := List.append_of_mem ((mem a).mpr ⟨ha, ca⟩)
      rw [win_skip (fun y hy => ?_)]
      · show (win (fl a b k) (a :: v)).getD .mark = _
        unfold win
        rw [List.findSome?_cons]
        have : fl a b k a = some .leaf := by unfold fl; rw [if_neg (by omega), if_pos rfl]
        rw [this]
        rfl
      · have := (List.pairwise_append.mp hd).2.2 y hy a List.mem_cons_self
        have := (mem y).mp (List.mem_append_left _ hy)
        unfold fl
        rw [if_neg (by omega), if_neg (by omega)]
    · rw [if_neg ca]
      have := win_skip (f := fl a b k) (u := l) (fun y hy => by
        have := (mem y).mp hy
        unfold fl
        rw [if_neg (by omega), if_neg (by omega)]) []
      rw [List.append_nil] at this
      rw [this]
      rfl

def fallsN (ds : List Deed) : Nat := (ds.filter isFall).length
theorem fallsN_cons (x : Deed) (ds : List Deed) : (fallsN (x :: ds) : Int) = (if isFall x then 1 else 0) + (fallsN ds : Int) := by
  unfold fallsN
  rw [List.filter_cons]
  split
  · rw [List.length_cons]; omega
  · omega
theorem wrongF_pos : ∀ {ds : List Deed} {ls : List (List Int)} {now : Int} {w : Nat}, wrongF ls now ds = some w → 1 ≤ w
  | [], _, _, _, h => by cases h
  | x :: r, ls, now, w, h => by
    unfold wrongF at h
    split at h
    · cases h; exact Nat.le_refl _
    · cases hq : wrongF (stepD ls (dayB now x) x) (dayB now x) r with
      | none => rw [hq] at h; cases h
      | some v =>
        rw [hq] at h
        have h : some (v + 1) = some w := h
        cases h
        exact Nat.le_add_left 1 v
theorem desc_of {ls : List (List Int)} {now : Int} {x : Deed} (g : Good ls now) (h : badB ls x = false) : Desc ls ∧ losesM ls x = false := by
  unfold badB at h
  rw [Bool.or_eq_false_iff] at h
  refine ⟨fallIn_none ?_ g.nd, h.2⟩
  cases hq : fallIn ls.flatten with
  | none => rfl
  | some q => rw [hq] at h; cases h.1
/-- what stands before the deed at place i, as long as all was right -/
structure At (f : Int → Option Mk) (ls : List (List Int)) (vs : List (Option Mk)) (now : Int) (ds : List Deed) (i : Nat) (x : Deed) (zs : List LV) (day : Int) (m : Nat) : Prop where
  ok : okD x
  many : manyB zs.length x = some m
  good : Good (zs.map (·.1)) day
  desc : Desc (zs.map (·.1))
  tells : ∀ z ∈ zs, Tells f z.1 z.2
  row : (rowsF ls now ds)[i]? = some (stepD (zs.map (·.1)) (dayB day x) x)
  val : (valsF f vs now ds)[i]? = some (stepV f (zs.map (·.2)) (dayB day x) x)
  eday : day = now + fallsN (ds.take i)
  bad : wrongF ls now ds = some (i + 1) ↔ badB (stepD (zs.map (·.1)) (dayB day x) x) x = true
theorem at_place {f : Int → Option Mk} : ∀ {ds : List Deed} {zs : List LV} {now : Int} {i : Nat} {x : Deed}, okS zs.length ds → Good (zs.map (·.1)) now → Desc (zs.map (·.1)) → (∀ z ∈ zs, Tells f z.1 z.2) → ds[i]? = some x → (∀ w, wrongF (zs.map (·.1)) now ds = some w → i < w) →
    ∃ zs' day m, At f (zs.map (·.1)) (zs.map (·.2)) now ds i x zs' day m
  | [], _, _, _, _, _, _, _, _, h, _ => by simp at h
  | y :: r, zs, now, 0, x, os, g, hd, ht, h, _ => by
    obtain rfl : y = x := by simpa using h
    obtain ⟨ok, m, hm, _⟩ := os
    refine ⟨zs, now, m, ok, hm, g, hd, ht, rfl, rfl, by simp [fallsN], ?_⟩
    unfold wrongF
    constructor
    · intro z
      split at z
      · assumption
      · cases hq : wrongF (stepD (zs.map (·.1)) (dayB now y) y) (dayB now y) r with
        | none => rw [hq] at z; cases z
        | some v =>
          rw [hq] at z
          have := wrongF_pos hq
          have z : some (v + 1) = some (0 + 1) := z
          cases z
          omega
    · intro z
      rw [if_pos z]
  | y :: r, zs, now, i + 1, x, os, g, hd, ht, h, hw => by
    obtain ⟨ok, m, hm, os2⟩ := os
    have hb : badB (stepD (zs.map (·.1)) (dayB now y) y) y = false := by
      cases hq : badB (stepD (zs.map (·.1)) (dayB now y) y) y with
      | false => rfl
      | true =>
        have := hw 1 (by unfold wrongF; rw [if_pos hq])
        omega
    have g2 := g.step ok (by rw [List.length_map]; exact hm)
    obtain ⟨hd2, hl2⟩ := desc_of g2 hb
    have ht2 := tells_step g ok hm ht hd2 hl2
    have e1 := stepP_fst f zs (dayB now y) y
    have e2 := stepP_snd f zs (dayB now y) y
    have len : (stepP f zs (dayB now y) y).length = m := by
      rw [← List.length_map (f := (·.1)), e1]
      exact stepD_len ok (by rw [List.length_map]; exact hm)
    have hx : wrongF (zs.map (·.1)) now (y :: r) = (wrongF (stepD (zs.map (·.1)) (dayB now y) y) (dayB now y) r).map (· + 1) := by
      conv => lhs; unfold wrongF
      rw [if_neg (by rw [hb]; decide)]
    obtain ⟨zs', day, m', a⟩ := at_place (f := f) (ds := r) (zs := stepP f zs (dayB now y) y) (now := dayB now y) (i := i) (x := x) (by rw [len]; exact os2) (by rw [e1]; exact g2) (by rw [e1]; exact hd2) ht2 (by simpa using h) (fun w hq => by
      rw [e1] at hq
      have := hw (w + 1) (by rw [hx, hq]; rfl)
      omega)
    refine ⟨zs', day, m', a.ok, a.many, a.good, a.desc, a.tells, ?_, ?_, ?_, ?_⟩
    · have := a.row
      rw [e1] at this
      exact this
    · have := a.val
      rw [e2] at this
      exact this
    · rw [a.eday]
      have := fallsN_cons y (r.take i)
      show dayB now y + _ = now + (fallsN (y :: r.take i) : Int)
      rw [this]
      unfold dayB
      omega
    · rw [hx, ← a.bad, e1]
      cases wrongF (stepD (zs.map (·.1)) (dayB now y) y) (dayB now y) r with
      | none => simp
      | some v => simp
/-- behind a deed with which nothing goes wrong, all is read as it is due -/
theorem read_right {f : Int → Option Mk} {ls : List (List Int)} {vs : List (Option Mk)} {now : Int} {ds : List Deed} {i : Nat} {x : Deed} {zs : List LV} {day : Int} {m : Nat} {a b : Int} {k : Mk} (s : At (fl a b k) ls vs now ds i x zs day m) (ha : 1 ≤ a) (hab : a ≤ b)
    (hb : badB (stepD (zs.map (·.1)) (dayB day x) x) x = false) : readV (stepV (fl a b k) (zs.map (·.2)) (dayB day x) x) = due a b k (dayB day x) := by
  have g2 := s.good.step s.ok (by rw [List.length_map]; exact s.many)
  obtain ⟨hd2, hl2⟩ := desc_of g2 hb
  have ht2 := tells_step s.good s.ok s.many s.tells hd2 hl2
  have e1 := stepP_fst (fl a b k) zs (dayB day x) x
  have e2 := stepP_snd (fl a b k) zs (dayB day x) x
  rw [← e2, read_tells (now := dayB day x) (by rw [e1]; exact g2) (by rw [e1]; exact hd2) ht2, e1]
  exact win_due hd2 g2.mem ha hab
theorem flat_win {f : Int → Option Mk} : ∀ {qs : List LV}, (∀ q ∈ qs, q.2 = win f q.1) → ((qs.map (·.2)).filterMap id).head? = win f (qs.map (·.1)).flatten
  | [], _ => rfl
  | (l, v) :: qs, h => by
    have ih := flat_win (qs := qs) fun q hq => h q (List.mem_cons_of_mem _ hq)
    have e : v = win f l := h (l, v) List.mem_cons_self
    rw [List.map_cons, List.map_cons, List.flatten_cons, List.filterMap_cons, win_append, ← e]
    cases v with
    | none => exact ih
    | some m => rfl
theorem win_val {f : Int → Option Mk} {m : Mk} : ∀ {l : List Int}, win f l = some m → ∃ y ∈ l, f y = some m
  | [], h => by cases h
  | y :: l, h => by
    unfold win at h
    rw [List.findSome?_cons] at h
    cases e : f y with
    | some q => rw [e] at h; exact ⟨y, List.mem_cons_self, by rw [e]; exact h⟩
    | none =>
      rw [e] at h
      obtain ⟨z, hz, hf⟩ := win_val (l := l) h
      exact ⟨z, List.mem_cons_of_mem _ hz, hf⟩
theorem nomark {a b : Int} {k : Mk} (hk : k ≠ .mark) {l : List Int} : win (fl a b k) l ≠ some .mark := fun h => by
  obtain ⟨y, _, hy⟩ := win_val h
  unfold fl at hy
  split at hy
  · split at hy
    · cases hy
    · exact hk (Option.some.inj hy)
  · split at hy <;> cases hy
/-- a pair that rises reads wrong -/
theorem read_pair {ls : List (List Int)} {vs : List (Option Mk)} {now : Int} {ds : List Deed} {i : Nat} {x : Deed} {zs : List LV} {day : Int} {m : Nat} {a b : Int} (s : At (fl a b .late) ls vs now ds i x zs day m)
    (hp : fallIn (stepD (zs.map (·.1)) (dayB day x) x).flatten = some (a, b)) : readV (stepV (fl a b .late) (zs.map (·.2)) (dayB day x) x) = .leaf ∧ 1 ≤ a ∧ a < b ∧ b ≤ dayB day x := by
  have g2 := s.good.step s.ok (by rw [List.length_map]; exact s.many)
  obtain ⟨hab, u, v, e⟩ := fallIn_some hp
  have ma := (g2.mem a).mp (by rw [e]; simp)
  have mb := (g2.mem b).mp (by rw [e]; simp)
  refine ⟨?_, ma.1, hab, mb.2⟩
  have h0 : ∀ z ∈ zs, z.2 = win (fl a b .late) z.1 := fun z hz => by
    rcases s.tells z hz with q | ⟨_, _, q⟩
    · exact q
    · exact absurd q (nomark (by decide))
  have h1 : ∀ z ∈ stepP (fl a b .late) zs (dayB day x) x, z.2 = win (fl a b .late) z.1 := by
    cases x with
    | fall =>
      intro z hz
      rcases List.mem_cons.mp hz with rfl | hz
      · show fl a b .late _ = win _ [_]
        unfold win
        rw [List.findSome?_cons]
        cases fl a b .late (dayB day .fall) <;> rfl
      · exact h0 z hz
    | bake ns p k =>
      intro z hz
      rcases mem_insP.mp hz with hz | rfl
      · exact h0 z (mem_rest hz)
      · show valK (pickL (zs.map (·.2)) ns) k = win _ (pickL (zs.map (·.1)) ns).flatten
        rw [pickL_map, pickL_map]
        have := flat_win (f := fl a b .late) (qs := pickL zs ns) fun q hq => h0 q (mem_pick hq)
        unfold valK
        rw [this, if_neg (fun c => nomark (by decide) c.1)]
  rw [← stepP_snd]
  unfold readV
  rw [flat_win h1, stepP_fst, e]
  have nd := g2.nd
  rw [e] at nd
  have nd2 := List.nodup_append.mp nd
  rw [win_skip (fun y hy => ?_)]
  · unfold win
    rw [List.findSome?_cons]
    have : fl a b .late a = some .leaf := by unfold fl; rw [if_neg (by omega), if_pos rfl]
    rw [this]
    rfl
  · have n1 : y ≠ a := nd2.2.2 y hy a List.mem_cons_self
    have n2 : y ≠ b := nd2.2.2 y hy b (List.mem_cons_of_mem _ List.mem_cons_self)
    unfold fl
    rw [if_neg n2, if_neg n1]
theorem read_leaf {vs : List (Option Mk)} (h : ∀ v ∈ vs, v = none ∨ v = some .leaf) (he : some Mk.leaf ∈ vs) : readV vs = .leaf := by
  unfold readV
  cases hq : vs.filterMap id with
  | nil =>
    have : Mk.leaf ∈ vs.filterMap id := List.mem_filterMap.mpr ⟨_, he, rfl⟩
    rw [hq] at this
    cases this
  | cons m r =>
    have : m ∈ vs.filterMap id := by rw [hq]; exact List.mem_cons_self
    obtain ⟨v, hv, e⟩ := List.mem_filterMap.mp this
    have e : v = some m := e
    rcases h v hv with z | z
    · rw [z] at e; cases e
    · rw [z] at e; cases e; rfl
/-- a mark that goes with a layer below reads wrong -/
theorem read_mark {ls : List (List Int)} {vs : List (Option Mk)} {now : Int} {ds : List Deed} {i : Nat} {ns : List Nat} {p : Nat} {k : Bool} {zs : List LV} {day : Int} {m : Nat} {a b : Int} {l0 T : List Int} {r : List (List Int)} (s : At (fl a b .mark) ls vs now ds i (.bake ns p k) zs day m)
    (hp : fallIn (stepD (zs.map (·.1)) (dayB day (.bake ns p k)) (.bake ns p k)).flatten = none) (hl : losesM (stepD (zs.map (·.1)) (dayB day (.bake ns p k)) (.bake ns p k)) (.bake ns p k) = true)
    (hT : (stepD (zs.map (·.1)) (dayB day (.bake ns p k)) (.bake ns p k))[p]? = some T) (hbT : T.head? = some b) (hr : (stepD (zs.map (·.1)) (dayB day (.bake ns p k)) (.bake ns p k)).drop (p + 1) = l0 :: r) (ha : l0.head? = some a) :
    readV (stepV (fl a b .mark) (zs.map (·.2)) (dayB day (.bake ns p k)) (.bake ns p k)) = .leaf ∧ 1 ≤ a ∧ a < b ∧ b ≤ dayB day (.bake ns p k) := by
  have g2 := s.good.step s.ok (by rw [List.length_map]; exact s.many)
  have hd := fallIn_none hp g2.nd
  obtain ⟨c1, c2, _⟩ := manyB_bake s.many
  have hk : k = false := by
    have hl : (!k && _) = true := hl
    rw [Bool.and_eq_true] at hl
    cases k with
    | false => rfl
    | true => cases hl.1
  subst hk
  generalize hX : dayB day (.bake ns p false) = X at *
  have eX : stepD (zs.map (·.1)) X (.bake ns p false) = insP (restL (zs.map (·.1)) ns) p (pickL (zs.map (·.1)) ns).flatten := rfl
  have lenR : p ≤ (restL (zs.map (·.1)) ns).length := by
    have h1 := (rest_pick (xs := zs) s.ok.2.1 c1).length_eq
    rw [List.length_append] at h1
    have h2 : (pickL zs ns).length ≤ ns.length := List.length_filterMap_le _ _
    rw [restL_map, List.length_map]
    have h3 : p < zs.length + 1 - ns.length := c2
    omega
  have eT : T = (pickL (zs.map (·.1)) ns).flatten := by
    rw [eX] at hT
    unfold insP at hT
    rw [List.getElem?_append_right (by rw [List.length_take]; omega), List.length_take, Nat.min_eq_left lenR, Nat.sub_self] at hT
    simpa using hT.symm
  have eD : restL (zs.map (·.1)) ns = (restL (zs.map (·.1)) ns).take p ++ l0 :: r := by
    rw [eX] at hr
    unfold insP at hr
    rw [List.drop_append, List.length_take, Nat.min_eq_left lenR, List.drop_of_length_le (by rw [List.length_take]; omega)] at hr
    have e1 : p + 1 - p = 1 := by omega
    rw [e1] at hr
    have hr : (restL (zs.map (·.1)) ns).drop p = l0 :: r := by simpa using hr
    rw [← hr, List.take_append_drop]
  have hbm : b ∈ T := by
    cases T with
    | nil => cases hbT
    | cons y T => cases hbT; exact List.mem_cons_self
  have ham : a ∈ l0 := by
    cases l0 with
    | nil => cases ha
    | cons y l => cases ha; exact List.mem_cons_self
  have eS : stepD (zs.map (·.1)) X (.bake ns p false) = (restL (zs.map (·.1)) ns).take p ++ T :: l0 :: r := by
    rw [eX, eT]
    unfold insP
    congr 2
    have h1 : (restL (zs.map (·.1)) ns).take p ++ (restL (zs.map (·.1)) ns).drop p = (restL (zs.map (·.1)) ns).take p ++ l0 :: r := by rw [List.take_append_drop]; exact eD
    exact List.append_cancel_left h1
  have hd' : ((restL (zs.map (·.1)) ns).take p ++ T :: l0 :: r).flatten.Pairwise (· > ·) := by rw [← eS]; exact hd
  rw [List.flatten_append, List.flatten_cons, List.flatten_cons] at hd'
  have hab : b > a := (List.pairwise_append.mp (List.pairwise_append.mp hd').2.1).2.2 b hbm a (List.mem_append_left _ ham)
  have mem2 := g2.mem
  rw [eS] at mem2
  have mb := (mem2 b).mp (by simp only [List.flatten_append, List.flatten_cons, List.mem_append]; exact .inr (.inl hbm))
  have ma := (mem2 a).mp (by simp only [List.flatten_append, List.flatten_cons, List.mem_append]; exact .inr (.inr (.inl ham)))
  refine ⟨?_, ma.1, hab, mb.2⟩
  -- b is in no other layer
  have nb : ∀ l ∈ restL (zs.map (·.1)) ns, b ∉ l := fun l hl hb => by
    have nd := (perm_flat (insP_perm (restL (zs.map (·.1)) ns) p (pickL (zs.map (·.1)) ns).flatten)).nodup_iff.mp (by rw [← eX]; exact g2.nd)
    rw [List.flatten_append, List.nodup_append] at nd
    exact nd.2.2 b (List.mem_flatten.mpr ⟨l, hl, hb⟩) b (by rw [← eT]; simpa using hbm) rfl
  have ez : (restL zs ns).map (·.1) = restL (zs.map (·.1)) ns := (restL_map _ _ _).symm
  have hz : ∀ z ∈ restL zs ns, z.2 = win (fl a b .mark) z.1 ∧ (z.2 = none ∨ z.2 = some .leaf) := fun z hz => by
    have hn : b ∉ z.1 := nb z.1 (by rw [← ez]; exact List.mem_map.mpr ⟨z, hz, rfl⟩)
    have hw : win (fl a b .mark) z.1 = none ∨ win (fl a b .mark) z.1 = some .leaf := by
      cases hq : win (fl a b .mark) z.1 with
      | none => exact .inl rfl
      | some q =>
        obtain ⟨y, hy, hf⟩ := win_val hq
        have hyb : y ≠ b := fun e => hn (by rw [← e]; exact hy)
        unfold fl at hf
        rw [if_neg hyb] at hf
        split at hf
        · cases hf; exact .inr rfl
        · cases hf
    rcases s.tells z (mem_rest hz) with q | ⟨_, _, q⟩
    · exact ⟨q, by rw [q]; exact hw⟩
    · rcases hw with w | w <;> (rw [w] at q; cases q)
  have hv : valK (pickL (zs.map (·.2)) ns) false = none := by
    have hd1 : (pickL (zs.map (·.1)) ns).flatten.Pairwise (· > ·) := by
      rw [← eT]
      exact (List.pairwise_append.mp (List.pairwise_append.mp hd').2.1).1
    have e1 : pickL (zs.map (·.1)) ns = (pickL zs ns).map (·.1) := pickL_map _ _ _
    have e2 : pickL (zs.map (·.2)) ns = (pickL zs ns).map (·.2) := pickL_map _ _ _
    have key := tells_flat (f := fl a b .mark) (qs := pickL zs ns) (fun q hq => s.tells q (mem_pick hq)) (by rw [← e1]; exact hd1) (fun y hy => ((mem2 y).mp (by
      simp only [List.flatten_append, List.flatten_cons, List.mem_append]
      rw [← e1, ← eT] at hy
      exact .inr (.inl hy))).1)
    rw [← e1, ← e2, ← eT] at key
    have hwT : win (fl a b .mark) T = some .mark := by
      cases T with
      | nil => cases hbT
      | cons y T =>
        cases hbT
        unfold win
        rw [List.findSome?_cons]
        have : fl a b .mark b = some .mark := by unfold fl; rw [if_pos rfl, if_neg (by omega)]
        rw [this]
    unfold valK
    rcases key with q | ⟨_, q, _⟩
    · rw [q, hwT, if_pos ⟨rfl, rfl⟩]
    · rw [q]
      split <;> rfl
  have eV : stepV (fl a b .mark) (zs.map (·.2)) X (.bake ns p false) = insP ((restL zs ns).map (·.2)) p none := by
    show insP (restL (zs.map (·.2)) ns) p (valK (pickL (zs.map (·.2)) ns) false) = _
    rw [hv, restL_map]
  rw [eV]
  refine read_leaf (fun v hv2 => ?_) ?_
  · rcases mem_insP.mp hv2 with q | q
    · obtain ⟨z, hz2, rfl⟩ := List.mem_map.mp q
      exact (hz z hz2).2
    · exact .inl q
  · refine mem_insP.mpr (.inl ?_)
    have hl0 : l0 ∈ restL (zs.map (·.1)) ns := by rw [eD]; simp
    rw [← ez] at hl0
    obtain ⟨z, hz2, e⟩ := List.mem_map.mp hl0
    refine List.mem_map.mpr ⟨z, hz2, ?_⟩
    rcases (hz z hz2).2 with q | q
    · exfalso
      have hw := (hz z hz2).1
      rw [q] at hw
      have e : z.1 = l0 := e
      rw [e] at hw
      obtain ⟨u, v, rfl⟩ := List.append_of_mem ham
      rw [win_append] at hw
      have : win (fl a b .mark) (a :: v) = some .leaf := by
        unfold win
        rw [List.findSome?_cons]
        have : fl a b .mark a = some .leaf := by unfold fl; rw [if_neg (by omega), if_pos rfl]
        rw [this]
      rw [this] at hw
      cases hq : win (fl a b .mark) u <;> rw [hq] at hw <;> cases hw
    · exact q

theorem rest_snoc {α : Type} (ys : List α) (x : α) (ns : List Nat) : restL (ys ++ [x]) ns = restL ys ns ++ (if ys.length ∈ ns then [] else [x]) := by
  have e1 : (ys ++ [x]).zipIdx = ys.zipIdx ++ [(x, ys.length)] := by
    rw [List.zipIdx_append]
    simp
  unfold restL
  rw [e1, List.filter_append, List.map_append]
  congr 1
  by_cases c : ys.length ∈ ns
  · rw [if_pos c, List.filter_cons_of_neg (by simpa using c)]
    rfl
  · rw [if_neg c, List.filter_cons_of_pos (by simpa using c)]
    rfl
theorem pick_snoc {α : Type} (xs : List α) (ns : List Nat) (n : Nat) : pickL xs (ns ++ [n]) = pickL xs ns ++ (match xs[n]? with | some x => [x] | none => []) := by
  unfold pickL
  rw [List.filterMap_append]
  congr 1
  rw [List.filterMap_cons]
  cases xs[n]? <;> rfl
theorem pick_len {ls : List (List Int)} {ms : List Nat} (nd : ms.Nodup) (lt : ∀ n ∈ ms, n < ls.length) : (pickL ls ms).flatten.length ≤ ls.flatten.length := by
  have := (perm_flat (rest_pick nd lt)).length_eq
  rw [List.flatten_append, List.length_append] at this
  omega

/-- layers and days behind some deeds -/
def stepS (s : List (List Int) × Int) (x : Deed) : List (List Int) × Int := (stepD s.1 (dayB s.2 x) x, dayB s.2 x)
def stF (s : List (List Int) × Int) (ds : List Deed) : List (List Int) × Int := ds.foldl stepS s
theorem stF_snoc (s : List (List Int) × Int) (ds : List Deed) (x : Deed) : stF s (ds ++ [x]) = stepS (stF s ds) x := by
  unfold stF
  rw [List.foldl_append]
  rfl
theorem rowsF_snoc : ∀ (ds : List Deed) (s : List (List Int) × Int) (x : Deed), rowsF s.1 s.2 (ds ++ [x]) = rowsF s.1 s.2 ds ++ [(stepS (stF s ds) x).1]
  | [], s, x => rfl
  | y :: r, s, x => by
    have ih := rowsF_snoc r (stepS s y) x
    show stepD s.1 (dayB s.2 y) y :: rowsF (stepS s y).1 (stepS s y).2 (r ++ [x]) = _
    rw [ih]
    rfl
theorem rowsF_len : ∀ (ds : List Deed) (ls : List (List Int)) (d : Int), (rowsF ls d ds).length = ds.length
  | [], _, _ => rfl
  | x :: r, ls, d => by
    show (rowsF _ _ r).length + 1 = r.length + 1
    rw [rowsF_len r]
theorem rowsF_take : ∀ (ds : List Deed) (ls : List (List Int)) (d : Int) (j : Nat), rowsF ls d (ds.take j) = (rowsF ls d ds).take j
  | [], _, _, j => by cases j <;> rfl
  | x :: r, ls, d, 0 => rfl
  | x :: r, ls, d, j + 1 => by
    show stepD ls (dayB d x) x :: rowsF _ _ (r.take j) = stepD ls (dayB d x) x :: (rowsF _ _ r).take j
    rw [rowsF_take r]
theorem okS_at : ∀ {ds : List Deed} {m j : Nat} {x : Deed} {s : List (List Int) × Int}, okS m ds → s.1.length = m → ds[j]? = some x → okD x ∧ ∃ m', manyB (stF s (ds.take j)).1.length x = some m'
  | [], _, _, _, _, _, _, h => by simp at h
  | y :: r, m, 0, x, s, os, hl, h => by
    obtain rfl : y = x := by simpa using h
    obtain ⟨ok, m', hm, _⟩ := os
    exact ⟨ok, m', by show manyB s.1.length y = _; rw [hl]; exact hm⟩
  | y :: r, m, j + 1, x, s, os, hl, h => by
    obtain ⟨ok, m', hm, os2⟩ := os
    exact okS_at (s := stepS s y) (j := j) os2 (stepD_len ok (by rw [hl]; exact hm)) (by simpa using h)
theorem manyB_le {m m' : Nat} {x : Deed} (ok : okD x) (h : manyB m x = some m') : m' ≤ m + 1 := by
  cases x with
  | fall => cases h; exact Nat.le_refl _
  | bake ns p k =>
    obtain ⟨_, _, rfl⟩ := manyB_bake h
    omega
theorem stepD_flat {ls : List (List Int)} {d : Int} {x : Deed} {m : Nat} (ok : okD x) (h : manyB ls.length x = some m) : (stepD ls d x).flatten.length ≤ ls.flatten.length + 1 := by
  cases x with
  | fall =>
    show ([d] :: ls).flatten.length ≤ _
    rw [List.flatten_cons, List.length_append]
    simp only [List.length_cons, List.length_nil]
    omega
  | bake ns p k =>
    obtain ⟨c1, _, _⟩ := manyB_bake h
    have p1 := (perm_flat (insP_perm (restL ls ns) p (pickL ls ns).flatten)).length_eq
    have p2 := (perm_flat (rest_pick ok.2.1 c1)).length_eq
    rw [List.flatten_append, List.length_append] at p1 p2
    have e2 : [(pickL ls ns).flatten].flatten = (pickL ls ns).flatten := by simp
    rw [e2] at p1
    show (insP (restL ls ns) p (pickL ls ns).flatten).flatten.length ≤ _
    omega
theorem stF_len : ∀ {ds : List Deed} {m : Nat} {s : List (List Int) × Int}, okS m ds → s.1.length = m → ∀ j, (stF s (ds.take j)).1.length ≤ m + j ∧ (stF s (ds.take j)).1.flatten.length ≤ s.1.flatten.length + j
  | [], m, s, _, hl, j => by
    have : stF s (([] : List Deed).take j) = s := by cases j <;> rfl
    rw [this]
    omega
  | y :: r, m, s, os, hl, 0 => by
    show s.1.length ≤ _ ∧ _
    exact ⟨by omega, Nat.le_refl _⟩
  | y :: r, m, s, os, hl, j + 1 => by
    obtain ⟨ok, m', hm, os2⟩ := os
    have e := stepD_len (ls := s.1) (d := dayB s.2 y) ok (by rw [hl]; exact hm)
    have h1 := stF_len (s := stepS s y) os2 e j
    have h2 := manyB_le ok hm
    have h3 := stepD_flat (ls := s.1) (d := dayB s.2 y) ok (by rw [hl]; exact hm)
    have h4 : (stepS s y).1.flatten.length ≤ s.1.flatten.length + 1 := h3
    show (stF (stepS s y) (r.take j)).1.length ≤ _ ∧ (stF (stepS s y) (r.take j)).1.flatten.length ≤ _
    omega
/-- the scan for the first that is wrong, place by place -/
theorem wrongF_scan : ∀ {ds : List Deed} {s : List (List Int) × Int} {j : Nat} {x : Deed}, ds[j]? = some x → (∀ w, wrongF s.1 s.2 ds = some w → j < w) → (badB (stepS (stF s (ds.take j)) x).1 x = true → wrongF s.1 s.2 ds = some (j + 1)) ∧ (badB (stepS (stF s (ds.take j)) x).1 x = false → ∀ w, wrongF s.1 s.2 ds = some w → j + 1 < w)
  | [], _, _, _, h, _ => by simp at h
  | y :: r, s, 0, x, h, _ => by
    obtain rfl : y = x := by simpa using h
    constructor
    · intro z
      have z : badB (stepD s.1 (dayB s.2 y) y) y = true := z
      unfold wrongF
      rw [if_pos z]
    · intro z w hw
      have z : badB (stepD s.1 (dayB s.2 y) y) y = false := z
      unfold wrongF at hw
      rw [if_neg (by rw [z]; decide)] at hw
      cases hq : wrongF (stepD s.1 (dayB s.2 y) y) (dayB s.2 y) r with
      | none => rw [hq] at hw; cases hw
      | some v =>
        rw [hq] at hw
        have hw : some (v + 1) = some w := hw
        cases hw
        have := wrongF_pos hq
        omega
  | y :: r, s, j + 1, x, h, hn => by
    have hb : badB (stepD s.1 (dayB s.2 y) y) y = false := by
      cases hq : badB (stepD s.1 (dayB s.2 y) y) y with
      | false => rfl
      | true =>
        have := hn 1 (by unfold wrongF; rw [if_pos hq])
        omega
    have hx : wrongF s.1 s.2 (y :: r) = (wrongF (stepS s y).1 (stepS s y).2 r).map (· + 1) := by
      conv => lhs; unfold wrongF
      rw [if_neg (by rw [hb]; decide)]
      rfl
    have ih := wrongF_scan (s := stepS s y) (j := j) (x := x) (ds := r) (by simpa using h) (fun w hq => by
      have := hn (w + 1) (by rw [hx, hq]; rfl)
      omega)
    constructor
    · intro z
      rw [hx, ih.1 z]
      rfl
    · intro z w hw
      rw [hx] at hw
      cases hq : wrongF (stepS s y).1 (stepS s y).2 r with
      | none => rw [hq] at hw; cases hw
      | some v =>
        rw [hq] at hw
        have hw : some (v + 1) = some w := hw
        cases hw
        have := ih.2 z v hq
        omega
theorem wrongF_le : ∀ {ds : List Deed} {ls : List (List Int)} {d : Int} {w : Nat}, wrongF ls d ds = some w → w ≤ ds.length
  | [], _, _, _, h => by cases h
  | x :: r, ls, d, w, h => by
    unfold wrongF at h
    split at h
    · cases h; exact Nat.le_add_left 1 _
    · cases hq : wrongF (stepD ls (dayB d x) x) (dayB d x) r with
      | none => rw [hq] at h; cases h
      | some v =>
        rw [hq] at h
        have h : some (v + 1) = some w := h
        cases h
        have := wrongF_le hq
        rw [List.length_cons]
        omega
theorem dayS (s : List (List Int) × Int) : ∀ ds : List Deed, (stF s ds).2 = s.2 + (fallsN ds : Int)
  | [] => by show s.2 = s.2 + 0; omega
  | x :: r => by
    have ih := dayS (stepS s x) r
    show (stF (stepS s x) r).2 = _
    rw [ih, fallsN_cons]
    show dayB s.2 x + _ = _
    unfold dayB
    omega

/-- values and days behind some deeds -/
def stepVS (f : Int → Option Mk) (s : List (Option Mk) × Int) (x : Deed) : List (Option Mk) × Int := (stepV f s.1 (dayB s.2 x) x, dayB s.2 x)
def stVF (f : Int → Option Mk) (s : List (Option Mk) × Int) (ds : List Deed) : List (Option Mk) × Int := ds.foldl (stepVS f) s
theorem stVF_snoc (f : Int → Option Mk) (s : List (Option Mk) × Int) (ds : List Deed) (x : Deed) : stVF f s (ds ++ [x]) = stepVS f (stVF f s ds) x := by
  unfold stVF
  rw [List.foldl_append]
  rfl
theorem rowsF_at' : ∀ {ds : List Deed} {s : List (List Int) × Int} {i : Nat} {x : Deed}, ds[i]? = some x → (rowsF s.1 s.2 ds)[i]? = some (stepS (stF s (ds.take i)) x).1
  | [], _, _, _, h => by simp at h
  | y :: r, s, 0, x, h => by
    obtain rfl : y = x := by simpa using h
    rfl
  | y :: r, s, i + 1, x, h => rowsF_at' (s := stepS s y) (i := i) (by simpa using h)
theorem valsF_at {f : Int → Option Mk} : ∀ {ds : List Deed} {s : List (Option Mk) × Int} {i : Nat} {x : Deed}, ds[i]? = some x → (valsF f s.1 s.2 ds)[i]? = some (stVF f s (ds.take (i + 1))).1
  | [], _, _, _, h => by simp at h
  | y :: r, s, 0, x, h => rfl
  | y :: r, s, i + 1, x, h => valsF_at (s := stepVS f s y) (i := i) (x := x) (by simpa using h)
theorem valsF_len (f : Int → Option Mk) : ∀ (ds : List Deed) (vs : List (Option Mk)) (d : Int), (valsF f vs d ds).length = ds.length
  | [], _, _ => rfl
  | x :: r, vs, d => by
    show (valsF f _ _ r).length + 1 = r.length + 1
    rw [valsF_len f r]
theorem stepV_len {f : Int → Option Mk} {vs : List (Option Mk)} {d : Int} {x : Deed} {m : Nat} (ok : okD x) (h : manyB vs.length x = some m) : (stepV f vs d x).length = m := by
  cases x with
  | fall => cases h; rfl
  | bake ns p k =>
    obtain ⟨c1, c2, rfl⟩ := manyB_bake h
    have h1 := (insP_perm (restL vs ns) p (valK (pickL vs ns) k)).length_eq
    have h2 := (rest_pick ok.2.1 c1).length_eq
    have h3 : (pickL vs ns).length = ns.length := by
      have : ∀ ms : List Nat, (∀ n ∈ ms, n < vs.length) → (pickL vs ms).length = ms.length := fun ms => by
        induction ms with
        | nil => intro _; rfl
        | cons a ms ih =>
          intro h
          unfold pickL at ih ⊢
          rw [List.filterMap_cons, List.getElem?_eq_getElem (h a List.mem_cons_self)]
          simp only [List.length_cons]
          rw [ih fun n hn => h n (List.mem_cons_of_mem _ hn)]
      exact this ns c1
    rw [List.length_append] at h1 h2
    show (insP (restL vs ns) p (valK (pickL vs ns) k)).length = _
    rw [h1]
    simp only [List.length_cons, List.length_nil]
    omega
/-- what a deed at a place has: its layers -/
theorem okV_at {f : Int → Option Mk} : ∀ {ds : List Deed} {m j : Nat} {x : Deed} {s : List (Option Mk) × Int}, okS m ds → s.1.length = m → ds[j]? = some x → okD x ∧ ∃ m', manyB (stVF f s (ds.take j)).1.length x = some m'
  | [], _, _, _, _, _, _, h => by simp at h
  | y :: r, m, 0, x, s, os, hl, h => by
    obtain rfl : y = x := by simpa using h
    obtain ⟨ok, m', hm, _⟩ := os
    exact ⟨ok, m', by show manyB s.1.length y = _; rw [hl]; exact hm⟩
  | y :: r, m, j + 1, x, s, os, hl, h => by
    obtain ⟨ok, m', hm, os2⟩ := os
    exact okV_at (s := stepVS f s y) (j := j) os2 (stepV_len ok (by rw [hl]; exact hm)) (by simpa using h)
theorem stVF_len {f : Int → Option Mk} : ∀ {ds : List Deed} {m : Nat} {s : List (Option Mk) × Int}, okS m ds → s.1.length = m → ∀ j, (stVF f s (ds.take j)).1.length ≤ m + j
  | [], m, s, _, hl, j => by
    have : stVF f s (([] : List Deed).take j) = s := by cases j <;> rfl
    rw [this]
    omega
  | y :: r, m, s, os, hl, 0 => by
    show s.1.length ≤ _
    omega
  | y :: r, m, s, os, hl, j + 1 => by
    obtain ⟨ok, m', hm, os2⟩ := os
    have e := stepV_len (f := f) (vs := s.1) (d := dayB s.2 y) ok (by rw [hl]; exact hm)
    have h1 := stVF_len (f := f) (s := stepVS f s y) os2 e j
    have h2 := manyB_le ok hm
    show (stVF f (stepVS f s y) (r.take j)).1.length ≤ _
    omega
theorem okS_take : ∀ {ds : List Deed} {m : Nat} (j : Nat), okS m ds → okS m (ds.take j)
  | _, _, 0, _ => True.intro
  | [], _, _ + 1, _ => True.intro
  | x :: r, m, j + 1, ⟨ok, m', hm, h⟩ => ⟨ok, m', hm, okS_take j h⟩

/-- what a WrongScript that shows has -/
structure Wit (ds : List Deed) (w : Nat) (a b : Int) (k : Mk) : Prop where
  nl : k ≠ .leaf
  a1 : 1 ≤ a
  ab : a < b
  bt : b ≤ (fallsN (ds.take w) : Int)
  rd : readV (stVF (fl a b k) ([], 0) (ds.take w)).1 = .leaf
theorem Good.nil : Good [] 0 := ⟨fun l h => (by cases h), by simp, fun y => by simp; omega, Int.le_refl _⟩
theorem fallsN_take {ds : List Deed} {i : Nat} {x : Deed} (h : ds[i]? = some x) (d : Int) : d + (fallsN (ds.take (i + 1)) : Int) = dayB (d + (fallsN (ds.take i) : Int)) x := by
  rw [List.take_add_one, h]
  unfold fallsN
  rw [List.filter_append, List.length_append]
  unfold dayB
  cases x with
  | fall =>
    show d + ((_ : Nat) + 1 : Nat) = d + _ + 1
    omega
  | bake ns p k =>
    show d + ((_ : Nat) + 0 : Nat) = d + _ + 0
    omega
/-- at a place up to which all is right: the state, and what it says -/
theorem at_start {f : Int → Option Mk} {ds : List Deed} {i : Nat} {x : Deed} (os : okS 0 ds) (h : ds[i]? = some x) (hw : ∀ w, wrongF [] 0 ds = some w → i < w) :
    ∃ zs day m, At f [] [] 0 ds i x zs day m ∧ stepD (zs.map (·.1)) (dayB day x) x = (stepS (stF ([], 0) (ds.take i)) x).1 ∧ stepV f (zs.map (·.2)) (dayB day x) x = (stVF f ([], 0) (ds.take (i + 1))).1 ∧ dayB day x = (fallsN (ds.take (i + 1)) : Int) := by
  obtain ⟨zs, day, m, a⟩ := at_place (f := f) (ds := ds) (zs := []) (now := 0) (i := i) (x := x) os Good.nil List.Pairwise.nil (fun z hz => by cases hz) h hw
  have a : At f [] [] 0 ds i x zs day m := a
  refine ⟨zs, day, m, a, ?_, ?_, ?_⟩
  · have h1 := a.row
    have h2 := rowsF_at' (s := ([], 0)) h
    exact Option.some.inj (h1.symm.trans h2)
  · have h1 := a.val
    have h2 := valsF_at (f := f) (s := ([], 0)) h
    exact Option.some.inj (h1.symm.trans h2)
  · have h1 := fallsN_take h 0
    rw [a.eday]
    omega
theorem wit_pair {ds : List Deed} {i : Nat} {x : Deed} {a b : Int} (os : okS 0 ds) (h : ds[i]? = some x) (hw : wrongF [] 0 ds = some (i + 1)) (hf : fallIn (stepS (stF ([], 0) (ds.take i)) x).1.flatten = some (a, b)) : Wit ds (i + 1) a b .late := by
  obtain ⟨zs, day, m, s, e1, e2, e3⟩ := at_start (f := fl a b .late) os h (fun w z => by rw [hw] at z; cases z; omega)
  obtain ⟨h1, h2, h3, h4⟩ := read_pair s (by rw [e1]; exact hf)
  exact ⟨by decide, h2, h3, by rw [← e3]; exact h4, by rw [← e2]; exact h1⟩
theorem wit_mark {ds : List Deed} {i : Nat} {x : Deed} (os : okS 0 ds) (h : ds[i]? = some x) (hw : wrongF [] 0 ds = some (i + 1)) (hf : fallIn (stepS (stF ([], 0) (ds.take i)) x).1.flatten = none) :
    ∃ ns p k T l0 r a b, x = .bake ns p k ∧ (stepS (stF ([], 0) (ds.take i)) x).1[p]? = some T ∧ T.head? = some b ∧ (stepS (stF ([], 0) (ds.take i)) x).1.drop (p + 1) = l0 :: r ∧ l0.head? = some a ∧ Wit ds (i + 1) a b .mark := by
  obtain ⟨zs0, day0, m0, s0, e10, e20, e30⟩ := at_start (f := fun _ => none) os h (fun w z => by rw [hw] at z; cases z; omega)
  have hb := s0.bad.mp hw
  rw [e10] at hb
  have g := s0.good.step s0.ok (by rw [List.length_map]; exact s0.many)
  rw [e10] at g
  unfold badB at hb
  rw [hf] at hb
  have hl : losesM (stepS (stF ([], 0) (ds.take i)) x).1 x = true := by simpa using hb
  cases x with
  | fall => cases hl
  | bake ns p k =>
    have hl2 : (!k && decide (p + 1 < (stepS (stF ([], 0) (ds.take i)) (.bake ns p k)).1.length)) = true := hl
    rw [Bool.and_eq_true, decide_eq_true_iff] at hl2
    generalize hls : (stepS (stF ([], 0) (ds.take i)) (.bake ns p k)).1 = ls at *
    have hp1 := hl2.2
    have hT : ls[p]? = some (ls[p]'(by omega)) := by simp
    have hd : ls.drop (p + 1) = ls[p + 1] :: ls.drop (p + 1 + 1) := List.drop_eq_getElem_cons hp1
    have n1 := g.ne _ (List.getElem_mem (show p < ls.length by omega))
    have n2 := g.ne _ (List.getElem_mem hp1)
    obtain ⟨b, hb1⟩ : ∃ b, (ls[p]'(by omega)).head? = some b := by
      cases hq : ls[p]'(by omega) with
      | nil => exact absurd hq n1
      | cons y r => exact ⟨y, rfl⟩
    obtain ⟨a, ha1⟩ : ∃ a, (ls[p + 1]).head? = some a := by
      cases hq : ls[p + 1] with
      | nil => exact absurd hq n2
      | cons y r => exact ⟨y, rfl⟩
    refine ⟨ns, p, k, _, _, _, a, b, rfl, hT, hb1, hd, ha1, ?_⟩
    obtain ⟨zs, day, m, s, e1, e2, e3⟩ := at_start (f := fl a b .mark) os h (fun w z => by rw [hw] at z; cases z; omega)
    rw [hls] at e1
    obtain ⟨h1, h2, h3, h4⟩ := read_mark s (by rw [e1]; exact hf) (by rw [e1]; exact hl) (by rw [e1]; exact hT) hb1 (by rw [e1]; exact hd) ha1
    exact ⟨by decide, h2, h3, by rw [← e3]; exact h4, by rw [← e2]; exact h1⟩
end Silt
set_option linter.all false
set_option Elab.async false
/-! scripts played round by round: so many layers at first, and when all rounds are right -/
namespace Silt
/-- so many layers at first, of a day each -/
def initL (m : Nat) : List (List Int) := (List.range m).map fun (i : Nat) => [(m : Int) - (i : Int)]
theorem initL_len (m : Nat) : (initL m).length = m := by unfold initL; rw [List.length_map, List.length_range]
def initV (f : Int → Option Mk) (m : Nat) : List (Option Mk) := (List.range m).map fun (i : Nat) => f ((m : Int) - (i : Int))
theorem initV_len (f : Int → Option Mk) (m : Nat) : (initV f m).length = m := by unfold initV; rw [List.length_map, List.length_range]
theorem flat_sing {α : Type} (g : Nat → α) : ∀ l : List Nat, (l.map fun i => [g i]).flatten = l.map g
  | [] => rfl
  | x :: l => by
    rw [List.map_cons, List.flatten_cons, flat_sing g l]
    rfl
theorem initL_flat' (m : Nat) : (initL m).flatten = (List.range m).map fun (i : Nat) => (m : Int) - (i : Int) := flat_sing _ _
theorem initL_flat (m : Nat) : (initL m).flatten.length = m := by
  rw [initL_flat', List.length_map, List.length_range]
theorem initL_desc (m : Nat) : Desc (initL m) := by
  unfold Desc
  rw [initL_flat', List.pairwise_map]
  refine List.Pairwise.imp ?_ List.pairwise_lt_range
  intro a b h
  omega
theorem initL_good (m : Nat) : Good (initL m) (m : Int) := by
  refine ⟨fun l h => ?_, ?_, fun y => ?_, by omega⟩
  · obtain ⟨i, _, rfl⟩ := List.mem_map.mp h
    simp
  · exact (initL_desc m).imp (fun h => by omega)
  · rw [initL_flat', List.mem_map]
    constructor
    · rintro ⟨i, hi, rfl⟩
      have := List.mem_range.mp hi
      omega
    · intro h
      exact ⟨((m : Int) - y).toNat, List.mem_range.mpr (by omega), by omega⟩
def initZ (f : Int → Option Mk) (m : Nat) : List LV := (List.range m).map fun (i : Nat) => ([(m : Int) - (i : Int)], f ((m : Int) - (i : Int)))
theorem initZ_fst (f : Int → Option Mk) (m : Nat) : (initZ f m).map (·.1) = initL m := by
  unfold initZ initL
  rw [List.map_map]
  rfl
theorem initZ_snd (f : Int → Option Mk) (m : Nat) : (initZ f m).map (·.2) = initV f m := by
  unfold initZ initV
  rw [List.map_map]
  rfl
theorem initZ_tells (f : Int → Option Mk) (m : Nat) : ∀ z ∈ initZ f m, Tells f z.1 z.2 := by
  intro z hz
  obtain ⟨i, _, rfl⟩ := List.mem_map.mp hz
  refine .inl ?_
  unfold win
  show f _ = List.findSome? f [_]
  rw [List.findSome?_cons]
  cases f ((m : Int) - (i : Int)) <;> rfl
/-- at a place up to which all is right: the state, and what it says -/
theorem at_startM {f : Int → Option Mk} {ds : List Deed} {i m : Nat} {x : Deed} (os : okS m ds) (h : ds[i]? = some x) (hw : ∀ w, wrongF (initL m) m ds = some w → i < w) :
    ∃ zs day m', At f (initL m) (initV f m) m ds i x zs day m' ∧ stepD (zs.map (·.1)) (dayB day x) x = (stepS (stF (initL m, (m : Int)) (ds.take i)) x).1 ∧ stepV f (zs.map (·.2)) (dayB day x) x = (stVF f (initV f m, (m : Int)) (ds.take (i + 1))).1 ∧ dayB day x = (m : Int) + (fallsN (ds.take (i + 1)) : Int) := by
  have e1 := initZ_fst f m
  have e2 := initZ_snd f m
  have lz : (initZ f m).length = m := by unfold initZ; rw [List.length_map, List.length_range]
  obtain ⟨zs, day, m', a⟩ := at_place (f := f) (ds := ds) (zs := initZ f m) (now := (m : Int)) (i := i) (x := x) (by rw [lz]; exact os) (by rw [e1]; exact initL_good m) (by rw [e1]; exact initL_desc m) (initZ_tells f m) h (by rw [e1]; exact hw)
  rw [e1, e2] at a
  refine ⟨zs, day, m', a, ?_, ?_, ?_⟩
  · have h1 := a.row
    have h2 := rowsF_at' (s := (initL m, (m : Int))) h
    exact Option.some.inj (h1.symm.trans h2)
  · have h1 := a.val
    have h2 := valsF_at (f := f) (s := (initV f m, (m : Int))) h
    exact Option.some.inj (h1.symm.trans h2)
  · have h1 := fallsN_take h (m : Int)
    rw [a.eday]
    omega
structure WitM (m : Nat) (ds : List Deed) (w : Nat) (a b : Int) (k : Mk) : Prop where
  nl : k ≠ .leaf
  a1 : 1 ≤ a
  ab : a < b
  bt : b ≤ (m : Int) + (fallsN (ds.take w) : Int)
  rd : readV (stVF (fl a b k) (initV (fl a b k) m, (m : Int)) (ds.take w)).1 = .leaf
theorem witM_ex {ds : List Deed} {m w : Nat} (os : okS m ds) (hw : wrongF (initL m) m ds = some w) : ∃ a b k, WitM m ds w a b k := by
  have p := wrongF_pos hw
  have l := wrongF_le hw
  obtain ⟨i, rfl⟩ : ∃ i, w = i + 1 := ⟨w - 1, by omega⟩
  obtain ⟨x, h⟩ : ∃ x, ds[i]? = some x := ⟨_, List.getElem?_eq_getElem (by omega)⟩
  have hi : ∀ w, wrongF (initL m) m ds = some w → i < w := fun w z => by rw [hw] at z; cases z; omega
  cases hf : fallIn (stepS (stF (initL m, (m : Int)) (ds.take i)) x).1.flatten with
  | some ab =>
    obtain ⟨zs, day, m', s, e1, e2, e3⟩ := at_startM (f := fl ab.1 ab.2 .late) os h hi
    obtain ⟨h1, h2, h3, h4⟩ := read_pair s (by rw [e1]; exact hf)
    exact ⟨_, _, .late, by decide, h2, h3, by rw [← e3]; exact h4, by rw [← e2]; exact h1⟩
  | none =>
    obtain ⟨zs0, day0, m0, s0, e10, e20, e30⟩ := at_startM (f := fun _ => none) os h hi
    have hb := s0.bad.mp hw
    rw [e10] at hb
    have g := s0.good.step s0.ok (by rw [List.length_map]; exact s0.many)
    rw [e10] at g
    unfold badB at hb
    rw [hf] at hb
    have hl : losesM (stepS (stF (initL m, (m : Int)) (ds.take i)) x).1 x = true := by simpa using hb
    cases x with
    | fall => cases hl
    | bake ns p k =>
      have hl2 : (!k && decide (p + 1 < (stepS (stF (initL m, (m : Int)) (ds.take i)) (.bake ns p k)).1.length)) = true := hl
      rw [Bool.and_eq_true, decide_eq_true_iff] at hl2
      generalize hls : (stepS (stF (initL m, (m : Int)) (ds.take i)) (.bake ns p k)).1 = ls at *
      have hp1 := hl2.2
      have hT : ls[p]? = some (ls[p]'(by omega)) := by simp
      have hd : ls.drop (p + 1) = ls[p + 1] :: ls.drop (p + 1 + 1) := List.drop_eq_getElem_cons hp1
      have n1 := g.ne _ (List.getElem_mem (show p < ls.length by omega))
      have n2 := g.ne _ (List.getElem_mem hp1)
      obtain ⟨b, hb1⟩ : ∃ b, (ls[p]'(by omega)).head? = some b := by
        cases hq : ls[p]'(by omega) with
        | nil => exact absurd hq n1
        | cons y r => exact ⟨y, rfl⟩
      obtain ⟨a, ha1⟩ : ∃ a, (ls[p + 1]).head? = some a := by
        cases hq : ls[p + 1] with
        | nil => exact absurd hq n2
        | cons y r => exact ⟨y, rfl⟩
      obtain ⟨zs, day, m', s, e1, e2, e3⟩ := at_startM (f := fl a b .mark) os h hi
      rw [hls] at e1
      obtain ⟨h1, h2, h3, h4⟩ := read_mark s (by rw [e1]; exact hf) (by rw [e1]; exact hl) (by rw [e1]; exact hT) hb1 (by rw [e1]; exact hd) ha1
      exact ⟨a, b, .mark, by decide, h2, h3, by rw [← e3]; exact h4, by rw [← e2]; exact h1⟩
theorem witM_wrong {ds : List Deed} {m w : Nat} {a b : Int} {k : Mk} (h : WitM m ds w a b k) : readV (stVF (fl a b k) (initV (fl a b k) m, (m : Int)) (ds.take w)).1 ≠ due a b k ((m : Int) + (fallsN (ds.take w) : Int)) := by
  rw [h.rd]
  unfold due
  rw [if_pos h.bt, if_neg (by have := h.ab; omega)]
  exact fun z => h.nl z.symm
theorem reads_okM {ds : List Deed} {i m : Nat} {a b : Int} {k : Mk} (os : okS m ds) (hi : i < ds.length) (hw : ∀ w, wrongF (initL m) m ds = some w → i + 1 < w) (ha : 1 ≤ a) (hab : a ≤ b) : readV (stVF (fl a b k) (initV (fl a b k) m, (m : Int)) (ds.take (i + 1))).1 = due a b k ((m : Int) + (fallsN (ds.take (i + 1)) : Int)) := by
  have hx : ds[i]? = some ds[i] := List.getElem?_eq_getElem hi
  obtain ⟨zs, day, m', s, e1, e2, e3⟩ := at_startM (f := fl a b k) os hx (fun w z => by have := hw w z; omega)
  have hb : badB (stepD (zs.map (·.1)) (dayB day ds[i]) ds[i]) ds[i] = false := by
    cases q : badB (stepD (zs.map (·.1)) (dayB day ds[i]) ds[i]) ds[i] with
    | false => rfl
    | true =>
      have := hw _ (s.bad.mpr q)
      omega
  have := read_right (f := fl a b k) s ha hab hb
  rw [e2, e3] at this
  exact this
end Silt
set_option linter.all false
set_option Elab.async false
/-! when a deed is right: told from the number of layers alone -/
namespace Silt
/-- the layers' places in their new order -/
def ixs (L : Nat) (ns : List Nat) (p : Nat) : List Nat := (restL (List.range L) ns).take p ++ (ns ++ (restL (List.range L) ns).drop p)
theorem map_getD {α : Type} (ls : List α) (z : α) : (List.range ls.length).map (fun i => ls[i]?.getD z) = ls := by
  refine List.ext_getElem? fun i => ?_
  rw [List.getElem?_map]
  by_cases c : i < ls.length
  · rw [List.getElem?_range c, List.getElem?_eq_getElem c]
    simp [c]
  · rw [List.getElem?_eq_none (by rw [List.length_range]; omega), List.getElem?_eq_none (by omega)]
    rfl
theorem pick_range {L : Nat} : ∀ {ns : List Nat}, (∀ n ∈ ns, n < L) → pickL (List.range L) ns = ns
  | [], _ => rfl
  | n :: ns, h => by
    have ih := pick_range (ns := ns) fun m hm => h m (List.mem_cons_of_mem _ hm)
    unfold pickL at ih ⊢
    rw [List.filterMap_cons, List.getElem?_range (h n List.mem_cons_self)]
    show n :: _ = _
    rw [ih]
theorem bake_flat {ls : List (List Int)} {ns : List Nat} {p : Nat} {k : Bool} {d : Int} (lt : ∀ n ∈ ns, n < ls.length) : (stepD ls d (.bake ns p k)).flatten = ((ixs ls.length ns p).map fun i => ls[i]?.getD []).flatten := by
  have e0 := map_getD ls []
  have e1 : restL ls ns = (restL (List.range ls.length) ns).map fun i => ls[i]?.getD [] := by
    conv => lhs; rw [← e0]
    exact restL_map _ _ _
  have e2 : pickL ls ns = ns.map fun i => ls[i]?.getD [] := by
    conv => lhs; rw [← e0]
    rw [pickL_map, pick_range lt]
  show (insP (restL ls ns) p (pickL ls ns).flatten).flatten = _
  unfold insP ixs
  rw [e1, e2, List.map_append, List.map_append, List.flatten_append, List.flatten_append, List.flatten_cons, ← List.map_take, ← List.map_drop, List.flatten_append]
theorem desc_ixs {ls : List (List Int)} (hd : Desc ls) (ne : ∀ l ∈ ls, l ≠ []) {I : List Nat} (hI : ∀ i ∈ I, i < ls.length) : (I.map fun i => ls[i]?.getD []).flatten.Pairwise (· > ·) ↔ I.Pairwise (· < ·) := by
  have hd : ls.flatten.Pairwise (· > ·) := hd
  rw [List.pairwise_flatten] at hd ⊢
  obtain ⟨h1, h2⟩ := hd
  have at_ : ∀ i : Nat, i < ls.length → ∃ l, ls[i]? = some l ∧ l ∈ ls := fun i hi => ⟨_, List.getElem?_eq_getElem hi, List.getElem_mem hi⟩
  have cross : ∀ (i j : Nat) (l l' : List Int), i < j → ls[i]? = some l → ls[j]? = some l' → ∀ x ∈ l, ∀ y ∈ l', x > y := by
    intro i j l l' hij hl hl'
    obtain ⟨hi, rfl⟩ := List.getElem?_eq_some_iff.mp hl
    obtain ⟨hj, rfl⟩ := List.getElem?_eq_some_iff.mp hl'
    exact (List.pairwise_iff_getElem.mp h2) i j hi hj hij
  constructor
  · rintro ⟨_, h4⟩
    rw [List.pairwise_map] at h4
    refine List.Pairwise.imp_of_mem ?_ h4
    intro i j hi hj h
    obtain ⟨l, el, ml⟩ := at_ i (hI i hi)
    obtain ⟨l', el', ml'⟩ := at_ j (hI j hj)
    rw [el, el'] at h
    have h : ∀ x ∈ l, ∀ y ∈ l', x > y := h
    obtain ⟨x, hx⟩ := List.exists_mem_of_ne_nil l (ne l ml)
    obtain ⟨y, hy⟩ := List.exists_mem_of_ne_nil l' (ne l' ml')
    have hxy := h x hx y hy
    refine Classical.byContradiction fun c => ?_
    rcases Nat.lt_or_eq_of_le (Nat.le_of_not_lt c) with z | z
    · have := cross j i l' l z el' el y hy x hx
      omega
    · subst z
      rw [el] at el'
      cases el'
      have := h x hx x hx
      omega
  · intro h
    constructor
    · intro l hl
      obtain ⟨i, hi, rfl⟩ := List.mem_map.mp hl
      obtain ⟨l', el, ml⟩ := at_ i (hI i hi)
      rw [el]
      exact h1 l' ml
    · rw [List.pairwise_map]
      refine List.Pairwise.imp_of_mem ?_ h
      intro i j hi hj hij
      obtain ⟨l, el, ml⟩ := at_ i (hI i hi)
      obtain ⟨l', el', ml'⟩ := at_ j (hI j hj)
      rw [el, el']
      exact cross i j l l' hij el el'
theorem ixs_perm {L : Nat} {ns : List Nat} {p : Nat} (nd : ns.Nodup) (lt : ∀ n ∈ ns, n < L) : (ixs L ns p).Perm (List.range L) := by
  have h := rest_pick (xs := List.range L) nd (by rw [List.length_range]; exact lt)
  rw [pick_range lt] at h
  unfold ixs
  refine List.Perm.trans ?_ h
  have : ((restL (List.range L) ns).take p ++ (ns ++ (restL (List.range L) ns).drop p)).Perm ((restL (List.range L) ns).take p ++ ((restL (List.range L) ns).drop p ++ ns)) := List.Perm.append_left _ List.perm_append_comm
  refine this.trans ?_
  rw [← List.append_assoc, List.take_append_drop]
theorem ixs_range {L : Nat} {ns : List Nat} {p : Nat} (nd : ns.Nodup) (lt : ∀ n ∈ ns, n < L) : (ixs L ns p).Pairwise (· < ·) ↔ ixs L ns p = List.range L := by
  constructor
  · intro h
    refine List.Perm.eq_of_pairwise (le := (· < ·)) ?_ h List.pairwise_lt_range (ixs_perm nd lt)
    intro a b _ _ h1 h2
    omega
  · intro h
    rw [h]
    exact List.pairwise_lt_range
theorem rest_range (L : Nat) (ns : List Nat) : restL (List.range L) ns = (List.range L).filter fun i => decide (i ∉ ns) := by
  rw [rest_eq ns L (List.range L) List.length_range]
  have : ∀ l : List Nat, (∀ i ∈ l, i < L) → (l.filterMap fun i => (List.range L)[i]?) = l := by
    intro l
    induction l with
    | nil => intro _; rfl
    | cons i l ih =>
      intro h
      rw [List.filterMap_cons, List.getElem?_range (h i List.mem_cons_self)]
      show i :: _ = _
      rw [ih fun j hj => h j (List.mem_cons_of_mem _ hj)]
  exact this _ fun i hi => List.mem_range.mp (List.mem_filter.mp hi).1
/-- neighbours, in their order, put back where they were -/
def Nb (ns : List Nat) (p : Nat) : Prop := ns = List.range' p ns.length
instance (ns : List Nat) (p : Nat) : Decidable (Nb ns p) := by unfold Nb; infer_instance
theorem ixs_nb {L : Nat} {ns : List Nat} {p : Nat} (nd : ns.Nodup) (lt : ∀ n ∈ ns, n < L) (hp : p + ns.length ≤ L) : ixs L ns p = List.range L ↔ Nb ns p := by
  have lr : (restL (List.range L) ns).length + ns.length = L := by
    have h := (rest_pick (xs := List.range L) nd (by rw [List.length_range]; exact lt)).length_eq
    rw [pick_range lt, List.length_append, List.length_range] at h
    exact h
  have e : List.range L = List.range' 0 p ++ (List.range' p ns.length ++ List.range' (p + ns.length) (L - p - ns.length)) := by
    have h1 := List.range'_append_1 (s := 0) (m := p) (n := ns.length + (L - p - ns.length))
    rw [Nat.zero_add] at h1
    rw [List.range_eq_range', List.range'_append_1, h1]
    congr 1
    omega
  constructor
  · intro h
    have lt1 : ((restL (List.range L) ns).take p).length = p := by rw [List.length_take]; omega
    have h2 : ((ixs L ns p).drop p).take ns.length = ns := by
      unfold ixs
      rw [List.drop_append_of_le_length (by omega), List.drop_of_length_le (by omega), List.nil_append, List.take_append_of_le_length (by omega), List.take_of_length_le (by omega)]
    rw [h, e, List.drop_append_of_le_length (by rw [List.length_range']; omega), List.drop_of_length_le (by rw [List.length_range']; omega), List.nil_append, List.take_append_of_le_length (by rw [List.length_range']; omega), List.take_of_length_le (by rw [List.length_range']; omega)] at h2
    exact h2.symm
  · intro h
    unfold Nb at h
    have er : restL (List.range L) ns = List.range' 0 p ++ List.range' (p + ns.length) (L - p - ns.length) := by
      rw [rest_range, e, List.filter_append, List.filter_append]
      have m1 : ∀ i, i ∈ ns ↔ p ≤ i ∧ i < p + ns.length := fun i => by
        rw [h, List.mem_range'_1, List.length_range']
      rw [List.filter_eq_self.mpr, List.filter_eq_nil_iff.mpr, List.filter_eq_self.mpr, List.nil_append]
      · intro i hi
        rw [decide_eq_true_iff, m1]
        have := List.mem_range'_1.mp hi
        omega
      · intro i hi
        rw [decide_eq_true_iff, m1]
        have := List.mem_range'_1.mp hi
        omega
      · intro i hi
        rw [decide_eq_true_iff, m1]
        have := List.mem_range'_1.mp hi
        omega
    unfold ixs
    rw [er, List.take_append_of_le_length (by rw [List.length_range']; omega), List.take_of_length_le (by rw [List.length_range']; omega), List.drop_append_of_le_length (by rw [List.length_range']; omega), List.drop_of_length_le (by rw [List.length_range']; omega), List.nil_append, e]
    conv => lhs; rw [h]
    rw [List.length_range']
end Silt
set_option linter.all false
set_option Elab.async false
/-! rounds: what two rounds tell of all -/
namespace Silt
theorem fallIn_desc : ∀ {l : List Int}, l.Pairwise (· > ·) → fallIn l = none
  | [], _ => rfl
  | [_], _ => rfl
  | a :: b :: r, h => by
    have h1 := List.pairwise_cons.mp h
    have := h1.1 b List.mem_cons_self
    unfold fallIn
    rw [if_neg (by omega)]
    exact fallIn_desc h1.2
theorem fallIn_iff {l : List Int} (nd : l.Nodup) : fallIn l = none ↔ l.Pairwise (· > ·) := ⟨fun h => fallIn_none h nd, fallIn_desc⟩
def badN (L : Nat) : Deed → Bool
  | .fall => false
  | .bake ns p k => !decide (Nb ns p) || (!k && decide (p + 1 < L + 1 - ns.length))
theorem bad_badN {ls : List (List Int)} {now : Int} {x : Deed} {m' : Nat} (g : Good ls now) (hd : Desc ls) (ok : okD x) (h : manyB ls.length x = some m') : badB (stepD ls (dayB now x) x) x = badN ls.length x := by
  have g2 := g.step ok h
  cases x with
  | fall =>
    have e : dayB now .fall = now + 1 := rfl
    rw [e] at g2 ⊢
    have : fallIn (stepD ls (now + 1) .fall).flatten = none := by
      refine fallIn_desc ?_
      show (([now + 1] :: ls).flatten).Pairwise _
      rw [List.flatten_cons, List.singleton_append, List.pairwise_cons]
      exact ⟨fun y hy => by have := (g.mem y).mp hy; omega, hd⟩
    unfold badB
    rw [this]
    rfl
  | bake ns p k =>
    obtain ⟨c1, c2, rfl⟩ := manyB_bake h
    have hl := stepD_len (d := dayB now (.bake ns p k)) ok h
    have e1 : fallIn (stepD ls (dayB now (.bake ns p k)) (.bake ns p k)).flatten = none ↔ Nb ns p := by
      rw [fallIn_iff g2.nd, bake_flat c1, desc_ixs hd g.ne (fun i hi => by
        have := (ixs_perm (p := p) ok.2.1 c1).mem_iff.mp hi
        exact List.mem_range.mp this), ixs_range ok.2.1 c1, ixs_nb ok.2.1 c1 (by omega)]
    unfold badB badN losesM
    rw [hl]
    congr 1
    cases hq : fallIn (stepD ls (dayB now (.bake ns p k)) (.bake ns p k)).flatten with
    | none => rw [decide_eq_true (e1.mp hq)]; rfl
    | some ab =>
      rw [decide_eq_false (fun z => by
        have := e1.mpr z
        rw [hq] at this
        cases this)]
      rfl
def endK : Nat → List Deed → Nat
  | L, [] => L
  | L, x :: r => endK ((manyB L x).getD 0) r
def rightN : Nat → List Deed → Prop
  | _, [] => True
  | L, x :: r => badN L x = false ∧ rightN ((manyB L x).getD 0) r
theorem okS_append : ∀ {a b : List Deed} {L : Nat}, okS L (a ++ b) ↔ okS L a ∧ okS (endK L a) b
  | [], b, L => ⟨fun h => ⟨trivial, h⟩, fun h => h.2⟩
  | x :: r, b, L => by
    constructor
    · rintro ⟨ok, m', hm, h⟩
      have ih := okS_append.mp h
      refine ⟨⟨ok, m', hm, ih.1⟩, ?_⟩
      show okS (endK ((manyB L x).getD 0) r) b
      rw [hm]
      exact ih.2
    · rintro ⟨⟨ok, m', hm, h⟩, h2⟩
      have h2 : okS (endK ((manyB L x).getD 0) r) b := h2
      rw [hm] at h2
      exact ⟨ok, m', hm, okS_append.mpr ⟨h, h2⟩⟩
theorem rightN_append : ∀ {a b : List Deed} {L : Nat}, rightN L (a ++ b) ↔ rightN L a ∧ rightN (endK L a) b
  | [], b, L => ⟨fun h => ⟨trivial, h⟩, fun h => h.2⟩
  | x :: r, b, L => by
    show (badN L x = false ∧ rightN ((manyB L x).getD 0) (r ++ b)) ↔ (badN L x = false ∧ rightN ((manyB L x).getD 0) r) ∧ rightN (endK ((manyB L x).getD 0) r) b
    rw [rightN_append]
    exact and_assoc.symm
theorem endK_append : ∀ {a b : List Deed} {L : Nat}, endK L (a ++ b) = endK (endK L a) b
  | [], _, _ => rfl
  | x :: r, b, L => endK_append (a := r)
theorem manyB_add {L m' : Nat} {x : Deed} (h : manyB L x = some m') (c : Nat) : manyB (L + c) x = some (m' + c) := by
  cases x with
  | fall =>
    cases h
    show some (L + c + 1) = some (L + 1 + c)
    congr 1
    omega
  | bake ns p k =>
    obtain ⟨c1, c2, rfl⟩ := manyB_bake h
    show (if _ then _ else _) = _
    rw [if_pos ⟨fun n hn => by have := c1 n hn; omega, by omega⟩]
    congr 1
    omega
theorem okS_shift : ∀ {ds : List Deed} {L : Nat}, okS L ds → ∀ c, okS (L + c) ds ∧ endK (L + c) ds = endK L ds + c
  | [], _, _, _ => ⟨trivial, rfl⟩
  | x :: r, L, ⟨ok, m', hm, h⟩, c => by
    obtain ⟨h1, h2⟩ := okS_shift h c
    have e := manyB_add hm c
    refine ⟨⟨ok, m' + c, e, h1⟩, ?_⟩
    show endK ((manyB (L + c) x).getD 0) r = endK ((manyB L x).getD 0) r + c
    rw [e, hm]
    exact h2
theorem right_all : ∀ {ds : List Deed} {L c : Nat}, okS L ds → rightN L ds → 0 < c → rightN (L + c) ds → ∀ e, rightN (L + e) ds
  | [], _, _, _, _, _, _, _ => trivial
  | x :: r, L, c, ⟨ok, m', hm, h⟩, ⟨h1, h2⟩, hc, ⟨h3, h4⟩, e => by
    have h2 : rightN ((manyB L x).getD 0) r := h2
    have h4 : rightN ((manyB (L + c) x).getD 0) r := h4
    rw [hm] at h2
    rw [manyB_add hm c] at h4
    refine ⟨?_, ?_⟩
    · cases x with
      | fall => rfl
      | bake ns p k =>
        obtain ⟨c1, c2, rfl⟩ := manyB_bake hm
        unfold badN at h1 h3 ⊢
        rw [Bool.or_eq_false_iff] at h1 h3 ⊢
        refine ⟨h1.1, ?_⟩
        cases k with
        | true => rfl
        | false =>
          have z : decide (p + 1 < L + c + 1 - ns.length) = false := h3.2
          have := of_decide_eq_false z
          omega
    · show rightN ((manyB (L + e) x).getD 0) r
      rw [manyB_add hm e]
      exact right_all h h2 hc h4 e
theorem wrong_right : ∀ {ds : List Deed} {ls : List (List Int)} {now : Int}, Good ls now → Desc ls → okS ls.length ds → (wrongF ls now ds = none ↔ rightN ls.length ds)
  | [], _, _, _, _, _ => ⟨fun _ => trivial, fun _ => rfl⟩
  | x :: r, ls, now, g, hd, ⟨ok, m', hm, h⟩ => by
    have e := bad_badN g hd ok hm
    have g2 := g.step ok hm
    have hl := stepD_len (d := dayB now x) ok hm
    show _ ↔ (badN ls.length x = false ∧ rightN ((manyB ls.length x).getD 0) r)
    rw [hm]
    show _ ↔ (badN ls.length x = false ∧ rightN m' r)
    conv => lhs; unfold wrongF
    cases hb : badB (stepD ls (dayB now x) x) x with
    | true =>
      rw [if_pos rfl]
      rw [e] at hb
      rw [hb]
      simp
    | false =>
      rw [if_neg Bool.false_ne_true]
      have hd2 := (desc_of g2 hb).1
      have ih := wrong_right (ds := r) g2 hd2 (by rw [hl]; exact h)
      rw [hl] at ih
      rw [e] at hb
      rw [hb]
      constructor
      · intro z
        refine ⟨rfl, ih.mp ?_⟩
        cases q : wrongF (stepD ls (dayB now x) x) (dayB now x) r with
        | none => rfl
        | some v => rw [q] at z; cases z
      · intro z
        rw [ih.mpr z.2]
        rfl
theorem wrongF_append : ∀ {a b : List Deed} {ls : List (List Int)} {now : Int} {w : Nat}, wrongF ls now a = some w → wrongF ls now (a ++ b) = some w
  | [], _, _, _, _, h => by cases h
  | x :: r, b, ls, now, w, h => by
    unfold wrongF at h
    show wrongF ls now (x :: (r ++ b)) = some w
    unfold wrongF
    split at h
    · rename_i c
      rw [if_pos c]
      exact h
    · rename_i c
      rw [if_neg c]
      cases q : wrongF (stepD ls (dayB now x) x) (dayB now x) r with
      | none => rw [q] at h; cases h
      | some v =>
        rw [q] at h
        rw [wrongF_append q]
        exact h
/-- so many rounds of the deeds -/
def RP (r : Nat) (ds : List Deed) : List Deed := (List.replicate r ds).flatten
theorem RP_succ (r : Nat) (ds : List Deed) : RP (r + 1) ds = ds ++ RP r ds := by
  unfold RP
  rw [List.replicate_succ, List.flatten_cons]
theorem RP_add (r s : Nat) (ds : List Deed) : RP (r + s) ds = RP r ds ++ RP s ds := by
  unfold RP
  rw [← List.replicate_append_replicate, List.flatten_append]
theorem RP_len (r : Nat) (ds : List Deed) : (RP r ds).length = r * ds.length := by
  induction r with
  | zero => rw [Nat.zero_mul]; rfl
  | succ r ih => rw [RP_succ, List.length_append, ih, Nat.succ_mul, Nat.add_comm]
theorem okS_rounds {ds : List Deed} {m G : Nat} (os : okS m ds) (hG : endK m ds = m + G) : ∀ (r j : Nat), okS (m + j * G) (RP r ds) ∧ endK (m + j * G) (RP r ds) = m + (j + r) * G
  | 0, j => ⟨trivial, rfl⟩
  | r + 1, j => by
    obtain ⟨h1, h2⟩ := okS_shift os (j * G)
    have e : endK (m + j * G) ds = m + (j + 1) * G := by
      rw [h2, hG, Nat.succ_mul]
      omega
    obtain ⟨i1, i2⟩ := okS_rounds os hG r (j + 1)
    rw [RP_succ]
    refine ⟨okS_append.mpr ⟨h1, by rw [e]; exact i1⟩, ?_⟩
    rw [endK_append, e, i2, show j + 1 + r = j + (r + 1) by omega]
theorem right_rounds {ds : List Deed} {m G : Nat} (os : okS m ds) (hG : endK m ds = m + G) (hr : ∀ j, rightN (m + j * G) ds) : ∀ (r j : Nat), rightN (m + j * G) (RP r ds)
  | 0, j => trivial
  | r + 1, j => by
    obtain ⟨h1, h2⟩ := okS_shift os (j * G)
    have e : endK (m + j * G) ds = m + (j + 1) * G := by
      rw [h2, hG, Nat.succ_mul]
      omega
    rw [RP_succ]
    exact rightN_append.mpr ⟨hr j, by rw [e]; exact right_rounds os hG hr r (j + 1)⟩
/-- what two rounds tell of all -/
theorem rounds_two {ds : List Deed} {m G : Nat} (os : okS m ds) (hG : endK m ds = m + G) {R : Nat} (hR : 2 ≤ R) : wrongF (initL m) m (RP R ds) = wrongF (initL m) m (RP 2 ds) := by
  have e : RP R ds = RP 2 ds ++ RP (R - 2) ds := by
    rw [← RP_add, show 2 + (R - 2) = R by omega]
  have okR := fun r => (okS_rounds os hG r 0).1
  simp only [Nat.zero_mul, Nat.add_zero] at okR
  cases q : wrongF (initL m) m (RP 2 ds) with
  | some w => rw [e, wrongF_append q]
  | none =>
    have w2 := (wrong_right (initL_good m) (initL_desc m) (by rw [initL_len]; exact okR 2)).mp q
    rw [initL_len, RP_succ, rightN_append, hG, RP_succ, rightN_append] at w2
    have r0 := w2.1
    have r1 := w2.2.1
    have all : ∀ j, rightN (m + j * G) ds := by
      intro j
      by_cases c : G = 0
      · rw [c, Nat.mul_zero]
        exact r0
      · exact right_all os r0 (Nat.pos_of_ne_zero c) r1 (j * G)
    have := right_rounds os hG all R 0
    rw [Nat.zero_mul, Nat.add_zero] at this
    refine (wrong_right (initL_good m) (initL_desc m) (by rw [initL_len]; exact okR R)).mpr ?_
    rw [initL_len]
    exact this
end Silt
set_option linter.all false
set_option Elab.async false
/-! gain of a round; places told by rounds -/
namespace Silt
def gainB : Deed → Int
  | .fall => 1
  | .bake ns _ _ => 1 - (ns.length : Int)
def gainS (ds : List Deed) : Int := (ds.map gainB).sum
theorem gain_many {L m' : Nat} {x : Deed} (h : manyB L x = some m') : (m' : Int) = (L : Int) + gainB x := by
  cases x with
  | fall =>
    cases h
    show ((L + 1 : Nat) : Int) = (L : Int) + 1
    omega
  | bake ns p k =>
    obtain ⟨c1, c2, rfl⟩ := manyB_bake h
    show ((L + 1 - ns.length : Nat) : Int) = (L : Int) + (1 - (ns.length : Int))
    omega
theorem gain_end : ∀ {ds : List Deed} {L : Nat}, okS L ds → (endK L ds : Int) = (L : Int) + gainS ds
  | [], L, _ => by
    show (L : Int) = (L : Int) + 0
    omega
  | x :: r, L, ⟨ok, m', hm, h⟩ => by
    have ih := gain_end h
    have e := gain_many hm
    show (endK ((manyB L x).getD 0) r : Int) = (L : Int) + ((x :: r).map gainB).sum
    rw [hm]
    show (endK m' r : Int) = _
    rw [ih, List.map_cons, List.sum_cons, e]
    unfold gainS
    omega
/-- the gain told as a number of layers -/
theorem gain_nat {ds : List Deed} {m : Nat} (os : okS m ds) (g : 0 ≤ gainS ds) : ∃ G : Nat, gainS ds = (G : Int) ∧ endK m ds = m + G := by
  have e := gain_end os
  exact ⟨(gainS ds).toNat, by omega, by omega⟩
/-- a place of many rounds: the round, and the place in it -/
theorem RP_at {ds : List Deed} : ∀ {r q i : Nat}, q < r → i < ds.length → (RP r ds)[q * ds.length + i]? = ds[i]?
  | 0, _, _, h, _ => by omega
  | r + 1, 0, i, _, hi => by
    rw [RP_succ, Nat.zero_mul, Nat.zero_add, List.getElem?_append_left hi]
  | r + 1, q + 1, i, h, hi => by
    rw [RP_succ, List.getElem?_append_right (by rw [Nat.succ_mul]; omega), show (q + 1) * ds.length + i - ds.length = q * ds.length + i by rw [Nat.succ_mul]; omega]
    exact RP_at (by omega) hi
/-- what is told of the first that is wrong: rounds done, and deeds of the round -/
def toldR (n : Nat) : Option Nat → Option (Nat × Nat)
  | none => none
  | some w => some ((w - 1) / n, (w - 1) % n + 1)
theorem toldR_at {n q i : Nat} (hi : i < n) : toldR n (some (q * n + i + 1)) = some (q, i + 1) := by
  show some ((q * n + i + 1 - 1) / n, (q * n + i + 1 - 1) % n + 1) = _
  rw [Nat.add_sub_cancel, Nat.mul_comm, Nat.mul_add_div (by omega), Nat.div_eq_of_lt hi, Nat.mul_add_mod, Nat.mod_eq_of_lt hi]
  rfl
end Silt
set_option linter.all false
set_option Elab.async false
/-! how deep a round's bakes reach; rounds needed -/
namespace Silt
def mxL : List Int → Int → Int
  | [], z => z
  | y :: r, z => max y (mxL r z)
theorem mxL_mem : ∀ (l : List Int) (z : Int), mxL l z ∈ l ++ [z]
  | [], z => by simp [mxL]
  | y :: r, z => by
    have ih := mxL_mem r z
    unfold mxL
    by_cases c : mxL r z ≤ y
    · rw [Int.max_eq_left c]
      exact List.mem_cons_self
    · rw [Int.max_eq_right (by omega)]
      exact List.mem_cons_of_mem _ ih
theorem mxL_ge : ∀ (l : List Int) (z : Int), ∀ y ∈ l ++ [z], y ≤ mxL l z
  | [], z => by
    intro y hy
    have hy : y ∈ [z] := hy
    rw [List.mem_singleton.mp hy]
    exact Int.le_refl _
  | x :: r, z => by
    intro y hy
    have ih := mxL_ge r z
    unfold mxL
    rcases List.mem_cons.mp (show y ∈ x :: (r ++ [z]) from hy) with rfl | h
    · omega
    · have := ih y h
      omega
theorem mxL_uniq {l : List Int} {z m : Int} (h1 : m ∈ l ++ [z]) (h2 : ∀ y ∈ l ++ [z], y ≤ m) : m = mxL l z := by
  have a := mxL_ge l z m h1
  have b := h2 _ (mxL_mem l z)
  omega
def reachB (ns : List Nat) (p : Nat) : Int := mxL (ns.map fun (n : Nat) => (n : Int)) ((p : Int) + (ns.length : Int))
/-- found, and how many layers more there are -/
def stepDp (s : Int × Int) (x : Deed) : Int × Int := ((match x with
  | .fall => s.1
  | .bake ns p _ => max s.1 (reachB ns p + 1 - s.2)), s.2 + gainB x)
def deepS (s : Int × Int) (ds : List Deed) : Int × Int := ds.foldl stepDp s
theorem deepS_snoc (s : Int × Int) (ds : List Deed) (x : Deed) : deepS s (ds ++ [x]) = stepDp (deepS s ds) x := by
  unfold deepS
  rw [List.foldl_append]
  rfl
def deepF (ds : List Deed) : Int := (deepS (0, 0) ds).1 + 1
theorem deepS_ge : ∀ {ds : List Deed} {s : Int × Int}, s.1 ≤ (deepS s ds).1
  | [], s => Int.le_refl _
  | x :: r, s => by
    have ih := deepS_ge (ds := r) (s := stepDp s x)
    have : s.1 ≤ (stepDp s x).1 := by
      cases x with
      | fall => exact Int.le_refl _
      | bake ns p k =>
        show s.1 ≤ max s.1 _
        omega
    show s.1 ≤ (deepS (stepDp s x) r).1
    omega
/-- a bake that has its layers reaches no deeper than there are -/
theorem reach_le {L m' p : Nat} {ns : List Nat} {k : Bool} (h : manyB L (.bake ns p k) = some m') : reachB ns p ≤ (L : Int) := by
  obtain ⟨c1, c2, _⟩ := manyB_bake h
  have hm := mxL_mem (ns.map fun (n : Nat) => (n : Int)) ((p : Int) + (ns.length : Int))
  unfold reachB
  rcases List.mem_append.mp hm with z | z
  · obtain ⟨n, hn, e⟩ := List.mem_map.mp z
    have := c1 n hn
    omega
  · rw [List.mem_singleton.mp z]
    omega
theorem deepS_le : ∀ {ds : List Deed} {L : Nat} {s : Int × Int} {m : Int}, okS L ds → (L : Int) = m + s.2 → 0 ≤ m → s.1 ≤ m + 1 → (deepS s ds).1 ≤ m + 1
  | [], _, _, _, _, _, _, h => h
  | x :: r, L, s, m, ⟨ok, m', hm, os⟩, e, h0, h => by
    have e2 := gain_many hm
    refine deepS_le (ds := r) (L := m') (s := stepDp s x) os ?_ h0 ?_
    · show (m' : Int) = m + (s.2 + gainB x)
      omega
    · cases x with
      | fall => exact h
      | bake ns p k =>
        have := reach_le hm
        show max s.1 (reachB ns p + 1 - s.2) ≤ m + 1
        omega
theorem deepF_le {ds : List Deed} {m : Nat} (os : okS m ds) : 1 ≤ deepF ds ∧ deepF ds ≤ (m : Int) + 2 := by
  have h1 := deepS_ge (ds := ds) (s := (0, 0))
  have h2 := deepS_le (s := (0, 0)) (m := (m : Int)) os (by show (m : Int) = (m : Int) + 0; omega) (by omega) (by show (0 : Int) ≤ _; omega)
  have h1 : (0 : Int) ≤ (deepS (0, 0) ds).1 := h1
  unfold deepF
  omega
end Silt
set_option Elab.async false
set_option linter.all false
set_option maxRecDepth 100000
set_option maxHeartbeats 4000000
namespace Sl
open PySem L2 C8 StX
def topS (i : Nat) : Stmt := PySem.Challenge.pw_siltstore_k06_whole_rounds_of_scripts.main.body.getD i (.Pass ⟨0, 0, 0, 0⟩)
abbrev s_Evidence_pieces : Stmt := inClass (topS 1) 1
abbrev N_Evidence_pieces : List Str := ["self"]
abbrev P_Evidence_pieces : List Str := ["self"]
theorem sc_Evidence_pieces : FnScope N_Evidence_pieces P_Evidence_pieces (fnScope s_Evidence_pieces) := fnScope_by (by decide +kernel)
abbrev s_Evidence_eq : Stmt := inClass (topS 1) 2
abbrev N_Evidence_eq : List Str := ["self", "other"]
abbrev P_Evidence_eq : List Str := ["self", "other"]
theorem sc_Evidence_eq : FnScope N_Evidence_eq P_Evidence_eq (fnScope s_Evidence_eq) := fnScope_by (by decide +kernel)
abbrev s_Good_bool : Stmt := inClass (topS 2) 0
abbrev N_Good_bool : List Str := ["self"]
abbrev P_Good_bool : List Str := ["self"]
theorem sc_Good_bool : FnScope N_Good_bool P_Good_bool (fnScope s_Good_bool) := fnScope_by (by decide +kernel)
abbrev s_Bad_bool : Stmt := inClass (topS 3) 0
abbrev N_Bad_bool : List Str := ["self"]
abbrev P_Bad_bool : List Str := ["self"]
theorem sc_Bad_bool : FnScope N_Bad_bool P_Bad_bool (fnScope s_Bad_bool) := fnScope_by (by decide +kernel)
abbrev s_is_whole : Stmt := topS 9
abbrev N_is_whole : List Str := ["thing"]
abbrev P_is_whole : List Str := ["thing"]
theorem sc_is_whole : FnScope N_is_whole P_is_whole (fnScope s_is_whole) := fnScope_by (by decide +kernel)
abbrev s_is_numbers : Stmt := topS 14
abbrev N_is_numbers : List Str := ["thing", "one"]
abbrev P_is_numbers : List Str := ["thing"]
theorem sc_is_numbers : FnScope N_is_numbers P_is_numbers (fnScope s_is_numbers) := fnScope_by (by decide +kernel)
abbrev s_is_deed : Stmt := topS 15
abbrev N_is_deed : List Str := ["thing"]
abbrev P_is_deed : List Str := ["thing"]
theorem sc_is_deed : FnScope N_is_deed P_is_deed (fnScope s_is_deed) := fnScope_by (by decide +kernel)
abbrev s_check_script : Stmt := topS 16
abbrev N_check_script : List Str := ["deeds", "many", "place", "deed"]
abbrev P_check_script : List Str := ["deeds", "many"]
theorem sc_check_script : FnScope N_check_script P_check_script (fnScope s_check_script) := fnScope_by (by decide +kernel)
abbrev s_many_behind : Stmt := topS 17
abbrev N_many_behind : List Str := ["many", "deed", "late"]
abbrev P_many_behind : List Str := ["many", "deed"]
theorem sc_many_behind : FnScope N_many_behind P_many_behind (fnScope s_many_behind) := fnScope_by (by decide +kernel)
abbrev s_behind_deed : Stmt := topS 18
abbrev N_behind_deed : List Str := ["layers", "deed", "day", "told", "number", "rest", "place", "layer"]
abbrev P_behind_deed : List Str := ["layers", "deed", "day"]
theorem sc_behind_deed : FnScope N_behind_deed P_behind_deed (fnScope s_behind_deed) := fnScope_by (by decide +kernel)
abbrev s_falling_pair : Stmt := topS 19
abbrev N_falling_pair : List Str := ["layers", "days", "layer", "day", "one", "other"]
abbrev P_falling_pair : List Str := ["layers"]
theorem sc_falling_pair : FnScope N_falling_pair P_falling_pair (fnScope s_falling_pair) := fnScope_by (by decide +kernel)
abbrev s_loses_marks : Stmt := topS 20
abbrev N_loses_marks : List Str := ["layers", "deed"]
abbrev P_loses_marks : List Str := ["layers", "deed"]
theorem sc_loses_marks : FnScope N_loses_marks P_loses_marks (fnScope s_loses_marks) := fnScope_by (by decide +kernel)
abbrev s_RightRounds_init : Stmt := inClass (topS 21) 1
abbrev N_RightRounds_init : List Str := ["self", "rounds"]
abbrev P_RightRounds_init : List Str := ["self", "rounds"]
theorem sc_RightRounds_init : FnScope N_RightRounds_init P_RightRounds_init (fnScope s_RightRounds_init) := fnScope_by (by decide +kernel)
abbrev s_RightRounds_pieces : Stmt := inClass (topS 21) 2
abbrev N_RightRounds_pieces : List Str := ["self"]
abbrev P_RightRounds_pieces : List Str := ["self"]
theorem sc_RightRounds_pieces : FnScope N_RightRounds_pieces P_RightRounds_pieces (fnScope s_RightRounds_pieces) := fnScope_by (by decide +kernel)
abbrev s_RightRounds_shows : Stmt := inClass (topS 21) 3
abbrev N_RightRounds_shows : List Str := ["self", "deeds", "many"]
abbrev P_RightRounds_shows : List Str := ["self", "deeds", "many"]
theorem sc_RightRounds_shows : FnScope N_RightRounds_shows P_RightRounds_shows (fnScope s_RightRounds_shows) := fnScope_by (by decide +kernel)
abbrev s_WrongRound_init : Stmt := inClass (topS 22) 1
abbrev N_WrongRound_init : List Str := ["self", "rounds", "deeds"]
abbrev P_WrongRound_init : List Str := ["self", "rounds", "deeds"]
theorem sc_WrongRound_init : FnScope N_WrongRound_init P_WrongRound_init (fnScope s_WrongRound_init) := fnScope_by (by decide +kernel)
abbrev s_WrongRound_pieces : Stmt := inClass (topS 22) 2
abbrev N_WrongRound_pieces : List Str := ["self"]
abbrev P_WrongRound_pieces : List Str := ["self"]
theorem sc_WrongRound_pieces : FnScope N_WrongRound_pieces P_WrongRound_pieces (fnScope s_WrongRound_pieces) := fnScope_by (by decide +kernel)
abbrev s_WrongRound_shows : Stmt := inClass (topS 22) 3
abbrev N_WrongRound_shows : List Str := ["self", "deeds", "many"]
abbrev P_WrongRound_shows : List Str := ["self", "deeds", "many"]
theorem sc_WrongRound_shows : FnScope N_WrongRound_shows P_WrongRound_shows (fnScope s_WrongRound_shows) := fnScope_by (by decide +kernel)
abbrev s_gain_of : Stmt := topS 23
abbrev N_gain_of : List Str := ["deeds", "deed"]
abbrev P_gain_of : List Str := ["deeds"]
theorem sc_gain_of : FnScope N_gain_of P_gain_of (fnScope s_gain_of) := fnScope_by (by decide +kernel)
abbrev s_check_round : Stmt := topS 24
abbrev N_check_round : List Str := ["deeds", "many"]
abbrev P_check_round : List Str := ["deeds", "many"]
theorem sc_check_round : FnScope N_check_round P_check_round (fnScope s_check_round) := fnScope_by (by decide +kernel)
abbrev s_deepest : Stmt := topS 25
abbrev N_deepest : List Str := ["deeds", "found", "many", "deed"]
abbrev P_deepest : List Str := ["deeds"]
theorem sc_deepest : FnScope N_deepest P_deepest (fnScope s_deepest) := fnScope_by (by decide +kernel)
abbrev s_rounds_needed : Stmt := topS 26
abbrev N_rounds_needed : List Str := ["deeds", "many", "gain"]
abbrev P_rounds_needed : List Str := ["deeds", "many"]
theorem sc_rounds_needed : FnScope N_rounds_needed P_rounds_needed (fnScope s_rounds_needed) := fnScope_by (by decide +kernel)
abbrev s_wrong_round : Stmt := topS 27
abbrev N_wrong_round : List Str := ["deeds", "many", "layers", "day", "done", "place", "deed"]
abbrev P_wrong_round : List Str := ["deeds", "many"]
theorem sc_wrong_round : FnScope N_wrong_round P_wrong_round (fnScope s_wrong_round) := fnScope_by (by decide +kernel)
abbrev s_judge_rounds : Stmt := topS 28
abbrev N_judge_rounds : List Str := ["deeds", "many", "wrong"]
abbrev P_judge_rounds : List Str := ["deeds", "many"]
theorem sc_judge_rounds : FnScope N_judge_rounds P_judge_rounds (fnScope s_judge_rounds) := fnScope_by (by decide +kernel)
abbrev s__law_draw : Stmt := topS 30
abbrev N__law_draw : List Str := ["_law_script_here", "_law_at", "_law_many", "_law_row", "_law_cell", "_law_turn", "_law_step", "_law_mixed"]
abbrev P__law_draw : List Str := ["_law_script_here", "_law_at", "_law_many"]
theorem sc__law_draw : FnScope N__law_draw P__law_draw (fnScope s__law_draw) := fnScope_by (by decide +kernel)
abbrev s__law_script : Stmt := topS 31
abbrev N__law_script : List Str := ["_law_script_here", "_law_at", "_law_most", "_law_many", "_law_deeds", "_law_turn", "_law_spot", "_law_size", "_law_first", "_law_numbers", "_law_kind", "_law_late", "_law_place", "_law_is_last", "_law_keeps"]
abbrev P__law_script : List Str := ["_law_script_here", "_law_at", "_law_most", "_law_many"]
theorem sc__law_script : FnScope N__law_script P__law_script (fnScope s__law_script) := fnScope_by (by decide +kernel)
abbrev s__law_days : Stmt := topS 32
abbrev N__law_days : List Str := ["_law_deeds", "_law_many", "_law_layers", "_law_day", "_law_found", "_law_deed", "_law_told", "_law_number", "_law_rest", "_law_place", "_law_layer"]
abbrev P__law_days : List Str := ["_law_deeds", "_law_many"]
theorem sc__law_days : FnScope N__law_days P__law_days (fnScope s__law_days) := fnScope_by (by decide +kernel)
abbrev s__law_reads : Stmt := topS 33
abbrev N__law_reads : List Str := ["_law_deeds", "_law_many", "_law_falls", "_law_layers", "_law_day", "_law_found", "_law_deed", "_law_told", "_law_number", "_law_late", "_law_rest", "_law_place", "_law_layer"]
abbrev P__law_reads : List Str := ["_law_deeds", "_law_many", "_law_falls"]
theorem sc__law_reads : FnScope N__law_reads P__law_reads (fnScope s__law_reads) := fnScope_by (by decide +kernel)
abbrev s__law_first_wrong : Stmt := topS 34
abbrev N__law_first_wrong : List Str := ["_law_deeds", "_law_many", "_law_total", "_law_deed", "_law_best", "_law_day", "_law_late", "_law_kind", "_law_falls", "_law_now", "_law_place", "_law_told", "_law_due"]
abbrev P__law_first_wrong : List Str := ["_law_deeds", "_law_many"]
theorem sc__law_first_wrong : FnScope N__law_first_wrong P__law_first_wrong (fnScope s__law_first_wrong) := fnScope_by (by decide +kernel)
abbrev s__law_is_wrong : Stmt := topS 35
abbrev N__law_is_wrong : List Str := ["_law_layers", "_law_deed", "_law_days_here", "_law_layer", "_law_one", "_law_late"]
abbrev P__law_is_wrong : List Str := ["_law_layers", "_law_deed"]
theorem sc__law_is_wrong : FnScope N__law_is_wrong P__law_is_wrong (fnScope s__law_is_wrong) := fnScope_by (by decide +kernel)
abbrev s__law_rounds_wrong : Stmt := topS 36
abbrev N__law_rounds_wrong : List Str := ["_law_deeds", "_law_many", "_law_most", "_law_rows", "_law_size", "_law_place", "_law_layers"]
abbrev P__law_rounds_wrong : List Str := ["_law_deeds", "_law_many", "_law_most"]
theorem sc__law_rounds_wrong : FnScope N__law_rounds_wrong P__law_rounds_wrong (fnScope s__law_rounds_wrong) := fnScope_by (by decide +kernel)
abbrev s_law : Stmt := topS 37
abbrev N_law : List Str := ["_law_script_here", "_law_many", "_law_deeds", "_law_gain", "_law_deed", "error", "_law_found", "_law_due", "_law_need", "_law_ahead", "_law_rounds", "_law_bad"]
abbrev P_law : List Str := ["_law_script_here"]
theorem sc_law : FnScope N_law P_law (fnScope s_law) := fnScope_by (by decide +kernel)
abbrev s_BadScript_init : Stmt := inClass (topS 7) 0
theorem ss_BadScript : SupSt s_BadScript_init ["self", "place", "__class__"] := ⟨NdefX.nscope_by (by decide +kernel), rfl, rfl, ⟨_, rfl, rfl⟩, by decide +kernel, ⟨_, _, _, _, _, _, _, _, _, _, _, _, rfl, fun env => ⟨_, rfl⟩⟩⟩
theorem bd_BadScript : ∀ (kV doc pm : Value) (an : Option Addr) (cc cda : Addr) (ct : Value) (us : List Value), us.length = 2 → bindArgs (PySem.W.fnX "__init__" "BadScript.__init__" (C8.fnArgs s_BadScript_init) (C8.fnBody s_BadScript_init) (C8.fnScope s_BadScript_init) [("__class__", cc)] .none kV doc pm an (.ref cda) ct) ⟨us, []⟩ = pure ((["self", "place"] : List Str).zip us) := fun _ _ _ _ _ _ _ us hl => match us, hl with | [_, _], _ => rfl
def strsOf : List Value → Option (List Str)
  | [] => some []
  | .str x _ :: r => (strsOf r).map (x :: ·)
  | _ => none
def tupS : Option Obj → Option (List Str)
  | some o => match o.cls, o.data with
    | .type s, .seq a _ => if s == "tuple" then strsOf a.toList else none
    | _, _ => none
  | none => none
theorem strsOf_vals : ∀ {us : List Value} {zs : List Str}, strsOf us = some zs → Vals (zs.map V.str) us
  | [], zs, h => by
    cases h
    exact .nil
  | u :: r, zs, h => by
    cases u <;> first | (cases h; done) | skip
    rename_i x t
    show Vals (zs.map V.str) (Value.str x t :: r)
    have h : (strsOf r).map (x :: ·) = some zs := h
    cases e : strsOf r with
    | none => rw [e] at h; cases h
    | some ys =>
      rw [e] at h
      cases h
      exact .cons ⟨t, rfl⟩ (strsOf_vals e)
theorem tupS_sq {K : PySem.W.Frag} {D : Addr} {zs : List Str} (h : tupS (K.lookup D) = some zs) (hl : zs.length ≤ 1000) (H : Hp) : SqT K H D (zs.map V.str) := by
  cases e : K.lookup D with
  | none => rw [e] at h; cases h
  | some o =>
    rw [e] at h
    obtain ⟨c, d, dt, sl⟩ := o
    unfold tupS at h
    cases c <;> first | (cases h; done) | skip
    cases dt <;> first | (cases h; done) | skip
    rename_i s its n
    have h : (if s == "tuple" then strsOf its.toList else none) = some zs := h
    by_cases c : (s == "tuple") = true
    · rw [if_pos c] at h
      have e1 : s = "tuple" := beq_iff_eq.mp c
      subst e1
      have rv := strsOf_vals h
      refine .inr ⟨_, its, n, e, rfl, rfl, ?_, rv⟩
      have hs : its.size = zs.length := by
        have := rv.length
        simpa using this.symm
      rw [hs]
      exact Nat.le_trans hl (by decide)
    · rw [if_neg c] at h
      cases h
/-- what isinstance asks of an own class, without the class itself -/
structure InsF (K : PySem.W.Frag) (C : Addr) : Prop where
  ha : PySem.W.findIn K (.ref C) "__class__" = some (some (.builtin "object.__class__"))
  hn : PySem.W.specialIn K (.builtin "object.__class__") "__get__" = some (some (.builtin "getset_descriptor.__get__"))
  htk : PySem.W.takesIn K (.builtin "object.__class__") = some true
  hm : PySem.W.mroIn K C (.type "object") = some true
theorem kit_self {K : PySem.W.Frag} {C : Addr} : PySem.W.kitOne K (.ref C) (.ref C) = some true := by
  unfold PySem.W.kitOne
  rw [if_pos (by simp)]
structure TX (P : Program) (K : PySem.W.Frag) (mg : Str → Option Value) (C_Evidence C_Good C_Bad C_RightRounds C_WrongRound C_BadScript D_FALL : Addr) : Prop where
  mg_Evidence : mg "Evidence" = some (.ref C_Evidence)
  mg_Good : mg "Good" = some (.ref C_Good)
  mg_Bad : mg "Bad" = some (.ref C_Bad)
  mg_RightRounds : mg "RightRounds" = some (.ref C_RightRounds)
  mg_WrongRound : mg "WrongRound" = some (.ref C_WrongRound)
  mg_BadScript : mg "BadScript" = some (.ref C_BadScript)
  d_is_whole : ∃ f fd, C8.Def K mg "is_whole" s_is_whole f fd ∧ fd.defaults = .none
  d_is_numbers : ∃ f fd, C8.Def K mg "is_numbers" s_is_numbers f fd ∧ fd.defaults = .none
  d_is_deed : ∃ f fd, C8.Def K mg "is_deed" s_is_deed f fd ∧ fd.defaults = .none
  d_check_script : ∃ f fd, C8.Def K mg "check_script" s_check_script f fd ∧ (∃ ds, Vals [] ds ∧ Binds K fd P_check_script ds) ∧ (∃ ds, Vals [.int 0] ds ∧ Binds K fd P_check_script ds)
  d_many_behind : ∃ f fd, C8.Def K mg "many_behind" s_many_behind f fd ∧ fd.defaults = .none
  d_behind_deed : ∃ f fd, C8.Def K mg "behind_deed" s_behind_deed f fd ∧ fd.defaults = .none
  d_falling_pair : ∃ f fd, C8.Def K mg "falling_pair" s_falling_pair f fd ∧ fd.defaults = .none
  d_loses_marks : ∃ f fd, C8.Def K mg "loses_marks" s_loses_marks f fd ∧ fd.defaults = .none
  m_RightRounds_init : ∃ f fd, C8.Fun K "__init__" "RightRounds.__init__" s_RightRounds_init f fd ∧ fd.defaults = .none ∧ Mk K C_RightRounds f
  m_RightRounds_pieces : ∃ f fd, C8.Fun K "pieces" "RightRounds.pieces" s_RightRounds_pieces f fd ∧ fd.defaults = .none ∧ Meth K C_RightRounds "pieces" f ∧ PySem.W.fnIn K f = true
  m_RightRounds_shows : ∃ f fd, C8.Fun K "shows" "RightRounds.shows" s_RightRounds_shows f fd ∧ fd.defaults = .none ∧ Meth K C_RightRounds "shows" f ∧ PySem.W.fnIn K f = true
  m_WrongRound_init : ∃ f fd, C8.Fun K "__init__" "WrongRound.__init__" s_WrongRound_init f fd ∧ fd.defaults = .none ∧ Mk K C_WrongRound f
  m_WrongRound_pieces : ∃ f fd, C8.Fun K "pieces" "WrongRound.pieces" s_WrongRound_pieces f fd ∧ fd.defaults = .none ∧ Meth K C_WrongRound "pieces" f ∧ PySem.W.fnIn K f = true
  m_WrongRound_shows : ∃ f fd, C8.Fun K "shows" "WrongRound.shows" s_WrongRound_shows f fd ∧ fd.defaults = .none ∧ Meth K C_WrongRound "shows" f ∧ PySem.W.fnIn K f = true
  d_gain_of : ∃ f fd, C8.Def K mg "gain_of" s_gain_of f fd ∧ fd.defaults = .none
  d_check_round : ∃ f fd, C8.Def K mg "check_round" s_check_round f fd ∧ fd.defaults = .none
  d_deepest : ∃ f fd, C8.Def K mg "deepest" s_deepest f fd ∧ fd.defaults = .none
  d_rounds_needed : ∃ f fd, C8.Def K mg "rounds_needed" s_rounds_needed f fd ∧ fd.defaults = .none
  d_wrong_round : ∃ f fd, C8.Def K mg "wrong_round" s_wrong_round f fd ∧ fd.defaults = .none
  d_judge_rounds : ∃ f fd, C8.Def K mg "judge_rounds" s_judge_rounds f fd ∧ fd.defaults = .none
  d__law_draw : ∃ f fd, C8.Def K mg "_law_draw" s__law_draw f fd ∧ fd.defaults = .none
  d__law_script : ∃ f fd, C8.Def K mg "_law_script" s__law_script f fd ∧ fd.defaults = .none
  d__law_days : ∃ f fd, C8.Def K mg "_law_days" s__law_days f fd ∧ fd.defaults = .none
  d__law_reads : ∃ f fd, C8.Def K mg "_law_reads" s__law_reads f fd ∧ fd.defaults = .none
  d__law_first_wrong : ∃ f fd, C8.Def K mg "_law_first_wrong" s__law_first_wrong f fd ∧ fd.defaults = .none
  d__law_is_wrong : ∃ f fd, C8.Def K mg "_law_is_wrong" s__law_is_wrong f fd ∧ fd.defaults = .none
  d__law_rounds_wrong : ∃ f fd, C8.Def K mg "_law_rounds_wrong" s__law_rounds_wrong f fd ∧ fd.defaults = .none
  d_law : ∃ f fd, C8.Def K mg "law" s_law f fd ∧ fd.defaults = .none
  m_RightRounds_bool : ∃ f fd, C8.Fun K "__bool__" "Good.__bool__" s_Good_bool f fd ∧ fd.defaults = .none ∧ Meth K C_RightRounds "__bool__" f ∧ PySem.W.fnIn K f = true
  m_RightRounds_eq : ∃ f fd, C8.Fun K "__eq__" "Evidence.__eq__" s_Evidence_eq f fd ∧ fd.defaults = .none ∧ Meth K C_RightRounds "__eq__" f ∧ PySem.W.fnIn K f = true
  ux_RightRounds_Evidence : PySem.W.kitOne K (.ref C_RightRounds) (.ref C_Evidence) = some true
  k_RightRounds_WORD : ∃ u, Con K C_RightRounds "WORD" (.str "rightrounds") u
  m_WrongRound_bool : ∃ f fd, C8.Fun K "__bool__" "Bad.__bool__" s_Bad_bool f fd ∧ fd.defaults = .none ∧ Meth K C_WrongRound "__bool__" f ∧ PySem.W.fnIn K f = true
  m_WrongRound_eq : ∃ f fd, C8.Fun K "__eq__" "Evidence.__eq__" s_Evidence_eq f fd ∧ fd.defaults = .none ∧ Meth K C_WrongRound "__eq__" f ∧ PySem.W.fnIn K f = true
  ux_WrongRound_Evidence : PySem.W.kitOne K (.ref C_WrongRound) (.ref C_Evidence) = some true
  k_WrongRound_WORD : ∃ u, Con K C_WrongRound "WORD" (.str "wronground") u
  cl_RightRounds : Cls K C_RightRounds
  ic_RightRounds : InsF K C_RightRounds
  na_RightRounds_rounds : NoAttr K C_RightRounds "rounds"
  cl_WrongRound : Cls K C_WrongRound
  ic_WrongRound : InsF K C_WrongRound
  na_WrongRound_rounds : NoAttr K C_WrongRound "rounds"
  na_WrongRound_deeds : NoAttr K C_WrongRound "deeds"
  nc_RightRounds_WrongRound : PySem.W.kitOne K (.ref C_RightRounds) (.ref C_WrongRound) = some false
  nc_WrongRound_RightRounds : PySem.W.kitOne K (.ref C_WrongRound) (.ref C_RightRounds) = some false
  ne_RightRounds : PySem.W.findIn K (.ref C_RightRounds) "__ne__" = some (some (.builtin "object.__ne__"))
  nk_RightRounds : ∀ n, PySem.W.subIn K (.type n) (.ref C_RightRounds) = some false → PySem.W.kitOne K (.type n) (.ref C_RightRounds) = some false
  ne_WrongRound : PySem.W.findIn K (.ref C_WrongRound) "__ne__" = some (some (.builtin "object.__ne__"))
  nk_WrongRound : ∀ n, PySem.W.subIn K (.type n) (.ref C_WrongRound) = some false → PySem.W.kitOne K (.type n) (.ref C_WrongRound) = some false
  y_BadScript : XSup P K C_BadScript "BadScript.__init__" s_BadScript_init
  b_super : mg "super" = none
  g_MOST_DEEDS : ∃ u, mg "MOST_DEEDS" = some u ∧ RelV (.int 24) u
  g_MOST_LAYERS : ∃ u, mg "MOST_LAYERS" = some u ∧ RelV (.int 20) u
  mg_D_FALL : mg "FALL" = some (.ref D_FALL)
  e_FALL : tupS (K.lookup D_FALL) = some (["fall"] : List Str)
  b_max : mg "max" = none
  b_min : mg "min" = none
  b_len : mg "len" = none
  b_sum : mg "sum" = none
  b_abs : mg "abs" = none
  b_int : mg "int" = none
  b_bool : mg "bool" = none
  b_isinstance : mg "isinstance" = none
  b_range : mg "range" = none
  b_enumerate : mg "enumerate" = none
  b_list : mg "list" = none
  b_tuple : mg "tuple" = none
  b_sorted : mg "sorted" = none
  b_all : mg "all" = none
  b_any : mg "any" = none
  b_dict : mg "dict" = none
  b_str : mg "str" = none
  b_zip : mg "zip" = none
  b_reversed : mg "reversed" = none
  b_set : mg "set" = none
theorem TX.g_Evidence {P : Program} {K : PySem.W.Frag} {mg : Str → Option Value} {C_Evidence C_Good C_Bad C_RightRounds C_WrongRound C_BadScript D_FALL : Addr} (T : TX P K mg C_Evidence C_Good C_Bad C_RightRounds C_WrongRound C_BadScript D_FALL) : ∃ u, mg "Evidence" = some u ∧ RelV (.ref C_Evidence) u := ⟨_, T.mg_Evidence, rfl⟩
theorem TX.g_Good {P : Program} {K : PySem.W.Frag} {mg : Str → Option Value} {C_Evidence C_Good C_Bad C_RightRounds C_WrongRound C_BadScript D_FALL : Addr} (T : TX P K mg C_Evidence C_Good C_Bad C_RightRounds C_WrongRound C_BadScript D_FALL) : ∃ u, mg "Good" = some u ∧ RelV (.ref C_Good) u := ⟨_, T.mg_Good, rfl⟩
theorem TX.g_Bad {P : Program} {K : PySem.W.Frag} {mg : Str → Option Value} {C_Evidence C_Good C_Bad C_RightRounds C_WrongRound C_BadScript D_FALL : Addr} (T : TX P K mg C_Evidence C_Good C_Bad C_RightRounds C_WrongRound C_BadScript D_FALL) : ∃ u, mg "Bad" = some u ∧ RelV (.ref C_Bad) u := ⟨_, T.mg_Bad, rfl⟩
theorem TX.g_RightRounds {P : Program} {K : PySem.W.Frag} {mg : Str → Option Value} {C_Evidence C_Good C_Bad C_RightRounds C_WrongRound C_BadScript D_FALL : Addr} (T : TX P K mg C_Evidence C_Good C_Bad C_RightRounds C_WrongRound C_BadScript D_FALL) : ∃ u, mg "RightRounds" = some u ∧ RelV (.ref C_RightRounds) u := ⟨_, T.mg_RightRounds, rfl⟩
theorem TX.up_RightRounds_Evidence {P : Program} {K : PySem.W.Frag} {mg : Str → Option Value} {C_Evidence C_Good C_Bad C_RightRounds C_WrongRound C_BadScript D_FALL : Addr} (T : TX P K mg C_Evidence C_Good C_Bad C_RightRounds C_WrongRound C_BadScript D_FALL) : InsB K C_RightRounds C_Evidence := ⟨T.cl_RightRounds, T.ic_RightRounds.ha, T.ic_RightRounds.hn, T.ic_RightRounds.htk, T.ic_RightRounds.hm, T.ux_RightRounds_Evidence⟩
theorem TX.i_RightRounds {P : Program} {K : PySem.W.Frag} {mg : Str → Option Value} {C_Evidence C_Good C_Bad C_RightRounds C_WrongRound C_BadScript D_FALL : Addr} (T : TX P K mg C_Evidence C_Good C_Bad C_RightRounds C_WrongRound C_BadScript D_FALL) : InsC K C_RightRounds := ⟨T.cl_RightRounds, T.ic_RightRounds.ha, T.ic_RightRounds.hn, T.ic_RightRounds.htk, T.ic_RightRounds.hm, kit_self⟩
theorem TX.g_WrongRound {P : Program} {K : PySem.W.Frag} {mg : Str → Option Value} {C_Evidence C_Good C_Bad C_RightRounds C_WrongRound C_BadScript D_FALL : Addr} (T : TX P K mg C_Evidence C_Good C_Bad C_RightRounds C_WrongRound C_BadScript D_FALL) : ∃ u, mg "WrongRound" = some u ∧ RelV (.ref C_WrongRound) u := ⟨_, T.mg_WrongRound, rfl⟩
theorem TX.up_WrongRound_Evidence {P : Program} {K : PySem.W.Frag} {mg : Str → Option Value} {C_Evidence C_Good C_Bad C_RightRounds C_WrongRound C_BadScript D_FALL : Addr} (T : TX P K mg C_Evidence C_Good C_Bad C_RightRounds C_WrongRound C_BadScript D_FALL) : InsB K C_WrongRound C_Evidence := ⟨T.cl_WrongRound, T.ic_WrongRound.ha, T.ic_WrongRound.hn, T.ic_WrongRound.htk, T.ic_WrongRound.hm, T.ux_WrongRound_Evidence⟩
theorem TX.i_WrongRound {P : Program} {K : PySem.W.Frag} {mg : Str → Option Value} {C_Evidence C_Good C_Bad C_RightRounds C_WrongRound C_BadScript D_FALL : Addr} (T : TX P K mg C_Evidence C_Good C_Bad C_RightRounds C_WrongRound C_BadScript D_FALL) : InsC K C_WrongRound := ⟨T.cl_WrongRound, T.ic_WrongRound.ha, T.ic_WrongRound.hn, T.ic_WrongRound.htk, T.ic_WrongRound.hm, kit_self⟩
theorem TX.gt_FALL {P : Program} {K : PySem.W.Frag} {mg : Str → Option Value} {C_Evidence C_Good C_Bad C_RightRounds C_WrongRound C_BadScript D_FALL : Addr} (T : TX P K mg C_Evidence C_Good C_Bad C_RightRounds C_WrongRound C_BadScript D_FALL) : ∃ u, mg "FALL" = some u ∧ RelV (.ref D_FALL) u := ⟨_, T.mg_D_FALL, rfl⟩
end Sl
set_option Elab.async false
set_option linter.all false
set_option maxRecDepth 100000
set_option maxHeartbeats 4000000
namespace Sl
open PySem L2 C8 StX
/-! ### data without lists stands when a list changes -/
mutual
inductive Dn (H : Hp) : V → PyData → Prop
  | non : Dn H .non .none
  | bl (b : Bool) : Dn H (.bl b) (.bool b)
  | int (i : Int) : Dn H (.int i) (.int i)
  | str (x : Str) : Dn H (.str x) (.str x)
  | tup {a : Addr} {xs : List V} {ds : List PyData} : H a = some (.tup xs) → DnAll H xs ds → Dn H (.ref a) (.tuple ds)
inductive DnAll (H : Hp) : List V → List PyData → Prop
  | nil : DnAll H [] []
  | cons {v : V} {vs : List V} {d : PyData} {ds : List PyData} : Dn H v d → DnAll H vs ds → DnAll H (v :: vs) (d :: ds)
end
mutual
/-- it stands where all tuples stand -/
theorem Dn.keep {H H' : Hp} (s : ∀ a xs, H a = some (.tup xs) → H' a = some (.tup xs)) : ∀ {v : V} {d : PyData}, Dn H v d → Dn H' v d
  | _, _, .non => .non
  | _, _, .bl b => .bl b
  | _, _, .int i => .int i
  | _, _, .str x => .str x
  | _, _, .tup e h => .tup (s _ _ e) (DnAll.keep s h)
theorem DnAll.keep {H H' : Hp} (s : ∀ a xs, H a = some (.tup xs) → H' a = some (.tup xs)) : ∀ {vs : List V} {ds : List PyData}, DnAll H vs ds → DnAll H' vs ds
  | _, _, .nil => .nil
  | _, _, .cons h t => .cons (Dn.keep s h) (DnAll.keep s t)
end
mutual
theorem Dn.dt {H : Hp} : ∀ {v : V} {d : PyData}, Dn H v d → Dt H v d
  | _, _, .non => .non
  | _, _, .bl b => .bl b
  | _, _, .int i => .int i
  | _, _, .str x => .str x
  | _, _, .tup e h => .tup e (DnAll.dt h)
theorem DnAll.dt {H : Hp} : ∀ {vs : List V} {ds : List PyData}, DnAll H vs ds → DtAll H vs ds
  | _, _, .nil => .nil
  | _, _, .cons h t => .cons (Dn.dt h) (DnAll.dt t)
end
theorem Dn.mono {H H' : Hp} (s : Same H H') {v : V} {d : PyData} (h : Dn H v d) : Dn H' v d := h.keep fun a xs e => s a _ e
theorem DnAll.mono {H H' : Hp} (s : Same H H') {v : List V} {d : List PyData} (h : DnAll H v d) : DnAll H' v d := h.keep fun a xs e => s a _ e
theorem keep_lst {H : Hp} {t : Addr} {xs ys : List V} (e : H t = some (.lst xs)) : ∀ a zs, H a = some (.tup zs) → upd H t (.lst ys) a = some (.tup zs) := fun a zs ea => by
  rw [upd_ne (fun q => by rw [q, e] at ea; cases ea)]
  exact ea
theorem DnAll.updL {H : Hp} {t : Addr} {xs ys : List V} (e : H t = some (.lst xs)) {vs : List V} {ds : List PyData} (h : DnAll H vs ds) : DnAll (upd H t (.lst ys)) vs ds := h.keep (keep_lst e)
theorem Dn.updL {H : Hp} {t : Addr} {xs ys : List V} (e : H t = some (.lst xs)) {v : V} {d : PyData} (h : Dn H v d) : Dn (upd H t (.lst ys)) v d := h.keep (keep_lst e)
theorem DnAll.append {H : Hp} : ∀ {vs ws : List V} {ds es : List PyData}, DnAll H vs ds → DnAll H ws es → DnAll H (vs ++ ws) (ds ++ es)
  | _, _, _, _, .nil, s => s
  | _, _, _, _, .cons h t, s => .cons h (DnAll.append t s)
theorem DnAll.length {H : Hp} : ∀ {vs : List V} {ds : List PyData}, DnAll H vs ds → vs.length = ds.length
  | _, _, .nil => rfl
  | _, _, .cons _ t => by rw [List.length_cons, List.length_cons, DnAll.length t]
theorem DnAll.intsD {H : Hp} : ∀ (ns : List Int), DnAll H (ns.map V.int) (Sl.intsD ns)
  | [] => .nil
  | n :: ns => .cons (.int n) (DnAll.intsD ns)
def triD (q : Int × Int × Int) : PyData := .tuple [.int q.1, .int q.2.1, .int q.2.2]
def pairD (q : Int × Int) : PyData := .tuple [.int q.1, .int q.2]
theorem Dn.tri {H : Hp} {t : Addr} {a b c : Int} (e : H t = some (.tup [.int a, .int b, .int c])) : Dn H (.ref t) (triD (a, b, c)) := .tup e (.cons (.int _) (.cons (.int _) (.cons (.int _) .nil)))
theorem Dn.pair {H : Hp} {t : Addr} {q : Int × Int} (e : H t = some (.tup [.int q.1, .int q.2])) : Dn H (.ref t) (pairD q) := .tup e (.cons (.int _) (.cons (.int _) .nil))
theorem Dt.tri_inv {H : Hp} {v : V} {q : Int × Int × Int} (h : Dt H v (triD q)) : ∃ t, v = .ref t ∧ H t = some (.tup [.int q.1, .int q.2.1, .int q.2.2]) := by
  unfold triD at h
  cases h with
  | tup e h =>
    cases h with
    | cons h1 h2 =>
      cases h1
      cases h2 with
      | cons h1 h2 =>
        cases h1
        cases h2 with
        | cons h1 h2 =>
          cases h1
          cases h2
          exact ⟨_, rfl, e⟩
/-! ### shapes, equality -/
theorem lay_map {α : Type} {f : α → PyData} (h : ∀ x, (f x).canLay0 = true) : ∀ l : List α, PyData.canLayAll0 (l.map f) = true
  | [] => by simp [PyData.canLayAll0]
  | x :: l => by simp [PyData.canLayAll0, h x, lay_map h l]
theorem depth_map {α : Type} {f : α → PyData} {n : Nat} (h : ∀ x, (f x).depth ≤ n) : ∀ l : List α, PyData.depthAll (l.map f) ≤ n
  | [] => by simp [PyData.depthAll]
  | x :: l => by simp only [List.map_cons, PyData.depthAll]; have := h x; have := depth_map h l; omega
theorem shaped_listMap {α : Type} {f : α → PyData} (h : ∀ x, (f x).canLay0 = true) (hd : ∀ x, (f x).depth ≤ 60) (l : List α) : SeqAt.shaped (.list (l.map f)) = true := by
  have := depth_map hd l
  refine Bool.and_eq_true_iff.mpr ⟨by simp only [PyData.canLay0]; exact lay_map h l, decide_eq_true ?_⟩
  simp only [PyData.depth]
  omega
theorem shaped_tupMap {α : Type} {f : α → PyData} (h : ∀ x, (f x).canLay0 = true) (hd : ∀ x, (f x).depth ≤ 60) (l : List α) : SeqAt.shaped (.tuple (l.map f)) = true := by
  have := depth_map hd l
  refine Bool.and_eq_true_iff.mpr ⟨by simp only [PyData.canLay0]; exact lay_map h l, decide_eq_true ?_⟩
  simp only [PyData.depth]
  omega
theorem shaped_ints (ns : List Int) : SeqAt.shaped (.list (intsD ns)) = true := shaped_listMap (fun _ => by simp [PyData.canLay0]) (fun _ => by simp [PyData.depth]) ns
theorem shaped_tris (l : List (Int × Int × Int)) : SeqAt.shaped (.list (l.map triD)) = true := shaped_listMap (fun _ => by simp [triD, PyData.canLay0, PyData.canLayAll0]) (fun _ => by simp [triD, PyData.depth, PyData.depthAll]) l
theorem shaped_pair (q : Int × Int) : SeqAt.shaped (pairD q) = true := by simp [SeqAt.shaped, pairD, PyData.canLay0, PyData.canLayAll0, PyData.depth, PyData.depthAll]
theorem shaped_pairsT (l : List (Int × Int)) : SeqAt.shaped (.tuple (l.map pairD)) = true := shaped_tupMap (fun _ => by simp [pairD, PyData.canLay0, PyData.canLayAll0]) (fun _ => by simp [pairD, PyData.depth, PyData.depthAll]) l
theorem eqv_self {d : PyData} (h : SeqAt.shaped d = true) : PyData.eqv d d = true := SeqAt.eqv_refl d (SeqAt.canLay_of_shaped h)
theorem eqv_nil (l : List PyData) : PyData.eqv (.list l) (.list []) = decide (l = []) := by
  cases l with
  | nil => simp [PyData.eqv, PyData.eqvAll]
  | cons x l => simp [PyData.eqv, PyData.eqvAll]
/-! ### isinstance against (list, tuple) -/
section
variable {H : Hp} {Q : VK} {K : PySem.W.Frag}
theorem kit_ll : PySem.W.kitAny K (.type "list") [.type "list", .type "tuple"] = some true := kitAny_cons (b := true) (kit_ty (by decide +kernel)) (fun h => nomatch h) (fun _ => rfl)
theorem kit_tt : PySem.W.kitAny K (.type "tuple") [.type "list", .type "tuple"] = some true := kitAny_cons (b := false) (kit_ty (by decide +kernel)) (fun _ => kitAny_cons (b := true) (kit_ty (by decide +kernel)) (fun h => nomatch h) (fun _ => rfl)) (fun h => nomatch h)
theorem rd_isiTL {a u : Addr} {xs : List V} (e : H a = some (.lst xs)) (eu : H u = some (.tup [.ty "list", .ty "tuple"])) (h : Q (.bl true) H) : rIsiT K [.ref a, .ref u] H Q :=
  ⟨_, u, _, _, [.type "list", .type "tuple"], true, rfl, eu, .cons (.ty _) (.cons (.ty _) .nil), .base (.lst e), kit_ll, h⟩
theorem rd_isiTT {a u : Addr} {xs : List V} (e : H a = some (.tup xs)) (eu : H u = some (.tup [.ty "list", .ty "tuple"])) (h : Q (.bl true) H) : rIsiT K [.ref a, .ref u] H Q :=
  ⟨_, u, _, _, [.type "list", .type "tuple"], true, rfl, eu, .cons (.ty _) (.cons (.ty _) .nil), .base (.tup e), kit_tt, h⟩
/-- a conditional expression of two plain values -/
theorem rd_iteV {p : Prop} [Decidable p] {σ : L2.St} {ta tb : TE} {v : V} (h1 : p → ∀ Q' : VK, Q' v H → ta σ H Q') (h2 : ¬ p → ∀ Q' : VK, Q' v H → tb σ H Q') (h : Q v H) : if decide p = true then ta σ H Q else tb σ H Q := by
  by_cases c : p
  · rw [if_pos (decide_eq_true c)]; exact h1 c Q h
  · rw [if_neg (by rw [decide_eq_false c]; exact Bool.false_ne_true)]; exact h2 c Q h
end
end Sl
set_option Elab.async false
set_option linter.all false
set_option maxRecDepth 100000
set_option maxHeartbeats 8000000
set_option exponentiation.threshold 9000
/-! lists or tuples; dicts with keys that are ints -/
namespace Sl
open PySem L2 C8 StX
theorem atI_nat' {α : Type} {xs : List α} {i : Nat} {x : α} (h : xs[i]? = some x) : atI xs (i : Int) = some x := atI_nat h
theorem none_back {H H' : Hp} {a : Addr} (s : Same H H') (h : H' a = none) : H a = none := by
  cases z : H a with
  | none => rfl
  | some o => rw [s _ _ z] at h; cases h
theorem refs_get {rs : List Addr} {j : Nat} {x : V} (hx : (rs.map V.ref)[j]? = some x) : ∃ r, rs[j]? = some r ∧ V.ref r = x := by
  rw [List.getElem?_map] at hx
  cases z : rs[j]? with
  | none => rw [z] at hx; cases hx
  | some r => rw [z] at hx; exact ⟨r, rfl, Option.some.inj hx⟩
def keysL (ls : List (Int × V)) : List Int := ls.map (·.1)
theorem dV_get {ls : List (Int × V)} {i : Nat} {k : Key} {z : V} (h : (dV ls)[i]? = some (k, z)) : ∃ y, ls[i]? = some (y, z) ∧ k = Sum.inl y := by
  unfold dV at h
  rw [List.getElem?_map] at h
  cases q : ls[i]? with
  | none => rw [q] at h; cases h
  | some x => rw [q] at h; cases h; exact ⟨x.1, rfl, rfl⟩
theorem sqT_mono {K : PySem.W.Frag} {H H' : Hp} {a : Addr} {xs : List V} (s : Same H H') (h : SqT K H a xs) : SqT K H' a xs := by
  rcases h with h | h
  · rcases h with h | ⟨o, h⟩
    · exact .inl (.inl (s _ _ h))
    · exact .inl (.inr ⟨o, s _ _ h⟩)
  · exact .inr h
/-- a list or a tuple -/
def SqQ (K : PySem.W.Frag) (H : Hp) (a : Addr) (xs : List V) : Prop := SqL K H a xs ∨ SqT K H a xs
theorem SqQ.mono {K : PySem.W.Frag} {H H' : Hp} {a : Addr} {xs : List V} (s : Same H H') (h : SqQ K H a xs) : SqQ K H' a xs := h.imp (L2.Same.seq s) (sqT_mono s)
theorem dV_nodup {ls : List (Int × V)} (h : (keysL ls).Nodup) : ((dV ls).map (·.1)).Nodup := by
  rw [dV_keys]
  exact List.Pairwise.map _ (fun a b hab z => hab (Sum.inl.inj z)) h
theorem dV_val {ls : List (Int × V)} (h : (keysL ls).Nodup) {k : Int} {v : V} (m : (k, v) ∈ ls) : valV (dV ls) (Sum.inl k) = some v := val_nodup (dV_nodup h) (Sum.inl k, v) (List.mem_map.mpr ⟨(k, v), m, rfl⟩)
theorem dV_no {ls : List (Int × V)} {k : Int} (h : k ∉ keysL ls) : valV (dV ls) (Sum.inl k) = none := by
  induction ls with
  | nil => rfl
  | cons q r ih =>
    show valV ((Sum.inl q.1, q.2) :: dV r) (Sum.inl k) = none
    rw [valV_neg (fun z => h (by rw [← Sum.inl.inj z]; exact List.mem_cons_self))]
    exact ih fun z => h (List.mem_cons_of_mem _ z)
theorem dV_putNew {ls : List (Int × V)} {k : Int} {v : V} (h : k ∉ keysL ls) : putK (dV ls) (Sum.inl k) v = dV (ls ++ [(k, v)]) := by
  rw [putK_new _ (dV_no h)]
  unfold dV
  rw [List.map_append]
  rfl
section
variable {σ : L2.St} {H : Hp} {Q : VK} {K : PySem.W.Frag} {g : TG} {tt : TT} {te : TE} {vs : List Nat}
theorem rd_dgetV {a : Addr} {ls : List (Int × V)} {k : Int} {v : V} (e : Rd H a (.dK (dV ls))) (l : valV (dV ls) (Sum.inl k) = some v) (h : Q v H) : rDGet (.ref a) (.int k) H Q := ⟨a, v, rfl, .inl ⟨_, Sum.inl k, e, rfl, l.symm⟩, h⟩
theorem rd_dcEV {D : Addr} {Nx : Hp → Prop} {ls : List (Int × V)} {k : Int} {v : V} (e : H D = some (.dK (dV ls))) (l : ls.length < 100000) (n : k ∉ keysL ls) (h : ∀ H', H' = upd H D (.dK (dV (ls ++ [(k, v)]))) → H' D = some (.dK (dV (ls ++ [(k, v)]))) → Nx H') : DcE D Nx (.int k) v H :=
  ⟨_, Sum.inl k, rfl, e, by rw [dV_len]; exact Nat.lt_trans l (by decide), by rw [dV_putNew n]; exact h _ rfl upd_same⟩
theorem tyX_Q {a : Addr} {xs : List V} (h : SqQ K H a xs) : ∃ t, (t = .type "list" ∨ t = .type "tuple") ∧ TyX K H (.ref a) t := by
  rcases h with (h | ⟨o, its, n, h1, h2, _⟩) | (h | ⟨o, its, n, h1, h2, _⟩)
  · rcases h with h | ⟨o, h⟩
    · exact ⟨_, .inl rfl, .base (.lst h)⟩
    · exact ⟨_, .inl rfl, .base (.frz h)⟩
  · exact ⟨_, .inl rfl, .kList h1 h2⟩
  · rcases h with h | ⟨o, h⟩
    · exact ⟨_, .inr rfl, .base (.tup h)⟩
    · exact ⟨_, .inr rfl, .fTuple h⟩
  · exact ⟨_, .inr rfl, .kTuple h1 h2⟩
def rGFld (K : PySem.W.Frag) (f : Str) (v : V) (QS : L2.St → Hp → Prop) (σ : L2.St) (x : V) (H1 : Hp) : Prop := ∃ a C dx fs, x = .ref a ∧ H1 a = some (.ins C dx fs) ∧ Cls K C ∧ NoAttr K C f ∧ fs.length < 1000 ∧ QS σ (upd H1 a (.ins C dx (putF f v fs)))
theorem rd_gfld0 {to : TE} {f : Str} {v : V} {QS : L2.St → Hp → Prop} (h : to σ H fun x H1 => rGFld K f v QS σ x H1) : gFld K to f v σ H QS := h
theorem rd_gfld {f : Str} {v : V} {QS : L2.St → Hp → Prop} {a C dx : Addr} {fs : List (Str × V)} (e : H a = some (.ins C dx fs)) (c : Cls K C) (n : NoAttr K C f) (l : fs.length < 1000) (h : ∀ H', H' = upd H a (.ins C dx (putF f v fs)) → H' a = some (.ins C dx (putF f v fs)) → QS σ H') : rGFld K f v QS σ (.ref a) H :=
  ⟨a, C, dx, fs, rfl, e, c, n, l, h _ rfl upd_same⟩
/-- an instance's attribute is put: lists and tuples stand -/
theorem SqQ.updI {a b C dx : Addr} {fs : List (Str × V)} {xs : List V} {o : HO} (e : H a = some (.ins C dx fs)) (h : SqQ K H b xs) : SqQ K (upd H a o) b xs := by
  have ne : ∀ u, H b = some u → (∀ C dx fs, u ≠ .ins C dx fs) → upd H a o b = some u := fun u hu n => by
    rw [upd_ne (fun z => by rw [z, e] at hu; cases hu; exact n _ _ _ rfl)]
    exact hu
  rcases h with (h | h) | (h | h)
  · rcases h with h | ⟨o, h⟩
    · exact .inl (.inl (.inl (ne _ h (fun _ _ _ z => by cases z))))
    · exact .inl (.inl (.inr ⟨o, ne _ h (fun _ _ _ z => by cases z)⟩))
  · exact .inl (.inr h)
  · rcases h with h | ⟨o, h⟩
    · exact .inr (.inl (.inl (ne _ h (fun _ _ _ z => by cases z))))
    · exact .inr (.inl (.inr ⟨o, ne _ h (fun _ _ _ z => by cases z)⟩))
  · exact .inr (.inr h)
theorem rd_isiTQ {a u : Addr} {xs : List V} (e : SqQ K H a xs) (eu : H u = some (.tup [.ty "list", .ty "tuple"])) (h : Q (.bl true) H) : rIsiT K [.ref a, .ref u] H Q := by
  obtain ⟨t, rfl | rfl, ht⟩ := tyX_Q e
  · exact ⟨_, u, _, _, [.type "list", .type "tuple"], true, rfl, eu, .cons (.ty _) (.cons (.ty _) .nil), ht, kit_ll, h⟩
  · exact ⟨_, u, _, _, [.type "list", .type "tuple"], true, rfl, eu, .cons (.ty _) (.cons (.ty _) .nil), ht, kit_tt, h⟩
def JQ (K : PySem.W.Frag) (H : Hp) (a : Addr) (xs : List V) (J : It) : Prop := (J = Itl K a ∧ SqL K H a xs) ∨ (J = Itt K a ∧ SqT K H a xs)
theorem altQ {n : Nat} {a : Addr} {xs : List V} {R : It → Hp → Prop} (hn : σ[n]? = some (some (.ref a))) (sM : SqQ K H a xs) (h : ∀ J, JQ K H a xs J → R J H) : iList K (tVar n) σ H R ∨ iTup K (tVar n) σ H R :=
  sM.elim (fun z => .inl ⟨_, hn, a, rfl, ⟨xs, z⟩, h _ (.inl ⟨rfl, z⟩)⟩) fun z => .inr ⟨_, hn, a, rfl, ⟨xs, z⟩, h _ (.inr ⟨rfl, z⟩)⟩
theorem lcR_Q {a : Addr} {xs : List V} {J : It} (hJ : JQ K H a xs J) (Pv : Addr → Nat → Hp → Prop) (hP : ∀ D i H', H D = none → Pv D i H' → Same H H') (h0 : ∀ D H', H D = none → Same H H' → H' D = some (.lst []) → H' = upd H D (.lst []) → Pv D 0 H')
    (hs : ∀ D i x H', H D = none → xs[i]? = some x → Pv D i H' → g x (wipe σ vs) H' fun σ2 H2 => wipe σ2 vs = wipe σ vs ∧ tt σ2 H2 fun b H3 => if b = true then te σ2 H3 fun y H4 => LcE D (Pv D (i + 1)) y H4 else Pv D (i + 1) H3)
    (hd : ∀ D H', H D = none → Pv D xs.length H' → Q (.ref D) H') : LcR J g tt te vs σ H Q := by
  rcases hJ with ⟨rfl, h⟩ | ⟨rfl, h⟩
  · exact lcR_lst Pv (fun D i H' hD p => L2.Same.seq (hP D i H' hD p) h) h0 hs hd
  · exact lcR_tup Pv (fun D i H' hD p => sqT_mono (hP D i H' hD p) h) h0 hs hd
theorem all_true {D : Addr} {n : Nat} (e : H D = some (.lst ((List.replicate n true).map V.bl))) (h : Q (.bl true) H) : rAll K [.ref D] H Q := by
  refine ⟨D, List.replicate n true, rfl, SqL.of e, ?_⟩
  rw [show (List.replicate n true).all id = true from by simp]
  exact h
end
/-! walks over a list or a tuple, with places or without -/
section
variable {σ : L2.St} {H : Hp} {Q : VK} {K : PySem.W.Frag} {g : TG} {tb : TS} {tt : TT} {te : TE} {vs : List Nat} {nx bk ct : L2.St → Hp → Prop} {rt : VK}
theorem forR_Q {a : Addr} {xs : List V} {J : It} {H0 : Hp} (hJ : JQ K H0 a xs J) (Pv : Nat → L2.St → Hp → Prop) (hP : ∀ i σ H, Pv i σ H → Same H0 H) (h0 : Pv 0 σ H)
    (hs : ∀ i x σ H, xs[i]? = some x → Pv i σ H → g x σ H fun σ2 H2 => tb ⟨Pv (i + 1), rt, nx, Pv (i + 1)⟩ σ2 H2) (hd : ∀ σ H, Pv xs.length σ H → nx σ H) : ForR J g tb ⟨nx, rt, bk, ct⟩ σ H := by
  rcases hJ with ⟨rfl, h⟩ | ⟨rfl, h⟩
  · exact forR_lst Pv (fun i σ H p => L2.Same.seq (hP i σ H p) h) h0 hs hd
  · exact forR_tup Pv (fun i σ H p => sqT_mono (hP i σ H p) h) h0 hs hd
def JE (K : PySem.W.Frag) (H : Hp) (a : Addr) (xs : List V) (J : It) : Prop := (J = Ite K a ∧ SqL K H a xs) ∨ (J = IteT K a ∧ SqT K H a xs)
theorem altE {n : Nat} {a : Addr} {xs : List V} {R : It → Hp → Prop} (hn : σ[n]? = some (some (.ref a))) (sM : SqQ K H a xs) (h : ∀ J, JE K H a xs J → R J H) : iEnum K (tCons (tVar n) tNil) σ H R ∨ iEnumT K (tCons (tVar n) tNil) σ H R :=
  sM.elim (fun z => .inl ⟨_, hn, a, xs, rfl, z, h _ (.inl ⟨rfl, z⟩)⟩) fun z => .inr ⟨_, hn, a, xs, rfl, z, h _ (.inr ⟨rfl, z⟩)⟩
theorem forR_E {a : Addr} {xs : List V} {J : It} {H0 : Hp} (hJ : JE K H0 a xs J) (Pv : Nat → L2.St → Hp → Prop) (hP : ∀ i σ H, Pv i σ H → Same H0 H) (h0 : Pv 0 σ H)
    (hs : ∀ (i : Nat) x σ H t H', xs[i]? = some x → Pv i σ H → H t = none → Same H H' → H' t = some (.tup [.int (i : Nat), x]) → g (.ref t) σ H' fun σ2 H2 => tb ⟨Pv (i + 1), rt, nx, Pv (i + 1)⟩ σ2 H2) (hd : ∀ σ H, Pv xs.length σ H → nx σ H) : ForR J g tb ⟨nx, rt, bk, ct⟩ σ H := by
  rcases hJ with ⟨rfl, h⟩ | ⟨rfl, h⟩
  · exact forR_enum Pv (fun i σ H p => L2.Same.seq (hP i σ H p) h) h0 (fun i x σ H t H' e1 e2 e3 e4 e5 _ => hs i x σ H t H' e1 e2 e3 e4 e5) hd
  · exact forR_enumT Pv (fun i σ H p => sqT_mono (hP i σ H p) h) h0 (fun i x σ H t H' e1 e2 e3 e4 e5 _ => hs i x σ H t H' e1 e2 e3 e4 e5) hd
end
/-! comprehensions with two for -/
section
variable {σ : L2.St} {H H4 : Hp} {Q : VK} {K : PySem.W.Frag} {g g1 : TG} {wi wi1 : TI} {tt tt1 : TT} {te : TE} {vs vs1 : List Nat}
def Lc2I (J1 : It) (g1 : TG) (tt1 : TT) (te : TE) (vs1 : List Nat) (D : Addr) (Nx : Hp → Prop) (σ2 : L2.St) (H4 : Hp) : Prop := ∃ W1 : Nat → Nat → Hp → Prop, (∃ m, W1 0 m H4) ∧ ∀ j k H, W1 j k H → (J1.stop j H ∧ Nx H) ∨ (J1.go j H ∧ ∃ Nx1 : Hp → Prop, (∀ H', Nx1 H' → ∃ k', k' < k ∧ W1 (j + 1) k' H') ∧
  ∀ x H', J1.yld j H x H' → g1 x (wipe σ2 vs1) H' fun σ3 H5 => wipe σ3 vs1 = wipe σ2 vs1 ∧ tt1 σ3 H5 fun b H6 => if b = true then te σ3 H6 fun y H7 => LcE D Nx1 y H7 else Nx1 H6)
def Lc2R (J : It) (g : TG) (tt : TT) (wi1 : TI) (g1 : TG) (tt1 : TT) (te : TE) (vs vs1 : List Nat) (σ : L2.St) (H1 : Hp) (Q : VK) : Prop := ∀ D, H1 D = none → ∃ W : Nat → Nat → Hp → Prop, (∃ m, W 0 m (upd H1 D (.lst []))) ∧ ∀ i m H, W i m H →
  (J.stop i H ∧ Q (.ref D) H) ∨ (J.go i H ∧ ∃ Nx : Hp → Prop, (∀ H', Nx H' → ∃ m', m' < m ∧ W (i + 1) m' H') ∧ ∀ x H', J.yld i H x H' → g x (wipe σ vs) H' fun σ2 H2 => wipe σ2 vs = wipe σ vs ∧ tt σ2 H2 fun b H3 => if b = true then wi1 σ2 H3 fun J1 H4 => Lc2I J1 g1 tt1 te vs1 D Nx σ2 H4 else Nx H3)
theorem rd_lc2 (h : wi σ H fun J H1 => Lc2R J g tt wi1 g1 tt1 te vs vs1 σ H1 Q) : tLc2 wi g tt wi1 g1 tt1 te vs vs1 σ H Q := h
theorem lc2R_gen (J : It) (n : Nat) (Pv : Addr → Nat → Hp → Prop) (h0 : ∀ D H', H D = none → Same H H' → H' D = some (.lst []) → H' = upd H D (.lst []) → Pv D 0 H') (hg : ∀ D i H', H D = none → i < n → Pv D i H' → J.go i H') (he : ∀ D H', H D = none → Pv D n H' → J.stop n H')
    (hs : ∀ D i H' x H2, H D = none → i < n → Pv D i H' → J.yld i H' x H2 → g x (wipe σ vs) H2 fun σ2 H2 => wipe σ2 vs = wipe σ vs ∧ tt σ2 H2 fun b H3 => if b = true then wi1 σ2 H3 fun J1 H4 => Lc2I J1 g1 tt1 te vs1 D (Pv D (i + 1)) σ2 H4 else Pv D (i + 1) H3)
    (hd : ∀ D H', H D = none → Pv D n H' → Q (.ref D) H') : Lc2R J g tt wi1 g1 tt1 te vs vs1 σ H Q := by
  intro D hD
  refine ⟨fun i m H => m = n - i ∧ i ≤ n ∧ Pv D i H, ⟨n, by simp, Nat.zero_le _, h0 D _ hD (Same.new (Same.refl H) hD) upd_same rfl⟩, ?_⟩
  rintro i m H' ⟨rfl, hi, p⟩
  by_cases hlt : i < n
  · exact .inr ⟨hg D i H' hD hlt p, Pv D (i + 1), fun H2 p' => ⟨n - (i + 1), by omega, rfl, hlt, p'⟩, fun x H2 y => hs D i H' x H2 hD hlt p y⟩
  · obtain rfl : i = n := by omega
    exact .inl ⟨he D H' hD p, hd D H' hD p⟩
theorem lc2R_lst {a : Addr} {xs : List V} (Pv : Addr → Nat → Hp → Prop) (hl : ∀ D i H', H D = none → Pv D i H' → SqL K H' a xs) (h0 : ∀ D H', H D = none → Same H H' → H' D = some (.lst []) → H' = upd H D (.lst []) → Pv D 0 H')
    (hs : ∀ D i x H', H D = none → xs[i]? = some x → Pv D i H' → g x (wipe σ vs) H' fun σ2 H2 => wipe σ2 vs = wipe σ vs ∧ tt σ2 H2 fun b H3 => if b = true then wi1 σ2 H3 fun J1 H4 => Lc2I J1 g1 tt1 te vs1 D (Pv D (i + 1)) σ2 H4 else Pv D (i + 1) H3)
    (hd : ∀ D H', H D = none → Pv D xs.length H' → Q (.ref D) H') : Lc2R (Itl K a) g tt wi1 g1 tt1 te vs vs1 σ H Q :=
  lc2R_gen _ xs.length Pv h0 (fun D i H' hD h p => ⟨xs, xs[i], hl D i H' hD p, by simp [h]⟩) (fun D H' hD p => ⟨xs, hl D _ H' hD p, Nat.le_refl _⟩)
    (fun D i H' x H2 hD hi p ⟨e1, e2⟩ => by subst e1; exact hs D i x _ hD (e2 xs (hl D i _ hD p)) p) hd
theorem lc2I_gen (J : It) (n : Nat) {D : Addr} {Nx : Hp → Prop} (Pv : Nat → Hp → Prop) (h0 : Pv 0 H4) (hg : ∀ i H', i < n → Pv i H' → J.go i H') (he : ∀ H', Pv n H' → J.stop n H')
    (hs : ∀ i H' x H2, i < n → Pv i H' → J.yld i H' x H2 → g1 x (wipe σ vs1) H2 fun σ3 H5 => wipe σ3 vs1 = wipe σ vs1 ∧ tt1 σ3 H5 fun b H6 => if b = true then te σ3 H6 fun y H7 => LcE D (Pv (i + 1)) y H7 else Pv (i + 1) H6)
    (hd : ∀ H', Pv n H' → Nx H') : Lc2I J g1 tt1 te vs1 D Nx σ H4 := by
  refine ⟨fun i m H => m = n - i ∧ i ≤ n ∧ Pv i H, ⟨n, by simp, Nat.zero_le _, h0⟩, ?_⟩
  rintro i m H' ⟨rfl, hi, p⟩
  by_cases hlt : i < n
  · exact .inr ⟨hg i H' hlt p, Pv (i + 1), fun H2 p' => ⟨n - (i + 1), by omega, rfl, hlt, p'⟩, fun x H2 y => hs i H' x H2 hlt p y⟩
  · obtain rfl : i = n := by omega
    exact .inl ⟨he H' p, hd H' p⟩
theorem lc2I_tup {a : Addr} {xs : List V} {D : Addr} {Nx : Hp → Prop} (Pv : Nat → Hp → Prop) (hl : ∀ i H', Pv i H' → SqT K H' a xs) (h0 : Pv 0 H4)
    (hs : ∀ i x H', xs[i]? = some x → Pv i H' → g1 x (wipe σ vs1) H' fun σ3 H5 => wipe σ3 vs1 = wipe σ vs1 ∧ tt1 σ3 H5 fun b H6 => if b = true then te σ3 H6 fun y H7 => LcE D (Pv (i + 1)) y H7 else Pv (i + 1) H6)
    (hd : ∀ H', Pv xs.length H' → Nx H') : Lc2I (Itt K a) g1 tt1 te vs1 D Nx σ H4 :=
  lc2I_gen _ xs.length Pv h0 (fun i H' h p => ⟨xs, xs[i], hl i H' p, by simp [h]⟩) (fun H' p => ⟨xs, hl _ H' p, Nat.le_refl _⟩)
    (fun i H' x H2 hi p ⟨e1, e2⟩ => by subst e1; exact hs i x _ (e2 xs (hl i _ p)) p) hd
end
theorem cutN_take {xs : List V} {m : Nat} : cutV xs none (some (m : Int)) = xs.take m := by
  unfold cutV
  have e1 : HT.sIx xs.length 0 none = 0 := rfl
  have e2 : HT.sIx xs.length xs.length (some (m : Int)) = min m xs.length := by
    show (if (m : Int) < 0 then ((m : Int) + xs.length).toNat else min (m : Int).toNat xs.length) = _
    rw [if_neg (by omega)]
    simp
  rw [e1, e2, List.drop_zero, Nat.sub_zero]
  by_cases c : m ≤ xs.length
  · rw [Nat.min_eq_left c]
  · rw [Nat.min_eq_right (by omega), List.take_length, List.take_of_length_le (by omega)]
theorem cutN_drop {xs : List V} {m : Nat} : cutV xs (some (m : Int)) none = xs.drop m := by
  unfold cutV
  have e1 : HT.sIx xs.length xs.length none = xs.length := rfl
  have e2 : HT.sIx xs.length 0 (some (m : Int)) = min m xs.length := by
    show (if (m : Int) < 0 then ((m : Int) + xs.length).toNat else min (m : Int).toNat xs.length) = _
    rw [if_neg (by omega)]
    simp
  rw [e1, e2]
  by_cases c : m ≤ xs.length
  · rw [Nat.min_eq_left c, List.take_of_length_le (by rw [List.length_drop]; exact Nat.le_refl _)]
  · rw [Nat.min_eq_right (by omega), List.drop_of_length_le (Nat.le_refl _), List.drop_of_length_le (by omega)]
    simp
/-! zip of two lists -/
section
variable {σ : L2.St} {H : Hp} {Q : VK} {K : PySem.W.Frag} {g : TG} {tb : TS} {tt : TT} {te : TE} {ta : TA} {R : It → Hp → Prop} {vs : List Nat} {nx bk ct : L2.St → Hp → Prop} {rt : VK}
def zpR (K : PySem.W.Frag) (R : It → Hp → Prop) (vs : List V) (H1 : Hp) : Prop := ∃ a b xs ys, vs = [.ref a, .ref b] ∧ SqL K H1 a xs ∧ SqL K H1 b ys ∧ R (Itz K a b) H1
theorem rd_iZip (h : ta σ H fun vs H1 => zpR K R vs H1) : iZip K ta σ H R := h
theorem rd_zpR {a b : Addr} {xs ys : List V} (e1 : SqL K H a xs) (e2 : SqL K H b ys) (h : R (Itz K a b) H) : zpR K R [.ref a, .ref b] H := ⟨a, b, xs, ys, rfl, e1, e2, h⟩
theorem forR_zip {a b : Addr} {xs ys : List V} (n : Nat) (hn : n = min xs.length ys.length) (Pv : Nat → L2.St → Hp → Prop) (hl : ∀ i σ H, Pv i σ H → SqL K H a xs ∧ SqL K H b ys) (h0 : Pv 0 σ H)
    (hs : ∀ (i : Nat) x y σ H t H', i < n → xs[i]? = some x → ys[i]? = some y → Pv i σ H → H t = none → Same H H' → H' t = some (.tup [x, y]) → g (.ref t) σ H' fun σ2 H2 => tb ⟨Pv (i + 1), rt, nx, Pv (i + 1)⟩ σ2 H2) (hd : ∀ σ H, Pv n σ H → nx σ H) :
    ForR (Itz K a b) g tb ⟨nx, rt, bk, ct⟩ σ H :=
  forR_gen _ n Pv h0 (fun i σ H h p => ⟨xs, ys, xs[i]'(by omega), ys[i]'(by omega), (hl i σ H p).1, (hl i σ H p).2, by simp, by simp⟩) (fun σ H p => ⟨xs, ys, (hl _ σ H p).1, (hl _ σ H p).2, by omega⟩)
    (fun i σ H x H' hi p ⟨t, x1, y1, e1, e2, e3, e4, e5⟩ => by subst e1; subst e3; exact hs i x1 y1 σ H t _ hi (e4 xs (hl i σ _ p).1) (e5 ys (hl i σ _ p).2) p e2 (Same.new (Same.refl H) e2) upd_same) hd
end
section
variable {σ : L2.St} {H H0 : Hp} {K : PySem.W.Frag}
theorem altQs {n : Nat} {a : Addr} {xs : List V} {R : It → Hp → Prop} (hn : σ[n]? = some (some (.ref a))) (sM : SqQ K H0 a xs) (s : Same H0 H) (h : ∀ J, JQ K H0 a xs J → R J H) : iList K (tVar n) σ H R ∨ iTup K (tVar n) σ H R :=
  sM.elim (fun z => .inl ⟨_, hn, a, rfl, ⟨xs, L2.Same.seq s z⟩, h _ (.inl ⟨rfl, z⟩)⟩) fun z => .inr ⟨_, hn, a, rfl, ⟨xs, sqT_mono s z⟩, h _ (.inr ⟨rfl, z⟩)⟩
theorem altEs {n : Nat} {a : Addr} {xs : List V} {R : It → Hp → Prop} (hn : σ[n]? = some (some (.ref a))) (sM : SqQ K H0 a xs) (s : Same H0 H) (h : ∀ J, JE K H0 a xs J → R J H) : iEnum K (tCons (tVar n) tNil) σ H R ∨ iEnumT K (tCons (tVar n) tNil) σ H R :=
  sM.elim (fun z => .inl ⟨_, hn, a, xs, rfl, L2.Same.seq s z, h _ (.inl ⟨rfl, z⟩)⟩) fun z => .inr ⟨_, hn, a, xs, rfl, sqT_mono s z, h _ (.inr ⟨rfl, z⟩)⟩
end
section
variable {σ : L2.St} {H : Hp} {Q : VK} {g : TG} {tt : TT} {te : TE} {vs : List Nat}
theorem lcR_rngC {lo c : Int} {n : Nat} (Pv : Addr → Nat → Hp → Prop) (h0 : ∀ D H', H D = none → Same H H' → H' D = some (.lst []) → H' = upd H D (.lst []) → Pv D 0 H')
    (hs : ∀ D (i : Nat) H', H D = none → i < n → Pv D i H' → g (.int (lo + (i : Nat) * c)) (wipe σ vs) H' fun σ2 H2 => wipe σ2 vs = wipe σ vs ∧ tt σ2 H2 fun b H3 => if b = true then te σ2 H3 fun y H4 => LcE D (Pv D (i + 1)) y H4 else Pv D (i + 1) H3)
    (hd : ∀ D H', H D = none → Pv D n H' → Q (.ref D) H') : LcR (Itc lo c n) g tt te vs σ H Q :=
  lcR_gen _ n Pv h0 (fun D i H' hD h p => h) (fun D H' hD p => Nat.le_refl _) (fun D i H' x H2 hD hi p ⟨e1, e2⟩ => by subst e1; subst e2; exact hs D i _ hD hi p) hd
end
theorem slK {X : Cx} (R : PySem.W.Frag → V → Option Int → Option Int → Hp → VK → Prop) (K : PySem.W.Frag) (h : SlR X (R X.K)) (e : X.K = K := by rfl) : SlR X (R K) := e ▸ h
theorem pe_tupRevK {X : Cx} {e : Expr} {te : TE} (K : PySem.W.Frag) (h : PE X e (RT.tTupRev X.K te)) (eK : X.K = K := by rfl) : PE X e (RT.tTupRev K te) := eK ▸ h
end Sl

set_option Elab.async false
set_option linter.all false
set_option maxRecDepth 100000
set_option maxHeartbeats 8000000
set_option exponentiation.threshold 9000
namespace Sl
open PySem L2 C8 StX Silt
local macro_rules | `(tactic| walk_at "side") => `(tactic| first
  | exact cdivw (by omega) (by omega)
  | exact cmulw (by omega) (by omega) (by omega) (by omega)
  | exact Or.inr ⟨by omega, by omega⟩
  | exact Or.inl ⟨by omega, by omega⟩
  | omega
  | exact ⟨by omega, by omega, by decide⟩
  | decide)
local macro_rules | `(tactic| walk_at "rd1") => `(tactic| first
  | with_reducible refine rd_seq ?_
  | with_reducible refine rd_asg ?_
  | with_reducible refine rd_drop ?_
  | with_reducible refine rd_ret ?_
  | with_reducible refine rd_retN ?_
  | with_reducible refine rd_ifS ?_
  | ((with_reducible refine rd_var0 ?_); refine ⟨_, rfl, ?_⟩)
  | with_reducible refine rd_c ?_
  | with_reducible refine rd_op ?_
  | with_reducible refine rd_un ?_
  | with_reducible refine rd_I0 ?_
  | with_reducible refine rd_U ?_
  | ((with_reducible refine rd_I ?c ?_); (case c => walk_at "side"))
  | with_reducible refine rd_ipI ?_
  | with_reducible refine rd_eqI ?_
  | with_reducible refine rd_neI ?_
  | with_reducible refine rd_test ?_
  | with_reducible refine rd_tB ?_
  | with_reducible refine rd_bl ?_
  | with_reducible refine rd_not ?_
  | with_reducible refine rd_and ?_
  | with_reducible refine rd_or ?_
  | with_reducible refine rd_andV ?_
  | with_reducible refine rd_orV ?_
  | with_reducible refine rd_notV ?_
  | with_reducible refine rd_ifE ?_
  | with_reducible refine rd_chain ?_
  | with_reducible refine rd_chain3 ?_
  | with_reducible refine rd_nil ?_
  | with_reducible refine rd_cons ?_
  | with_reducible refine rd_call ?_
  | with_reducible refine rd_CB ?_
  | with_reducible refine rd_par ?_
  | with_reducible refine rd_par2 ?_
  | with_reducible refine rd_par3 ?_
  | with_reducible refine rd_par4 ?_
  | ((with_reducible refine rd_aug0 ?_); refine ⟨_, rfl, ?_⟩)
  | with_reducible refine rd_gname ?_
  | with_reducible refine rd_gcons ?_
  | with_reducible refine rd_gnil ?_
  | with_reducible refine rd_max ?_
  | with_reducible refine rd_min ?_
  | with_reducible refine rd_int1 ?_
  | with_reducible refine rd_abs ?_
  | with_reducible refine rd_lst ?_
  | with_reducible refine rd_tup ?_
  | with_reducible refine rd_bm ?_
  | with_reducible refine rd_fld0 ?_
  | with_reducible refine rd_sl0 ?_
  | with_reducible refine rd_noP ?_
  | with_reducible refine rd_part ?_
  | with_reducible refine rd_part2 ?_
  | with_reducible refine rd_meth0 ?_
  | with_reducible refine rd_star ?_
  | with_reducible refine rd_for ?_
  | with_reducible refine rd_rng1 ?_
  | with_reducible refine rd_rng2 ?_
  | with_reducible refine rd_rng3 ?_
  | with_reducible refine rd_iList ?_
  | with_reducible refine rd_iTup ?_
  | with_reducible refine rd_iEnum ?_
  | with_reducible refine rd_lc ?_
  | with_reducible refine rd_yes ?_
  | with_reducible refine rd_augS ?_
  | with_reducible refine rd_drawNew ?_
  | with_reducible refine rd_make0 ?_
  | with_reducible refine rd_next ?_
  | with_reducible refine rd_break ?_
  | with_reducible refine rd_cont ?_
  | with_reducible refine rd_iteTT ?_
  | with_reducible refine rd_iteFF ?_
  | with_reducible refine rd_iteNTT ?_
  | with_reducible refine rd_iteNFF ?_
  | with_reducible refine rd_con0 ?_
  | with_reducible refine rd_truO0 ?_
  | with_reducible refine rd_gfld0 ?_
  | with_reducible refine rd_dc ?_
  | with_reducible refine rd_iKeys ?_
  | with_reducible refine rd_dget0 ?_
  | with_reducible refine rd_dput0 ?_
  | with_reducible refine rd_dnot0 ?_
  | with_reducible refine rd_iEnumT ?_
  | with_reducible refine rd_raP0 ?_
  | with_reducible refine rd_xf0 ?_
  | with_reducible refine rd_cKw ?_
  | with_reducible refine rd_iStr ?_
  | with_reducible refine rd_gSub ?_
  | with_reducible refine rd_asgG ?_)
local macro_rules | `(tactic| walk_at "rd") => `(tactic| repeat walk_at "rd1")
local macro_rules | `(tactic| walk_at "len") => `(tactic| first
  | (intro vs H Q E h; obtain ⟨h2, _⟩ := h; rw [h2]; rfl)
  | (intro vs H Q E h; obtain ⟨_, h2, _⟩ := h; rw [h2]; rfl)
  | (intro vs H Q E h; obtain ⟨_, _, h2, _⟩ := h; rw [h2]; rfl)
  | (intro vs H Q E h; obtain ⟨_, _, _, h2, _⟩ := h; rw [h2]; rfl)
  | (intro vs H Q E h; obtain ⟨_, _, _, _, h2, _⟩ := h; rw [h2]; rfl)
  | (intro vs H Q E h; obtain ⟨_, _, _, _, _, h2, _⟩ := h; rw [h2]; rfl)
  | (intro vs H Q E h; obtain ⟨_, _, _, _, _, _, h2, _⟩ := h; rw [h2]; rfl)
  | (intro vs H Q E h; obtain ⟨_, _, _, _, _, _, _, h2, _⟩ := h; rw [h2]; rfl)
  | (intro vs H Q E h; obtain ⟨_, _, _, _, _, _, _, _, h2, _⟩ := h; rw [h2]; rfl)
  | (intro vs H Q E h; obtain ⟨_, _, _, _, _, _, _, _, _, h2, _⟩ := h; rw [h2]; rfl)
  | (intro vs H Q E h; obtain ⟨_, _, _, _, _, _, _, _, _, _, h2, _⟩ := h; rw [h2]; rfl)
  | (intro vs H Q E h; obtain ⟨_, _, _, _, _, _, _, _, _, _, _, h2, _⟩ := h; rw [h2]; rfl)
  | (intro vs H Q E h; obtain ⟨_, _, _, _, _, _, _, _, _, _, _, _, h2, _⟩ := h; rw [h2]; rfl))
/-! ### data as such -/
def tyD : PyData → String
  | .none => "NoneType"
  | .bool _ => "bool"
  | .int _ => "int"
  | .str _ => "str"
  | .list _ => "list"
  | .tuple _ => "tuple"
  | _ => "?"
theorem Dt.ty {K : PySem.W.Frag} {H : Hp} {v : V} {d : PyData} (h : Dt H v d) : TyOf K H v (.type (tyD d)) := by
  cases h with
  | non => exact .non
  | bl b => exact .bl b
  | int i => exact .int i
  | str x => exact .str x
  | lst e _ => exact .lst e
  | tup e _ => exact .tup e
theorem rd_isiDt {K : PySem.W.Frag} {H : Hp} {Q : VK} {v : V} {d : PyData} {b : String} {r : Bool} (e : Dt H v d) (h2 : kitB (tyD d) b = some r) (h : Q (.bl r) H) : rIsi K [v, .ty b] H Q := ⟨_, _, _, _, r, rfl, .ty _, .base e.ty, kit_ty h2, h⟩
def wholeD : PyData → Bool
  | .int _ => true
  | _ => false
def isTupD : PyData → Bool
  | .tuple _ => true
  | _ => false
def isBoolD : PyData → Bool
  | .bool _ => true
  | _ => false
theorem kit_tup {K : PySem.W.Frag} {H : Hp} {v : V} {d : PyData} (h : Dt H v d) : kitB (tyD d) "tuple" = some (isTupD d) := by
  cases h with
  | non => exact (by decide +kernel : kitB "NoneType" "tuple" = some false)
  | bl b => exact (by decide +kernel : kitB "bool" "tuple" = some false)
  | int i => exact (by decide +kernel : kitB "int" "tuple" = some false)
  | str x => exact (by decide +kernel : kitB "str" "tuple" = some false)
  | lst e r => exact (by decide +kernel : kitB "list" "tuple" = some false)
  | tup e r => exact (by decide +kernel : kitB "tuple" "tuple" = some true)
theorem kit_int {K : PySem.W.Frag} {H : Hp} {v : V} {d : PyData} (h : Dt H v d) : kitB (tyD d) "int" = some (wholeD d || isBoolD d) := by
  cases h with
  | non => exact (by decide +kernel : kitB "NoneType" "int" = some false)
  | bl b => exact (by decide +kernel : kitB "bool" "int" = some true)
  | int i => exact (by decide +kernel : kitB "int" "int" = some true)
  | str x => exact (by decide +kernel : kitB "str" "int" = some false)
  | lst e r => exact (by decide +kernel : kitB "list" "int" = some false)
  | tup e r => exact (by decide +kernel : kitB "tuple" "int" = some false)
theorem kit_bool {K : PySem.W.Frag} {H : Hp} {v : V} {d : PyData} (h : Dt H v d) : kitB (tyD d) "bool" = some (isBoolD d) := by
  cases h with
  | non => exact (by decide +kernel : kitB "NoneType" "bool" = some false)
  | bl b => exact (by decide +kernel : kitB "bool" "bool" = some true)
  | int i => exact (by decide +kernel : kitB "int" "bool" = some false)
  | str x => exact (by decide +kernel : kitB "str" "bool" = some false)
  | lst e r => exact (by decide +kernel : kitB "list" "bool" = some false)
  | tup e r => exact (by decide +kernel : kitB "tuple" "bool" = some false)
theorem Dt.int_inv {H : Hp} {v : V} {i : Int} (h : Dt H v (.int i)) : v = .int i := by cases h; rfl
theorem Dt.bool_inv {H : Hp} {v : V} {i : Bool} (h : Dt H v (.bool i)) : v = .bl i := by cases h; rfl
theorem Dt.str_inv {H : Hp} {v : V} {i : Str} (h : Dt H v (.str i)) : v = .str i := by cases h; rfl
theorem Dt.tup_inv {H : Hp} {v : V} {ds : List PyData} (h : Dt H v (.tuple ds)) : ∃ a xs, v = .ref a ∧ H a = some (.tup xs) ∧ DtAll H xs ds := by
  cases h with
  | tup e r => exact ⟨_, _, rfl, e, r⟩
def intOf : PyData → Int
  | .int i => i
  | _ => 0
def numB : PyData → Bool
  | .int i => decide (0 ≤ i ∧ i < 20)
  | _ => false
def numsB : PyData → Bool
  | .tuple ds => !ds.isEmpty && (ds.all numB && decide ((ds.map intOf).Nodup))
  | _ => false
def fallD : PyData := .tuple [.str "fall"]
def bakeB : List PyData → Bool
  | [.str z, b, c, e] => decide (z = ("bake" : Str)) && (numsB b && (wholeD c && (decide (0 ≤ intOf c) && isBoolD e)))
  | _ => false
def deedB : PyData → Bool
  | .tuple ds => PyData.eqv (.tuple ds) fallD || bakeB ds
  | _ => false
theorem deedB_tup (ds : List PyData) : deedB (.tuple ds) = (PyData.eqv (.tuple ds) fallD || bakeB ds) := rfl
theorem bakeB_4 (z : Str) (b c e : PyData) : bakeB [.str z, b, c, e] = (decide (z = ("bake" : Str)) && (numsB b && (wholeD c && (decide (0 ≤ intOf c) && isBoolD e)))) := rfl
theorem bakeB_no {ds : List PyData} (h : ds.length ≠ 4) : bakeB ds = false := by
  unfold bakeB
  split
  · exact absurd rfl h
  · rfl
theorem eqv_nilT (ds : List PyData) : PyData.eqv (.tuple ds) (.tuple []) = ds.isEmpty := by
  cases ds <;> simp [PyData.eqv, PyData.eqvAll]
/-! ### dicts with keys that are ints, and whatever values -/
def dV1 (ks : List Int) (v : V) : List (Key × V) := ks.map fun k => (Sum.inl k, v)
theorem dV1_put (ks : List Int) (k : Int) (v : V) : putK (dV1 ks v) (Sum.inl k) v = dV1 (if k ∈ ks then ks else ks ++ [k]) v := by
  unfold putK dV1
  by_cases c : k ∈ ks
  · rw [if_pos (by rw [List.any_eq_true]; exact ⟨_, List.mem_map.mpr ⟨k, c, rfl⟩, decide_eq_true rfl⟩), if_pos c, List.map_map]
    refine List.map_congr_left fun q _ => ?_
    show (if (Sum.inl q : Key) = Sum.inl k then ((Sum.inl q : Key), v) else (Sum.inl q, v)) = _
    split <;> rfl
  · rw [if_neg c, if_neg (fun h => by
      obtain ⟨x, hx, e⟩ := List.any_eq_true.mp h
      obtain ⟨q, hq, rfl⟩ := List.mem_map.mp hx
      have e := of_decide_eq_true e
      exact c (by rw [← Sum.inl.inj e]; exact hq)), List.map_append]
    rfl
/-- which keys there are behind some -/
def keysI (l : List Int) : List Int := l.foldl (fun ks k => if k ∈ ks then ks else ks ++ [k]) []
theorem keysI_snoc (l : List Int) (k : Int) : keysI (l ++ [k]) = if k ∈ keysI l then keysI l else keysI l ++ [k] := by
  unfold keysI
  rw [List.foldl_append]
  rfl
theorem keysI_spec : ∀ (m : Nat) (l : List Int), l.length = m → (∀ k, k ∈ keysI l ↔ k ∈ l) ∧ (keysI l).length ≤ l.length ∧ (keysI l).Nodup ∧ ((keysI l).length = l.length ↔ l.Nodup)
  | 0, l, h => by
    obtain rfl : l = [] := List.length_eq_zero_iff.mp h
    exact ⟨fun k => Iff.rfl, Nat.le_refl _, List.nodup_nil, fun _ => List.nodup_nil, fun _ => rfl⟩
  | m + 1, l, h => by
    obtain ⟨ys, x, rfl⟩ : ∃ ys x, l = ys ++ [x] := by
      rcases List.eq_nil_or_concat l with e | ⟨ys, x, e⟩
      · rw [e] at h; cases h
      · exact ⟨ys, x, by rw [e]; simp⟩
    have hy : ys.length = m := by rw [List.length_append] at h; simpa using h
    obtain ⟨i1, i2, i3, i4⟩ := keysI_spec m ys hy
    rw [keysI_snoc]
    have nd : (ys ++ [x]).Nodup ↔ ys.Nodup ∧ x ∉ ys := by
      rw [List.nodup_append]
      simp only [List.mem_singleton, List.nodup_cons, List.not_mem_nil, not_false_eq_true, List.nodup_nil, and_self, true_and, forall_eq]
      exact ⟨fun ⟨a, b⟩ => ⟨a, fun z => b x z rfl⟩, fun ⟨a, b⟩ => ⟨a, fun y hy e => b (e ▸ hy)⟩⟩
    by_cases c : x ∈ keysI ys
    · rw [if_pos c]
      have cx := (i1 x).mp c
      refine ⟨fun k => ?_, by rw [List.length_append]; exact Nat.le_trans i2 (Nat.le_add_right _ _), i3, ?_⟩
      · rw [i1 k, List.mem_append, List.mem_singleton]
        exact ⟨.inl, fun z => z.elim id fun e => e ▸ cx⟩
      · rw [nd, List.length_append, List.length_singleton]
        exact ⟨fun z => by omega, fun z => absurd cx z.2⟩
    · rw [if_neg c]
      have cx : x ∉ ys := fun z => c ((i1 x).mpr z)
      refine ⟨fun k => ?_, by rw [List.length_append, List.length_append]; exact Nat.add_le_add_right i2 _, ?_, ?_⟩
      · rw [List.mem_append, List.mem_append, i1 k]
      · rw [List.nodup_append]
        exact ⟨i3, by simp, fun a ha b hb e => c (by rw [← List.mem_singleton.mp hb, ← e]; exact ha)⟩
      · rw [nd, List.length_append, List.length_append, List.length_singleton, ← i4]
        exact ⟨fun z => ⟨by omega, cx⟩, fun z => by omega⟩
section
variable {K : PySem.W.Frag} {σ : L2.St} {H : Hp} {Q : VK} {g : TG} {tt : TT} {tk tv : TE} {vs : List Nat}
theorem dcR_tup {a : Addr} {xs : List V} (Pv : Addr → Nat → Hp → Prop) (hl : ∀ D i H', H D = none → Pv D i H' → SqT K H' a xs) (h0 : ∀ D H', H D = none → Same H H' → H' D = some (.dK (dI [])) → H' = upd H D (.dK (dI [])) → Pv D 0 H')
    (hs : ∀ D i x H', H D = none → xs[i]? = some x → Pv D i H' → g x (wipe σ vs) H' fun σ2 H2 => wipe σ2 vs = wipe σ vs ∧ tt σ2 H2 fun b H3 => if b = true then tk σ2 H3 fun y H4 => tv σ2 H4 fun z H5 => DcE D (Pv D (i + 1)) y z H5 else Pv D (i + 1) H3)
    (hd : ∀ D H', H D = none → Pv D xs.length H' → Q (.ref D) H') : DcR (Itt K a) g tt tk tv vs σ H Q :=
  dcR_gen _ xs.length Pv h0 (fun D i H' hD h p => ⟨xs, xs[i], hl D i H' hD p, by simp [h]⟩) (fun D H' hD p => ⟨xs, hl D _ H' hD p, Nat.le_refl _⟩)
    (fun D i H' x H2 hD hi p ⟨e1, e2⟩ => by subst e1; exact hs D i x _ hD (e2 xs (hl D i _ hD p)) p) hd
theorem dcE1 {D : Addr} {Nx : Hp → Prop} {ks : List Int} {k : Int} {v : V} {H : Hp} (e : H D = some (.dK (dV1 ks v))) (l : ks.length < 100000) (h : ∀ H', H' = upd H D (.dK (dV1 (if k ∈ ks then ks else ks ++ [k]) v)) → H' D = some (.dK (dV1 (if k ∈ ks then ks else ks ++ [k]) v)) → Nx H') : DcE D Nx (.int k) v H :=
  ⟨_, Sum.inl k, rfl, e, by show (dV1 ks v).length < sizeLine; unfold dV1; rw [List.length_map]; exact Nat.lt_trans l (by decide), by rw [dV1_put]; exact h _ rfl upd_same⟩
end
theorem rd_eqDp {K : PySem.W.Frag} {H : Hp} {Q : VK} {x y : V} {d e : PyData} (h1 : Dt H x d) (h2 : Dp K H y e) (s1 : SeqAt.shaped d = true) (s2 : SeqAt.shaped e = true) (h : Q (.bl (PyData.eqv d e)) H) : rEqD K x y H Q := ⟨d, e, h1.dp, h2, s1, s2, h⟩
theorem rd_neDp {K : PySem.W.Frag} {H : Hp} {Q : VK} {x y : V} {d e : PyData} (h1 : Dt H x d) (h2 : Dp K H y e) (s1 : SeqAt.shaped d = true) (s2 : SeqAt.shaped e = true) (h : Q (.bl (!PyData.eqv d e)) H) : rNeD K x y H Q := ⟨d, e, h1.dp, h2, s1, s2, h⟩
theorem fall_dp {K : PySem.W.Frag} {D : Addr} (e : tupS (K.lookup D) = some (["fall"] : List Str)) (H : Hp) : Dp K H (.ref D) fallD := .tup (tupS_sq e (by decide) H) (.cons (.str _) .nil)
/-- what is_deed is asked of -/
def AskD (d : PyData) : Prop := SeqAt.shaped d = true ∧ ∀ ds, d = .tuple ds → ds.length ≤ 1000 ∧ (ds.length = 4 → ∃ z b c e, ds = [.str z, b, c, e] ∧ SeqAt.shaped b = true ∧ ∀ es, b = .tuple es → es.length ≤ 1000)
def spIsDeed : Sp := fun vs H Q _ => ∃ v d, vs = [v] ∧ Dt H v d ∧ AskD d ∧ ∀ H', Same H H' → Q (.bl (deedB d)) H'
def spIsWD : Sp := fun vs H Q _ => ∃ v d, vs = [v] ∧ Dt H v d ∧ Q (.bl (wholeD d)) H
def spIsNums : Sp := fun vs H Q _ => ∃ v d, vs = [v] ∧ Dt H v d ∧ SeqAt.shaped d = true ∧ (∀ ds, d = .tuple ds → ds.length ≤ 1000) ∧ ∀ H', Same H H' → Q (.bl (numsB d)) H'
theorem DtAll.at {H : Hp} {vs : List V} {ds : List PyData} {i : Nat} {v : V} (h : DtAll H vs ds) (hv : vs[i]? = some v) : ∃ d, ds[i]? = some d ∧ Dt H v d := DtAll.getV h hv
section
variable {P : Program} {w : World} {K : PySem.W.Frag} {mg : Str → Option Value} {base : Heap} {C_Evidence C_Good C_Bad C_RightRounds C_WrongRound C_BadScript D_FALL : Addr}
theorem cal_is_whole (T : TX P K mg C_Evidence C_Good C_Bad C_RightRounds C_WrongRound C_BadScript D_FALL) : Cal P w K mg base 1 "is_whole" (spIsWD) [] := by
  obtain ⟨f0, fd, D, dn⟩ := T.d_is_whole
  refine cal0 D (D.fn.binds dn fun _ _ _ _ _ _ us hl => match us, hl with | [_], _ => rfl) .nil sc_is_whole (by walk_at "len") (fun cdv A outer s H vs Q E hr h => ?_)
  obtain ⟨v, d, rfl, e, k⟩ := h
  refine ⟨_, (pss_one (ps_ret (pe_and (pe_callB call_isi (by rfl) T.b_isinstance (by decide +kernel) (pa_cons (pv 0) (pa_cons (pe_bltn (v := .ty "int") (u := .type "int") rfl T.b_int (by decide +kernel) rfl) pa_nil))) (pe_one (pe_not (pe_callB call_isi (by rfl) T.b_isinstance (by decide +kernel) (pa_cons (pv 0) (pa_cons (pe_bltn (v := .ty "bool") (u := .type "bool") rfl T.b_bool (by decide +kernel) rfl) pa_nil)))))))), ?_⟩
  walk_at "rd"
  refine rd_isiDt e (kit_int (K := K) e) ?_
  walk_at "rd"
  cases hi : (wholeD d || isBoolD d)
  · walk_at "rd"
    have : wholeD d = false := (Bool.or_eq_false_iff.mp hi).1
    rw [this] at k
    exact k
  · walk_at "rd"
    refine rd_isiDt e (kit_bool (K := K) e) ?_
    walk_at "rd"
    have : wholeD d = !isBoolD d := by
      cases d <;> first | rfl | cases hi
    rw [this] at k
    exact k
theorem cal_is_numbers (T : TX P K mg C_Evidence C_Good C_Bad C_RightRounds C_WrongRound C_BadScript D_FALL) : Cal P w K mg base 2 "is_numbers" (spIsNums) [] := by
  obtain ⟨f0, fd, D, dn⟩ := T.d_is_numbers
  have G_is_whole := cal_is_whole (P := P) (w := w) (base := base) T
  refine cal0 D (D.fn.binds dn fun _ _ _ _ _ _ us hl => match us, hl with | [_], _ => rfl) .nil sc_is_numbers (by walk_at "len") (fun cdv A outer s H vs Q E hr h => ?_)
  obtain ⟨v, d, rfl, e, sh, hl, k⟩ := h
  refine ⟨_, (pss_cons (ps_if (PW.pt (pw_or (pt_not (pt_val (pe_callB call_isi (by rfl) T.b_isinstance (by decide +kernel) (pa_cons (pv 0) (pa_cons (pe_bltn (v := .ty "tuple") (u := .type "tuple") rfl T.b_tuple (by decide +kernel) rfl) pa_nil))))) (pw_or1 (pt_cmpR (op_eqD hr.units) (pv 0) (pe_tup pa_nil) (nomark _))))) (pss_one (ps_ret pe_bl)) pss_nil)
      (pss_cons (ps_if (pt_not (pt_val (pe_callB (cr_all rfl) (by rfl) T.b_all (by decide +kernel) (pa_cons (pe_lc (own := [("one", 1)]) (g := gName 1) (tt := tYes) rfl sc_is_numbers.nd (pi_tup (pv 0)) (blkOk_by (own := [("one", 1)]) (N := N_is_numbers) (sc := fnScope s_is_numbers) (by decide +kernel)) (fun _ _ _ _ _ => (pg_n 1 sc_is_numbers.nd)) (fun _ _ _ _ _ => pts_nil) (fun _ _ _ _ _ => (pe_and (pe_c G_is_whole hr (by decide) rfl (pa_cons (pv 1) pa_nil)) (pe_one (pe_chain op_le op_lt pe_int (pv 1) (pe_gc rfl T.g_MOST_LAYERS)))))) pa_nil)))) (pss_one (ps_ret pe_bl)) pss_nil)
      (pss_one (ps_ret (pe_cmpR op_eq (pe_callB cr_lenDk (by rfl) T.b_len (by decide +kernel) (pa_cons (pe_dc (own := [("one", 1)]) (g := gName 1) (tt := tYes) rfl sc_is_numbers.nd (pi_tup (pv 0)) (blkOk_by (own := [("one", 1)]) (N := N_is_numbers) (sc := fnScope s_is_numbers) (by decide +kernel)) (fun _ _ _ _ _ => (pg_n 1 sc_is_numbers.nd)) (fun _ _ _ _ _ => pts_nil) (fun _ _ _ _ _ => (pv 1)) (fun _ _ _ _ _ => pe_bl)) pa_nil)) (pe_callB cr_lenS (by rfl) T.b_len (by decide +kernel) (pa_cons (pv 0) pa_nil)) (nomark _)))))), ?_⟩
  walk_at "rd"
  refine rd_isiDt e (kit_tup (K := K) e) ?_
  walk_at "rd"
  cases hi : isTupD d
  · walk_at "rd"
    have : numsB d = false := by cases d <;> first | rfl | cases hi
    rw [this] at k
    exact k H (Same.refl H)
  · obtain ⟨ds, rfl⟩ : ∃ ds, d = .tuple ds := by cases d <;> first | exact ⟨_, rfl⟩ | cases hi
    obtain ⟨a, xs, rfl, ea, ed⟩ := e.tup_inv
    have lx : xs.length = ds.length := ed.length
    have l1 := hl ds rfl
    walk_at "rd"
    refine rd_newT (by simp) fun u H1 _ s1 eu _ => ?_
    refine rd_eqD (.tup (s1 _ _ ea) (ed.mono s1)) (.tup eu .nil) sh (by rfl) ?_
    rw [eqv_nilT]
    refine ⟨_, rfl, ?_⟩
    cases hE : ds.isEmpty
    · walk_at "rd"
      refine rd_tpR (SqT.of (s1 _ _ ea)) ?_
      refine lcR_tup (xs := xs) (fun W i H' => Same H1 H' ∧ H' W = some (.lst (((ds.take i).map numB).map V.bl))) (fun W i H' _ ⟨s, _⟩ => SqT.of ((s1.trans s) _ _ ea)) (fun W H' _ s e _ => ⟨s, e⟩) ?_ ?_
      · rintro W i x H2 hW hx ⟨s2, eW⟩
        obtain ⟨d, hd, dx⟩ := ((ed.mono (s1.trans s2))).at hx
        have hi := (List.getElem?_eq_some_iff.mp hd).1
        have fin : ∀ b, b = numB d → LcE W (fun H' => Same H1 H' ∧ H' W = some (.lst (((ds.take (i + 1)).map numB).map V.bl))) (.bl b) H2 := by
          rintro b rfl
          refine rd_lcE eW (by rw [List.length_map, List.length_map, List.length_take]; omega) fun H3 eH3 eW3 => ?_
          refine ⟨by rw [eH3]; exact Same.mut s2 hW, ?_⟩
          rw [eW3, List.take_add_one, hd, List.map_append, List.map_append]
          rfl
        walk_at "rd"
        refine ⟨rfl, ?_⟩
        walk_at "rd"
        refine ⟨_, d, rfl, dx, ?_⟩
        walk_at "rd"
        cases hw : wholeD d
        · walk_at "rd"
          refine fin _ ?_
          cases d <;> first | rfl | cases hw
        · obtain ⟨i0, rfl⟩ : ∃ i, d = .int i := by cases d <;> first | exact ⟨_, rfl⟩ | cases hw
          obtain rfl := dx.int_inv
          walk_at "rd"
          refine rd_ite (fun c => ?_) (fun c => ?_)
          · walk_at "rd"
            exact fin _ (by
              show decide (i0 < 20) = decide (0 ≤ i0 ∧ i0 < 20)
              rw [decide_eq_decide]
              exact ⟨fun z => ⟨c, z⟩, fun z => z.2⟩)
          · exact fin _ (decide_eq_false (fun z => c z.1)).symm
      rintro W H2 hW ⟨s2, eW⟩
      rw [lx, List.take_length] at eW
      walk_at "rd"
      refine ⟨W, _, rfl, SqL.of eW, ?_⟩
      rw [List.all_map]
      walk_at "rd"
      cases hA : ds.all (id ∘ numB)
      · walk_at "rd"
        have : numsB (.tuple ds) = false := by
          show (!ds.isEmpty && (ds.all numB && _)) = false
          have hA : ds.all numB = false := hA
          rw [hA]
          simp
        rw [this] at k
        exact k _ (s1.trans s2)
      · walk_at "rd"
        have hA : ds.all numB = true := hA
        have hI : ∀ d ∈ ds, ∃ i, d = .int i := fun d hd => by
          have := List.all_eq_true.mp hA d hd
          cases d <;> first | exact ⟨_, rfl⟩ | cases this
        refine rd_tpR (SqT.of ((s1.trans s2) _ _ ea)) ?_
        refine dcR_tup (xs := xs) (fun D i H' => Same H2 H' ∧ H' D = some (.dK (dV1 (keysI ((ds.take i).map intOf)) (.bl true)))) (fun D i H' _ ⟨s, _⟩ => SqT.of (((s1.trans s2).trans s) _ _ ea)) (fun D H' _ s e _ => ⟨s, e⟩) ?_ ?_
        · rintro D i x H3 hD hx ⟨s3, eD⟩
          obtain ⟨d, hd, dx⟩ := ((ed.mono ((s1.trans s2).trans s3))).at hx
          have hi := (List.getElem?_eq_some_iff.mp hd).1
          obtain ⟨i0, rfl⟩ := hI d (List.mem_of_getElem? hd)
          obtain rfl := dx.int_inv
          walk_at "rd"
          refine ⟨rfl, ?_⟩
          walk_at "rd"
          have kl := (keysI_spec _ ((ds.take i).map intOf) rfl).2.1
          rw [List.length_map, List.length_take] at kl
          refine dcE1 eD (by omega) fun H4 eH4 eD4 => ?_
          refine ⟨by rw [eH4]; exact Same.mut s3 hD, ?_⟩
          rw [eD4, List.take_add_one, hd, List.map_append]
          show some (HO.dK (dV1 (if i0 ∈ _ then _ else _) _)) = some (HO.dK (dV1 (keysI (_ ++ [i0])) _))
          rw [keysI_snoc]
        rintro D H3 hD ⟨s3, eD⟩
        rw [lx, List.take_length] at eD
        walk_at "rd"
        refine rd_lenDk eD ?_
        walk_at "rd"
        refine rd_lenT (((s1.trans s2).trans s3) _ _ ea) ?_
        walk_at "rd"
        have kk := (keysI_spec _ (ds.map intOf) rfl).2.2.2
        have : numsB (.tuple ds) = decide (((dV1 (keysI (ds.map intOf)) (V.bl true)).length : Int) = (xs.length : Int)) := by
          show (!ds.isEmpty && (ds.all numB && decide _)) = _
          rw [hA, hE]
          show decide ((ds.map intOf).Nodup) = _
          unfold dV1
          rw [List.length_map, lx, decide_eq_decide, ← kk, List.length_map]
          omega
        rw [← this]
        exact k _ ((s1.trans s2).trans s3)
    · walk_at "rd"
      have : numsB (.tuple ds) = false := by
        show (!ds.isEmpty && _) = false
        rw [hE]
        rfl
      rw [this] at k
      exact k H1 s1
theorem cal_is_deed (T : TX P K mg C_Evidence C_Good C_Bad C_RightRounds C_WrongRound C_BadScript D_FALL) : Cal P w K mg base 3 "is_deed" (spIsDeed) [] := by
  obtain ⟨f0, fd, D, dn⟩ := T.d_is_deed
  have G_is_numbers := cal_is_numbers (P := P) (w := w) (base := base) T
  have G_is_whole := cal_is_whole (P := P) (w := w) (base := base) T
  refine cal0 D (D.fn.binds dn fun _ _ _ _ _ _ us hl => match us, hl with | [_], _ => rfl) .nil sc_is_deed (by walk_at "len") (fun cdv A outer s H vs Q E hr h => ?_)
  obtain ⟨v, d, rfl, e, ⟨sh, hl⟩, k⟩ := h
  refine ⟨_, (pss_cons (ps_if (pt_not (pt_val (pe_callB call_isi (by rfl) T.b_isinstance (by decide +kernel) (pa_cons (pv 0) (pa_cons (pe_bltn (v := .ty "tuple") (u := .type "tuple") rfl T.b_tuple (by decide +kernel) rfl) pa_nil))))) (pss_one (ps_ret pe_bl)) pss_nil)
      (pss_cons (ps_if (pt_cmpR (op_eqD hr.units) (pv 0) (pe_gc rfl T.gt_FALL) (nomark _)) (pss_one (ps_ret pe_bl)) pss_nil)
      (pss_cons (ps_if (PW.pt (pw_or (pt_cmpR op_ne (pe_callB cr_lenS (by rfl) T.b_len (by decide +kernel) (pa_cons (pv 0) pa_nil)) pe_int (nomark _)) (pw_or (pt_cmpR op_ne (pe_ix ix_tup (pv 0) pe_int (fun _ _ => rfl)) pe_str (nomark _)) (pw_or1 (pt_not (pt_val (pe_c G_is_numbers hr (by decide) rfl (pa_cons (pe_ix ix_tup (pv 0) pe_int (fun _ _ => rfl)) pa_nil)))))))) (pss_one (ps_ret pe_bl)) pss_nil)
      (pss_one (ps_ret (pe_and (pe_c G_is_whole hr (by decide) rfl (pa_cons (pe_ix ix_tup (pv 0) pe_int (fun _ _ => rfl)) pa_nil)) (pe_and (pe_cmpR op_ge (pe_ix ix_tup (pv 0) pe_int (fun _ _ => rfl)) pe_int (nomark _)) (pe_one (pe_callB call_isi (by rfl) T.b_isinstance (by decide +kernel) (pa_cons (pe_ix ix_tup (pv 0) pe_int (fun _ _ => rfl)) (pa_cons (pe_bltn (v := .ty "bool") (u := .type "bool") rfl T.b_bool (by decide +kernel) rfl) pa_nil))))))))))), ?_⟩
  walk_at "rd"
  refine rd_isiDt e (kit_tup (K := K) e) ?_
  walk_at "rd"
  cases hi : isTupD d
  · walk_at "rd"
    have : deedB d = false := by cases d <;> first | rfl | cases hi
    rw [this] at k
    exact k H (Same.refl H)
  obtain ⟨ds, rfl⟩ : ∃ ds, d = .tuple ds := by cases d <;> first | exact ⟨_, rfl⟩ | cases hi
  obtain ⟨a, xs, rfl, ea, ed⟩ := e.tup_inv
  have lx : xs.length = ds.length := ed.length
  obtain ⟨l1, l4⟩ := hl ds rfl
  walk_at "rd"
  refine rd_eqDp (.tup ea ed) (fall_dp T.e_FALL H) sh (by decide +kernel) ?_
  refine ⟨_, rfl, ?_⟩
  cases hf : PyData.eqv (.tuple ds) fallD
  · walk_at "rd"
    refine rd_lenT ea ?_
    walk_at "rd"
    by_cases c4 : ds.length = 4
    · obtain ⟨z, b, c, e4, rfl, shb, hb⟩ := l4 c4
      match xs, lx, ed with
      | [x0, x1, x2, x3], _, .cons d0 (.cons d1 (.cons d2 (.cons d3 .nil))) =>
        obtain rfl := d0.str_inv
        rw [decide_eq_true (by rfl : (([V.str z, x1, x2, x3] : List V).length : Int) = 4)]
        walk_at "rd"
        refine rd_ixT ea rfl ?_
        walk_at "rd"
        refine rd_ne rfl ?_
        refine ⟨_, rfl, ?_⟩
        by_cases cz : z = ("bake" : Str)
        · subst cz
          rw [decide_eq_true (rfl : (V.str "bake") = V.str "bake")]
          walk_at "rd"
          refine rd_ixT ea rfl ?_
          walk_at "rd"
          refine ⟨x1, b, rfl, d1, shb, hb, fun H1 s1 => ?_⟩
          walk_at "rd"
          have key : deedB (.tuple [.str "bake", b, c, e4]) = (numsB b && (wholeD c && (decide (0 ≤ intOf c) && isBoolD e4))) := by
            rw [deedB_tup, hf, bakeB_4, decide_eq_true rfl, Bool.false_or, Bool.true_and]
          rw [key] at k
          cases hn : numsB b
          · rw [hn] at k
            walk_at "rd"
            exact k H1 s1
          · rw [hn] at k
            walk_at "rd"
            refine rd_ixT (s1 _ _ ea) rfl ?_
            walk_at "rd"
            refine ⟨x2, c, rfl, d2.mono s1, ?_⟩
            walk_at "rd"
            cases hw : wholeD c
            · rw [hw] at k
              walk_at "rd"
              exact k H1 s1
            · rw [hw] at k
              obtain ⟨i0, rfl⟩ : ∃ i, c = .int i := by cases c <;> first | exact ⟨_, rfl⟩ | cases hw
              obtain rfl := d2.int_inv
              walk_at "rd"
              refine rd_ixT (s1 _ _ ea) rfl ?_
              walk_at "rd"
              refine rd_ite (fun c => ?_) (fun c => ?_)
              · rw [show decide (0 ≤ intOf (.int i0)) = true from decide_eq_true c] at k
                walk_at "rd"
                refine rd_ixT (s1 _ _ ea) rfl ?_
                walk_at "rd"
                refine rd_isiDt (d3.mono s1) (kit_bool (K := K) d3) ?_
                exact k H1 s1
              · rw [show decide (0 ≤ intOf (.int i0)) = false from decide_eq_false c] at k
                exact k H1 s1
        · have : decide ((V.str z) = V.str "bake") = false := decide_eq_false fun h => cz (V.str.inj h)
          rw [this]
          walk_at "rd"
          have key : deedB (.tuple [.str z, b, c, e4]) = false := by
            rw [deedB_tup, hf, bakeB_4, decide_eq_false cz]
            rfl
          rw [key] at k
          exact k H (Same.refl H)
    · rw [decide_eq_false (by omega : ¬ (xs.length : Int) = 4)]
      walk_at "rd"
      have key : deedB (.tuple ds) = false := by
        rw [deedB_tup, hf, bakeB_no c4]
        rfl
      rw [key] at k
      exact k H (Same.refl H)
  · walk_at "rd"
    have key : deedB (.tuple ds) = true := by
      rw [deedB_tup, hf]
      rfl
    rw [key] at k
    exact k H (Same.refl H)
end
end Sl

set_option Elab.async false
set_option linter.all false
set_option maxRecDepth 100000
set_option maxHeartbeats 8000000
set_option exponentiation.threshold 9000
namespace Sl
open PySem L2 C8 StX Silt
local macro_rules | `(tactic| walk_at "side") => `(tactic| first
  | exact cdivw (by omega) (by omega)
  | exact cmulw (by omega) (by omega) (by omega) (by omega)
  | exact Or.inr ⟨by omega, by omega⟩
  | exact Or.inl ⟨by omega, by omega⟩
  | omega
  | exact ⟨by omega, by omega, by decide⟩
  | decide)
local macro_rules | `(tactic| walk_at "rd1") => `(tactic| first
  | with_reducible refine rd_seq ?_
  | with_reducible refine rd_asg ?_
  | with_reducible refine rd_drop ?_
  | with_reducible refine rd_ret ?_
  | with_reducible refine rd_retN ?_
  | with_reducible refine rd_ifS ?_
  | ((with_reducible refine rd_var0 ?_); refine ⟨_, rfl, ?_⟩)
  | with_reducible refine rd_c ?_
  | with_reducible refine rd_op ?_
  | with_reducible refine rd_un ?_
  | with_reducible refine rd_I0 ?_
  | with_reducible refine rd_U ?_
  | ((with_reducible refine rd_I ?c ?_); (case c => walk_at "side"))
  | with_reducible refine rd_ipI ?_
  | with_reducible refine rd_eqI ?_
  | with_reducible refine rd_neI ?_
  | with_reducible refine rd_test ?_
  | with_reducible refine rd_tB ?_
  | with_reducible refine rd_bl ?_
  | with_reducible refine rd_not ?_
  | with_reducible refine rd_and ?_
  | with_reducible refine rd_or ?_
  | with_reducible refine rd_andV ?_
  | with_reducible refine rd_orV ?_
  | with_reducible refine rd_notV ?_
  | with_reducible refine rd_ifE ?_
  | with_reducible refine rd_chain ?_
  | with_reducible refine rd_chain3 ?_
  | with_reducible refine rd_nil ?_
  | with_reducible refine rd_cons ?_
  | with_reducible refine rd_call ?_
  | with_reducible refine rd_CB ?_
  | with_reducible refine rd_par ?_
  | with_reducible refine rd_par2 ?_
  | with_reducible refine rd_par3 ?_
  | with_reducible refine rd_par4 ?_
  | ((with_reducible refine rd_aug0 ?_); refine ⟨_, rfl, ?_⟩)
  | with_reducible refine rd_gname ?_
  | with_reducible refine rd_gcons ?_
  | with_reducible refine rd_gnil ?_
  | with_reducible refine rd_max ?_
  | with_reducible refine rd_min ?_
  | with_reducible refine rd_int1 ?_
  | with_reducible refine rd_abs ?_
  | with_reducible refine rd_lst ?_
  | with_reducible refine rd_tup ?_
  | with_reducible refine rd_bm ?_
  | with_reducible refine rd_fld0 ?_
  | with_reducible refine rd_sl0 ?_
  | with_reducible refine rd_noP ?_
  | with_reducible refine rd_part ?_
  | with_reducible refine rd_part2 ?_
  | with_reducible refine rd_meth0 ?_
  | with_reducible refine rd_star ?_
  | with_reducible refine rd_for ?_
  | with_reducible refine rd_rng1 ?_
  | with_reducible refine rd_rng2 ?_
  | with_reducible refine rd_rng3 ?_
  | with_reducible refine rd_iList ?_
  | with_reducible refine rd_iTup ?_
  | with_reducible refine rd_iEnum ?_
  | with_reducible refine rd_lc ?_
  | with_reducible refine rd_yes ?_
  | with_reducible refine rd_augS ?_
  | with_reducible refine rd_drawNew ?_
  | with_reducible refine rd_make0 ?_
  | with_reducible refine rd_next ?_
  | with_reducible refine rd_break ?_
  | with_reducible refine rd_cont ?_
  | with_reducible refine rd_iteTT ?_
  | with_reducible refine rd_iteFF ?_
  | with_reducible refine rd_iteNTT ?_
  | with_reducible refine rd_iteNFF ?_
  | with_reducible refine rd_con0 ?_
  | with_reducible refine rd_truO0 ?_
  | with_reducible refine rd_gfld0 ?_
  | with_reducible refine rd_dc ?_
  | with_reducible refine rd_iKeys ?_
  | with_reducible refine rd_dget0 ?_
  | with_reducible refine rd_dput0 ?_
  | with_reducible refine rd_dnot0 ?_
  | with_reducible refine rd_iEnumT ?_
  | with_reducible refine rd_raP0 ?_
  | with_reducible refine rd_xf0 ?_
  | with_reducible refine rd_cKw ?_
  | with_reducible refine rd_iStr ?_
  | with_reducible refine rd_gSub ?_
  | with_reducible refine rd_asgG ?_)
local macro_rules | `(tactic| walk_at "rd") => `(tactic| repeat walk_at "rd1")
local macro_rules | `(tactic| walk_at "len") => `(tactic| first
  | (intro vs H Q E h; obtain ⟨h2, _⟩ := h; rw [h2]; rfl)
  | (intro vs H Q E h; obtain ⟨_, h2, _⟩ := h; rw [h2]; rfl)
  | (intro vs H Q E h; obtain ⟨_, _, h2, _⟩ := h; rw [h2]; rfl)
  | (intro vs H Q E h; obtain ⟨_, _, _, h2, _⟩ := h; rw [h2]; rfl)
  | (intro vs H Q E h; obtain ⟨_, _, _, _, h2, _⟩ := h; rw [h2]; rfl)
  | (intro vs H Q E h; obtain ⟨_, _, _, _, _, h2, _⟩ := h; rw [h2]; rfl)
  | (intro vs H Q E h; obtain ⟨_, _, _, _, _, _, h2, _⟩ := h; rw [h2]; rfl)
  | (intro vs H Q E h; obtain ⟨_, _, _, _, _, _, _, h2, _⟩ := h; rw [h2]; rfl)
  | (intro vs H Q E h; obtain ⟨_, _, _, _, _, _, _, _, h2, _⟩ := h; rw [h2]; rfl)
  | (intro vs H Q E h; obtain ⟨_, _, _, _, _, _, _, _, _, h2, _⟩ := h; rw [h2]; rfl)
  | (intro vs H Q E h; obtain ⟨_, _, _, _, _, _, _, _, _, _, h2, _⟩ := h; rw [h2]; rfl)
  | (intro vs H Q E h; obtain ⟨_, _, _, _, _, _, _, _, _, _, _, h2, _⟩ := h; rw [h2]; rfl)
  | (intro vs H Q E h; obtain ⟨_, _, _, _, _, _, _, _, _, _, _, _, h2, _⟩ := h; rw [h2]; rfl))
local macro_rules | `(tactic| walk_at "rd1") => `(tactic| first
  | with_reducible refine rd_lc2 ?_
  | with_reducible refine rd_iZip ?_)
def natV (ns : List Nat) : List V := ns.map fun (n : Nat) => V.int n
def natD (ns : List Nat) : List PyData := ns.map fun (n : Nat) => PyData.int n
def deedD : Deed → PyData
  | .fall => fallD
  | .bake ns p k => .tuple [.str "bake", .tuple (natD ns), .int (p : Int), .bool k]
theorem natD_inv {H : Hp} : ∀ {ns : List Nat} {xs : List V}, DtAll H xs (natD ns) → xs = natV ns
  | [], _, .nil => rfl
  | n :: ns, _, .cons h t => by
    rw [natD_inv t, h.int_inv]
    rfl
theorem natD_all {H : Hp} : ∀ (ns : List Nat), DtAll H (natV ns) (natD ns)
  | [] => .nil
  | n :: ns => .cons (.int _) (natD_all ns)
theorem natD_alln {H : Hp} : ∀ (ns : List Nat), DnAll H (natV ns) (natD ns)
  | [] => .nil
  | n :: ns => .cons (.int _) (natD_alln ns)
theorem bake_inv {H : Hp} {v : V} {ns : List Nat} {p : Nat} {k : Bool} (h : Dt H v (deedD (.bake ns p k))) : ∃ t u, v = .ref t ∧ H t = some (.tup [.str "bake", .ref u, .int (p : Int), .bl k]) ∧ H u = some (.tup (natV ns)) := by
  obtain ⟨t, xs, rfl, e, r⟩ := h.tup_inv
  cases r with
  | cons h0 r => cases r with
    | cons h1 r => cases r with
      | cons h2 r => cases r with
        | cons h3 r =>
          cases r
          obtain rfl := h0.str_inv
          obtain rfl := h2.int_inv
          obtain rfl := h3.bool_inv
          obtain ⟨u, ys, rfl, eu, ru⟩ := h1.tup_inv
          rw [natD_inv ru] at eu
          exact ⟨t, u, rfl, e, eu⟩
theorem eqv_deed (x : Deed) : PyData.eqv (deedD x) fallD = isFall x := by
  cases x <;> simp [deedD, fallD, isFall, PyData.eqv, PyData.eqvAll]
theorem depth_nat (ns : List Nat) : PyData.depthAll (natD ns) ≤ 0 := depth_map (fun _ => by simp [PyData.depth]) ns
theorem lay_nat (ns : List Nat) : PyData.canLayAll0 (natD ns) = true := lay_map (fun _ => by simp [PyData.canLay0]) ns
theorem shaped_deed (x : Deed) : SeqAt.shaped (deedD x) = true := by
  cases x with
  | fall => decide +kernel
  | bake ns p k =>
    have h1 := depth_nat ns
    have h2 := lay_nat ns
    have h3 : PyData.canLay0 (.str "bake") = true := by decide +kernel
    have h4 : PyData.depth (.str "bake") = 0 := by decide +kernel
    simp [deedD, SeqAt.shaped, PyData.canLay0, PyData.canLayAll0, PyData.depth, PyData.depthAll, h2, h3, h4]
    exact ⟨by decide +kernel, by omega⟩
theorem natD_numB (ns : List Nat) : (natD ns).all numB = decide (∀ n ∈ ns, n < 20) := by
  rw [Bool.eq_iff_iff, List.all_eq_true, decide_eq_true_iff]
  constructor
  · intro h n hn
    have := of_decide_eq_true (h (.int (n : Int)) (List.mem_map.mpr ⟨n, hn, rfl⟩))
    omega
  · intro h d hd
    obtain ⟨n, hn, rfl⟩ := List.mem_map.mp hd
    have := h n hn
    exact decide_eq_true ⟨by omega, by omega⟩
theorem natD_nodup (ns : List Nat) : ((natD ns).map intOf).Nodup ↔ ns.Nodup := by
  unfold natD
  rw [List.map_map]
  constructor
  · intro h
    exact (List.pairwise_map.mp h).imp fun {a b} h z => h (by rw [z])
  · intro h
    refine List.pairwise_map.mpr (h.imp fun {a b} h z => h ?_)
    exact Int.ofNat.inj z
instance (x : Deed) : Decidable (okD x) := by
  cases x with
  | fall => exact isTrue True.intro
  | bake ns p k => exact inferInstanceAs (Decidable (_ ∧ _ ∧ _))
theorem numsB_nat (ns : List Nat) : numsB (.tuple (natD ns)) = decide (ns ≠ [] ∧ ns.Nodup ∧ ∀ n ∈ ns, n < 20) := by
  show (!(natD ns).isEmpty && ((natD ns).all numB && decide _)) = _
  rw [natD_numB, Bool.eq_iff_iff, Bool.and_eq_true, Bool.and_eq_true, decide_eq_true_iff, decide_eq_true_iff, decide_eq_true_iff, natD_nodup]
  have : (!(natD ns).isEmpty) = true ↔ ns ≠ [] := by
    cases ns <;> simp [natD]
  rw [this]
  exact ⟨fun ⟨a, b, c⟩ => ⟨a, c, b⟩, fun ⟨a, c, b⟩ => ⟨a, b, c⟩⟩
theorem deedB_deed (x : Deed) : deedB (deedD x) = decide (okD x) := by
  cases x with
  | fall => decide +kernel
  | bake ns p k =>
    show deedB (.tuple [.str "bake", .tuple (natD ns), .int (p : Int), .bool k]) = _
    rw [deedB_tup, show PyData.eqv (.tuple [.str "bake", .tuple (natD ns), .int (p : Int), .bool k]) fallD = false from eqv_deed (.bake ns p k), bakeB_4, numsB_nat, decide_eq_true rfl]
    have h1 : decide (0 ≤ intOf (.int (p : Int))) = true := decide_eq_true (by show 0 ≤ (p : Int); omega)
    rw [h1]
    show (false || (true && (decide _ && (true && (true && true))))) = _
    simp only [Bool.false_or, Bool.true_and, Bool.and_true]
    exact decide_eq_decide.mpr Iff.rfl
theorem ask_deed (x : Deed) (h : okD x) (hl : ∀ ns p k, x = .bake ns p k → ns.length ≤ 1000) : AskD (deedD x) := by
  refine ⟨shaped_deed x, fun ds e => ?_⟩
  cases x with
  | fall =>
    cases e
    exact ⟨by decide, fun h => by cases h⟩
  | bake ns p k =>
    cases e
    refine ⟨by simp, fun _ => ⟨_, _, _, _, rfl, ?_, fun es e => ?_⟩⟩
    · have h1 := depth_nat ns
      have h2 := lay_nat ns
      simp [SeqAt.shaped, PyData.canLay0, PyData.depth, h2]
      omega
    · cases e
      unfold natD
      rw [List.length_map]
      exact hl ns p k rfl
theorem fall_inv {H : Hp} {v : V} (h : Dt H v (deedD .fall)) : ∃ t, v = .ref t ∧ H t = some (.tup [.str "fall"]) := by
  obtain ⟨t, xs, rfl, e, r⟩ := h.tup_inv
  cases r with
  | cons h0 r =>
    cases r
    obtain rfl := h0.str_inv
    exact ⟨t, rfl, e⟩
def layD (l : List Int) : PyData := .tuple (intsD l)
/-- a list of layers -/
def LaysP (H : Hp) (a : Addr) (ls : List (List Int)) : Prop := ∃ xs, H a = some (.lst xs) ∧ DnAll H xs (ls.map layD)
theorem LaysP.mono {H H' : Hp} {a : Addr} {ls : List (List Int)} (s : Same H H') (h : LaysP H a ls) : LaysP H' a ls := by
  obtain ⟨xs, e, d⟩ := h
  exact ⟨xs, s _ _ e, d.mono s⟩
theorem Dn.lay {H : Hp} {v : V} {l : List Int} (h : Dn H v (layD l)) : ∃ t, v = .ref t ∧ H t = some (.tup (l.map V.int)) := by
  obtain ⟨t, xs, rfl, e, r⟩ := h.dt.tup_inv
  rw [r.intsD_inv] at e
  exact ⟨t, rfl, e⟩
theorem layOf {H : Hp} {t : Addr} {l : List Int} (e : H t = some (.tup (l.map V.int))) : Dn H (.ref t) (layD l) := .tup e (DnAll.intsD l)
theorem DnAll.get {H : Hp} : ∀ {vs : List V} {ds : List PyData} {i : Nat} {v : V}, DnAll H vs ds → vs[i]? = some v → ∃ d, ds[i]? = some d ∧ Dn H v d
  | _, _, 0, _, .cons h _, e => by cases e; exact ⟨_, rfl, h⟩
  | _, _, i + 1, _, .cons _ t, e => DnAll.get (i := i) t e
  | _, _, _, _, .nil, e => by simp at e
theorem DnAll.get2 {H : Hp} : ∀ {vs : List V} {ds : List PyData} {i : Nat} {d : PyData}, DnAll H vs ds → ds[i]? = some d → ∃ v, vs[i]? = some v ∧ Dn H v d
  | _, _, 0, _, .cons h _, e => by cases e; exact ⟨_, rfl, h⟩
  | _, _, i + 1, _, .cons _ t, e => DnAll.get2 (i := i) t e
  | _, _, _, _, .nil, e => by simp at e
theorem DnAll.take {H : Hp} : ∀ {vs : List V} {ds : List PyData} (n : Nat), DnAll H vs ds → DnAll H (vs.take n) (ds.take n)
  | _, _, 0, _ => .nil
  | _, _, n + 1, .nil => .nil
  | _, _, n + 1, .cons h t => .cons h (DnAll.take n t)
theorem DnAll.drop {H : Hp} : ∀ {vs : List V} {ds : List PyData} (n : Nat), DnAll H vs ds → DnAll H (vs.drop n) (ds.drop n)
  | _, _, 0, h => h
  | _, _, n + 1, .nil => .nil
  | _, _, n + 1, .cons _ t => DnAll.drop n t
theorem DnAll.pickI {H : Hp} {vs : List V} {ds : List PyData} (h : DnAll H vs ds) : ∀ I : List Nat, DnAll H (I.filterMap fun i => vs[i]?) (I.filterMap fun i => ds[i]?)
  | [] => .nil
  | i :: I => by
    rw [List.filterMap_cons, List.filterMap_cons]
    cases hv : vs[i]? with
    | some v =>
      obtain ⟨d, hd, hn⟩ := h.get hv
      rw [hd]
      exact .cons hn (DnAll.pickI h I)
    | none =>
      have : ds[i]? = none := by
        rw [List.getElem?_eq_none_iff] at hv ⊢
        have := h.length
        omega
      rw [this]
      exact DnAll.pickI h I
theorem DnAll.rest {H : Hp} {vs : List V} {ds : List PyData} (ns : List Nat) (h : DnAll H vs ds) : DnAll H (restL vs ns) (restL ds ns) := by
  rw [rest_eq ns vs.length vs rfl, rest_eq ns ds.length ds rfl, h.length]
  exact h.pickI _
theorem inV_nat {n : Nat} : ∀ {ns : List Nat}, inV (.int (n : Int)) (natV ns) = decide (n ∈ ns)
  | [] => rfl
  | m :: ns => by
    have ih := inV_nat (n := n) (ns := ns)
    have : inV (.int (n : Int)) (natV (m :: ns)) = (eqV (.int (m : Int)) (.int (n : Int)) || inV (.int (n : Int)) (natV ns)) := rfl
    rw [this, ih, Bool.eq_iff_iff, Bool.or_eq_true, decide_eq_true_iff, decide_eq_true_iff, List.mem_cons]
    have : eqV (.int (m : Int)) (.int (n : Int)) = true ↔ n = m := by
      simp [eqV]
      omega
    rw [this]
theorem flat_nat (ns : List Nat) : (natV ns).all flatV = true := by
  rw [List.all_eq_true]
  intro v hv
  obtain ⟨n, _, rfl⟩ := List.mem_map.mp hv
  rfl
def spLoses : Sp := fun vs H Q _ => ∃ (a : Addr) (v : V) (ls : List (List Int)) (x : Deed), vs = [.ref a, v] ∧ LaysP H a ls ∧ Dt H v (deedD x) ∧ Q (.bl (losesM ls x)) H
def spBehind : Sp := fun vs H Q _ => ∃ (a : Addr) (v : V) (day : Int) (ls : List (List Int)) (x : Deed) (m : Nat), vs = [.ref a, v, .int day] ∧ LaysP H a ls ∧ Dt H v (deedD x) ∧ okD x ∧ manyB ls.length x = some m ∧ ls.length ≤ 1000 ∧ ls.flatten.length ≤ 1000 ∧
  ∀ H' b, Same H H' → H b = none → LaysP H' b (stepD ls day x) → Q (.ref b) H'
def fallV (H : Hp) (l : List Int) (v : V) : Prop := match fallIn l with
  | some (a, b) => ∃ t, v = .ref t ∧ H t = some (.tup [.int a, .int b])
  | none => v = .non
theorem pick_all {α : Type} {xs : List α} : ∀ {ns : List Nat}, (∀ n ∈ ns, n < xs.length) → (pickL xs ns).length = ns.length
  | [], _ => rfl
  | n :: ns, h => by
    have ih := pick_all (xs := xs) (ns := ns) fun m hm => h m (List.mem_cons_of_mem _ hm)
    unfold pickL at ih ⊢
    rw [List.filterMap_cons, List.getElem?_eq_getElem (h n List.mem_cons_self)]
    simp only [List.length_cons]
    rw [ih]
def spFallP : Sp := fun vs H Q _ => ∃ (a : Addr) (ls : List (List Int)), vs = [.ref a] ∧ LaysP H a ls ∧ ls.length ≤ 1000 ∧ ls.flatten.length ≤ 1000 ∧ ∀ H' v, Same H H' → fallV H' ls.flatten v → Q v H'
def manyV (m : Nat) (x : Deed) : V := match manyB m x with
  | some m' => .int (m' : Int)
  | none => .non
def spMany : Sp := fun vs H Q _ => ∃ (m : Nat) (v : V) (x : Deed), vs = [.int (m : Int), v] ∧ Dt H v (deedD x) ∧ okD x ∧ Q (manyV m x) H
section
variable {P : Program} {w : World} {K : PySem.W.Frag} {mg : Str → Option Value} {base : Heap} {C_Evidence C_Good C_Bad C_RightRounds C_WrongRound C_BadScript D_FALL : Addr}
theorem cal_many_behind (T : TX P K mg C_Evidence C_Good C_Bad C_RightRounds C_WrongRound C_BadScript D_FALL) : Cal P w K mg base 1 "many_behind" (spMany) [] := by
  obtain ⟨f0, fd, D, dn⟩ := T.d_many_behind
  refine cal0 D (D.fn.binds dn fun _ _ _ _ _ _ us hl => match us, hl with | [_, _], _ => rfl) .nil sc_many_behind (by walk_at "len") (fun cdv A outer s H vs Q E hr h => ?_)
  obtain ⟨m, v, x, rfl, e, ok, k⟩ := h
  refine ⟨_, (pss_cons (ps_if (pt_cmpR (op_eqD hr.units) (pv 1) (pe_gc rfl T.gt_FALL) (nomark _)) (pss_one (ps_ret (pe_op op_add (pv 0) pe_int))) pss_nil)
      (pss_cons (ps_s 2 sc_many_behind.nd (pe_op op_add (pe_op op_sub (pv 0) (pe_callB cr_lenS (by rfl) T.b_len (by decide +kernel) (pa_cons (pe_ix ix_tup (pv 1) pe_int (fun _ _ => rfl)) pa_nil))) pe_int))
      (pss_one (ps_ret (pe_ifExp (PW.pt (pw_and (pt_cmpR op_lt (pe_callB (cr_maxT rfl) (by rfl) T.b_max (by decide +kernel) (pa_cons (pe_ix ix_tup (pv 1) pe_int (fun _ _ => rfl)) pa_nil)) (pv 0) (nomark _)) (pw_and1 (pt_cmpR op_lt (pe_ix ix_tup (pv 1) pe_int (fun _ _ => rfl)) (pv 2) (nomark _))))) (pv 2) pe_non))))), ?_⟩
  walk_at "rd"
  cases x with
  | fall =>
    obtain ⟨t, rfl, et⟩ := fall_inv e
    refine rd_eqDp e (fall_dp T.e_FALL H) (shaped_deed _) (by decide +kernel) ?_
    rw [eqv_deed, show isFall Deed.fall = true from rfl]
    refine ⟨_, rfl, ?_⟩
    walk_at "rd"
    exact k
  | bake ns p kp =>
    obtain ⟨t, u, rfl, et, eu⟩ := bake_inv e
    refine rd_eqDp e (fall_dp T.e_FALL H) (shaped_deed _) (by decide +kernel) ?_
    rw [eqv_deed, show isFall (Deed.bake ns p kp) = false from rfl]
    refine ⟨_, rfl, ?_⟩
    walk_at "rd"
    refine rd_ixT et rfl ?_
    walk_at "rd"
    refine rd_lenT eu ?_
    have ln : (natV ns).length = ns.length := by unfold natV; rw [List.length_map]
    have l0 : 0 < ns.length := List.length_pos_iff.mpr ok.1
    rw [ln]
    walk_at "rd"
    refine rd_ixT et rfl ?_
    walk_at "rd"
    refine rd_maxT (ns := ns.map fun (n : Nat) => (n : Int)) (SqT.of (by rw [List.map_map]; exact eu)) (by rw [List.length_map]; exact l0) fun mx hm1 hm2 => ?_
    walk_at "rd"
    have e1 : mx < (m : Int) ↔ ∀ n ∈ ns, n < m := by
      constructor
      · intro h n hn
        have := hm2 (n : Int) (List.mem_map.mpr ⟨n, hn, rfl⟩)
        omega
      · intro h
        obtain ⟨n, hn, rfl⟩ := List.mem_map.mp hm1
        have := h n hn
        omega
    have kk : Q (if (∀ n ∈ ns, n < m) ∧ p < m + 1 - ns.length then .int ((m + 1 - ns.length : Nat) : Int) else .non) H := by
      have : manyV m (.bake ns p kp) = if (∀ n ∈ ns, n < m) ∧ p < m + 1 - ns.length then .int ((m + 1 - ns.length : Nat) : Int) else .non := by
        unfold manyV
        simp only [manyB]
        by_cases c : (∀ n ∈ ns, n < m) ∧ p < m + 1 - ns.length
        · rw [if_pos c, if_pos c]
        · rw [if_neg c, if_neg c]
      rw [← this]
      exact k
    refine rd_ite (fun c => ?_) (fun c => ?_)
    · walk_at "rd"
      refine rd_ixT et rfl ?_
      walk_at "rd"
      refine rd_ite (fun c2 => ?_) (fun c2 => ?_)
      · walk_at "rd"
        rw [if_pos ⟨e1.mp c, by omega⟩] at kk
        rw [show (m : Int) - (ns.length : Int) + 1 = ((m + 1 - ns.length : Nat) : Int) by omega]
        exact kk
      · walk_at "rd"
        rw [if_neg (fun z => c2 (by have := z.2; omega))] at kk
        exact kk
    · walk_at "rd"
      rw [if_neg (fun z => c (e1.mpr z.1))] at kk
      exact kk
theorem cal_loses_marks (T : TX P K mg C_Evidence C_Good C_Bad C_RightRounds C_WrongRound C_BadScript D_FALL) : Cal P w K mg base 1 "loses_marks" (spLoses) [] := by
  obtain ⟨f0, fd, D, dn⟩ := T.d_loses_marks
  refine cal0 D (D.fn.binds dn fun _ _ _ _ _ _ us hl => match us, hl with | [_, _], _ => rfl) .nil sc_loses_marks (by walk_at "len") (fun cdv A outer s H vs Q E hr h => ?_)
  obtain ⟨a, v, ls, x, rfl, ⟨xs, ea, da⟩, e, k⟩ := h
  have lx : xs.length = ls.length := by have := da.length; rw [List.length_map] at this; exact this
  refine ⟨_, (pss_one (ps_ret (pe_and (pe_cmpR (op_neD hr.units) (pv 1) (pe_gc rfl T.gt_FALL) (nomark _)) (pe_and (pe_not (pe_ix ix_tup (pv 1) pe_int (fun _ _ => rfl))) (pe_one (pe_cmpR op_lt (pe_ix ix_tup (pv 1) pe_int (fun _ _ => rfl)) (pe_op op_sub (pe_callB cr_lenS (by rfl) T.b_len (by decide +kernel) (pa_cons (pv 0) pa_nil)) pe_int) (nomark _))))))), ?_⟩
  walk_at "rd"
  cases x with
  | fall =>
    refine rd_neDp e (fall_dp T.e_FALL H) (shaped_deed _) (by decide +kernel) ?_
    rw [eqv_deed, show isFall Deed.fall = true from rfl]
    walk_at "rd"
    exact k
  | bake ns p kp =>
    obtain ⟨t, u, rfl, et, eu⟩ := bake_inv e
    refine rd_neDp e (fall_dp T.e_FALL H) (shaped_deed _) (by decide +kernel) ?_
    rw [eqv_deed, show isFall (Deed.bake ns p kp) = false from rfl]
    walk_at "rd"
    refine rd_ixT et rfl ?_
    walk_at "rd"
    have k : Q (.bl (!kp && decide (p + 1 < ls.length))) H := k
    cases kp
    · walk_at "rd"
      refine rd_ixT et rfl ?_
      walk_at "rd"
      refine rd_lenL ea ?_
      walk_at "rd"
      rw [show decide ((p : Int) < (xs.length : Int) - 1) = decide (p + 1 < ls.length) from decide_eq_decide.mpr (by omega)]
      exact k
    · walk_at "rd"
      exact k
theorem cal_behind_deed (T : TX P K mg C_Evidence C_Good C_Bad C_RightRounds C_WrongRound C_BadScript D_FALL) : Cal P w K mg base 1 "behind_deed" (spBehind) [] := by
  obtain ⟨f0, fd, D, dn⟩ := T.d_behind_deed
  refine cal0 D (D.fn.binds dn fun _ _ _ _ _ _ us hl => match us, hl with | [_, _, _], _ => rfl) .nil sc_behind_deed (by walk_at "len") (fun cdv A outer s H vs Q E hr h => ?_)
  obtain ⟨a, v, day, ls, x, m, rfl, hL, e, ok, hm, ll, lf, k⟩ := h
  obtain ⟨xs, ea, da⟩ := hL
  have lx : xs.length = ls.length := by have := da.length; rw [List.length_map] at this; exact this
  refine ⟨_, (pss_cons (ps_if (pt_cmpR (op_eqD hr.units) (pv 1) (pe_gc rfl T.gt_FALL) (nomark _)) (pss_one (ps_ret (pe_lst (pa_cons (pe_tup (pa_cons (pv 2) pa_nil)) (pa_star (pv 0) pa_nil))))) pss_nil)
      (pss_cons (ps_s 3 sc_behind_deed.nd (pe_tup pa_nil))
      (pss_cut (ps_for PassesOwn.never rfl (pi_tup (pe_ix ix_tup (pv 1) pe_int (fun _ _ => rfl))) (pg_n 4 sc_behind_deed.nd) (pss_one (ps_s 3 sc_behind_deed.nd (pe_tup (pa_star (pv 3) (pa_star (pe_ix ix_list (pv 0) (pv 4) (fun _ _ => rfl)) pa_nil))))))
      (pss_cut (ps_setLc (i := 5) (own := [("place", 6), ("layer", 7)]) (g := gTup _ 2 (gCons (gName 6) (gCons (gName 7) gNil))) (tt := _) rfl sc_behind_deed.nd rfl rfl (sw_true rfl rfl rfl (by decide +kernel)) (pi_enum (by rfl) T.b_enumerate (pa_cons (pv 0) pa_nil)) (blkOk_by (own := [("place", 6), ("layer", 7)]) (N := N_behind_deed) (sc := fnScope s_behind_deed) (by decide +kernel)) (fun _ _ _ _ _ => (pg_tup rfl (pgs_cons (pg_n 6 sc_behind_deed.nd) (pgs_cons (pg_n 7 sc_behind_deed.nd) pgs_nil)))) (fun _ _ _ _ _ => (pts_one (pt_cmpR (opK (fun K => rIn K true) K op_notIn_seq) (pv 6) (pe_ix (ixK rIxT K ix_tup) (pv 1) pe_int (fun _ _ => rfl)) (by with_unfolding_all rfl)))) (fun _ _ _ _ _ => (pv 7)))
      (pss_one (ps_ret (pe_lst (pa_star (pe_slice sl_list (pv 5) po_none (po_some (pe_ix ix_tup (pv 1) pe_int (fun _ _ => rfl)))) (pa_cons (pv 3) (pa_star (pe_slice sl_list (pv 5) (po_some (pe_ix ix_tup (pv 1) pe_int (fun _ _ => rfl))) po_none) pa_nil)))))))))), ?_⟩
  walk_at "rd"
  cases x with
  | fall =>
    refine rd_eqDp e (fall_dp T.e_FALL H) (shaped_deed _) (by decide +kernel) ?_
    rw [eqv_deed, show isFall Deed.fall = true from rfl]
    refine ⟨_, rfl, ?_⟩
    walk_at "rd"
    refine rd_newT (by simp) fun t H1 _ s1 et _ => ?_
    walk_at "rd"
    refine ⟨a, xs, rfl, .inr (SqL.of (s1 _ _ ea)), ?_⟩
    walk_at "rd"
    refine rd_newL (by simp; omega) fun b H2 hb s2 eb _ => ?_
    have s12 := s1.trans s2
    refine k H2 b s12 (none_back s1 hb) ⟨_, eb, ?_⟩
    rw [List.append_nil]
    exact .cons (layOf (l := [day]) (s2 _ _ et)) (da.mono s12)
  | bake ns p kp =>
    obtain ⟨t, u, rfl, et, eu⟩ := bake_inv e
    obtain ⟨c1, c2, c3⟩ := manyB_bake hm
    refine rd_eqDp e (fall_dp T.e_FALL H) (shaped_deed _) (by decide +kernel) ?_
    rw [eqv_deed, show isFall (Deed.bake ns p kp) = false from rfl]
    refine ⟨_, rfl, ?_⟩
    walk_at "rd"
    refine rd_newT (by simp) fun T0 H1 _ s1 eT0 _ => ?_
    walk_at "rd"
    have lns : ns.length ≤ 1000 := by
      have := (rest_pick ok.2.1 c1).length_eq
      rw [List.length_append] at this
      have h3 := pick_all c1
      omega
    refine ⟨fun σ H' => ∃ (T : Addr) (v4 : Option V), Same H H' ∧ H' T = some (.tup ((pickL ls ns).flatten.map V.int)) ∧ σ = [some (.ref a), some (.ref t), some (.int day), some (.ref T), v4, none, none, none], ?_, ?_⟩
    · walk_at "rd"
      refine rd_ixT (s1 _ _ et) rfl ?_
      refine rd_tpR (SqT.of (s1 _ _ eu)) ?_
      refine forR_tup (xs := natV ns) (fun j σ H' => ∃ (T : Addr) (v4 : Option V), Same H H' ∧ H' T = some (.tup ((pickL ls (ns.take j)).flatten.map V.int)) ∧ σ = [some (.ref a), some (.ref t), some (.int day), some (.ref T), v4, none, none, none]) (fun j σ H' ⟨_, _, s, _⟩ => SqT.of (s _ _ eu)) ⟨T0, _, s1, eT0, rfl⟩ ?_ ?_
      · rintro j y σ H2 hy ⟨T, v4, s2, eT, rfl⟩
        obtain ⟨n, hn, rfl⟩ : ∃ n : Nat, ns[j]? = some n ∧ y = V.int (n : Int) := by
          unfold natV at hy
          rw [List.getElem?_map] at hy
          cases q : ns[j]? with
          | none => rw [q] at hy; cases hy
          | some n => rw [q] at hy; exact ⟨n, rfl, (Option.some.inj hy).symm⟩
        have hnl := c1 n (List.mem_of_getElem? hn)
        obtain ⟨vl, hvl, dl⟩ := DnAll.get2 (da.mono s2) (i := n) (d := layD ls[n]) (by rw [List.getElem?_map, List.getElem?_eq_getElem hnl]; rfl)
        obtain ⟨tl, rfl, etl⟩ := dl.lay
        walk_at "rd"
        refine ⟨T, _, rfl, .inl (SqT.of eT), ?_⟩
        walk_at "rd"
        refine rd_ixL (s2 _ _ ea) (atI_nat' hvl) ?_
        refine ⟨tl, _, rfl, .inl (SqT.of etl), ?_⟩
        walk_at "rd"
        have ep : pickL ls (ns.take (j + 1)) = pickL ls (ns.take j) ++ [ls[n]] := by
          rw [List.take_add_one, hn]
          show pickL ls (ns.take j ++ [n]) = _
          rw [pick_snoc, List.getElem?_eq_getElem hnl]
        have pl := pick_len (ls := ls) (ms := ns.take (j + 1)) (ok.2.1.sublist (List.take_sublist _ _)) (fun n hn => c1 n (List.mem_of_mem_take hn))
        have pl0 := pick_len (ls := ls) (ms := ns.take j) (ok.2.1.sublist (List.take_sublist _ _)) (fun n hn => c1 n (List.mem_of_mem_take hn))
        rw [ep, List.flatten_append, List.length_append] at pl
        simp only [List.flatten_cons, List.flatten_nil, List.append_nil] at pl
        refine rd_newT (by simp only [List.length_append, List.length_map, List.length_nil]; omega) fun T2 H3 _ s3 eT2 _ => ?_
        refine ⟨T2, _, s2.trans s3, ?_, rfl⟩
        rw [eT2, ep, List.flatten_append, List.map_append]
        simp
      · rintro σ H2 ⟨T, v4, s2, eT, rfl⟩
        unfold natV at eT
        rw [List.length_map, List.take_length] at eT
        exact ⟨T, v4, s2, eT, rfl⟩
    rintro σ H2 ⟨T, v4, s2, eT, rfl⟩
    walk_at "rd"
    refine ⟨fun σ H' => ∃ (R : Addr), Same H2 H' ∧ H' R = some (.lst (restL xs ns)) ∧ σ = [some (.ref a), some (.ref t), some (.int day), some (.ref T), v4, some (.ref R), none, none], ?_, ?_⟩
    · walk_at "rd"
      refine rd_enR (SqL.of (s2 _ _ ea)) ?_
      refine lcR_enum (xs := xs) (fun W i H' => Same H2 H' ∧ H' W = some (.lst (restL (xs.take i) ns))) (fun W i H' _ ⟨s, _⟩ => SqL.of ((s2.trans s) _ _ ea)) (fun W H' _ s e _ => ⟨s, e⟩) ?_ ?_
      · rintro W i x H3 q H4 hW hx ⟨s3, eW⟩ _ s4 eq _
        have hi := (List.getElem?_eq_some_iff.mp hx).1
        refine rd_gtup eq rfl ?_
        walk_at "rd"
        refine ⟨rfl, ?_⟩
        walk_at "rd"
        refine rd_ixT (((s2.trans s3).trans s4) _ _ et) rfl ?_
        refine ⟨u, _, rfl, .inr (SqT.of (((s2.trans s3).trans s4) _ _ eu)), rfl, flat_nat ns, ?_⟩
        rw [inV_nat]
        refine ⟨_, rfl, ?_⟩
        have es : restL (xs.take (i + 1)) ns = restL (xs.take i) ns ++ (if i ∈ ns then [] else [x]) := by
          rw [List.take_add_one, hx]
          show restL (xs.take i ++ [x]) ns = _
          rw [rest_snoc, List.length_take, Nat.min_eq_left (by omega)]
        by_cases c : i ∈ ns
        · rw [decide_eq_true c]
          refine rd_iteFF ?_
          refine ⟨s3.trans s4, ?_⟩
          rw [es, if_pos c, List.append_nil]
          exact s4 _ _ eW
        · rw [decide_eq_false c]
          refine rd_iteTT ?_
          walk_at "rd"
          have lr : (restL (xs.take i) ns).length ≤ xs.length := by
            unfold restL
            rw [List.length_map]
            refine Nat.le_trans (List.length_filter_le _ _) ?_
            rw [List.length_zipIdx, List.length_take]
            exact Nat.min_le_right _ _
          refine rd_lcE (s4 _ _ eW) (by omega) fun H5 eH5 eW5 => ?_
          refine ⟨by rw [eH5]; exact Same.mut (s3.trans s4) hW, ?_⟩
          rw [eW5, es, if_neg c]
      · rintro W H3 hW ⟨s3, eW⟩
        rw [List.take_length] at eW
        walk_at "rd"
        exact ⟨W, s3, eW, rfl⟩
    rintro σ H3 ⟨R, s3, eR, rfl⟩
    walk_at "rd"
    have s13 := s2.trans s3
    refine rd_ixT (s13 _ _ et) rfl ?_
    walk_at "rd"
    refine rd_slL (SqL.of eR) fun R1 H4 _ s4 eR1 _ => ?_
    rw [cutN_take] at eR1
    refine ⟨R1, _, rfl, .inr (SqL.of eR1), ?_⟩
    walk_at "rd"
    refine rd_ixT ((s13.trans s4) _ _ et) rfl ?_
    walk_at "rd"
    refine rd_slL (SqL.of (s4 _ _ eR)) fun R2 H5 _ s5 eR2 _ => ?_
    rw [cutN_drop] at eR2
    refine ⟨R2, _, rfl, .inr (SqL.of eR2), ?_⟩
    walk_at "rd"
    have lr : (restL xs ns).length ≤ xs.length := by
      have := (rest_pick ok.2.1 (xs := xs) (fun n hn => by rw [lx]; exact c1 n hn)).length_eq
      rw [List.length_append] at this
      omega
    refine rd_newL (by simp; omega) fun b H6 hb s6 eb _ => ?_
    have s26 := s3.trans (s4.trans (s5.trans s6))
    refine k H6 b (s2.trans s26) (none_back (s2.trans (s3.trans (s4.trans s5))) hb) ⟨_, eb, ?_⟩
    have dr : DnAll H6 (restL xs ns) ((restL ls ns).map layD) := by
      rw [← restL_map]
      exact (da.mono (s2.trans s26)).rest ns
    show DnAll H6 _ ((insP (restL ls ns) p (pickL ls ns).flatten).map layD)
    rw [← insP_map]
    unfold insP
    have h1 := (dr.take p).append (.cons (layOf (s26 _ _ eT)) (dr.drop p))
    simpa using h1
theorem cal_falling_pair (T : TX P K mg C_Evidence C_Good C_Bad C_RightRounds C_WrongRound C_BadScript D_FALL) : Cal P w K mg base 1 "falling_pair" (spFallP) [] := by
  obtain ⟨f0, fd, D, dn⟩ := T.d_falling_pair
  refine cal0 D (D.fn.binds dn fun _ _ _ _ _ _ us hl => match us, hl with | [_], _ => rfl) .nil sc_falling_pair (by walk_at "len") (fun cdv A outer s H vs Q E hr h => ?_)
  obtain ⟨a, ls, rfl, ⟨xs, ea, da⟩, ll, lf, k⟩ := h
  have lx : xs.length = ls.length := by have := da.length; rw [List.length_map] at this; exact this
  refine ⟨_, (pss_cut (ps_setLc2 (i := 1) (wi1 := iTup K _) (own := [("layer", 2), ("day", 3)]) (g := gName 2) (tt := tYes) (g1 := gName 3) (tt1 := tYes) (vs1 := [3]) rfl sc_falling_pair.nd rfl rfl (sw_true rfl rfl rfl (by decide +kernel)) (pi_list (pv 0)) (blkOk_by (own := [("layer", 2), ("day", 3)]) (N := N_falling_pair) (sc := fnScope s_falling_pair) (by decide +kernel)) (by decide) (fun _ _ _ _ _ => (pg_n 2 sc_falling_pair.nd)) (fun _ _ _ _ _ => pts_nil) (fun _ _ _ _ _ => (pi_tup (pv 2))) (fun _ _ _ _ _ => (pg_n 3 sc_falling_pair.nd)) (fun _ _ _ _ _ => pts_nil) (fun _ _ _ _ _ => (pv 3)))
      (pss_cut (ps_for PassesOwn.never rfl (pi_zip rfl T.b_zip (pa_cons (pv 1) (pa_cons (pe_slice sl_list (pv 1) (po_some pe_int) po_none) pa_nil))) (pg_tup rfl (pgs_cons (pg_n 4 sc_falling_pair.nd) (pgs_cons (pg_n 5 sc_falling_pair.nd) pgs_nil))) (pss_one (ps_if (pt_cmpR op_lt (pv 4) (pv 5) (nomark _)) (pss_one (ps_ret (pe_tup (pa_cons (pv 4) (pa_cons (pv 5) pa_nil))))) pss_nil)))
      (pss_one (ps_ret pe_non)))), ?_⟩
  walk_at "rd"
  refine ⟨fun σ H' => ∃ (D : Addr), Same H H' ∧ H' D = some (.lst (ls.flatten.map V.int)) ∧ σ = [some (.ref a), some (.ref D), none, none, none, none], ?_, ?_⟩
  · walk_at "rd"
    refine rd_lsR (SqL.of ea) ?_
    refine lc2R_lst (xs := xs) (fun W i H' => Same H H' ∧ H' W = some (.lst ((ls.take i).flatten.map V.int))) (fun W i H' _ ⟨s, _⟩ => SqL.of (s _ _ ea)) (fun W H' _ s e _ => ⟨s, e⟩) ?_ ?_
    · rintro W i x H1 hW hx ⟨s1, eW⟩
      obtain ⟨d, hd, dn⟩ := (da.mono s1).get hx
      obtain ⟨l, hl, rfl⟩ : ∃ l, ls[i]? = some l ∧ d = layD l := by
        rw [List.getElem?_map] at hd
        cases q : ls[i]? with
        | none => rw [q] at hd; cases hd
        | some l => rw [q] at hd; exact ⟨l, rfl, (Option.some.inj hd).symm⟩
      obtain ⟨tl, rfl, etl⟩ := dn.lay
      have el : (ls.take (i + 1)).flatten = (ls.take i).flatten ++ l := by
        rw [List.take_add_one, hl, List.flatten_append]
        simp
      have lfl : (ls.take i).flatten.length + l.length ≤ 1000 := by
        have h1 := congrArg List.length el
        rw [List.length_append] at h1
        have h2 : (ls.take (i + 1)).flatten.length ≤ ls.flatten.length := by
          have := congrArg (fun z => z.flatten.length) (List.take_append_drop (i + 1) ls)
          simp only [List.flatten_append, List.length_append] at this
          omega
        omega
      walk_at "rd"
      refine ⟨rfl, ?_⟩
      walk_at "rd"
      refine rd_tpR (SqT.of etl) ?_
      refine lc2I_tup (xs := l.map V.int) (fun j H' => Same H H' ∧ H' W = some (.lst (((ls.take i).flatten ++ l.take j).map V.int)) ∧ H' tl = some (.tup (l.map V.int))) (fun j H' ⟨_, _, e⟩ => SqT.of e) ⟨s1, by rw [List.take_zero, List.append_nil]; exact eW, etl⟩ ?_ ?_
      · rintro j x H2 hx2 ⟨s2, eW2, etl2⟩
        obtain ⟨m, hm, rfl⟩ : ∃ m, l[j]? = some m ∧ x = V.int m := by
          rw [List.getElem?_map] at hx2
          cases q : l[j]? with
          | none => rw [q] at hx2; cases hx2
          | some m => rw [q] at hx2; exact ⟨m, rfl, (Option.some.inj hx2).symm⟩
        walk_at "rd"
        refine ⟨rfl, ?_⟩
        walk_at "rd"
        refine rd_lcE eW2 (by rw [List.length_map, List.length_append, List.length_take]; omega) fun H3 eH3 eW3 => ?_
        refine ⟨by rw [eH3]; exact Same.mut s2 hW, ?_, ?_⟩
        · rw [eW3, List.take_add_one, hm]
          simp
        · rw [eH3, upd_ne (fun z => by rw [← z, etl2] at eW2; cases eW2)]
          exact etl2
      · rintro H2 ⟨s2, eW2, _⟩
        rw [List.length_map, List.take_length] at eW2
        exact ⟨s2, by rw [el]; exact eW2⟩
    · rintro W H1 hW ⟨s1, eW⟩
      rw [lx, List.take_length] at eW
      walk_at "rd"
      exact ⟨W, s1, eW, rfl⟩
  rintro σ H1 ⟨D, s1, eD, rfl⟩
  walk_at "rd"
  obtain ⟨l, el⟩ : ∃ l, l = ls.flatten := ⟨_, rfl⟩
  rw [← el] at eD lf k
  refine ⟨fun σ H' => Same H1 H' ∧ fallIn l = none ∧ ∃ v2 v3 v4 v5, σ = [some (.ref a), some (.ref D), v2, v3, v4, v5], ?_, ?_⟩
  · walk_at "rd"
    refine rd_slL (SqL.of eD) fun D2 H2 _ s2 eD2 _ => ?_
    rw [show cutV (l.map V.int) (some 1) none = (l.map V.int).drop 1 from cutN_drop (m := 1)] at eD2
    walk_at "rd"
    refine rd_zpR (SqL.of (s2 _ _ eD)) (SqL.of eD2) ?_
    refine forR_zip (xs := l.map V.int) (ys := (l.map V.int).drop 1) (l.length - 1) (by rw [List.length_drop, List.length_map]; omega) (fun j σ H' => Same H1 H' ∧ Same H2 H' ∧ fallIn l = fallIn (l.drop j) ∧ ∃ v2 v3 v4 v5, σ = [some (.ref a), some (.ref D), v2, v3, v4, v5]) (fun j σ H' ⟨_, s, _⟩ => ⟨SqL.of (s _ _ (s2 _ _ eD)), SqL.of (s _ _ eD2)⟩) ⟨s2, Same.refl H2, by rw [List.drop_zero], _, _, _, _, rfl⟩ ?_ ?_
    · rintro j x y σ H3 q H4 hj hx hy ⟨s13, s23, ef, v2, v3, v4, v5, rfl⟩ _ s4 eq
      obtain ⟨m1, hm1, rfl⟩ : ∃ m, l[j]? = some m ∧ x = V.int m := by
        rw [List.getElem?_map] at hx
        cases q : l[j]? with
        | none => rw [q] at hx; cases hx
        | some m => rw [q] at hx; exact ⟨m, rfl, (Option.some.inj hx).symm⟩
      obtain ⟨m2, hm2, rfl⟩ : ∃ m, l[j + 1]? = some m ∧ y = V.int m := by
        rw [List.getElem?_drop, List.getElem?_map, Nat.add_comm] at hy
        cases q : l[j + 1]? with
        | none => rw [q] at hy; cases hy
        | some m => rw [q] at hy; exact ⟨m, rfl, (Option.some.inj hy).symm⟩
      have ed : l.drop j = m1 :: m2 :: l.drop (j + 1 + 1) := by
        obtain ⟨h1, h2⟩ := List.getElem?_eq_some_iff.mp hm1
        obtain ⟨h3, h4⟩ := List.getElem?_eq_some_iff.mp hm2
        rw [List.drop_eq_getElem_cons h1, List.drop_eq_getElem_cons h3, h2, h4]
      refine rd_gtup eq rfl ?_
      walk_at "rd"
      refine rd_ite (fun c => ?_) (fun c => ?_)
      · walk_at "rd"
        refine rd_newT (by simp) fun t H5 _ s5 et _ => ?_
        refine k H5 _ ((s1.trans s13).trans (s4.trans s5)) ?_
        unfold fallV
        have : fallIn l = some (m1, m2) := by
          rw [ef, ed]
          unfold fallIn
          rw [if_pos c]
        rw [this]
        exact ⟨t, rfl, et⟩
      · walk_at "rd"
        refine ⟨s13.trans s4, s23.trans s4, ?_, _, _, _, _, rfl⟩
        rw [ef, ed]
        conv => lhs; unfold fallIn
        rw [if_neg c]
        obtain ⟨h3, h4⟩ := List.getElem?_eq_some_iff.mp hm2
        rw [List.drop_eq_getElem_cons h3, h4]
    · rintro σ H3 ⟨s13, s23, ef, v2, v3, v4, v5, rfl⟩
      refine ⟨s13, ?_, _, _, _, _, rfl⟩
      rw [ef]
      cases hq : l.drop (l.length - 1) with
      | nil => rfl
      | cons y r =>
        have h1 := congrArg List.length hq
        rw [List.length_drop, List.length_cons] at h1
        have : r = [] := List.length_eq_zero_iff.mp (by omega)
        rw [this]
        rfl
  rintro σ H2 ⟨s2, ef, v2, v3, v4, v5, rfl⟩
  walk_at "rd"
  refine k H2 _ (s1.trans s2) ?_
  unfold fallV
  rw [ef]
end
end Sl

set_option Elab.async false
set_option linter.all false
set_option maxRecDepth 100000
set_option maxHeartbeats 8000000
set_option exponentiation.threshold 9000
namespace Sl
open PySem L2 C8 StX Silt
local macro_rules | `(tactic| walk_at "side") => `(tactic| first
  | exact cdivw (by omega) (by omega)
  | exact cmulw (by omega) (by omega) (by omega) (by omega)
  | exact Or.inr ⟨by omega, by omega⟩
  | exact Or.inl ⟨by omega, by omega⟩
  | omega
  | exact ⟨by omega, by omega, by decide⟩
  | decide)
local macro_rules | `(tactic| walk_at "rd1") => `(tactic| first
  | with_reducible refine rd_seq ?_
  | with_reducible refine rd_asg ?_
  | with_reducible refine rd_drop ?_
  | with_reducible refine rd_ret ?_
  | with_reducible refine rd_retN ?_
  | with_reducible refine rd_ifS ?_
  | ((with_reducible refine rd_var0 ?_); refine ⟨_, rfl, ?_⟩)
  | with_reducible refine rd_c ?_
  | with_reducible refine rd_op ?_
  | with_reducible refine rd_un ?_
  | with_reducible refine rd_I0 ?_
  | with_reducible refine rd_U ?_
  | ((with_reducible refine rd_I ?c ?_); (case c => walk_at "side"))
  | with_reducible refine rd_ipI ?_
  | with_reducible refine rd_eqI ?_
  | with_reducible refine rd_neI ?_
  | with_reducible refine rd_test ?_
  | with_reducible refine rd_tB ?_
  | with_reducible refine rd_bl ?_
  | with_reducible refine rd_not ?_
  | with_reducible refine rd_and ?_
  | with_reducible refine rd_or ?_
  | with_reducible refine rd_andV ?_
  | with_reducible refine rd_orV ?_
  | with_reducible refine rd_notV ?_
  | with_reducible refine rd_ifE ?_
  | with_reducible refine rd_chain ?_
  | with_reducible refine rd_chain3 ?_
  | with_reducible refine rd_nil ?_
  | with_reducible refine rd_cons ?_
  | with_reducible refine rd_call ?_
  | with_reducible refine rd_CB ?_
  | with_reducible refine rd_par ?_
  | with_reducible refine rd_par2 ?_
  | with_reducible refine rd_par3 ?_
  | with_reducible refine rd_par4 ?_
  | ((with_reducible refine rd_aug0 ?_); refine ⟨_, rfl, ?_⟩)
  | with_reducible refine rd_gname ?_
  | with_reducible refine rd_gcons ?_
  | with_reducible refine rd_gnil ?_
  | with_reducible refine rd_max ?_
  | with_reducible refine rd_min ?_
  | with_reducible refine rd_int1 ?_
  | with_reducible refine rd_abs ?_
  | with_reducible refine rd_lst ?_
  | with_reducible refine rd_tup ?_
  | with_reducible refine rd_bm ?_
  | with_reducible refine rd_fld0 ?_
  | with_reducible refine rd_sl0 ?_
  | with_reducible refine rd_noP ?_
  | with_reducible refine rd_part ?_
  | with_reducible refine rd_part2 ?_
  | with_reducible refine rd_meth0 ?_
  | with_reducible refine rd_star ?_
  | with_reducible refine rd_for ?_
  | with_reducible refine rd_rng1 ?_
  | with_reducible refine rd_rng2 ?_
  | with_reducible refine rd_rng3 ?_
  | with_reducible refine rd_iList ?_
  | with_reducible refine rd_iTup ?_
  | with_reducible refine rd_iEnum ?_
  | with_reducible refine rd_lc ?_
  | with_reducible refine rd_yes ?_
  | with_reducible refine rd_augS ?_
  | with_reducible refine rd_drawNew ?_
  | with_reducible refine rd_make0 ?_
  | with_reducible refine rd_next ?_
  | with_reducible refine rd_break ?_
  | with_reducible refine rd_cont ?_
  | with_reducible refine rd_iteTT ?_
  | with_reducible refine rd_iteFF ?_
  | with_reducible refine rd_iteNTT ?_
  | with_reducible refine rd_iteNFF ?_
  | with_reducible refine rd_con0 ?_
  | with_reducible refine rd_truO0 ?_
  | with_reducible refine rd_gfld0 ?_
  | with_reducible refine rd_dc ?_
  | with_reducible refine rd_iKeys ?_
  | with_reducible refine rd_dget0 ?_
  | with_reducible refine rd_dput0 ?_
  | with_reducible refine rd_dnot0 ?_
  | with_reducible refine rd_iEnumT ?_
  | with_reducible refine rd_raP0 ?_
  | with_reducible refine rd_xf0 ?_
  | with_reducible refine rd_cKw ?_
  | with_reducible refine rd_iStr ?_
  | with_reducible refine rd_gSub ?_
  | with_reducible refine rd_asgG ?_)
local macro_rules | `(tactic| walk_at "rd") => `(tactic| repeat walk_at "rd1")
local macro_rules | `(tactic| walk_at "len") => `(tactic| first
  | (intro vs H Q E h; obtain ⟨h2, _⟩ := h; rw [h2]; rfl)
  | (intro vs H Q E h; obtain ⟨_, h2, _⟩ := h; rw [h2]; rfl)
  | (intro vs H Q E h; obtain ⟨_, _, h2, _⟩ := h; rw [h2]; rfl)
  | (intro vs H Q E h; obtain ⟨_, _, _, h2, _⟩ := h; rw [h2]; rfl)
  | (intro vs H Q E h; obtain ⟨_, _, _, _, h2, _⟩ := h; rw [h2]; rfl)
  | (intro vs H Q E h; obtain ⟨_, _, _, _, _, h2, _⟩ := h; rw [h2]; rfl)
  | (intro vs H Q E h; obtain ⟨_, _, _, _, _, _, h2, _⟩ := h; rw [h2]; rfl)
  | (intro vs H Q E h; obtain ⟨_, _, _, _, _, _, _, h2, _⟩ := h; rw [h2]; rfl)
  | (intro vs H Q E h; obtain ⟨_, _, _, _, _, _, _, _, h2, _⟩ := h; rw [h2]; rfl)
  | (intro vs H Q E h; obtain ⟨_, _, _, _, _, _, _, _, _, h2, _⟩ := h; rw [h2]; rfl)
  | (intro vs H Q E h; obtain ⟨_, _, _, _, _, _, _, _, _, _, h2, _⟩ := h; rw [h2]; rfl)
  | (intro vs H Q E h; obtain ⟨_, _, _, _, _, _, _, _, _, _, _, h2, _⟩ := h; rw [h2]; rfl)
  | (intro vs H Q E h; obtain ⟨_, _, _, _, _, _, _, _, _, _, _, _, h2, _⟩ := h; rw [h2]; rfl))
/-- a list or a tuple in the heap -/
def SeqP (H : Hp) (a : Addr) (xs : List V) : Prop := H a = some (.lst xs) ∨ H a = some (.tup xs)
theorem SeqP.mono {H H' : Hp} {a : Addr} {xs : List V} (s : Same H H') (h : SeqP H a xs) : SeqP H' a xs := h.imp (s _ _) (s _ _)
theorem SeqP.q {K : PySem.W.Frag} {H : Hp} {a : Addr} {xs : List V} (h : SeqP H a xs) : SqQ K H a xs := h.imp SqL.of SqT.of
def DeedsP (H : Hp) (a : Addr) (ds : List Deed) : Prop := ∃ xs, SeqP H a xs ∧ DnAll H xs (ds.map deedD)
theorem DeedsP.mono {H H' : Hp} {a : Addr} {ds : List Deed} (s : Same H H') (h : DeedsP H a ds) : DeedsP H' a ds := by
  obtain ⟨xs, e, d⟩ := h
  exact ⟨xs, e.mono s, d.mono s⟩
theorem deeds_get {H : Hp} {xs : List V} {ds : List Deed} {i : Nat} {v : V} (d : DnAll H xs (ds.map deedD)) (h : xs[i]? = some v) : ∃ x, ds[i]? = some x ∧ Dn H v (deedD x) := by
  obtain ⟨e, he, hn⟩ := d.get h
  rw [List.getElem?_map] at he
  cases q : ds[i]? with
  | none => rw [q] at he; cases he
  | some x => rw [q] at he; cases he; exact ⟨x, rfl, hn⟩
theorem deeds_get2 {H : Hp} {xs : List V} {ds : List Deed} {i : Nat} {x : Deed} (d : DnAll H xs (ds.map deedD)) (h : ds[i]? = some x) : ∃ v, xs[i]? = some v ∧ Dn H v (deedD x) :=
  d.get2 (by rw [List.getElem?_map, h]; rfl)
theorem DeedsP.len {H : Hp} {xs : List V} {ds : List Deed} (d : DnAll H xs (ds.map deedD)) : xs.length = ds.length := by
  have := d.length
  rw [List.length_map] at this
  exact this
theorem okD_len {ns : List Nat} {p : Nat} {k : Bool} (h : okD (.bake ns p k)) : ns.length ≤ 20 := by
  have h1 := (rest_pick (xs := List.range 20) h.2.1 (fun n hn => by rw [List.length_range]; exact h.2.2 n hn)).length_eq
  have h2 := pick_all (xs := List.range 20) (ns := ns) (fun n hn => by rw [List.length_range]; exact h.2.2 n hn)
  rw [List.length_append, h2, List.length_range] at h1
  omega
theorem ask_ok {x : Deed} (h : okD x) : AskD (deedD x) := ask_deed x h fun ns p k e => by
  subst e
  have := okD_len h
  omega
/-- the lists of layers behind each deed -/
def RowsAll (H : Hp) (xs : List V) (rows : List (List (List Int))) : Prop := xs.length = rows.length ∧ ∀ (i : Nat) r, rows[i]? = some r → ∃ l, xs[i]? = some (V.ref l) ∧ LaysP H l r
theorem RowsAll.mono {H H' : Hp} {xs : List V} {rows : List (List (List Int))} (s : Same H H') (h : RowsAll H xs rows) : RowsAll H' xs rows := ⟨h.1, fun i r hr => by
  obtain ⟨l, e, p⟩ := h.2 i r hr
  exact ⟨l, e, p.mono s⟩⟩
def RowsP (H : Hp) (a : Addr) (rows : List (List (List Int))) : Prop := ∃ xs, H a = some (.lst xs) ∧ RowsAll H xs rows
theorem RowsP.mono {H H' : Hp} {a : Addr} {rows : List (List (List Int))} (s : Same H H') (h : RowsP H a rows) : RowsP H' a rows := by
  obtain ⟨xs, e, p⟩ := h
  exact ⟨xs, s _ _ e, p.mono s⟩
def wrongV (ds : List Deed) : V := match wrongF [] 0 ds with
  | some w => .int (w : Int)
  | none => .non
def spCheck : Sp := fun vs H Q _ => ∃ (a : Addr) (m : Nat) (ds : List Deed), vs = [.ref a, .int (m : Int)] ∧ DeedsP H a ds ∧ okS m ds ∧ ds.length ≤ 24 ∧ ∀ H', Same H H' → Q .non H'
def spRows : Sp := fun vs H Q _ => ∃ (a : Addr) (ds : List Deed), vs = [.ref a] ∧ DeedsP H a ds ∧ okS 0 ds ∧ ds.length ≤ 24 ∧ ∀ H' F, Same H H' → H F = none → RowsP H' F (rowsF [] 0 ds) → Q (.ref F) H'
def spWrongAt : Sp := fun vs H Q _ => ∃ (a : Addr) (ds : List Deed), vs = [.ref a] ∧ DeedsP H a ds ∧ okS 0 ds ∧ ds.length ≤ 24 ∧ ∀ H', Same H H' → Q (wrongV ds) H'
def spDaysB : Sp := fun vs H Q _ => ∃ (a : Addr) (n : Nat) (ds : List Deed), vs = [.ref a, .int (n : Int)] ∧ DeedsP H a ds ∧ ds.length ≤ 1000 ∧ ∀ H', Same H H' → Q (.int (fallsN (ds.take n) : Int)) H'
section
variable {K : PySem.W.Frag} {σ : L2.St} {H : Hp} {Q : VK}
theorem altIx {n m j : Nat} {a : Addr} {xs : List V} {v : V} (hn : σ[n]? = some (some (.ref a))) (hm : σ[m]? = some (some (.int (j : Int)))) (e : SeqP H a xs) (hv : xs[j]? = some v) (h : Q v H) : tOp (rIxL K) (tVar n) (tVar m) σ H Q ∨ tOp (rIxT K) (tVar n) (tVar m) σ H Q :=
  e.elim (fun z => .inl ⟨_, hn, _, hm, rd_ixL z (atI_nat' hv) h⟩) fun z => .inr ⟨_, hn, _, hm, rd_ixT z (atI_nat' hv) h⟩
theorem altSl {n m j : Nat} {a : Addr} {xs : List V} (hn : σ[n]? = some (some (.ref a))) (hm : σ[m]? = some (some (.int (j : Int)))) (e : SeqP H a xs) (h : ∀ p H', Same H H' → SeqP H' p (xs.take j) → Q (.ref p) H') : tSl (rSlL K) (tVar n) tNoPart (tPart (tVar m)) σ H Q ∨ tSl (rSlA K) (tVar n) tNoPart (tPart (tVar m)) σ H Q := by
  rcases e with z | z
  · refine .inl ⟨_, hn, ⟨_, hm, j, rfl, ?_⟩⟩
    refine rd_slL (SqL.of z) fun p H' _ s e _ => ?_
    rw [cutN_take] at e
    exact h p H' s (.inl e)
  · refine .inr ⟨_, hn, ⟨_, hm, j, rfl, ?_⟩⟩
    refine rd_slA z fun p H' s e => ?_
    rw [cutN_take] at e
    exact h p H' s (.inr e)
theorem altSlW {n m j : Nat} {a : Addr} {xs : List V} {R : It → Hp → Prop} (hn : σ[n]? = some (some (.ref a))) (hm : σ[m]? = some (some (.int (j : Int)))) (e : SeqP H a xs) (h : ∀ p H' J, Same H H' → SeqP H' p (xs.take j) → JQ K H' p (xs.take j) J → R J H') :
    iList K (fun σ H Q => tSl (rSlL K) (tVar n) tNoPart (tPart (tVar m)) σ H Q ∨ tSl (rSlA K) (tVar n) tNoPart (tPart (tVar m)) σ H Q) σ H R ∨ iTup K (fun σ H Q => tSl (rSlL K) (tVar n) tNoPart (tPart (tVar m)) σ H Q ∨ tSl (rSlA K) (tVar n) tNoPart (tPart (tVar m)) σ H Q) σ H R := by
  rcases e with z | z
  · refine .inl (.inl ⟨_, hn, ⟨_, hm, j, rfl, ?_⟩⟩)
    refine rd_slL (SqL.of z) fun p H' _ s e _ => ?_
    rw [cutN_take] at e
    exact ⟨p, rfl, ⟨_, SqL.of e⟩, h p H' _ s (.inl e) (.inl ⟨rfl, SqL.of e⟩)⟩
  · refine .inr (.inr ⟨_, hn, ⟨_, hm, j, rfl, ?_⟩⟩)
    refine rd_slA z fun p H' s e => ?_
    rw [cutN_take] at e
    exact ⟨p, rfl, ⟨_, SqT.of e⟩, h p H' _ s (.inr e) (.inr ⟨rfl, SqT.of e⟩)⟩
end
theorem okS_drop : ∀ {ds : List Deed} {m : Nat} (j : Nat), okS m ds → ∃ mj, okS mj (ds.drop j)
  | ds, m, 0, h => ⟨m, h⟩
  | [], m, j + 1, h => ⟨m, h⟩
  | x :: r, m, j + 1, ⟨_, m', _, h⟩ => okS_drop (ds := r) j h
section
variable {P : Program} {w : World} {K : PySem.W.Frag} {mg : Str → Option Value} {base : Heap} {C_Evidence C_Good C_Bad C_RightRounds C_WrongRound C_BadScript D_FALL : Addr}
theorem cal2_check_script (T : TX P K mg C_Evidence C_Good C_Bad C_RightRounds C_WrongRound C_BadScript D_FALL) : ∃ f fd, C8.Def K mg "check_script" s_check_script f fd ∧ (∃ ds, Vals [] ds ∧ Binds K fd P_check_script ds) ∧ (∃ ds, Vals [.int 0] ds ∧ Binds K fd P_check_script ds) ∧ FnOk P w K mg base C8.CX0 4 f fd P_check_script (spCheck) := by
  obtain ⟨f0, fd, D, b0, b1⟩ := T.d_check_script
  have G_is_deed := cal_is_deed (P := P) (w := w) (base := base) T
  have G_many_behind := cal_many_behind (P := P) (w := w) (base := base) T
  refine ⟨f0, fd, D, b0, b1, fn0 D.fn sc_check_script (by walk_at "len") (fun cdv A outer s H vs Q E hr h => ?_)⟩
  obtain ⟨a, m, ds, rfl, ⟨xs, eq, da⟩, os, ld, k⟩ := h
  have lx := DeedsP.len da
  refine ⟨_, (pss_cut (ps_if (PW.pt (pw_or (pt_not (pt_val (pe_callB call_isiT (by rfl) T.b_isinstance (by decide +kernel) (pa_cons (pv 0) (pa_cons (pe_tup (pa_cons (pe_bltn (v := .ty "list") (u := .type "list") rfl T.b_list (by decide +kernel) rfl) (pa_cons (pe_bltn (v := .ty "tuple") (u := .type "tuple") rfl T.b_tuple (by decide +kernel) rfl) pa_nil))) pa_nil))))) (pw_or1 (pt_cmpR op_gt (pe_callB cr_lenS (by rfl) T.b_len (by decide +kernel) (pa_cons (pv 0) pa_nil)) (pe_gc rfl T.g_MOST_DEEDS) (nomark _))))) (pss_one ps_never) pss_nil)
      (pss_one (ps_for PassesOwn.never rfl (pi_alt (pi_enum (by rfl) T.b_enumerate (pa_cons (pv 0) pa_nil)) (pi_enumT (by rfl) T.b_enumerate (pa_cons (pv 0) pa_nil))) (pg_tup rfl (pgs_cons (pg_n 2 sc_check_script.nd) (pgs_cons (pg_n 3 sc_check_script.nd) pgs_nil))) (pss_cons (ps_if (pt_not (pt_val (pe_c G_is_deed hr (by decide) rfl (pa_cons (pv 3) pa_nil)))) (pss_one ps_never) pss_nil)
      (pss_cons (ps_s 1 sc_check_script.nd (pe_c G_many_behind hr (by decide) rfl (pa_cons (pv 1) (pa_cons (pv 3) pa_nil))))
      (pss_one (ps_if (pt_cmpR op_isNn (pv 1) pe_non (nomark _)) (pss_one ps_never) pss_nil))))))), ?_⟩
  walk_at "rd"
  refine ⟨fun σ H' => Same H H' ∧ σ = [some (.ref a), some (.int (m : Int)), none, none], ?_, ?_⟩
  · walk_at "rd"
    refine rd_newT (by simp) fun u H1 _ s1 eu _ => ?_
    walk_at "rd"
    refine rd_isiTQ (eq.mono s1).q eu ?_
    walk_at "rd"
    refine ⟨a, xs, rfl, (eq.mono s1).q, ?_⟩
    walk_at "rd"
    refine rd_iteF (by omega) ?_
    walk_at "rd"
    exact ⟨s1, rfl⟩
  rintro σ H1 ⟨s1, rfl⟩
  walk_at "rd"
  refine altE rfl (eq.mono s1).q fun J hJ => ?_
  refine forR_E hJ (fun j σ H' => ∃ (mj : Nat) (v2 v3 : Option V), Same H1 H' ∧ okS mj (ds.drop j) ∧ σ = [some (.ref a), some (.int (mj : Int)), v2, v3]) (fun j σ H' ⟨_, _, _, s, _⟩ => s) ⟨m, _, _, Same.refl H1, os, rfl⟩ ?_ ?_
  · rintro j y σ H2 q H3 hy ⟨mj, v2, v3, s2, osj, rfl⟩ _ s3 eq3
    obtain ⟨x, hx, dx⟩ := deeds_get (da.mono (s1.trans (s2.trans s3))) hy
    have ed : ds.drop j = x :: ds.drop (j + 1) := by
      obtain ⟨h1, h2⟩ := List.getElem?_eq_some_iff.mp hx
      rw [List.drop_eq_getElem_cons h1, h2]
    rw [ed] at osj
    obtain ⟨ok, m', hm, os'⟩ := osj
    refine rd_gtup eq3 rfl ?_
    walk_at "rd"
    refine ⟨y, _, rfl, dx.dt, ask_ok ok, fun H4 s4 => ?_⟩
    rw [deedB_deed, decide_eq_true ok]
    walk_at "rd"
    refine ⟨mj, y, x, rfl, (dx.mono s4).dt, ok, ?_⟩
    unfold manyV
    rw [hm]
    walk_at "rd"
    refine rd_isN0 ?_
    refine ⟨_, rfl, ?_⟩
    rw [if_neg (by simp)]
    walk_at "rd"
    exact ⟨m', _, _, s2.trans (s3.trans s4), os', rfl⟩
  · rintro σ H2 ⟨mj, v2, v3, s2, _, rfl⟩
    exact k H2 (s1.trans s2)
theorem cal_check_script (T : TX P K mg C_Evidence C_Good C_Bad C_RightRounds C_WrongRound C_BadScript D_FALL) : Cal P w K mg base 4 "check_script" spCheck [.int 0] := by
  obtain ⟨f, fd, D, _, ⟨ds, v, b⟩, F⟩ := cal2_check_script (P := P) (w := w) (base := base) T
  exact ⟨f, fd, _, ds, F, D.mgf, D.kp, b, v⟩
theorem cal_check_script_2 (T : TX P K mg C_Evidence C_Good C_Bad C_RightRounds C_WrongRound C_BadScript D_FALL) : Cal P w K mg base 4 "check_script" spCheck [] := by
  obtain ⟨f, fd, D, ⟨ds, v, b⟩, _, F⟩ := cal2_check_script (P := P) (w := w) (base := base) T
  exact ⟨f, fd, _, ds, F, D.mgf, D.kp, b, v⟩
end
end Sl

set_option Elab.async false
set_option linter.all false
set_option maxRecDepth 100000
set_option maxHeartbeats 8000000
set_option exponentiation.threshold 9000
namespace Sl
open PySem L2 C8 StX Silt
local macro_rules | `(tactic| walk_at "side") => `(tactic| first
  | exact cdivw (by omega) (by omega)
  | exact cmulw (by omega) (by omega) (by omega) (by omega)
  | exact Or.inr ⟨by omega, by omega⟩
  | exact Or.inl ⟨by omega, by omega⟩
  | omega
  | exact ⟨by omega, by omega, by decide⟩
  | decide)
local macro_rules | `(tactic| walk_at "rd1") => `(tactic| first
  | with_reducible refine rd_seq ?_
  | with_reducible refine rd_asg ?_
  | with_reducible refine rd_drop ?_
  | with_reducible refine rd_ret ?_
  | with_reducible refine rd_retN ?_
  | with_reducible refine rd_ifS ?_
  | ((with_reducible refine rd_var0 ?_); refine ⟨_, rfl, ?_⟩)
  | with_reducible refine rd_c ?_
  | with_reducible refine rd_op ?_
  | with_reducible refine rd_un ?_
  | with_reducible refine rd_I0 ?_
  | with_reducible refine rd_U ?_
  | ((with_reducible refine rd_I ?c ?_); (case c => walk_at "side"))
  | with_reducible refine rd_ipI ?_
  | with_reducible refine rd_eqI ?_
  | with_reducible refine rd_neI ?_
  | with_reducible refine rd_test ?_
  | with_reducible refine rd_tB ?_
  | with_reducible refine rd_bl ?_
  | with_reducible refine rd_not ?_
  | with_reducible refine rd_and ?_
  | with_reducible refine rd_or ?_
  | with_reducible refine rd_andV ?_
  | with_reducible refine rd_orV ?_
  | with_reducible refine rd_notV ?_
  | with_reducible refine rd_ifE ?_
  | with_reducible refine rd_chain ?_
  | with_reducible refine rd_chain3 ?_
  | with_reducible refine rd_nil ?_
  | with_reducible refine rd_cons ?_
  | with_reducible refine rd_call ?_
  | with_reducible refine rd_CB ?_
  | with_reducible refine rd_par ?_
  | with_reducible refine rd_par2 ?_
  | with_reducible refine rd_par3 ?_
  | with_reducible refine rd_par4 ?_
  | ((with_reducible refine rd_aug0 ?_); refine ⟨_, rfl, ?_⟩)
  | with_reducible refine rd_gname ?_
  | with_reducible refine rd_gcons ?_
  | with_reducible refine rd_gnil ?_
  | with_reducible refine rd_max ?_
  | with_reducible refine rd_min ?_
  | with_reducible refine rd_int1 ?_
  | with_reducible refine rd_abs ?_
  | with_reducible refine rd_lst ?_
  | with_reducible refine rd_tup ?_
  | with_reducible refine rd_bm ?_
  | with_reducible refine rd_fld0 ?_
  | with_reducible refine rd_sl0 ?_
  | with_reducible refine rd_noP ?_
  | with_reducible refine rd_part ?_
  | with_reducible refine rd_part2 ?_
  | with_reducible refine rd_meth0 ?_
  | with_reducible refine rd_star ?_
  | with_reducible refine rd_for ?_
  | with_reducible refine rd_rng1 ?_
  | with_reducible refine rd_rng2 ?_
  | with_reducible refine rd_rng3 ?_
  | with_reducible refine rd_iList ?_
  | with_reducible refine rd_iTup ?_
  | with_reducible refine rd_iEnum ?_
  | with_reducible refine rd_lc ?_
  | with_reducible refine rd_yes ?_
  | with_reducible refine rd_augS ?_
  | with_reducible refine rd_drawNew ?_
  | with_reducible refine rd_make0 ?_
  | with_reducible refine rd_next ?_
  | with_reducible refine rd_break ?_
  | with_reducible refine rd_cont ?_
  | with_reducible refine rd_iteTT ?_
  | with_reducible refine rd_iteFF ?_
  | with_reducible refine rd_iteNTT ?_
  | with_reducible refine rd_iteNFF ?_
  | with_reducible refine rd_con0 ?_
  | with_reducible refine rd_truO0 ?_
  | with_reducible refine rd_gfld0 ?_
  | with_reducible refine rd_dc ?_
  | with_reducible refine rd_iKeys ?_
  | with_reducible refine rd_dget0 ?_
  | with_reducible refine rd_dput0 ?_
  | with_reducible refine rd_dnot0 ?_
  | with_reducible refine rd_iEnumT ?_
  | with_reducible refine rd_raP0 ?_
  | with_reducible refine rd_xf0 ?_
  | with_reducible refine rd_cKw ?_
  | with_reducible refine rd_iStr ?_
  | with_reducible refine rd_gSub ?_
  | with_reducible refine rd_asgG ?_)
local macro_rules | `(tactic| walk_at "rd") => `(tactic| repeat walk_at "rd1")
local macro_rules | `(tactic| walk_at "len") => `(tactic| first
  | (intro vs H Q E h; obtain ⟨h2, _⟩ := h; rw [h2]; rfl)
  | (intro vs H Q E h; obtain ⟨_, h2, _⟩ := h; rw [h2]; rfl)
  | (intro vs H Q E h; obtain ⟨_, _, h2, _⟩ := h; rw [h2]; rfl)
  | (intro vs H Q E h; obtain ⟨_, _, _, h2, _⟩ := h; rw [h2]; rfl)
  | (intro vs H Q E h; obtain ⟨_, _, _, _, h2, _⟩ := h; rw [h2]; rfl)
  | (intro vs H Q E h; obtain ⟨_, _, _, _, _, h2, _⟩ := h; rw [h2]; rfl)
  | (intro vs H Q E h; obtain ⟨_, _, _, _, _, _, h2, _⟩ := h; rw [h2]; rfl)
  | (intro vs H Q E h; obtain ⟨_, _, _, _, _, _, _, h2, _⟩ := h; rw [h2]; rfl)
  | (intro vs H Q E h; obtain ⟨_, _, _, _, _, _, _, _, h2, _⟩ := h; rw [h2]; rfl)
  | (intro vs H Q E h; obtain ⟨_, _, _, _, _, _, _, _, _, h2, _⟩ := h; rw [h2]; rfl)
  | (intro vs H Q E h; obtain ⟨_, _, _, _, _, _, _, _, _, _, h2, _⟩ := h; rw [h2]; rfl)
  | (intro vs H Q E h; obtain ⟨_, _, _, _, _, _, _, _, _, _, _, h2, _⟩ := h; rw [h2]; rfl)
  | (intro vs H Q E h; obtain ⟨_, _, _, _, _, _, _, _, _, _, _, _, h2, _⟩ := h; rw [h2]; rfl))
theorem rowsF_at : ∀ {ds : List Deed} {s : List (List Int) × Int} {i : Nat} {x : Deed}, ds[i]? = some x → (rowsF s.1 s.2 ds)[i]? = some (stepS (stF s (ds.take i)) x).1
  | [], _, _, _, h => by simp at h
  | y :: r, s, 0, x, h => by
    obtain rfl : y = x := by simpa using h
    rfl
  | y :: r, s, i + 1, x, h => rowsF_at (s := stepS s y) (i := i) (by simpa using h)
theorem fallV_non {H : Hp} {l : List Int} {v : V} (h : fallV H l v) : decide (v = .non) = (fallIn l).isNone := by
  unfold fallV at h
  cases hq : fallIn l with
  | none => rw [hq] at h; rw [show v = .non from h]; rfl
  | some q =>
    rw [hq] at h
    obtain ⟨t, rfl, _⟩ : ∃ t, v = .ref t ∧ _ := h
    exact decide_eq_false (fun z => by cases z)
section
variable {P : Program} {w : World} {K : PySem.W.Frag} {mg : Str → Option Value} {base : Heap} {C_Evidence C_Good C_Bad C_RightRounds C_WrongRound C_BadScript D_FALL : Addr}
end
end Sl

set_option Elab.async false
set_option linter.all false
set_option maxRecDepth 100000
set_option maxHeartbeats 8000000
set_option exponentiation.threshold 9000
namespace Sl
open PySem L2 C8 StX Silt
local macro_rules | `(tactic| walk_at "side") => `(tactic| first
  | exact cdivw (by omega) (by omega)
  | exact cmulw (by omega) (by omega) (by omega) (by omega)
  | exact Or.inr ⟨by omega, by omega⟩
  | exact Or.inl ⟨by omega, by omega⟩
  | omega
  | exact ⟨by omega, by omega, by decide⟩
  | decide)
local macro_rules | `(tactic| walk_at "rd1") => `(tactic| first
  | with_reducible refine rd_seq ?_
  | with_reducible refine rd_asg ?_
  | with_reducible refine rd_drop ?_
  | with_reducible refine rd_ret ?_
  | with_reducible refine rd_retN ?_
  | with_reducible refine rd_ifS ?_
  | ((with_reducible refine rd_var0 ?_); refine ⟨_, rfl, ?_⟩)
  | with_reducible refine rd_c ?_
  | with_reducible refine rd_op ?_
  | with_reducible refine rd_un ?_
  | with_reducible refine rd_I0 ?_
  | with_reducible refine rd_U ?_
  | ((with_reducible refine rd_I ?c ?_); (case c => walk_at "side"))
  | with_reducible refine rd_ipI ?_
  | with_reducible refine rd_eqI ?_
  | with_reducible refine rd_neI ?_
  | with_reducible refine rd_test ?_
  | with_reducible refine rd_tB ?_
  | with_reducible refine rd_bl ?_
  | with_reducible refine rd_not ?_
  | with_reducible refine rd_and ?_
  | with_reducible refine rd_or ?_
  | with_reducible refine rd_andV ?_
  | with_reducible refine rd_orV ?_
  | with_reducible refine rd_notV ?_
  | with_reducible refine rd_ifE ?_
  | with_reducible refine rd_chain ?_
  | with_reducible refine rd_chain3 ?_
  | with_reducible refine rd_nil ?_
  | with_reducible refine rd_cons ?_
  | with_reducible refine rd_call ?_
  | with_reducible refine rd_CB ?_
  | with_reducible refine rd_par ?_
  | with_reducible refine rd_par2 ?_
  | with_reducible refine rd_par3 ?_
  | with_reducible refine rd_par4 ?_
  | ((with_reducible refine rd_aug0 ?_); refine ⟨_, rfl, ?_⟩)
  | with_reducible refine rd_gname ?_
  | with_reducible refine rd_gcons ?_
  | with_reducible refine rd_gnil ?_
  | with_reducible refine rd_max ?_
  | with_reducible refine rd_min ?_
  | with_reducible refine rd_int1 ?_
  | with_reducible refine rd_abs ?_
  | with_reducible refine rd_lst ?_
  | with_reducible refine rd_tup ?_
  | with_reducible refine rd_bm ?_
  | with_reducible refine rd_fld0 ?_
  | with_reducible refine rd_sl0 ?_
  | with_reducible refine rd_noP ?_
  | with_reducible refine rd_part ?_
  | with_reducible refine rd_part2 ?_
  | with_reducible refine rd_meth0 ?_
  | with_reducible refine rd_star ?_
  | with_reducible refine rd_for ?_
  | with_reducible refine rd_rng1 ?_
  | with_reducible refine rd_rng2 ?_
  | with_reducible refine rd_rng3 ?_
  | with_reducible refine rd_iList ?_
  | with_reducible refine rd_iTup ?_
  | with_reducible refine rd_iEnum ?_
  | with_reducible refine rd_lc ?_
  | with_reducible refine rd_yes ?_
  | with_reducible refine rd_augS ?_
  | with_reducible refine rd_drawNew ?_
  | with_reducible refine rd_make0 ?_
  | with_reducible refine rd_next ?_
  | with_reducible refine rd_break ?_
  | with_reducible refine rd_cont ?_
  | with_reducible refine rd_iteTT ?_
  | with_reducible refine rd_iteFF ?_
  | with_reducible refine rd_iteNTT ?_
  | with_reducible refine rd_iteNFF ?_
  | with_reducible refine rd_con0 ?_
  | with_reducible refine rd_truO0 ?_
  | with_reducible refine rd_gfld0 ?_
  | with_reducible refine rd_dc ?_
  | with_reducible refine rd_iKeys ?_
  | with_reducible refine rd_dget0 ?_
  | with_reducible refine rd_dput0 ?_
  | with_reducible refine rd_dnot0 ?_
  | with_reducible refine rd_iEnumT ?_
  | with_reducible refine rd_raP0 ?_
  | with_reducible refine rd_xf0 ?_
  | with_reducible refine rd_cKw ?_
  | with_reducible refine rd_iStr ?_
  | with_reducible refine rd_gSub ?_
  | with_reducible refine rd_asgG ?_)
local macro_rules | `(tactic| walk_at "rd") => `(tactic| repeat walk_at "rd1")
local macro_rules | `(tactic| walk_at "len") => `(tactic| first
  | (intro vs H Q E h; obtain ⟨h2, _⟩ := h; rw [h2]; rfl)
  | (intro vs H Q E h; obtain ⟨_, h2, _⟩ := h; rw [h2]; rfl)
  | (intro vs H Q E h; obtain ⟨_, _, h2, _⟩ := h; rw [h2]; rfl)
  | (intro vs H Q E h; obtain ⟨_, _, _, h2, _⟩ := h; rw [h2]; rfl)
  | (intro vs H Q E h; obtain ⟨_, _, _, _, h2, _⟩ := h; rw [h2]; rfl)
  | (intro vs H Q E h; obtain ⟨_, _, _, _, _, h2, _⟩ := h; rw [h2]; rfl)
  | (intro vs H Q E h; obtain ⟨_, _, _, _, _, _, h2, _⟩ := h; rw [h2]; rfl)
  | (intro vs H Q E h; obtain ⟨_, _, _, _, _, _, _, h2, _⟩ := h; rw [h2]; rfl)
  | (intro vs H Q E h; obtain ⟨_, _, _, _, _, _, _, _, h2, _⟩ := h; rw [h2]; rfl)
  | (intro vs H Q E h; obtain ⟨_, _, _, _, _, _, _, _, _, h2, _⟩ := h; rw [h2]; rfl)
  | (intro vs H Q E h; obtain ⟨_, _, _, _, _, _, _, _, _, _, h2, _⟩ := h; rw [h2]; rfl)
  | (intro vs H Q E h; obtain ⟨_, _, _, _, _, _, _, _, _, _, _, h2, _⟩ := h; rw [h2]; rfl)
  | (intro vs H Q E h; obtain ⟨_, _, _, _, _, _, _, _, _, _, _, _, h2, _⟩ := h; rw [h2]; rfl))
local macro_rules | `(tactic| walk_at "rd1") => `(tactic| first
  | with_reducible refine rd_dget10 ?_)
def mkS : Mk → Str
  | .leaf => "leaf"
  | .late => "late"
  | .mark => "mark"
theorem mkS_inj {a b : Mk} (h : mkS a = mkS b) : a = b := by
  cases a <;> cases b <;> first | rfl | exact absurd h (by decide +kernel)
def mV : Option Mk → V
  | none => .non
  | some m => .str (mkS m)
theorem mV_inj {a b : Option Mk} (h : mV a = mV b) : a = b := by
  cases a <;> cases b <;> first | rfl | cases h | skip
  rename_i a b
  exact congrArg some (mkS_inj (V.str.inj h))
/-- a dict of what falls of a key -/
def FallsP (H : Hp) (D : Addr) (f : Int → Option Mk) : Prop := ∃ kvs, H D = some (.dK kvs) ∧ ∀ y, (valV kvs (Sum.inl y)).getD .non = mV (f y)
theorem FallsP.mono {H H' : Hp} {D : Addr} {f : Int → Option Mk} (s : Same H H') (h : FallsP H D f) : FallsP H' D f := by
  obtain ⟨kvs, e, d⟩ := h
  exact ⟨kvs, s _ _ e, d⟩
theorem rd_fallsGet {H : Hp} {Q : VK} {D : Addr} {f : Int → Option Mk} {σ : L2.St} {n : Nat} {y : Int} (hf : FallsP H D f) (hn : σ[n]? = some (some (.int y))) (h : Q (mV (f y)) H) : rDGet1 (tVar n) (.ref D) σ H Q := by
  obtain ⟨kvs, e, d⟩ := hf
  refine ⟨D, rfl, .inl ⟨kvs, .inl e⟩, _, hn, _, DGet.k (k := Sum.inl y) e, ?_⟩
  rw [d y]
  exact h
theorem rd_iteW {b : Bool} {σ : L2.St} {H : Hp} {Q : VK} {ta tb : TE} {v : V} (h1 : b = true → ∀ Q' : VK, Q' v H → ta σ H Q') (h2 : b = false → ∀ Q' : VK, Q' v H → tb σ H Q') (h : Q v H) : if b = true then ta σ H Q else tb σ H Q := by
  cases b
  · rw [if_neg Bool.false_ne_true]; exact h2 rfl Q h
  · rw [if_pos rfl]; exact h1 rfl Q h
def mD : Option Mk → PyData
  | none => .none
  | some m => .str (mkS m)
theorem mV_dt {H : Hp} (m : Option Mk) : Dt H (mV m) (mD m) := by
  cases m
  · exact .non
  · exact .str _
theorem mV_all {H : Hp} : ∀ ms : List (Option Mk), DtAll H (ms.map mV) (ms.map mD)
  | [] => .nil
  | m :: ms => .cons (mV_dt m) (mV_all ms)
theorem mkS_ok (m : Mk) : PyData.strOk (mkS m) = true := by cases m <;> decide +kernel
theorem shaped_mD (ms : List (Option Mk)) : SeqAt.shaped (.list (ms.map mD)) = true :=
  shaped_listMap (fun m => by cases m <;> simp [mD, PyData.canLay0, mkS_ok]) (fun m => by cases m <;> simp [mD, PyData.depth]) ms
theorem eqv_emp (ds : List PyData) : PyData.eqv (.list ds) (.list []) = ds.isEmpty := by
  cases ds <;> simp [PyData.eqv, PyData.eqvAll]
def spRead : Sp := fun vs H Q _ => ∃ (a D : Addr) (ds : List Deed) (f : Int → Option Mk), vs = [.ref a, .ref D] ∧ DeedsP H a ds ∧ okS 0 ds ∧ ds.length ≤ 24 ∧ FallsP H D f ∧ ∀ H', Same H H' → Q (.str (mkS (readV (stVF f ([], 0) ds).1))) H'
/-- told of a bake: what its layers tell -/
def toldL (vs : List (Option Mk)) (ns : List Nat) : List Mk := ns.filterMap fun n => (vs[n]?).join
theorem pick_told (vs : List (Option Mk)) (ns : List Nat) : (pickL vs ns).filterMap id = toldL vs ns := by
  unfold pickL toldL
  rw [List.filterMap_filterMap]
  refine fm_congr fun n _ => ?_
  cases vs[n]? with
  | none => rfl
  | some v => cases v <;> rfl
theorem toldL_snoc (vs : List (Option Mk)) (ns : List Nat) {n : Nat} {v : Option Mk} (h : vs[n]? = some v) : toldL vs (ns ++ [n]) = toldL vs ns ++ v.toList := by
  unfold toldL
  rw [List.filterMap_append]
  congr 1
  rw [List.filterMap_cons, h]
  cases v <;> rfl
theorem toldL_len (vs : List (Option Mk)) (ns : List Nat) : (toldL vs ns).length ≤ ns.length := List.length_filterMap_le _ _
def strV (ms : List Mk) : List V := ms.map fun m => V.str (mkS m)
theorem strV_dt {H : Hp} (ms : List Mk) : DtAll H (strV ms) (ms.map fun m => PyData.str (mkS m)) := by
  induction ms with
  | nil => exact .nil
  | cons m ms ih => exact .cons (.str _) ih
theorem shaped_strs (ms : List Mk) : SeqAt.shaped (.list (ms.map fun m => PyData.str (mkS m))) = true :=
  shaped_listMap (fun m => by simp [PyData.canLay0, mkS_ok]) (fun m => by simp [PyData.depth]) ms
theorem mS_eq (h : Option Mk) : decide (mV h = V.str "mark") = decide (h = some .mark) := by
  rw [decide_eq_decide]
  constructor
  · intro e
    exact mV_inj e
  · intro e
    rw [e]
    rfl
theorem mV_scal (h : Option Mk) (z : Str) : scal (mV h) (.str z) = true := by cases h <;> rfl
theorem rd_keepMark {σ : L2.St} {H : Hp} {F : VK} {K : PySem.W.Frag} {t : Addr} {h : Option Mk} {kp : Bool} {x0 x1 x2 : V} {i j : Nat} (ht : σ[i]? = some (some (.ref t))) (et : H t = some (.tup [x0, x1, x2, .bl kp])) (h7 : σ[j]? = some (some (mV h))) (q : F (mV (if h = some .mark ∧ kp = false then none else h)) H) :
    rEq (mV h) (.str "mark") H fun x H' => ∃ k, x = .bl k ∧ if k = true then tNot (tB (tOp (rIxT K) (tVar i) (tC (V.int 3)))) σ H' (fun b H1 => if b = true then tC V.non σ H1 F else tVar j σ H1 F) else (fun b H1 => if b = true then tC V.non σ H1 F else tVar j σ H1 F) false H' := by
  refine rd_eq (mV_scal h _) ?_
  rw [mS_eq]
  refine ⟨_, rfl, ?_⟩
  by_cases c : h = some .mark
  · subst c
    rw [decide_eq_true rfl, if_pos rfl]
    refine ⟨_, ht, rd_c ?_⟩
    refine rd_ixT et rfl ?_
    refine ⟨kp, rfl, ?_⟩
    cases kp
    · rw [if_pos ⟨rfl, rfl⟩] at q
      exact q
    · rw [if_neg (fun z => by cases z.2)] at q
      exact ⟨_, h7, q⟩
  · rw [decide_eq_false c, if_neg Bool.false_ne_true]
    rw [if_neg (fun z => c z.1)] at q
    exact ⟨_, h7, q⟩
section
variable {P : Program} {w : World} {K : PySem.W.Frag} {mg : Str → Option Value} {base : Heap} {C_Evidence C_Good C_Bad C_RightRounds C_WrongRound C_BadScript D_FALL : Addr}
end
end Sl

set_option Elab.async false
set_option linter.all false
set_option maxRecDepth 100000
set_option maxHeartbeats 8000000
set_option exponentiation.threshold 9000
namespace Sl
open PySem L2 C8 StX Silt
local macro_rules | `(tactic| walk_at "side") => `(tactic| first
  | exact cdivw (by omega) (by omega)
  | exact cmulw (by omega) (by omega) (by omega) (by omega)
  | exact Or.inr ⟨by omega, by omega⟩
  | exact Or.inl ⟨by omega, by omega⟩
  | omega
  | exact ⟨by omega, by omega, by decide⟩
  | decide)
local macro_rules | `(tactic| walk_at "rd1") => `(tactic| first
  | with_reducible refine rd_seq ?_
  | with_reducible refine rd_asg ?_
  | with_reducible refine rd_drop ?_
  | with_reducible refine rd_ret ?_
  | with_reducible refine rd_retN ?_
  | with_reducible refine rd_ifS ?_
  | ((with_reducible refine rd_var0 ?_); refine ⟨_, rfl, ?_⟩)
  | with_reducible refine rd_c ?_
  | with_reducible refine rd_op ?_
  | with_reducible refine rd_un ?_
  | with_reducible refine rd_I0 ?_
  | with_reducible refine rd_U ?_
  | ((with_reducible refine rd_I ?c ?_); (case c => walk_at "side"))
  | with_reducible refine rd_ipI ?_
  | with_reducible refine rd_eqI ?_
  | with_reducible refine rd_neI ?_
  | with_reducible refine rd_test ?_
  | with_reducible refine rd_tB ?_
  | with_reducible refine rd_bl ?_
  | with_reducible refine rd_not ?_
  | with_reducible refine rd_and ?_
  | with_reducible refine rd_or ?_
  | with_reducible refine rd_andV ?_
  | with_reducible refine rd_orV ?_
  | with_reducible refine rd_notV ?_
  | with_reducible refine rd_ifE ?_
  | with_reducible refine rd_chain ?_
  | with_reducible refine rd_chain3 ?_
  | with_reducible refine rd_nil ?_
  | with_reducible refine rd_cons ?_
  | with_reducible refine rd_call ?_
  | with_reducible refine rd_CB ?_
  | with_reducible refine rd_par ?_
  | with_reducible refine rd_par2 ?_
  | with_reducible refine rd_par3 ?_
  | with_reducible refine rd_par4 ?_
  | ((with_reducible refine rd_aug0 ?_); refine ⟨_, rfl, ?_⟩)
  | with_reducible refine rd_gname ?_
  | with_reducible refine rd_gcons ?_
  | with_reducible refine rd_gnil ?_
  | with_reducible refine rd_max ?_
  | with_reducible refine rd_min ?_
  | with_reducible refine rd_int1 ?_
  | with_reducible refine rd_abs ?_
  | with_reducible refine rd_lst ?_
  | with_reducible refine rd_tup ?_
  | with_reducible refine rd_bm ?_
  | with_reducible refine rd_fld0 ?_
  | with_reducible refine rd_sl0 ?_
  | with_reducible refine rd_noP ?_
  | with_reducible refine rd_part ?_
  | with_reducible refine rd_part2 ?_
  | with_reducible refine rd_meth0 ?_
  | with_reducible refine rd_star ?_
  | with_reducible refine rd_for ?_
  | with_reducible refine rd_rng1 ?_
  | with_reducible refine rd_rng2 ?_
  | with_reducible refine rd_rng3 ?_
  | with_reducible refine rd_iList ?_
  | with_reducible refine rd_iTup ?_
  | with_reducible refine rd_iEnum ?_
  | with_reducible refine rd_lc ?_
  | with_reducible refine rd_yes ?_
  | with_reducible refine rd_augS ?_
  | with_reducible refine rd_drawNew ?_
  | with_reducible refine rd_make0 ?_
  | with_reducible refine rd_next ?_
  | with_reducible refine rd_break ?_
  | with_reducible refine rd_cont ?_
  | with_reducible refine rd_iteTT ?_
  | with_reducible refine rd_iteFF ?_
  | with_reducible refine rd_iteNTT ?_
  | with_reducible refine rd_iteNFF ?_
  | with_reducible refine rd_con0 ?_
  | with_reducible refine rd_truO0 ?_
  | with_reducible refine rd_gfld0 ?_
  | with_reducible refine rd_dc ?_
  | with_reducible refine rd_iKeys ?_
  | with_reducible refine rd_dget0 ?_
  | with_reducible refine rd_dput0 ?_
  | with_reducible refine rd_dnot0 ?_
  | with_reducible refine rd_iEnumT ?_
  | with_reducible refine rd_raP0 ?_
  | with_reducible refine rd_xf0 ?_
  | with_reducible refine rd_cKw ?_
  | with_reducible refine rd_iStr ?_
  | with_reducible refine rd_gSub ?_
  | with_reducible refine rd_asgG ?_)
local macro_rules | `(tactic| walk_at "rd") => `(tactic| repeat walk_at "rd1")
local macro_rules | `(tactic| walk_at "len") => `(tactic| first
  | (intro vs H Q E h; obtain ⟨h2, _⟩ := h; rw [h2]; rfl)
  | (intro vs H Q E h; obtain ⟨_, h2, _⟩ := h; rw [h2]; rfl)
  | (intro vs H Q E h; obtain ⟨_, _, h2, _⟩ := h; rw [h2]; rfl)
  | (intro vs H Q E h; obtain ⟨_, _, _, h2, _⟩ := h; rw [h2]; rfl)
  | (intro vs H Q E h; obtain ⟨_, _, _, _, h2, _⟩ := h; rw [h2]; rfl)
  | (intro vs H Q E h; obtain ⟨_, _, _, _, _, h2, _⟩ := h; rw [h2]; rfl)
  | (intro vs H Q E h; obtain ⟨_, _, _, _, _, _, h2, _⟩ := h; rw [h2]; rfl)
  | (intro vs H Q E h; obtain ⟨_, _, _, _, _, _, _, h2, _⟩ := h; rw [h2]; rfl)
  | (intro vs H Q E h; obtain ⟨_, _, _, _, _, _, _, _, h2, _⟩ := h; rw [h2]; rfl)
  | (intro vs H Q E h; obtain ⟨_, _, _, _, _, _, _, _, _, h2, _⟩ := h; rw [h2]; rfl)
  | (intro vs H Q E h; obtain ⟨_, _, _, _, _, _, _, _, _, _, h2, _⟩ := h; rw [h2]; rfl)
  | (intro vs H Q E h; obtain ⟨_, _, _, _, _, _, _, _, _, _, _, h2, _⟩ := h; rw [h2]; rfl)
  | (intro vs H Q E h; obtain ⟨_, _, _, _, _, _, _, _, _, _, _, _, h2, _⟩ := h; rw [h2]; rfl))
local macro_rules | `(tactic| walk_at "rd1") => `(tactic| first
  | with_reducible refine rd_gfld0 ?_)
def laysD (ls : List (List Int)) : PyData := .list (ls.map layD)
def rowsD (rows : List (List (List Int))) : PyData := .list (rows.map laysD)
theorem LaysP.dt {H : Hp} {a : Addr} {ls : List (List Int)} (h : LaysP H a ls) : Dt H (.ref a) (laysD ls) := by
  obtain ⟨xs, e, d⟩ := h
  exact .lst e d.dt
theorem rows_dt {H : Hp} : ∀ {rows : List (List (List Int))} {xs : List V}, RowsAll H xs rows → DtAll H xs (rows.map laysD)
  | [], xs, h => by
    have : xs = [] := List.length_eq_zero_iff.mp h.1
    subst this
    exact .nil
  | r :: rows, xs, h => by
    obtain ⟨l, e, p⟩ := h.2 0 r rfl
    cases xs with
    | nil => cases e
    | cons x xs =>
      cases e
      exact .cons p.dt (rows_dt (rows := rows) (xs := xs) ⟨by have := h.1; simpa using this, fun i r hr => h.2 (i + 1) r (by simpa using hr)⟩)
theorem RowsP.dt {H : Hp} {a : Addr} {rows : List (List (List Int))} (h : RowsP H a rows) : Dt H (.ref a) (rowsD rows) := by
  obtain ⟨xs, e, d⟩ := h
  exact .lst e (rows_dt d)
theorem lay_lay (l : List Int) : (layD l).canLay0 = true ∧ (layD l).depth ≤ 1 := by
  have h1 : PyData.canLayAll0 (intsD l) = true := lay_map (fun _ => by simp [PyData.canLay0]) l
  have h2 : PyData.depthAll (intsD l) ≤ 0 := depth_map (fun _ => by simp [PyData.depth]) l
  exact ⟨by simp [layD, PyData.canLay0, h1], by simp [layD, PyData.depth]; omega⟩
theorem lay_lays (ls : List (List Int)) : (laysD ls).canLay0 = true ∧ (laysD ls).depth ≤ 2 := by
  have h1 : PyData.canLayAll0 (ls.map layD) = true := lay_map (fun l => (lay_lay l).1) ls
  have h2 : PyData.depthAll (ls.map layD) ≤ 1 := depth_map (fun l => (lay_lay l).2) ls
  exact ⟨by simp [laysD, PyData.canLay0, h1], by simp [laysD, PyData.depth]; omega⟩
theorem shaped_rows (rows : List (List (List Int))) : SeqAt.shaped (rowsD rows) = true :=
  shaped_listMap (fun l => (lay_lays l).1) (fun l => Nat.le_trans (lay_lays l).2 (by decide)) rows
theorem eqvAll_map {α : Type} {f : α → PyData} (h : ∀ x y, PyData.eqv (f x) (f y) = true ↔ x = y) : ∀ l m : List α, PyData.eqvAll (l.map f) (m.map f) = true ↔ l = m
  | [], [] => by simp [PyData.eqvAll]
  | [], y :: m => by simp [PyData.eqvAll]
  | x :: l, [] => by simp [PyData.eqvAll]
  | x :: l, y :: m => by
    simp only [List.map_cons, PyData.eqvAll, Bool.and_eq_true, h, eqvAll_map h l m, List.cons.injEq]
theorem eqv_lay (l m : List Int) : PyData.eqv (layD l) (layD m) = true ↔ l = m := by
  show PyData.eqvAll (l.map PyData.int) (m.map PyData.int) = true ↔ _
  exact eqvAll_map (fun x y => by simp [PyData.eqv]) l m
theorem eqv_lays (l m : List (List Int)) : PyData.eqv (laysD l) (laysD m) = true ↔ l = m := by
  show PyData.eqvAll (l.map layD) (m.map layD) = true ↔ _
  exact eqvAll_map eqv_lay l m
theorem eqv_rows (l m : List (List (List Int))) : PyData.eqv (rowsD l) (rowsD m) = decide (l = m) := by
  rw [Bool.eq_iff_iff, decide_eq_true_iff]
  show PyData.eqvAll (l.map laysD) (m.map laysD) = true ↔ _
  exact eqvAll_map eqv_lays l m
def RightP (C : Addr) (H : Hp) (x : Addr) (rows : List (List (List Int))) : Prop := ∃ dx F, H x = some (.ins C dx [("rows", .ref F)]) ∧ RowsP H F rows
theorem RightP.mono {C : Addr} {H H' : Hp} {x : Addr} {rows : List (List (List Int))} (s : Same H H') (h : RightP C H x rows) : RightP C H' x rows := by
  obtain ⟨dx, F, e, r⟩ := h
  exact ⟨dx, F, s _ _ e, r.mono s⟩
def WrongP (C : Addr) (H : Hp) (x : Addr) (n : Nat) (a b : Int) (k : Mk) : Prop := ∃ dx t u, H x = some (.ins C dx [("many", .int (n : Int)), ("one", .ref t), ("other", .ref u)]) ∧ H t = some (.tup [.int a, .str "leaf"]) ∧ H u = some (.tup [.int b, .str (mkS k)])
theorem WrongP.mono {C : Addr} {H H' : Hp} {x : Addr} {n : Nat} {a b : Int} {k : Mk} (s : Same H H') (h : WrongP C H x n a b k) : WrongP C H' x n a b k := by
  obtain ⟨dx, t, u, e, et, eu⟩ := h
  exact ⟨dx, t, u, s _ _ e, s _ _ et, s _ _ eu⟩
def spTrueS : Sp := fun vs H Q _ => ∃ (a : Addr), vs = [.ref a] ∧ Q (.bl true) H
def spFalseS : Sp := fun vs H Q _ => ∃ (a : Addr), vs = [.ref a] ∧ Q (.bl false) H
def spRInit (C : Addr) : Sp := fun vs H Q _ => ∃ (self dx F : Addr) (H0 : Hp) (rows : List (List (List Int))), vs = [.ref self, .ref F] ∧ Same H0 H ∧ H0 self = none ∧ H self = some (.ins C dx []) ∧ RowsP H0 F rows ∧ rows.length ≤ 1000 ∧ (∀ r ∈ rows, r.length ≤ 1000) ∧ ∀ H', Same H0 H' → RightP C H' self rows → Q .non H'
def spRShows (C : Addr) : Sp := fun vs H Q _ => ∃ (x a : Addr) (rows : List (List (List Int))) (ds : List Deed), vs = [.ref x, .ref a] ∧ RightP C H x rows ∧ DeedsP H a ds ∧ okS 0 ds ∧ ds.length ≤ 24 ∧ ∀ H', Same H H' → Q (.bl (decide (rows = rowsF [] 0 ds ∧ wrongF [] 0 ds = none))) H'
section
variable {P : Program} {w : World} {K : PySem.W.Frag} {mg : Str → Option Value} {base : Heap} {C_Evidence C_Good C_Bad C_RightRounds C_WrongRound C_BadScript D_FALL : Addr}
end
end Sl

set_option Elab.async false
set_option linter.all false
set_option maxRecDepth 100000
set_option maxHeartbeats 8000000
set_option exponentiation.threshold 9000
namespace Sl
open PySem L2 C8 StX Silt
local macro_rules | `(tactic| walk_at "side") => `(tactic| first
  | exact cdivw (by omega) (by omega)
  | exact cmulw (by omega) (by omega) (by omega) (by omega)
  | exact Or.inr ⟨by omega, by omega⟩
  | exact Or.inl ⟨by omega, by omega⟩
  | omega
  | exact ⟨by omega, by omega, by decide⟩
  | decide)
local macro_rules | `(tactic| walk_at "rd1") => `(tactic| first
  | with_reducible refine rd_seq ?_
  | with_reducible refine rd_asg ?_
  | with_reducible refine rd_drop ?_
  | with_reducible refine rd_ret ?_
  | with_reducible refine rd_retN ?_
  | with_reducible refine rd_ifS ?_
  | ((with_reducible refine rd_var0 ?_); refine ⟨_, rfl, ?_⟩)
  | with_reducible refine rd_c ?_
  | with_reducible refine rd_op ?_
  | with_reducible refine rd_un ?_
  | with_reducible refine rd_I0 ?_
  | with_reducible refine rd_U ?_
  | ((with_reducible refine rd_I ?c ?_); (case c => walk_at "side"))
  | with_reducible refine rd_ipI ?_
  | with_reducible refine rd_eqI ?_
  | with_reducible refine rd_neI ?_
  | with_reducible refine rd_test ?_
  | with_reducible refine rd_tB ?_
  | with_reducible refine rd_bl ?_
  | with_reducible refine rd_not ?_
  | with_reducible refine rd_and ?_
  | with_reducible refine rd_or ?_
  | with_reducible refine rd_andV ?_
  | with_reducible refine rd_orV ?_
  | with_reducible refine rd_notV ?_
  | with_reducible refine rd_ifE ?_
  | with_reducible refine rd_chain ?_
  | with_reducible refine rd_chain3 ?_
  | with_reducible refine rd_nil ?_
  | with_reducible refine rd_cons ?_
  | with_reducible refine rd_call ?_
  | with_reducible refine rd_CB ?_
  | with_reducible refine rd_par ?_
  | with_reducible refine rd_par2 ?_
  | with_reducible refine rd_par3 ?_
  | with_reducible refine rd_par4 ?_
  | ((with_reducible refine rd_aug0 ?_); refine ⟨_, rfl, ?_⟩)
  | with_reducible refine rd_gname ?_
  | with_reducible refine rd_gcons ?_
  | with_reducible refine rd_gnil ?_
  | with_reducible refine rd_max ?_
  | with_reducible refine rd_min ?_
  | with_reducible refine rd_int1 ?_
  | with_reducible refine rd_abs ?_
  | with_reducible refine rd_lst ?_
  | with_reducible refine rd_tup ?_
  | with_reducible refine rd_bm ?_
  | with_reducible refine rd_fld0 ?_
  | with_reducible refine rd_sl0 ?_
  | with_reducible refine rd_noP ?_
  | with_reducible refine rd_part ?_
  | with_reducible refine rd_part2 ?_
  | with_reducible refine rd_meth0 ?_
  | with_reducible refine rd_star ?_
  | with_reducible refine rd_for ?_
  | with_reducible refine rd_rng1 ?_
  | with_reducible refine rd_rng2 ?_
  | with_reducible refine rd_rng3 ?_
  | with_reducible refine rd_iList ?_
  | with_reducible refine rd_iTup ?_
  | with_reducible refine rd_iEnum ?_
  | with_reducible refine rd_lc ?_
  | with_reducible refine rd_yes ?_
  | with_reducible refine rd_augS ?_
  | with_reducible refine rd_drawNew ?_
  | with_reducible refine rd_make0 ?_
  | with_reducible refine rd_next ?_
  | with_reducible refine rd_break ?_
  | with_reducible refine rd_cont ?_
  | with_reducible refine rd_iteTT ?_
  | with_reducible refine rd_iteFF ?_
  | with_reducible refine rd_iteNTT ?_
  | with_reducible refine rd_iteNFF ?_
  | with_reducible refine rd_con0 ?_
  | with_reducible refine rd_truO0 ?_
  | with_reducible refine rd_gfld0 ?_
  | with_reducible refine rd_dc ?_
  | with_reducible refine rd_iKeys ?_
  | with_reducible refine rd_dget0 ?_
  | with_reducible refine rd_dput0 ?_
  | with_reducible refine rd_dnot0 ?_
  | with_reducible refine rd_iEnumT ?_
  | with_reducible refine rd_raP0 ?_
  | with_reducible refine rd_xf0 ?_
  | with_reducible refine rd_cKw ?_
  | with_reducible refine rd_iStr ?_
  | with_reducible refine rd_gSub ?_
  | with_reducible refine rd_asgG ?_)
local macro_rules | `(tactic| walk_at "rd") => `(tactic| repeat walk_at "rd1")
local macro_rules | `(tactic| walk_at "len") => `(tactic| first
  | (intro vs H Q E h; obtain ⟨h2, _⟩ := h; rw [h2]; rfl)
  | (intro vs H Q E h; obtain ⟨_, h2, _⟩ := h; rw [h2]; rfl)
  | (intro vs H Q E h; obtain ⟨_, _, h2, _⟩ := h; rw [h2]; rfl)
  | (intro vs H Q E h; obtain ⟨_, _, _, h2, _⟩ := h; rw [h2]; rfl)
  | (intro vs H Q E h; obtain ⟨_, _, _, _, h2, _⟩ := h; rw [h2]; rfl)
  | (intro vs H Q E h; obtain ⟨_, _, _, _, _, h2, _⟩ := h; rw [h2]; rfl)
  | (intro vs H Q E h; obtain ⟨_, _, _, _, _, _, h2, _⟩ := h; rw [h2]; rfl)
  | (intro vs H Q E h; obtain ⟨_, _, _, _, _, _, _, h2, _⟩ := h; rw [h2]; rfl)
  | (intro vs H Q E h; obtain ⟨_, _, _, _, _, _, _, _, h2, _⟩ := h; rw [h2]; rfl)
  | (intro vs H Q E h; obtain ⟨_, _, _, _, _, _, _, _, _, h2, _⟩ := h; rw [h2]; rfl)
  | (intro vs H Q E h; obtain ⟨_, _, _, _, _, _, _, _, _, _, h2, _⟩ := h; rw [h2]; rfl)
  | (intro vs H Q E h; obtain ⟨_, _, _, _, _, _, _, _, _, _, _, h2, _⟩ := h; rw [h2]; rfl)
  | (intro vs H Q E h; obtain ⟨_, _, _, _, _, _, _, _, _, _, _, _, h2, _⟩ := h; rw [h2]; rfl))
/-- whether a WrongScript shows -/
def showsW (ds : List Deed) (n : Nat) (a b : Int) (k : Mk) : Bool := decide (wrongF [] 0 ds = some n ∧ 1 ≤ a ∧ a < b ∧ b ≤ (fallsN (ds.take n) : Int) ∧ readV (stVF (fl a b k) ([], 0) (ds.take n)).1 ≠ k)
def spWInit (C : Addr) : Sp := fun vs H Q _ => ∃ (self dx t u : Addr) (H0 : Hp) (n : Nat) (a b : Int) (k : Mk), vs = [.ref self, .int (n : Int), .ref t, .ref u] ∧ Same H0 H ∧ H0 self = none ∧ H self = some (.ins C dx []) ∧ H0 t = some (.tup [.int a, .str "leaf"]) ∧ H0 u = some (.tup [.int b, .str (mkS k)]) ∧ ∀ H', Same H0 H' → WrongP C H' self n a b k → Q .non H'
def spAreF : Sp := fun vs H Q _ => ∃ (t u : Addr) (a b today : Int) (k : Mk), vs = [.ref t, .ref u, .int today] ∧ H t = some (.tup [.int a, .str "leaf"]) ∧ H u = some (.tup [.int b, .str (mkS k)]) ∧ k ≠ .leaf ∧ ∀ H', Same H H' → Q (.bl (decide (1 ≤ a ∧ a < b ∧ b ≤ today))) H'
def spWShows (C : Addr) : Sp := fun vs H Q _ => ∃ (x p : Addr) (n : Nat) (a b : Int) (k : Mk) (ds : List Deed), vs = [.ref x, .ref p] ∧ WrongP C H x n a b k ∧ k ≠ .leaf ∧ DeedsP H p ds ∧ okS 0 ds ∧ ds.length ≤ 24 ∧ ∀ H', Same H H' → Q (.bl (showsW ds n a b k)) H'
def WF1 (x : V) : List (Str × V) := [("many", x)]
def WF2 (x y : V) : List (Str × V) := [("many", x), ("one", y)]
def WF3 (x y z : V) : List (Str × V) := [("many", x), ("one", y), ("other", z)]
theorem put_w1 (x : V) : putF "many" x [] = WF1 x := rfl
theorem put_w2 (x y : V) : putF "one" y (WF1 x) = WF2 x y := by
  have h : ¬ (("many" : Str) = "one") := by decide +kernel
  unfold WF1 putF
  rw [if_neg h]
  rfl
theorem put_w3 (x y z : V) : putF "other" z (WF2 x y) = WF3 x y z := by
  have h : ¬ (("many" : Str) = "other") := by decide +kernel
  have h2 : ¬ (("one" : Str) = "other") := by decide +kernel
  unfold WF2 putF
  rw [if_neg h]
  unfold putF
  rw [if_neg h2]
  rfl
theorem altSlF {K : PySem.W.Frag} {σ : L2.St} {H : Hp} {Q : VK} {n j : Nat} {a : Addr} {xs : List V} {th : TE} (hn : σ[n]? = some (some (.ref a))) (hth : ∀ R : VK, R (.int (j : Int)) H → th σ H R) (e : SeqP H a xs) (h : ∀ p H', Same H H' → SeqP H' p (xs.take j) → Q (.ref p) H') :
    tSl (rSlL K) (tVar n) tNoPart (tPart th) σ H Q ∨ tSl (rSlA K) (tVar n) tNoPart (tPart th) σ H Q := by
  rcases e with z | z
  · refine .inl ⟨_, hn, hth _ ⟨j, rfl, ?_⟩⟩
    refine rd_slL (SqL.of z) fun p H' _ s e _ => ?_
    rw [cutN_take] at e
    exact h p H' s (.inl e)
  · refine .inr ⟨_, hn, hth _ ⟨j, rfl, ?_⟩⟩
    refine rd_slA z fun p H' s e => ?_
    rw [cutN_take] at e
    exact h p H' s (.inr e)
theorem falls_two {a b : Int} {k : Mk} (h : a < b) (y : Int) : (valV (mergeK [] [(Sum.inl a, V.str "leaf"), (Sum.inl b, V.str (mkS k))]) (Sum.inl y)).getD .non = mV (fl a b k y) := by
  have hab : ¬ a = b := by omega
  have e : mergeK [] [((Sum.inl a : Key), V.str "leaf"), (Sum.inl b, V.str (mkS k))] = [(Sum.inl a, V.str "leaf"), (Sum.inl b, V.str (mkS k))] := by
    show putK (putK [] (Sum.inl a) (V.str "leaf")) (Sum.inl b) (V.str (mkS k)) = _
    have h1 : putK [] (Sum.inl a : Key) (V.str "leaf") = [(Sum.inl a, V.str "leaf")] := by rfl
    rw [h1]
    unfold putK
    rw [if_neg (by simp [hab])]
    rfl
  rw [e]
  unfold fl
  by_cases c1 : a = y
  · subst c1
    rw [valV_pos rfl, if_neg hab, if_pos rfl]
    rfl
  · rw [valV_neg (fun z => c1 (Sum.inl.inj z))]
    by_cases c2 : b = y
    · subst c2
      rw [valV_pos rfl, if_pos rfl, if_neg hab]
      rfl
    · rw [valV_neg (fun z => c2 (Sum.inl.inj z)), if_neg (fun z => c2 z.symm), if_neg (fun z => c1 z.symm)]
      rfl
section
variable {P : Program} {w : World} {K : PySem.W.Frag} {mg : Str → Option Value} {base : Heap} {C_Evidence C_Good C_Bad C_RightRounds C_WrongRound C_BadScript D_FALL : Addr}
end
end Sl

set_option Elab.async false
set_option linter.all false
set_option maxRecDepth 100000
set_option maxHeartbeats 8000000
set_option exponentiation.threshold 9000
namespace Sl
open PySem L2 C8 StX Silt
local macro_rules | `(tactic| walk_at "side") => `(tactic| first
  | exact cdivw (by omega) (by omega)
  | exact cmulw (by omega) (by omega) (by omega) (by omega)
  | exact Or.inr ⟨by omega, by omega⟩
  | exact Or.inl ⟨by omega, by omega⟩
  | omega
  | exact ⟨by omega, by omega, by decide⟩
  | decide)
local macro_rules | `(tactic| walk_at "rd1") => `(tactic| first
  | with_reducible refine rd_seq ?_
  | with_reducible refine rd_asg ?_
  | with_reducible refine rd_drop ?_
  | with_reducible refine rd_ret ?_
  | with_reducible refine rd_retN ?_
  | with_reducible refine rd_ifS ?_
  | ((with_reducible refine rd_var0 ?_); refine ⟨_, rfl, ?_⟩)
  | with_reducible refine rd_c ?_
  | with_reducible refine rd_op ?_
  | with_reducible refine rd_un ?_
  | with_reducible refine rd_I0 ?_
  | with_reducible refine rd_U ?_
  | ((with_reducible refine rd_I ?c ?_); (case c => walk_at "side"))
  | with_reducible refine rd_ipI ?_
  | with_reducible refine rd_eqI ?_
  | with_reducible refine rd_neI ?_
  | with_reducible refine rd_test ?_
  | with_reducible refine rd_tB ?_
  | with_reducible refine rd_bl ?_
  | with_reducible refine rd_not ?_
  | with_reducible refine rd_and ?_
  | with_reducible refine rd_or ?_
  | with_reducible refine rd_andV ?_
  | with_reducible refine rd_orV ?_
  | with_reducible refine rd_notV ?_
  | with_reducible refine rd_ifE ?_
  | with_reducible refine rd_chain ?_
  | with_reducible refine rd_chain3 ?_
  | with_reducible refine rd_nil ?_
  | with_reducible refine rd_cons ?_
  | with_reducible refine rd_call ?_
  | with_reducible refine rd_CB ?_
  | with_reducible refine rd_par ?_
  | with_reducible refine rd_par2 ?_
  | with_reducible refine rd_par3 ?_
  | with_reducible refine rd_par4 ?_
  | ((with_reducible refine rd_aug0 ?_); refine ⟨_, rfl, ?_⟩)
  | with_reducible refine rd_gname ?_
  | with_reducible refine rd_gcons ?_
  | with_reducible refine rd_gnil ?_
  | with_reducible refine rd_max ?_
  | with_reducible refine rd_min ?_
  | with_reducible refine rd_int1 ?_
  | with_reducible refine rd_abs ?_
  | with_reducible refine rd_lst ?_
  | with_reducible refine rd_tup ?_
  | with_reducible refine rd_bm ?_
  | with_reducible refine rd_fld0 ?_
  | with_reducible refine rd_sl0 ?_
  | with_reducible refine rd_noP ?_
  | with_reducible refine rd_part ?_
  | with_reducible refine rd_part2 ?_
  | with_reducible refine rd_meth0 ?_
  | with_reducible refine rd_star ?_
  | with_reducible refine rd_for ?_
  | with_reducible refine rd_rng1 ?_
  | with_reducible refine rd_rng2 ?_
  | with_reducible refine rd_rng3 ?_
  | with_reducible refine rd_iList ?_
  | with_reducible refine rd_iTup ?_
  | with_reducible refine rd_iEnum ?_
  | with_reducible refine rd_lc ?_
  | with_reducible refine rd_yes ?_
  | with_reducible refine rd_augS ?_
  | with_reducible refine rd_drawNew ?_
  | with_reducible refine rd_make0 ?_
  | with_reducible refine rd_next ?_
  | with_reducible refine rd_break ?_
  | with_reducible refine rd_cont ?_
  | with_reducible refine rd_iteTT ?_
  | with_reducible refine rd_iteFF ?_
  | with_reducible refine rd_iteNTT ?_
  | with_reducible refine rd_iteNFF ?_
  | with_reducible refine rd_con0 ?_
  | with_reducible refine rd_truO0 ?_
  | with_reducible refine rd_gfld0 ?_
  | with_reducible refine rd_dc ?_
  | with_reducible refine rd_iKeys ?_
  | with_reducible refine rd_dget0 ?_
  | with_reducible refine rd_dput0 ?_
  | with_reducible refine rd_dnot0 ?_
  | with_reducible refine rd_iEnumT ?_
  | with_reducible refine rd_raP0 ?_
  | with_reducible refine rd_xf0 ?_
  | with_reducible refine rd_cKw ?_
  | with_reducible refine rd_iStr ?_
  | with_reducible refine rd_gSub ?_
  | with_reducible refine rd_asgG ?_)
local macro_rules | `(tactic| walk_at "rd") => `(tactic| repeat walk_at "rd1")
local macro_rules | `(tactic| walk_at "len") => `(tactic| first
  | (intro vs H Q E h; obtain ⟨h2, _⟩ := h; rw [h2]; rfl)
  | (intro vs H Q E h; obtain ⟨_, h2, _⟩ := h; rw [h2]; rfl)
  | (intro vs H Q E h; obtain ⟨_, _, h2, _⟩ := h; rw [h2]; rfl)
  | (intro vs H Q E h; obtain ⟨_, _, _, h2, _⟩ := h; rw [h2]; rfl)
  | (intro vs H Q E h; obtain ⟨_, _, _, _, h2, _⟩ := h; rw [h2]; rfl)
  | (intro vs H Q E h; obtain ⟨_, _, _, _, _, h2, _⟩ := h; rw [h2]; rfl)
  | (intro vs H Q E h; obtain ⟨_, _, _, _, _, _, h2, _⟩ := h; rw [h2]; rfl)
  | (intro vs H Q E h; obtain ⟨_, _, _, _, _, _, _, h2, _⟩ := h; rw [h2]; rfl)
  | (intro vs H Q E h; obtain ⟨_, _, _, _, _, _, _, _, h2, _⟩ := h; rw [h2]; rfl)
  | (intro vs H Q E h; obtain ⟨_, _, _, _, _, _, _, _, _, h2, _⟩ := h; rw [h2]; rfl)
  | (intro vs H Q E h; obtain ⟨_, _, _, _, _, _, _, _, _, _, h2, _⟩ := h; rw [h2]; rfl)
  | (intro vs H Q E h; obtain ⟨_, _, _, _, _, _, _, _, _, _, _, h2, _⟩ := h; rw [h2]; rfl)
  | (intro vs H Q E h; obtain ⟨_, _, _, _, _, _, _, _, _, _, _, _, h2, _⟩ := h; rw [h2]; rfl))
/-- what judge_script returns -/
def JudgeP (C1 C2 : Addr) (H : Hp) (x : Addr) (ds : List Deed) : Prop := (wrongF [] 0 ds = none ∧ RightP C1 H x (rowsF [] 0 ds)) ∨ ∃ w a b k, wrongF [] 0 ds = some w ∧ WrongP C2 H x w a b k ∧ Wit ds w a b k
def spJudge (C1 C2 : Addr) : Sp := fun vs H Q _ => ∃ (p : Addr) (ds : List Deed), vs = [.ref p] ∧ DeedsP H p ds ∧ okS 0 ds ∧ ds.length ≤ 24 ∧ ∀ H' x, Same H H' → JudgeP C1 C2 H' x ds → Q (.ref x) H'
theorem altIxF {K : PySem.W.Frag} {σ : L2.St} {H : Hp} {Q : VK} {n j : Nat} {a : Addr} {xs : List V} {v : V} {th : TE} (hn : σ[n]? = some (some (.ref a))) (hth : ∀ R : VK, R (.int (j : Int)) H → th σ H R) (e : SeqP H a xs) (hv : xs[j]? = some v) (h : Q v H) : tOp (rIxL K) (tVar n) th σ H Q ∨ tOp (rIxT K) (tVar n) th σ H Q :=
  e.elim (fun z => .inl ⟨_, hn, hth _ (rd_ixL z (atI_nat' hv) h)⟩) fun z => .inr ⟨_, hn, hth _ (rd_ixT z (atI_nat' hv) h)⟩
theorem stF_le (ds : List Deed) (os : okS 0 ds) (ld : ds.length ≤ 24) (i : Nat) {x : Deed} (hx : ds[i]? = some x) : (stepS (stF ([], 0) (ds.take i)) x).1.length ≤ 25 ∧ (stepS (stF ([], 0) (ds.take i)) x).1.flatten.length ≤ 25 := by
  have b := stF_len (s := ([], 0)) os rfl (i + 1)
  have etk : ds.take (i + 1) = ds.take i ++ [x] := by rw [List.take_add_one, hx]; rfl
  rw [etk, stF_snoc] at b
  have hi := (List.getElem?_eq_some_iff.mp hx).1
  have b1 : (stepS (stF ([], 0) (ds.take i)) x).1.length ≤ 0 + (i + 1) := b.1
  have b2 : (stepS (stF ([], 0) (ds.take i)) x).1.flatten.length ≤ 0 + (i + 1) := b.2
  exact ⟨by omega, by omega⟩
theorem rows_le (ds : List Deed) (os : okS 0 ds) (ld : ds.length ≤ 24) : ∀ r ∈ rowsF [] 0 ds, r.length ≤ 1000 := fun r hr => by
  obtain ⟨i, hi⟩ := List.getElem?_of_mem hr
  have h1 := (List.getElem?_eq_some_iff.mp hi).1
  rw [rowsF_len] at h1
  have hx : ds[i]? = some ds[i] := List.getElem?_eq_getElem h1
  have h2 := rowsF_at (s := ([], 0)) hx
  have h3 := Option.some.inj (hi.symm.trans h2)
  have := stF_le ds os ld i hx
  rw [h3]
  omega
section
variable {P : Program} {w : World} {K : PySem.W.Frag} {mg : Str → Option Value} {base : Heap} {C_Evidence C_Good C_Bad C_RightRounds C_WrongRound C_BadScript D_FALL : Addr}
end
end Sl

set_option Elab.async false
set_option linter.all false
set_option maxRecDepth 100000
set_option maxHeartbeats 8000000
set_option exponentiation.threshold 9000
namespace Sl
open PySem L2 C8 StX Silt
local macro_rules | `(tactic| walk_at "side") => `(tactic| first
  | exact cdivw (by omega) (by omega)
  | exact cmulw (by omega) (by omega) (by omega) (by omega)
  | exact Or.inr ⟨by omega, by omega⟩
  | exact Or.inl ⟨by omega, by omega⟩
  | omega
  | exact ⟨by omega, by omega, by decide⟩
  | decide)
local macro_rules | `(tactic| walk_at "rd1") => `(tactic| first
  | with_reducible refine rd_seq ?_
  | with_reducible refine rd_asg ?_
  | with_reducible refine rd_drop ?_
  | with_reducible refine rd_ret ?_
  | with_reducible refine rd_retN ?_
  | with_reducible refine rd_ifS ?_
  | ((with_reducible refine rd_var0 ?_); refine ⟨_, rfl, ?_⟩)
  | with_reducible refine rd_c ?_
  | with_reducible refine rd_op ?_
  | with_reducible refine rd_un ?_
  | with_reducible refine rd_I0 ?_
  | with_reducible refine rd_U ?_
  | ((with_reducible refine rd_I ?c ?_); (case c => walk_at "side"))
  | with_reducible refine rd_ipI ?_
  | with_reducible refine rd_eqI ?_
  | with_reducible refine rd_neI ?_
  | with_reducible refine rd_test ?_
  | with_reducible refine rd_tB ?_
  | with_reducible refine rd_bl ?_
  | with_reducible refine rd_not ?_
  | with_reducible refine rd_and ?_
  | with_reducible refine rd_or ?_
  | with_reducible refine rd_andV ?_
  | with_reducible refine rd_orV ?_
  | with_reducible refine rd_notV ?_
  | with_reducible refine rd_ifE ?_
  | with_reducible refine rd_chain ?_
  | with_reducible refine rd_chain3 ?_
  | with_reducible refine rd_nil ?_
  | with_reducible refine rd_cons ?_
  | with_reducible refine rd_call ?_
  | with_reducible refine rd_CB ?_
  | with_reducible refine rd_par ?_
  | with_reducible refine rd_par2 ?_
  | with_reducible refine rd_par3 ?_
  | with_reducible refine rd_par4 ?_
  | ((with_reducible refine rd_aug0 ?_); refine ⟨_, rfl, ?_⟩)
  | with_reducible refine rd_gname ?_
  | with_reducible refine rd_gcons ?_
  | with_reducible refine rd_gnil ?_
  | with_reducible refine rd_max ?_
  | with_reducible refine rd_min ?_
  | with_reducible refine rd_int1 ?_
  | with_reducible refine rd_abs ?_
  | with_reducible refine rd_lst ?_
  | with_reducible refine rd_tup ?_
  | with_reducible refine rd_bm ?_
  | with_reducible refine rd_fld0 ?_
  | with_reducible refine rd_sl0 ?_
  | with_reducible refine rd_noP ?_
  | with_reducible refine rd_part ?_
  | with_reducible refine rd_part2 ?_
  | with_reducible refine rd_meth0 ?_
  | with_reducible refine rd_star ?_
  | with_reducible refine rd_for ?_
  | with_reducible refine rd_rng1 ?_
  | with_reducible refine rd_rng2 ?_
  | with_reducible refine rd_rng3 ?_
  | with_reducible refine rd_iList ?_
  | with_reducible refine rd_iTup ?_
  | with_reducible refine rd_iEnum ?_
  | with_reducible refine rd_lc ?_
  | with_reducible refine rd_yes ?_
  | with_reducible refine rd_augS ?_
  | with_reducible refine rd_drawNew ?_
  | with_reducible refine rd_make0 ?_
  | with_reducible refine rd_next ?_
  | with_reducible refine rd_break ?_
  | with_reducible refine rd_cont ?_
  | with_reducible refine rd_iteTT ?_
  | with_reducible refine rd_iteFF ?_
  | with_reducible refine rd_iteNTT ?_
  | with_reducible refine rd_iteNFF ?_
  | with_reducible refine rd_con0 ?_
  | with_reducible refine rd_truO0 ?_
  | with_reducible refine rd_gfld0 ?_
  | with_reducible refine rd_dc ?_
  | with_reducible refine rd_iKeys ?_
  | with_reducible refine rd_dget0 ?_
  | with_reducible refine rd_dput0 ?_
  | with_reducible refine rd_dnot0 ?_
  | with_reducible refine rd_iEnumT ?_
  | with_reducible refine rd_raP0 ?_
  | with_reducible refine rd_xf0 ?_
  | with_reducible refine rd_cKw ?_
  | with_reducible refine rd_iStr ?_
  | with_reducible refine rd_gSub ?_
  | with_reducible refine rd_asgG ?_)
local macro_rules | `(tactic| walk_at "rd") => `(tactic| repeat walk_at "rd1")
local macro_rules | `(tactic| walk_at "len") => `(tactic| first
  | (intro vs H Q E h; obtain ⟨h2, _⟩ := h; rw [h2]; rfl)
  | (intro vs H Q E h; obtain ⟨_, h2, _⟩ := h; rw [h2]; rfl)
  | (intro vs H Q E h; obtain ⟨_, _, h2, _⟩ := h; rw [h2]; rfl)
  | (intro vs H Q E h; obtain ⟨_, _, _, h2, _⟩ := h; rw [h2]; rfl)
  | (intro vs H Q E h; obtain ⟨_, _, _, _, h2, _⟩ := h; rw [h2]; rfl)
  | (intro vs H Q E h; obtain ⟨_, _, _, _, _, h2, _⟩ := h; rw [h2]; rfl)
  | (intro vs H Q E h; obtain ⟨_, _, _, _, _, _, h2, _⟩ := h; rw [h2]; rfl)
  | (intro vs H Q E h; obtain ⟨_, _, _, _, _, _, _, h2, _⟩ := h; rw [h2]; rfl)
  | (intro vs H Q E h; obtain ⟨_, _, _, _, _, _, _, _, h2, _⟩ := h; rw [h2]; rfl)
  | (intro vs H Q E h; obtain ⟨_, _, _, _, _, _, _, _, _, h2, _⟩ := h; rw [h2]; rfl)
  | (intro vs H Q E h; obtain ⟨_, _, _, _, _, _, _, _, _, _, h2, _⟩ := h; rw [h2]; rfl)
  | (intro vs H Q E h; obtain ⟨_, _, _, _, _, _, _, _, _, _, _, h2, _⟩ := h; rw [h2]; rfl)
  | (intro vs H Q E h; obtain ⟨_, _, _, _, _, _, _, _, _, _, _, _, h2, _⟩ := h; rw [h2]; rfl))
/-- how many layers there are behind some deeds -/
def endM : Nat → List Deed → Option Nat
  | m, [] => some m
  | m, x :: r => match manyB m x with
    | some m' => endM m' r
    | none => none
/-- what is no script: and the place that is told -/
def BadS (H : Hp) (v : V) (m : Nat) (z : V) : Prop := ((v = .non ∨ ∃ s, v = .str s) ∧ z = .non) ∨ (∃ a xs, v = .ref a ∧ H a = some (.lst xs) ∧ 24 < xs.length ∧ z = .non) ∨
  ∃ a xs ds y d, v = .ref a ∧ H a = some (.lst (xs ++ [y])) ∧ xs.length ≤ 23 ∧ DnAll H xs (ds.map deedD) ∧ okS m ds ∧ z = .int (ds.length : Int) ∧ Dt H y d ∧ AskD d ∧ (deedB d = false ∨ ∃ x mi, d = deedD x ∧ okD x ∧ endM m ds = some mi ∧ manyB mi x = none)
def spCheckX (C : Addr) : Sp := fun vs H Q E => ∃ (v z : V) (m : Nat), vs = [v, .int (m : Int)] ∧ BadS H v m z ∧ ∀ d H', Same H H' → H' d = some (.xd [("place", z)]) → E (.ref C) (some d) H'
def spJudgeX (C : Addr) : Sp := fun vs H Q E => ∃ (v z : V), vs = [v] ∧ BadS H v 0 z ∧ ∀ d H', Same H H' → H' d = some (.xd [("place", z)]) → E (.ref C) (some d) H'
section
variable {H : Hp} {Q : VK} {K : PySem.W.Frag}
theorem kitS {a : String} (h : a = "NoneType" ∨ a = "str") : PySem.W.kitAny K (.type a) [.type "list", .type "tuple"] = some false := by
  rcases h with rfl | rfl <;> exact kitAny_cons (b := false) (kit_ty (by decide +kernel)) (fun _ => kitAny_cons (b := false) (kit_ty (by decide +kernel)) (fun _ => rfl) (fun h => nomatch h)) (fun h => nomatch h)
theorem rd_isiNs {u : Addr} {v : V} (hv : v = .non ∨ ∃ s, v = .str s) (eu : H u = some (.tup [.ty "list", .ty "tuple"])) (h : Q (.bl false) H) : rIsiT K [v, .ref u] H Q := by
  rcases hv with rfl | ⟨s, rfl⟩
  · exact ⟨_, u, _, _, [.type "list", .type "tuple"], false, rfl, eu, .cons (.ty _) (.cons (.ty _) .nil), .base .non, kitS (.inl rfl), h⟩
  · exact ⟨_, u, _, _, [.type "list", .type "tuple"], false, rfl, eu, .cons (.ty _) (.cons (.ty _) .nil), .base (.str _), kitS (.inr rfl), h⟩
end
section
variable {P : Program} {w : World} {K : PySem.W.Frag} {mg : Str → Option Value} {base : Heap} {C_Evidence C_Good C_Bad C_RightRounds C_WrongRound C_BadScript D_FALL : Addr}
theorem xal2_check_script (T : TX P K mg C_Evidence C_Good C_Bad C_RightRounds C_WrongRound C_BadScript D_FALL) : ∃ f fd, C8.Def K mg "check_script" s_check_script f fd ∧ (∃ ds, Vals [] ds ∧ Binds K fd P_check_script ds) ∧ (∃ ds, Vals [.int 0] ds ∧ Binds K fd P_check_script ds) ∧ FnOk P w K mg base (L2.CX P w) 4 f fd P_check_script (spCheckX C_BadScript) := by
  obtain ⟨f0, fd, D, b0, b1⟩ := T.d_check_script
  have G_is_deed := cal_is_deed (P := P) (w := w) (base := base) T
  have G_many_behind := cal_many_behind (P := P) (w := w) (base := base) T
  refine ⟨f0, fd, D, b0, b1, fnX D.fn sc_check_script (by walk_at "len") (fun cdv A outer s H vs Q E hr h => ?_)⟩
  obtain ⟨v, z, m, rfl, hb, k⟩ := h
  rcases hb with ⟨hv, rfl⟩ | ⟨a, xs, rfl, e, hl, rfl⟩ | ⟨a, xs, ds, y, d, rfl, e, hl, da, os, rfl, dy, ask, bad⟩
  · refine ⟨_, (pss_cut (ps_if (PW.pt (pw_or (pt_not (pt_val (pe_callB call_isiT (by rfl) T.b_isinstance (by decide +kernel) (pa_cons (pv 0) (pa_cons (pe_tup (pa_cons (pe_bltn (v := .ty "list") (u := .type "list") rfl T.b_list (by decide +kernel) rfl) (pa_cons (pe_bltn (v := .ty "tuple") (u := .type "tuple") rfl T.b_tuple (by decide +kernel) rfl) pa_nil))) pa_nil))))) (pw_or1 (pt_cmpR op_gt (pe_callB cr_lenS (by rfl) T.b_len (by decide +kernel) (pa_cons (pv 0) pa_nil)) (pe_gc rfl T.g_MOST_DEEDS) (nomark _))))) (pss_one (ps_raiseP rfl (takes_of rfl rfl rfl rfl) T.y_BadScript ss_BadScript T.b_super T.mg_BadScript hr (by decide) rfl pe_non)) pss_nil)
      (pss_one (ps_for (passes_of rfl) rfl (pi_alt (pi_enum (by rfl) T.b_enumerate (pa_cons (pv 0) pa_nil)) (pi_enumT (by rfl) T.b_enumerate (pa_cons (pv 0) pa_nil))) (pg_tup rfl (pgs_cons (pg_n 2 sc_check_script.nd) (pgs_cons (pg_n 3 sc_check_script.nd) pgs_nil))) (pss_cons (ps_if (pt_not (pt_val (pe_c G_is_deed hr (by decide) rfl (pa_cons (pv 3) pa_nil)))) (pss_one (ps_raiseP rfl (takes_of rfl rfl rfl rfl) T.y_BadScript ss_BadScript T.b_super T.mg_BadScript hr (by decide) rfl (pv 2))) pss_nil)
      (pss_cons (ps_s 1 sc_check_script.nd (pe_c G_many_behind hr (by decide) rfl (pa_cons (pv 1) (pa_cons (pv 3) pa_nil))))
      (pss_one (ps_if (pt_cmpR op_isNn (pv 1) pe_non (nomark _)) (pss_one (ps_raiseP rfl (takes_of rfl rfl rfl rfl) T.y_BadScript ss_BadScript T.b_super T.mg_BadScript hr (by decide) rfl (pv 2))) pss_nil))))))), ?_⟩
    walk_at "rd"
    refine ⟨fun σ H' => False, ?_, fun σ H' q => q.elim⟩
    walk_at "rd"
    refine rd_newT (by decide) fun u H1 _ s1 eu _ => ?_
    walk_at "rd"
    refine rd_isiNs hv eu ?_
    walk_at "rd"
    exact rd_raP fun d H' hd s e => k d H' (s1.trans s) e
  · refine ⟨_, (pss_cut (ps_if (PW.pt (pw_or (pt_not (pt_val (pe_callB call_isiT (by rfl) T.b_isinstance (by decide +kernel) (pa_cons (pv 0) (pa_cons (pe_tup (pa_cons (pe_bltn (v := .ty "list") (u := .type "list") rfl T.b_list (by decide +kernel) rfl) (pa_cons (pe_bltn (v := .ty "tuple") (u := .type "tuple") rfl T.b_tuple (by decide +kernel) rfl) pa_nil))) pa_nil))))) (pw_or1 (pt_cmpR op_gt (pe_callB cr_lenS (by rfl) T.b_len (by decide +kernel) (pa_cons (pv 0) pa_nil)) (pe_gc rfl T.g_MOST_DEEDS) (nomark _))))) (pss_one (ps_raiseP rfl (takes_of rfl rfl rfl rfl) T.y_BadScript ss_BadScript T.b_super T.mg_BadScript hr (by decide) rfl pe_non)) pss_nil)
      (pss_one (ps_for (passes_of rfl) rfl (pi_alt (pi_enum (by rfl) T.b_enumerate (pa_cons (pv 0) pa_nil)) (pi_enumT (by rfl) T.b_enumerate (pa_cons (pv 0) pa_nil))) (pg_tup rfl (pgs_cons (pg_n 2 sc_check_script.nd) (pgs_cons (pg_n 3 sc_check_script.nd) pgs_nil))) (pss_cons (ps_if (pt_not (pt_val (pe_c G_is_deed hr (by decide) rfl (pa_cons (pv 3) pa_nil)))) (pss_one (ps_raiseP rfl (takes_of rfl rfl rfl rfl) T.y_BadScript ss_BadScript T.b_super T.mg_BadScript hr (by decide) rfl (pv 2))) pss_nil)
      (pss_cons (ps_s 1 sc_check_script.nd (pe_c G_many_behind hr (by decide) rfl (pa_cons (pv 1) (pa_cons (pv 3) pa_nil))))
      (pss_one (ps_if (pt_cmpR op_isNn (pv 1) pe_non (nomark _)) (pss_one (ps_raiseP rfl (takes_of rfl rfl rfl rfl) T.y_BadScript ss_BadScript T.b_super T.mg_BadScript hr (by decide) rfl (pv 2))) pss_nil))))))), ?_⟩
    walk_at "rd"
    refine ⟨fun σ H' => False, ?_, fun σ H' q => q.elim⟩
    walk_at "rd"
    refine rd_newT (by decide) fun u H1 _ s1 eu _ => ?_
    walk_at "rd"
    refine rd_isiTL (s1 _ _ e) eu ?_
    walk_at "rd"
    refine rd_lenL (s1 _ _ e) ?_
    walk_at "rd"
    refine rd_iteT (by omega) ?_
    walk_at "rd"
    exact rd_raP fun d H' hd s e => k d H' (s1.trans s) e
  · refine ⟨_, (pss_cut (ps_if (PW.pt (pw_or (pt_not (pt_val (pe_callB call_isiT (by rfl) T.b_isinstance (by decide +kernel) (pa_cons (pv 0) (pa_cons (pe_tup (pa_cons (pe_bltn (v := .ty "list") (u := .type "list") rfl T.b_list (by decide +kernel) rfl) (pa_cons (pe_bltn (v := .ty "tuple") (u := .type "tuple") rfl T.b_tuple (by decide +kernel) rfl) pa_nil))) pa_nil))))) (pw_or1 (pt_cmpR op_gt (pe_callB cr_lenS (by rfl) T.b_len (by decide +kernel) (pa_cons (pv 0) pa_nil)) (pe_gc rfl T.g_MOST_DEEDS) (nomark _))))) (pss_one (ps_raiseP rfl (takes_of rfl rfl rfl rfl) T.y_BadScript ss_BadScript T.b_super T.mg_BadScript hr (by decide) rfl pe_non)) pss_nil)
      (pss_one (ps_for (passes_of rfl) rfl (pi_alt (pi_enum (by rfl) T.b_enumerate (pa_cons (pv 0) pa_nil)) (pi_enumT (by rfl) T.b_enumerate (pa_cons (pv 0) pa_nil))) (pg_tup rfl (pgs_cons (pg_n 2 sc_check_script.nd) (pgs_cons (pg_n 3 sc_check_script.nd) pgs_nil))) (pss_cons (ps_if (pt_not (pt_val (pe_c G_is_deed hr (by decide) rfl (pa_cons (pv 3) pa_nil)))) (pss_one (ps_raiseP rfl (takes_of rfl rfl rfl rfl) T.y_BadScript ss_BadScript T.b_super T.mg_BadScript hr (by decide) rfl (pv 2))) pss_nil)
      (pss_cons (ps_s 1 sc_check_script.nd (pe_c G_many_behind hr (by decide) rfl (pa_cons (pv 1) (pa_cons (pv 3) pa_nil))))
      (pss_one (ps_if (pt_cmpR op_isNn (pv 1) pe_non (nomark _)) (pss_one (ps_raiseP rfl (takes_of rfl rfl rfl rfl) T.y_BadScript ss_BadScript T.b_super T.mg_BadScript hr (by decide) rfl (pv 2))) pss_nil))))))), ?_⟩
    walk_at "rd"
    have lx := DeedsP.len da
    refine ⟨fun σ H' => Same H H' ∧ σ = [some (.ref a), some (.int (m : Int)), none, none], ?_, ?_⟩
    · walk_at "rd"
      refine rd_newT (by simp) fun u H1 _ s1 eu _ => ?_
      walk_at "rd"
      refine rd_isiTL (s1 _ _ e) eu ?_
      walk_at "rd"
      refine rd_lenL (s1 _ _ e) ?_
      walk_at "rd"
      refine rd_iteF (by rw [List.length_append]; simp only [List.length_cons, List.length_nil]; omega) ?_
      walk_at "rd"
      exact ⟨s1, rfl⟩
    rintro σ H1 ⟨s1, rfl⟩
    walk_at "rd"
    refine altE rfl (SqL.of (s1 _ _ e) |> .inl) fun J hJ => ?_
    refine forR_E hJ (fun j σ H' => ∃ (mj : Nat) (v2 v3 : Option V), j ≤ xs.length ∧ Same H1 H' ∧ okS mj (ds.drop j) ∧ endM mj (ds.drop j) = endM m ds ∧ σ = [some (.ref a), some (.int (mj : Int)), v2, v3]) (fun j σ H' ⟨_, _, _, _, s, _⟩ => s) ⟨m, _, _, Nat.zero_le _, Same.refl H1, os, rfl, rfl⟩ ?_ ?_
    · rintro j w' σ H2 q H3 hy ⟨mj, v2, v3, hjl, s2, osj, eM, rfl⟩ _ s3 eq3
      have s13 := s1.trans (s2.trans s3)
      by_cases hj : j < xs.length
      · rw [List.getElem?_append_left hj] at hy
        obtain ⟨x, hx, dx⟩ := deeds_get (da.mono s13) hy
        have ed : ds.drop j = x :: ds.drop (j + 1) := by
          obtain ⟨h1, h2⟩ := List.getElem?_eq_some_iff.mp hx
          rw [List.drop_eq_getElem_cons h1, h2]
        rw [ed] at osj eM
        obtain ⟨ok, m', hm, os'⟩ := osj
        refine rd_gtup eq3 rfl ?_
        walk_at "rd"
        refine ⟨w', _, rfl, dx.dt, ask_ok ok, fun H4 s4 => ?_⟩
        rw [deedB_deed, decide_eq_true ok]
        walk_at "rd"
        refine ⟨mj, w', x, rfl, (dx.mono s4).dt, ok, ?_⟩
        unfold manyV
        rw [hm]
        walk_at "rd"
        refine rd_isN0 ?_
        refine ⟨_, rfl, ?_⟩
        rw [if_neg (by simp)]
        walk_at "rd"
        refine ⟨m', _, _, hj, s2.trans (s3.trans s4), os', ?_, rfl⟩
        rw [← eM]
        show _ = (match manyB mj x with | some m' => endM m' (ds.drop (j + 1)) | none => none)
        rw [hm]
      · have ej : j = xs.length := by omega
        subst ej
        rw [List.getElem?_append_right (Nat.le_refl _), Nat.sub_self] at hy
        cases hy
        rw [lx, List.drop_length] at eM
        have eM : some mj = endM m ds := eM
        refine rd_gtup eq3 rfl ?_
        walk_at "rd"
        refine ⟨y, d, rfl, dy.mono s13, ask, fun H4 s4 => ?_⟩
        have s14 := s13.trans s4
        rcases bad with hb | ⟨x, mi, rfl, ok, hmi, hn⟩
        · rw [hb]
          walk_at "rd"
          rw [lx]
          exact rd_raP fun d H' hd s e => k d H' (s14.trans s) e
        · rw [deedB_deed, decide_eq_true ok]
          walk_at "rd"
          refine ⟨mj, y, x, rfl, dy.mono s14, ok, ?_⟩
          rw [hmi] at eM
          cases eM
          unfold manyV
          rw [hn]
          walk_at "rd"
          refine rd_isN0 ?_
          refine ⟨_, rfl, ?_⟩
          rw [decide_eq_true rfl]
          walk_at "rd"
          rw [lx]
          exact rd_raP fun d H' hd s e => k d H' (s14.trans s) e
    · rintro σ H2 ⟨mj, v2, v3, hjl, _⟩
      rw [List.length_append] at hjl
      simp only [List.length_cons, List.length_nil] at hjl
      omega
theorem xal_check_script (T : TX P K mg C_Evidence C_Good C_Bad C_RightRounds C_WrongRound C_BadScript D_FALL) : CalX P w K mg base 4 "check_script" (spCheckX C_BadScript) [.int 0] := by
  obtain ⟨f, fd, D, _, ⟨ds, v, b⟩, F⟩ := xal2_check_script (P := P) (w := w) (base := base) T
  exact ⟨f, fd, _, ds, F, D.mgf, D.kp, b, v⟩
end
end Sl

set_option Elab.async false
set_option linter.all false
set_option maxRecDepth 100000
set_option maxHeartbeats 8000000
set_option exponentiation.threshold 9000
namespace Sl
open PySem L2 C8 StX Silt
local macro_rules | `(tactic| walk_at "side") => `(tactic| first
  | exact cdivw (by omega) (by omega)
  | exact cmulw (by omega) (by omega) (by omega) (by omega)
  | exact Or.inr ⟨by omega, by omega⟩
  | exact Or.inl ⟨by omega, by omega⟩
  | omega
  | exact ⟨by omega, by omega, by decide⟩
  | decide)
local macro_rules | `(tactic| walk_at "rd1") => `(tactic| first
  | with_reducible refine rd_seq ?_
  | with_reducible refine rd_asg ?_
  | with_reducible refine rd_drop ?_
  | with_reducible refine rd_ret ?_
  | with_reducible refine rd_retN ?_
  | with_reducible refine rd_ifS ?_
  | ((with_reducible refine rd_var0 ?_); refine ⟨_, rfl, ?_⟩)
  | with_reducible refine rd_c ?_
  | with_reducible refine rd_op ?_
  | with_reducible refine rd_un ?_
  | with_reducible refine rd_I0 ?_
  | with_reducible refine rd_U ?_
  | ((with_reducible refine rd_I ?c ?_); (case c => walk_at "side"))
  | with_reducible refine rd_ipI ?_
  | with_reducible refine rd_eqI ?_
  | with_reducible refine rd_neI ?_
  | with_reducible refine rd_test ?_
  | with_reducible refine rd_tB ?_
  | with_reducible refine rd_bl ?_
  | with_reducible refine rd_not ?_
  | with_reducible refine rd_and ?_
  | with_reducible refine rd_or ?_
  | with_reducible refine rd_andV ?_
  | with_reducible refine rd_orV ?_
  | with_reducible refine rd_notV ?_
  | with_reducible refine rd_ifE ?_
  | with_reducible refine rd_chain ?_
  | with_reducible refine rd_chain3 ?_
  | with_reducible refine rd_nil ?_
  | with_reducible refine rd_cons ?_
  | with_reducible refine rd_call ?_
  | with_reducible refine rd_CB ?_
  | with_reducible refine rd_par ?_
  | with_reducible refine rd_par2 ?_
  | with_reducible refine rd_par3 ?_
  | with_reducible refine rd_par4 ?_
  | ((with_reducible refine rd_aug0 ?_); refine ⟨_, rfl, ?_⟩)
  | with_reducible refine rd_gname ?_
  | with_reducible refine rd_gcons ?_
  | with_reducible refine rd_gnil ?_
  | with_reducible refine rd_max ?_
  | with_reducible refine rd_min ?_
  | with_reducible refine rd_int1 ?_
  | with_reducible refine rd_abs ?_
  | with_reducible refine rd_lst ?_
  | with_reducible refine rd_tup ?_
  | with_reducible refine rd_bm ?_
  | with_reducible refine rd_fld0 ?_
  | with_reducible refine rd_sl0 ?_
  | with_reducible refine rd_noP ?_
  | with_reducible refine rd_part ?_
  | with_reducible refine rd_part2 ?_
  | with_reducible refine rd_meth0 ?_
  | with_reducible refine rd_star ?_
  | with_reducible refine rd_for ?_
  | with_reducible refine rd_rng1 ?_
  | with_reducible refine rd_rng2 ?_
  | with_reducible refine rd_rng3 ?_
  | with_reducible refine rd_iList ?_
  | with_reducible refine rd_iTup ?_
  | with_reducible refine rd_iEnum ?_
  | with_reducible refine rd_lc ?_
  | with_reducible refine rd_yes ?_
  | with_reducible refine rd_augS ?_
  | with_reducible refine rd_drawNew ?_
  | with_reducible refine rd_make0 ?_
  | with_reducible refine rd_next ?_
  | with_reducible refine rd_break ?_
  | with_reducible refine rd_cont ?_
  | with_reducible refine rd_iteTT ?_
  | with_reducible refine rd_iteFF ?_
  | with_reducible refine rd_iteNTT ?_
  | with_reducible refine rd_iteNFF ?_
  | with_reducible refine rd_con0 ?_
  | with_reducible refine rd_truO0 ?_
  | with_reducible refine rd_gfld0 ?_
  | with_reducible refine rd_dc ?_
  | with_reducible refine rd_iKeys ?_
  | with_reducible refine rd_dget0 ?_
  | with_reducible refine rd_dput0 ?_
  | with_reducible refine rd_dnot0 ?_
  | with_reducible refine rd_iEnumT ?_
  | with_reducible refine rd_raP0 ?_
  | with_reducible refine rd_xf0 ?_
  | with_reducible refine rd_cKw ?_
  | with_reducible refine rd_iStr ?_
  | with_reducible refine rd_gSub ?_
  | with_reducible refine rd_asgG ?_)
local macro_rules | `(tactic| walk_at "rd") => `(tactic| repeat walk_at "rd1")
local macro_rules | `(tactic| walk_at "len") => `(tactic| first
  | (intro vs H Q E h; obtain ⟨h2, _⟩ := h; rw [h2]; rfl)
  | (intro vs H Q E h; obtain ⟨_, h2, _⟩ := h; rw [h2]; rfl)
  | (intro vs H Q E h; obtain ⟨_, _, h2, _⟩ := h; rw [h2]; rfl)
  | (intro vs H Q E h; obtain ⟨_, _, _, h2, _⟩ := h; rw [h2]; rfl)
  | (intro vs H Q E h; obtain ⟨_, _, _, _, h2, _⟩ := h; rw [h2]; rfl)
  | (intro vs H Q E h; obtain ⟨_, _, _, _, _, h2, _⟩ := h; rw [h2]; rfl)
  | (intro vs H Q E h; obtain ⟨_, _, _, _, _, _, h2, _⟩ := h; rw [h2]; rfl)
  | (intro vs H Q E h; obtain ⟨_, _, _, _, _, _, _, h2, _⟩ := h; rw [h2]; rfl)
  | (intro vs H Q E h; obtain ⟨_, _, _, _, _, _, _, _, h2, _⟩ := h; rw [h2]; rfl)
  | (intro vs H Q E h; obtain ⟨_, _, _, _, _, _, _, _, _, h2, _⟩ := h; rw [h2]; rfl)
  | (intro vs H Q E h; obtain ⟨_, _, _, _, _, _, _, _, _, _, h2, _⟩ := h; rw [h2]; rfl)
  | (intro vs H Q E h; obtain ⟨_, _, _, _, _, _, _, _, _, _, _, h2, _⟩ := h; rw [h2]; rfl)
  | (intro vs H Q E h; obtain ⟨_, _, _, _, _, _, _, _, _, _, _, _, h2, _⟩ := h; rw [h2]; rfl))
local macro_rules | `(tactic| walk_at "side") => `(tactic| first | exact ⟨by decide, by decide⟩ | exact ⟨by decide, by decide, by decide⟩ | exact Or.inr ⟨by decide, by decide⟩ | exact ⟨by omega, wide_nat (by omega)⟩)
theorem cut_60 (xs : List V) : cutV xs none (some 60) = xs.take 60 := by
  unfold cutV
  have e : HT.sIx xs.length xs.length (some 60) = min 60 xs.length := by
    show (if (60 : Int) < 0 then ((60 : Int) + (xs.length : Int)).toNat else min (60 : Int).toNat xs.length) = _
    rw [if_neg (by decide)]
    rfl
  rw [e, HT.sIx_none, List.drop_zero, Nat.sub_zero]
  rcases Nat.le_total 60 xs.length with h | h
  · rw [Nat.min_eq_left h]
  · rw [Nat.min_eq_right h, List.take_length, List.take_of_length_le h]
theorem rd_ixSq {K : PySem.W.Frag} {H : Hp} {Q : VK} {a : Addr} {xs : List V} {j : Int} {v : V} (e : SqL K H a xs) (n : atI xs j = some v) (h : Q v H) : rIxL K (.ref a) (.int j) H Q := ⟨a, xs, j, v, rfl, rfl, e, n, h⟩
theorem fmod_pos {i j : Int} (h : 0 < j) : 0 ≤ i.fmod j ∧ i.fmod j < j := by
  rw [Int.fmod_eq_emod_of_nonneg _ (by omega)]
  exact ⟨Int.emod_nonneg _ (by omega), Int.emod_lt_of_pos _ h⟩
def spLDraw (K : PySem.W.Frag) : Sp := fun vs H Q _ => ∃ (sc : Addr) (ns : List Int) (i m : Int), vs = [.ref sc, .int i, .int m] ∧ SqL K H sc (ns.map V.int) ∧ ns.length ≤ 63 ∧ (0 ≤ i ∧ i ≤ 1000000) ∧ 0 < m ∧ ∀ H' n, Same H H' → 0 ≤ n → n < m → Q (.int n) H'
section
variable {P : Program} {w : World} {K : PySem.W.Frag} {mg : Str → Option Value} {base : Heap} {C_Evidence C_Good C_Bad C_RightRounds C_WrongRound C_BadScript D_FALL : Addr}
theorem cal__law_draw (T : TX P K mg C_Evidence C_Good C_Bad C_RightRounds C_WrongRound C_BadScript D_FALL) : Cal P w K mg base 1 "_law_draw" (spLDraw K) [] := by
  obtain ⟨f0, fd, D, dn⟩ := T.d__law_draw
  refine cal0 D (D.fn.binds dn fun _ _ _ _ _ _ us hl => match us, hl with | [_, _, _], _ => rfl) .nil sc__law_draw (by walk_at "len") (fun cdv A outer s H vs Q E hr h => ?_)
  obtain ⟨sc, ns, i, m, rfl, hS, h63, hi, hm, k⟩ := h
  refine ⟨_, (pss_cut (ps_s 3 sc__law_draw.nd (pe_ifExp (pt_cmpR (op_neD hr.units) (pv 0) (pe_lst pa_nil) (nomark _)) (pe_slice sl_list (pv 0) po_none (po_some pe_int)) (pe_lst (pa_cons pe_int pa_nil))))
      (pss_cut (ps_par (i := 4) (j := 5) rfl sc__law_draw.nd rfl rfl (by decide) rfl rfl (pa_cons (pe_ix ix_list (pv 3) (pe_op op_modN (pv 1) (pe_callB cr_lenS (by rfl) T.b_len (by decide +kernel) (pa_cons (pv 3) pa_nil))) (fun _ _ => rfl)) (pa_cons (pe_op op_fdivW (pv 1) (pe_callB cr_lenS (by rfl) T.b_len (by decide +kernel) (pa_cons (pv 3) pa_nil))) pa_nil)) (by rfl))
      (pss_cons (ps_if (pt_cmpR op_ge (pv 4) (pe_op op_pow pe_int pe_int) (nomark _)) (pss_cons (ps_s 4 sc__law_draw.nd (pe_op op_modN (pe_callTy cr_int1 (by rfl) T.b_int (by decide +kernel) (pa_cons (pv 4) pa_nil)) (pe_op op_pow pe_int pe_int)))
      (pss_cons (ps_for PassesOwn.never rfl (pi_range1 rfl T.b_range (pa_cons (pe_op op_modN (pv 5) pe_int) pa_nil)) (pg_n 6 sc__law_draw.nd) (pss_one (ps_s 4 sc__law_draw.nd (pe_op op_fdivW (pv 4) pe_int))))
      (pss_one (ps_ret (pe_op op_modN (pe_op op_modN (pe_callTy cr_int1 (by rfl) T.b_int (by decide +kernel) (pa_cons (pv 4) pa_nil)) pe_int) (pv 2)))))) pss_nil)
      (pss_cons (ps_s 7 sc__law_draw.nd (pe_op op_add (pe_op op_mul (pe_op op_add (pe_op op_add (pe_op op_modN (pe_callTy cr_int1 (by rfl) T.b_int (by decide +kernel) (pa_cons (pe_op op_add (pv 4) (pe_op op_mul pe_int (pv 5))) pa_nil)) pe_int) (pe_op op_mul pe_int (pv 1))) pe_int) pe_int) (pe_op op_modN (pe_callTy cr_int1 (by rfl) T.b_int (by decide +kernel) (pa_cons (pe_op op_fdivW (pv 4) pe_int) pa_nil)) pe_int)))
      (pss_one (ps_ret (pe_op op_modN (pe_callTy cr_int1 (by rfl) T.b_int (by decide +kernel) (pa_cons (pe_op op_modN (pe_op op_mul (pe_op op_modN (pv 7) pe_int) pe_int) pe_int) pa_nil)) (pv 2)))))))), ?_⟩
  walk_at "rd"
  refine ⟨fun σ' H' => ∃ (r : Addr) (ms : List Int), Same H H' ∧ SqL K H' r (ms.map V.int) ∧ ms ≠ [] ∧ ms.length ≤ 63 ∧ σ' = [some (.ref sc), some (.int i), some (.int m), some (.ref r), none, none, none, none], ?_, ?_⟩
  · walk_at "rd"
    refine rd_newL (by decide) fun u H1 _ s1 eu _ => ?_
    refine ⟨.list (intsD ns), .list [], .lst (L2.Same.seq s1 hS) (DtAll.intsD ns).dp, .lst (SqL.of eu) .nil, shaped_ints ns, by decide, ?_⟩
    rw [eqv_nil]
    walk_at "rd"
    refine rd_iteN (fun c => ?_) (fun c => ?_)
    · walk_at "rd"
      refine rd_slL (L2.Same.seq s1 hS) fun p H2 _ s2 ep _ => ?_
      rw [cut_60, ← List.map_take] at ep
      refine ⟨p, ns.take 60, s1.trans s2, SqL.of ep, fun z => c ?_, by rw [List.length_take]; omega, rfl⟩
      have := congrArg List.length z
      rw [List.length_take] at this
      have : ns = [] := List.length_eq_zero_iff.mp (by simp at this; rcases this with h | h <;> simp_all)
      rw [this]
      rfl
    · walk_at "rd"
      refine rd_newL (by decide) fun p H2 _ s2 ep _ => ?_
      exact ⟨p, [7], s1.trans s2, SqL.of ep, (fun z => nomatch z), by decide, rfl⟩
  rintro σ H1 ⟨r, ms, s1, sr, hne, hm63, rfl⟩
  walk_at "rd"
  have hl : 0 < ms.length := List.length_pos_iff.mpr hne
  refine ⟨fun σ' H' => ∃ (c tn : Int), Same H H' ∧ 0 ≤ tn ∧ σ' = [some (.ref sc), some (.int i), some (.int m), some (.ref r), some (.int c), some (.int tn), none, none], ?_, ?_⟩
  · walk_at "rd"
    refine rd_lenSq sr ?_
    rw [List.length_map]
    walk_at "rd"
    have fm := fmod_pos (i := i) (j := (ms.length : Int)) (by omega)
    obtain ⟨n, hn⟩ : ∃ n : Nat, i.fmod (ms.length : Int) = n := ⟨(i.fmod (ms.length : Int)).toNat, by omega⟩
    rw [hn]
    refine rd_ixSq sr (v := .int (ms[n]'(by omega))) (atI_nat' (by rw [List.getElem?_map, List.getElem?_eq_getElem (by omega : n < ms.length)]; rfl)) ?_
    walk_at "rd"
    refine rd_lenSq sr ?_
    rw [List.length_map]
    walk_at "rd"
    refine rd_I ⟨by omega, Nat.lt_of_le_of_lt (Nat.log2_le_self _) (by omega)⟩ ?_
    walk_at "rd"
    exact ⟨_, _, s1, Int.ediv_nonneg hi.1 (by omega), rfl⟩
  rintro σ H2 ⟨c, tn, s2, ht, rfl⟩
  clear sr s1
  walk_at "rd"
  refine rd_ite (fun c1 => ?_) (fun c1 => ?_)
  · walk_at "rd"
    have fm := fmod_pos (i := tn) (j := 40) (by decide)
    refine rd_rgR1 (by omega) (by omega) ?_
    refine forR_rng (fun j σ H' => ∃ c v6, Same H H' ∧ σ = [some (.ref sc), some (.int i), some (.int m), some (.ref r), some (.int c), some (.int tn), v6, none]) ⟨_, _, s2, rfl⟩ ?_ ?_
    · rintro j σ H3 hj ⟨c3, v6, s3, rfl⟩
      walk_at "rd"
      exact ⟨_, _, s3, rfl⟩
    · rintro σ H3 ⟨c3, v6, s3, rfl⟩
      walk_at "rd"
      have fm := fmod_pos (i := c3.fmod 97) hm
      exact k H3 _ s3 fm.1 fm.2
  · walk_at "rd"
    exact k H2 _ s2 (fmod_pos hm).1 (fmod_pos hm).2
end
end Sl

set_option Elab.async false
set_option linter.all false
set_option maxRecDepth 100000
set_option maxHeartbeats 8000000
set_option exponentiation.threshold 9000
namespace Sl
open PySem L2 C8 StX Silt
local macro_rules | `(tactic| walk_at "side") => `(tactic| first
  | exact cdivw (by omega) (by omega)
  | exact cmulw (by omega) (by omega) (by omega) (by omega)
  | exact Or.inr ⟨by omega, by omega⟩
  | exact Or.inl ⟨by omega, by omega⟩
  | omega
  | exact ⟨by omega, by omega, by decide⟩
  | decide)
local macro_rules | `(tactic| walk_at "rd1") => `(tactic| first
  | with_reducible refine rd_seq ?_
  | with_reducible refine rd_asg ?_
  | with_reducible refine rd_drop ?_
  | with_reducible refine rd_ret ?_
  | with_reducible refine rd_retN ?_
  | with_reducible refine rd_ifS ?_
  | ((with_reducible refine rd_var0 ?_); refine ⟨_, rfl, ?_⟩)
  | with_reducible refine rd_c ?_
  | with_reducible refine rd_op ?_
  | with_reducible refine rd_un ?_
  | with_reducible refine rd_I0 ?_
  | with_reducible refine rd_U ?_
  | ((with_reducible refine rd_I ?c ?_); (case c => walk_at "side"))
  | with_reducible refine rd_ipI ?_
  | with_reducible refine rd_eqI ?_
  | with_reducible refine rd_neI ?_
  | with_reducible refine rd_test ?_
  | with_reducible refine rd_tB ?_
  | with_reducible refine rd_bl ?_
  | with_reducible refine rd_not ?_
  | with_reducible refine rd_and ?_
  | with_reducible refine rd_or ?_
  | with_reducible refine rd_andV ?_
  | with_reducible refine rd_orV ?_
  | with_reducible refine rd_notV ?_
  | with_reducible refine rd_ifE ?_
  | with_reducible refine rd_chain ?_
  | with_reducible refine rd_chain3 ?_
  | with_reducible refine rd_nil ?_
  | with_reducible refine rd_cons ?_
  | with_reducible refine rd_call ?_
  | with_reducible refine rd_CB ?_
  | with_reducible refine rd_par ?_
  | with_reducible refine rd_par2 ?_
  | with_reducible refine rd_par3 ?_
  | with_reducible refine rd_par4 ?_
  | ((with_reducible refine rd_aug0 ?_); refine ⟨_, rfl, ?_⟩)
  | with_reducible refine rd_gname ?_
  | with_reducible refine rd_gcons ?_
  | with_reducible refine rd_gnil ?_
  | with_reducible refine rd_max ?_
  | with_reducible refine rd_min ?_
  | with_reducible refine rd_int1 ?_
  | with_reducible refine rd_abs ?_
  | with_reducible refine rd_lst ?_
  | with_reducible refine rd_tup ?_
  | with_reducible refine rd_bm ?_
  | with_reducible refine rd_fld0 ?_
  | with_reducible refine rd_sl0 ?_
  | with_reducible refine rd_noP ?_
  | with_reducible refine rd_part ?_
  | with_reducible refine rd_part2 ?_
  | with_reducible refine rd_meth0 ?_
  | with_reducible refine rd_star ?_
  | with_reducible refine rd_for ?_
  | with_reducible refine rd_rng1 ?_
  | with_reducible refine rd_rng2 ?_
  | with_reducible refine rd_rng3 ?_
  | with_reducible refine rd_iList ?_
  | with_reducible refine rd_iTup ?_
  | with_reducible refine rd_iEnum ?_
  | with_reducible refine rd_lc ?_
  | with_reducible refine rd_yes ?_
  | with_reducible refine rd_augS ?_
  | with_reducible refine rd_drawNew ?_
  | with_reducible refine rd_make0 ?_
  | with_reducible refine rd_next ?_
  | with_reducible refine rd_break ?_
  | with_reducible refine rd_cont ?_
  | with_reducible refine rd_iteTT ?_
  | with_reducible refine rd_iteFF ?_
  | with_reducible refine rd_iteNTT ?_
  | with_reducible refine rd_iteNFF ?_
  | with_reducible refine rd_con0 ?_
  | with_reducible refine rd_truO0 ?_
  | with_reducible refine rd_gfld0 ?_
  | with_reducible refine rd_dc ?_
  | with_reducible refine rd_iKeys ?_
  | with_reducible refine rd_dget0 ?_
  | with_reducible refine rd_dput0 ?_
  | with_reducible refine rd_dnot0 ?_
  | with_reducible refine rd_iEnumT ?_
  | with_reducible refine rd_raP0 ?_
  | with_reducible refine rd_xf0 ?_
  | with_reducible refine rd_cKw ?_
  | with_reducible refine rd_iStr ?_
  | with_reducible refine rd_gSub ?_
  | with_reducible refine rd_asgG ?_)
local macro_rules | `(tactic| walk_at "rd") => `(tactic| repeat walk_at "rd1")
local macro_rules | `(tactic| walk_at "len") => `(tactic| first
  | (intro vs H Q E h; obtain ⟨h2, _⟩ := h; rw [h2]; rfl)
  | (intro vs H Q E h; obtain ⟨_, h2, _⟩ := h; rw [h2]; rfl)
  | (intro vs H Q E h; obtain ⟨_, _, h2, _⟩ := h; rw [h2]; rfl)
  | (intro vs H Q E h; obtain ⟨_, _, _, h2, _⟩ := h; rw [h2]; rfl)
  | (intro vs H Q E h; obtain ⟨_, _, _, _, h2, _⟩ := h; rw [h2]; rfl)
  | (intro vs H Q E h; obtain ⟨_, _, _, _, _, h2, _⟩ := h; rw [h2]; rfl)
  | (intro vs H Q E h; obtain ⟨_, _, _, _, _, _, h2, _⟩ := h; rw [h2]; rfl)
  | (intro vs H Q E h; obtain ⟨_, _, _, _, _, _, _, h2, _⟩ := h; rw [h2]; rfl)
  | (intro vs H Q E h; obtain ⟨_, _, _, _, _, _, _, _, h2, _⟩ := h; rw [h2]; rfl)
  | (intro vs H Q E h; obtain ⟨_, _, _, _, _, _, _, _, _, h2, _⟩ := h; rw [h2]; rfl)
  | (intro vs H Q E h; obtain ⟨_, _, _, _, _, _, _, _, _, _, h2, _⟩ := h; rw [h2]; rfl)
  | (intro vs H Q E h; obtain ⟨_, _, _, _, _, _, _, _, _, _, _, h2, _⟩ := h; rw [h2]; rfl)
  | (intro vs H Q E h; obtain ⟨_, _, _, _, _, _, _, _, _, _, _, _, h2, _⟩ := h; rw [h2]; rfl))
theorem rd_lstOfL {K : PySem.W.Frag} {H : Hp} {Q : VK} {a : Addr} {xs : List V} (e : H a = some (.lst xs)) (h : ∀ p H', H p = none → Same H H' → H' p = some (.lst xs) → H' = upd H p (.lst xs) → Q (.ref p) H') : rLstOf K [.ref a] H Q :=
  ⟨a, xs, rfl, .inl (SqL.of e), fun p hp => h p _ hp (Same.new (Same.refl H) hp) upd_same rfl⟩
theorem rd_tRg2 {ta tb : TE} {σ : L2.St} {H : Hp} {Q : Int → Int → Hp → Prop} (h : ta σ H fun x H1 => tb σ H1 fun y H2 => ∃ i j, x = .int i ∧ y = .int j ∧ Q i j H2) : tRg2 ta tb σ H Q := h
theorem okS_snoc : ∀ {ds : List Deed} {m mj m' : Nat} {x : Deed}, okS m ds → endM m ds = some mj → okD x → manyB mj x = some m' → okS m (ds ++ [x]) ∧ endM m (ds ++ [x]) = some m'
  | [], m, mj, m', x, _, he, ok, hm => by
    cases he
    refine ⟨⟨ok, m', hm, True.intro⟩, ?_⟩
    show (match manyB m x with | some m' => endM m' [] | none => none) = some m'
    rw [hm]
    rfl
  | y :: r, m, mj, m', x, ⟨oky, my, hmy, h⟩, he, ok, hm => by
    have he : endM my r = some mj := by
      have he : (match manyB m y with | some m' => endM m' r | none => none) = some mj := he
      rw [hmy] at he
      exact he
    obtain ⟨a, b⟩ := okS_snoc h he ok hm
    refine ⟨⟨oky, my, hmy, a⟩, ?_⟩
    show (match manyB m y with | some m' => endM m' (r ++ [x]) | none => none) = some m'
    rw [hmy]
    exact b
local macro_rules | `(tactic| walk_at "rd1") => `(tactic| first
  | with_reducible refine rd_listRg0 ?_
  | with_reducible refine rd_tRg2 ?_
  | with_reducible refine rd_lstRev0 ?_)
def spLScript (K : PySem.W.Frag) : Sp := fun vs H Q _ => ∃ (sc : Addr) (ns : List Int) (i most : Int) (m : Nat), vs = [.ref sc, .int i, .int most, .int (m : Int)] ∧ SqL K H sc (ns.map V.int) ∧ ns.length ≤ 63 ∧ (0 ≤ i ∧ i ≤ 1000) ∧ (0 ≤ most ∧ most + m ≤ 18) ∧
  ∀ H' D xs ds, Same H H' → H' D = some (.lst xs) → DnAll H' xs (ds.map deedD) → okS m ds → (ds.length : Int) ≤ most → H D = none → Q (.ref D) H'
section
variable {P : Program} {w : World} {K : PySem.W.Frag} {mg : Str → Option Value} {base : Heap} {C_Evidence C_Good C_Bad C_RightRounds C_WrongRound C_BadScript D_FALL : Addr}
theorem cal__law_script (T : TX P K mg C_Evidence C_Good C_Bad C_RightRounds C_WrongRound C_BadScript D_FALL) : Cal P w K mg base 2 "_law_script" (spLScript K) [] := by
  obtain ⟨f0, fd, D, dn⟩ := T.d__law_script
  have G__law_draw := cal__law_draw (P := P) (w := w) (base := base) T
  refine cal0 D (D.fn.binds dn fun _ _ _ _ _ _ us hl => match us, hl with | [_, _, _, _], _ => rfl) .nil sc__law_script (by walk_at "len") (fun cdv A outer s H vs Q E hr h => ?_)
  obtain ⟨sc, ns, i, most, m, rfl, hS, h63, hi, hm, k⟩ := h
  refine ⟨_, (pss_cons (ps_s 4 sc__law_script.nd (pe_lst pa_nil))
      (pss_cut (ps_for PassesOwn.never rfl (pi_range1 rfl T.b_range (pa_cons (pe_c G__law_draw hr (by decide) rfl (pa_cons (pv 0) (pa_cons (pv 1) (pa_cons (pe_op op_add (pv 2) pe_int) pa_nil)))) pa_nil)) (pg_n 5 sc__law_script.nd) (pss_cons (ps_s 6 sc__law_script.nd (pe_op op_add (pe_op op_add (pv 1) (pe_op op_mul pe_int (pv 5))) pe_int))
      (pss_one (ps_if (PW.pt (pw_or (pt_cmpR op_lt (pv 3) pe_int (nomark _)) (pw_or1 (pt_cmpR op_lt (pe_c G__law_draw hr (by decide) rfl (pa_cons (pv 0) (pa_cons (pv 6) (pa_cons pe_int pa_nil)))) pe_int (nomark _))))) (pss_cons (ps_expr (pe_bm PySem.F.plainAttrs_list PySem.F.slot_list_append PySem.F.type_list_append mt_append (pv 4) (pa_cons (pe_tup (pa_cons pe_str pa_nil)) pa_nil)))
      (pss_one (ps_s 3 sc__law_script.nd (pe_op op_add (pv 3) pe_int)))) (pss_cons (ps_s 7 sc__law_script.nd (pe_op op_add pe_int (pe_c G__law_draw hr (by decide) rfl (pa_cons (pv 0) (pa_cons (pe_op op_add (pv 6) pe_int) (pa_cons (pe_callB (cr_min2 rfl) (by rfl) T.b_min (by decide +kernel) (pa_cons pe_int (pa_cons (pe_op op_sub (pv 3) pe_int) pa_nil))) pa_nil))))))
      (pss_cons (ps_s 8 sc__law_script.nd (pe_c G__law_draw hr (by decide) rfl (pa_cons (pv 0) (pa_cons (pe_op op_add (pv 6) pe_int) (pa_cons (pe_op op_add (pe_op op_sub (pv 3) (pv 7)) pe_int) pa_nil)))))
      (pss_cons (ps_s 9 sc__law_script.nd (pe_listRg rfl rfl T.b_list (prg_2 rfl T.b_range (pv 8) (pe_op op_add (pv 8) (pv 7)))))
      (pss_cons (ps_s 10 sc__law_script.nd (pe_c G__law_draw hr (by decide) rfl (pa_cons (pv 0) (pa_cons (pe_op op_add (pv 6) pe_int) (pa_cons pe_int pa_nil)))))
      (pss_cut (ps_if (pt_cmpR op_eq (pv 10) pe_int (nomark _)) (pss_one (ps_s 9 sc__law_script.nd (pe_lstRev rfl rfl T.b_list rfl T.b_reversed (pe_callTy cr_lstOf (by rfl) T.b_list (by decide +kernel) (pa_cons (pv 9) pa_nil))))) pss_nil)
      (pss_cut (ps_if (pt_cmpR op_eq (pv 10) pe_int (nomark _)) (pss_one (ps_s 9 sc__law_script.nd (pe_ifExp (pt_cmpR op_ne (pe_ix ix_list (pv 9) pe_int (fun _ _ => rfl)) (pe_op op_sub (pv 3) pe_int) (nomark _)) (pe_lst (pa_cons (pe_ix ix_list (pv 9) pe_int (fun _ _ => rfl)) (pa_cons (pe_op op_sub (pv 3) pe_int) pa_nil))) (pe_lst (pa_cons pe_int (pa_cons (pe_op op_sub (pv 3) pe_int) pa_nil)))))) pss_nil)
      (pss_cons (ps_s 11 sc__law_script.nd (pe_op op_add (pe_op op_sub (pv 3) (pe_callB cr_lenS (by rfl) T.b_len (by decide +kernel) (pa_cons (pv 9) pa_nil))) pe_int))
      (pss_cut (ps_s 12 sc__law_script.nd (pe_ifExp (pt_cmpR op_ne (pv 10) pe_int (nomark _)) (pe_callB (cr_min2 rfl) (by rfl) T.b_min (by decide +kernel) (pa_cons (pe_callB (cr_min rfl) (by rfl) T.b_min (by decide +kernel) (pa_cons (pv 9) pa_nil)) (pa_cons (pe_op op_sub (pv 11) pe_int) pa_nil))) (pe_c G__law_draw hr (by decide) rfl (pa_cons (pv 0) (pa_cons (pe_op op_add (pv 6) pe_int) (pa_cons (pv 11) pa_nil))))))
      (pss_cons (ps_s 13 sc__law_script.nd (pe_cmpR op_eq (pv 12) (pe_op op_sub (pv 11) pe_int) (nomark _)))
      (pss_cut (ps_s 14 sc__law_script.nd (pe_ifExp (pt_val (pv 13)) (pe_cmpR op_eq (pe_c G__law_draw hr (by decide) rfl (pa_cons (pv 0) (pa_cons (pe_op op_add (pv 6) pe_int) (pa_cons pe_int pa_nil)))) pe_int (nomark _)) (pe_cmpR op_gt (pe_c G__law_draw hr (by decide) rfl (pa_cons (pv 0) (pa_cons (pe_op op_add (pv 6) pe_int) (pa_cons pe_int pa_nil)))) pe_int (nomark _))))
      (pss_cons (ps_expr (pe_bm PySem.F.plainAttrs_list PySem.F.slot_list_append PySem.F.type_list_append mt_append (pv 4) (pa_cons (pe_tup (pa_cons pe_str (pa_cons (pe_callTy cr_tupOf (by rfl) T.b_tuple (by decide +kernel) (pa_cons (pv 9) pa_nil)) (pa_cons (pv 12) (pa_cons (pv 14) pa_nil))))) pa_nil)))
      (pss_one (ps_s 3 sc__law_script.nd (pv 11))))))))))))))))))
      (pss_one (ps_ret (pv 4))))), ?_⟩
  have seq : ∀ {H'}, Same H H' → SqL K H' sc (ns.map V.int) := fun s => L2.Same.seq s hS
  walk_at "rd"
  refine rd_newL (by simp) fun D H1 hD s1 eD _ => ?_
  walk_at "rd"
  refine ⟨fun σ H' => ∃ (xs : List V) (ds : List Deed) (v3 : V) (v5 v6 v7 v8 v9 v10 v11 v12 v13 v14 : Option V), Same H H' ∧ H' D = some (.lst xs) ∧ DnAll H' xs (ds.map deedD) ∧ okS m ds ∧ (ds.length : Int) ≤ most ∧ σ = [some (.ref sc), some (.int i), some (.int most), some v3, some (.ref D), v5, v6, v7, v8, v9, v10, v11, v12, v13, v14], ?_, ?_⟩
  · walk_at "rd"
    refine ⟨sc, ns, _, _, rfl, seq s1, h63, by omega, by omega, fun H2 n s2 n0 n1 => ?_⟩
    walk_at "rd"
    refine rd_rgR1 (by omega) (by omega) ?_
    refine forR_rng (fun j σ H' => ∃ (xs : List V) (ds : List Deed) (mj : Nat) (v5 v6 v7 v8 v9 v10 v11 v12 v13 v14 : Option V), Same H H' ∧ H' D = some (.lst xs) ∧ DnAll H' xs (ds.map deedD) ∧ okS m ds ∧ endM m ds = some mj ∧ mj ≤ m + j ∧ ds.length = j ∧ σ = [some (.ref sc), some (.int i), some (.int most), some (.int (mj : Int)), some (.ref D), v5, v6, v7, v8, v9, v10, v11, v12, v13, v14]) ⟨[], [], m, _, _, _, _, _, _, _, _, _, _, s1.trans s2, s2 _ _ eD, .nil, True.intro, rfl, Nat.le_refl _, rfl, rfl⟩ ?_ ?_
    · rintro j σ H3 hj ⟨xs, ds, mj, v5, v6, v7, v8, v9, v10, v11, v12, v13, v14, s3, eD3, da, os, he, hmj, ld, rfl⟩
      have hjm : (j : Int) < most := by omega
      have lx := DeedsP.len da
      walk_at "rd"
      -- a deed is put
      have fin : ∀ (H4 : Hp) (y : V) (x : Deed) (mj' : Nat) (v5 v6 v7 v8 v9 v10 v11 v12 v13 v14 : Option V), Same H H4 → H4 D = some (.lst xs) → DnAll H4 xs (ds.map deedD) → Dn H4 y (deedD x) → okD x → manyB mj x = some mj' → ∀ H5, H5 = upd H4 D (.lst (xs ++ [y])) → H5 D = some (.lst (xs ++ [y])) →
          ∃ (xs : List V) (ds : List Deed) (mj : Nat) (w5 w6 w7 w8 w9 w10 w11 w12 w13 w14 : Option V), Same H H5 ∧ H5 D = some (.lst xs) ∧ DnAll H5 xs (ds.map deedD) ∧ okS m ds ∧ endM m ds = some mj ∧ mj ≤ m + (j + 1) ∧ ds.length = j + 1 ∧ [some (V.ref sc), some (.int i), some (.int most), some (.int (mj' : Int)), some (.ref D), v5, v6, v7, v8, v9, v10, v11, v12, v13, v14] = [some (.ref sc), some (.int i), some (.int most), some (.int (mj : Int)), some (.ref D), w5, w6, w7, w8, w9, w10, w11, w12, w13, w14] := by
        intro H4 y x mj' v5 v6 v7 v8 v9 v10 v11 v12 v13 v14 s4 e4 d4 dy ok hm H5 eH5 eD5
        obtain ⟨o1, o2⟩ := okS_snoc os he ok hm
        have := manyB_le ok hm
        refine ⟨xs ++ [y], ds ++ [x], mj', v5, v6, v7, v8, v9, v10, v11, v12, v13, v14, by rw [eH5]; exact Same.mut s4 hD, eD5, ?_, o1, o2, by omega, by rw [List.length_append, ld]; rfl, rfl⟩
        rw [eH5, List.map_append]
        exact (d4.append (.cons dy .nil)).updL e4
      refine rd_ite (fun c => ?_) (fun c => ?_)
      · walk_at "rd"
        refine rd_tyL eD3 ?_
        walk_at "rd"
        refine rd_newT (by simp) fun t H4 _ s4 et _ => ?_
        walk_at "rd"
        refine rd_app (s4 _ _ eD3) (by omega) fun H5 eH5 eD5 => ?_
        walk_at "rd"
        exact fin H4 _ .fall (mj + 1) _ _ _ _ _ _ _ _ _ _ (s3.trans s4) (s4 _ _ eD3) (da.mono s4) (.tup et (.cons (.str _) .nil)) True.intro rfl H5 eH5 eD5
      walk_at "rd"
      refine ⟨sc, ns, _, _, rfl, seq s3, h63, by omega, by omega, fun H4 c0 s4 c1 c2 => ?_⟩
      walk_at "rd"
      refine rd_ite (fun c => ?_) (fun c => ?_)
      · walk_at "rd"
        refine rd_tyL (s4 _ _ eD3) ?_
        walk_at "rd"
        refine rd_newT (by simp) fun t H5 _ s5 et _ => ?_
        walk_at "rd"
        have s35 := s4.trans s5
        refine rd_app (s35 _ _ eD3) (by omega) fun H6 eH6 eD6 => ?_
        walk_at "rd"
        exact fin H5 _ .fall (mj + 1) _ _ _ _ _ _ _ _ _ _ (s3.trans s35) (s35 _ _ eD3) (da.mono s35) (.tup et (.cons (.str _) .nil)) True.intro rfl H6 eH6 eD6
      have s34 := s3.trans s4
      have eD4 := s4 _ _ eD3
      have da4 := da.mono s4
      clear eD3 da s3 s4
      walk_at "rd"
      refine ⟨sc, ns, _, _, rfl, seq s34, h63, by omega, by omega, fun H5 a s5 a0 a1 => ?_⟩
      have a2 : a ≤ 1 ∧ a + 2 ≤ mj := by omega
      walk_at "rd"
      refine ⟨sc, ns, _, _, rfl, seq (s34.trans s5), h63, by omega, by omega, fun H6 b s6 b0 b1 => ?_⟩
      walk_at "rd"
      refine ⟨_, _, rfl, rfl, ⟨by omega, by omega, by omega, by omega, by omega⟩, fun N0 hN0 => ?_⟩
      obtain ⟨H7, eH7⟩ : ∃ H7, H7 = upd H6 N0 (.lst (rgV b (b + (2 + a)))) := ⟨_, rfl⟩
      rw [← eH7]
      have s7 : Same H6 H7 := by rw [eH7]; exact Same.new (Same.refl H6) hN0
      have eN0 : H7 N0 = some (.lst (rgV b (b + (2 + a)))) := by rw [eH7]; exact upd_same
      have hns0 : rgV b (b + (2 + a)) = natV ((List.range (2 + a).toNat).map (b.toNat + ·)) := by
        unfold rgV natV
        rw [List.map_map, show (b + (2 + a) - b).toNat = (2 + a).toNat by omega]
        refine List.map_congr_left fun n _ => ?_
        show V.int (b + (n : Int)) = V.int ((b.toNat + n : Nat) : Int)
        rw [show b + (n : Int) = ((b.toNat + n : Nat) : Int) by omega]
      rw [hns0] at eN0
      generalize hms : (List.range (2 + a).toNat).map (b.toNat + ·) = ms at *
      have ms1 : ms.length = (2 + a).toNat := by rw [← hms, List.length_map, List.length_range]
      have ms2 : ms.Nodup := by
        rw [← hms]
        exact List.pairwise_map.mpr (List.nodup_range.imp fun {a b} h z => h (by omega))
      have ms3 : ∀ n ∈ ms, n < mj := by
        intro n hn
        rw [← hms] at hn
        obtain ⟨z, hz, rfl⟩ := List.mem_map.mp hn
        have := List.mem_range.mp hz
        omega
      have ms4 : ms[0]? = some b.toNat := by
        rw [← hms, List.getElem?_map, List.getElem?_range (by omega)]
        rfl
      have s47 := s5.trans (s6.trans s7)
      walk_at "rd"
      refine ⟨sc, ns, _, _, rfl, seq (s34.trans s47), h63, by omega, by omega, fun H8 kd s8 k0 k1 => ?_⟩
      have s48 := s47.trans s8
      have eN8 := s8 _ _ eN0
      clear eH7 hN0 s5 s6 s7 s8 s47 eN0 hns0
      walk_at "rd"
      refine ⟨fun σ H' => ∃ (N : Addr) (us : List Nat), Same H8 H' ∧ H' N = some (.lst (natV us)) ∧ us.Nodup ∧ us.length = (2 + a).toNat ∧ (∀ n ∈ us, n < mj) ∧ (kd ≠ 0 → us = ms) ∧ σ = [some (.ref sc), some (.int i), some (.int most), some (.int (mj : Int)), some (.ref D), some (.int (0 + (j : Int))), some (.int (i + 12 * (0 + (j : Int)) + 1)), some (.int (2 + a)), some (.int b), some (.ref N), some (.int kd), v11, v12, v13, v14], ?_, ?_⟩
      · walk_at "rd"
        refine rd_ite (fun c => ?_) (fun c => ?_)
        · walk_at "rd"
          refine rd_lstOfL eN8 fun N1 H9 _ s9 eN1 _ => ?_
          walk_at "rd"
          refine rd_lstRev (SqL.of eN1) fun N2 H10 _ s10 eN2 => ?_
          walk_at "rd"
          exact ⟨N2, ms.reverse, s9.trans s10, by rw [eN2]; unfold natV; rw [List.map_reverse], (List.reverse_perm ms).nodup_iff.mpr ms2, by rw [List.length_reverse]; exact ms1, fun n hn => ms3 n (List.mem_reverse.mp hn), fun z => absurd c z, rfl⟩
        · walk_at "rd"
          exact ⟨N0, ms, Same.refl H8, eN8, ms2, ms1, ms3, fun _ => rfl, rfl⟩
      rintro σ H9 ⟨N, us, s9, eN, u1, u2, u3, u4, rfl⟩
      walk_at "rd"
      refine ⟨fun σ H' => ∃ (N : Addr) (us : List Nat), Same H9 H' ∧ H' N = some (.lst (natV us)) ∧ us.Nodup ∧ (2 ≤ us.length ∧ us.length ≤ 3 ∧ us.length ≤ mj) ∧ (∀ n ∈ us, n < mj) ∧ σ = [some (.ref sc), some (.int i), some (.int most), some (.int (mj : Int)), some (.ref D), some (.int (0 + (j : Int))), some (.int (i + 12 * (0 + (j : Int)) + 1)), some (.int (2 + a)), some (.int b), some (.ref N), some (.int kd), v11, v12, v13, v14], ?_, ?_⟩
      · walk_at "rd"
        refine rd_ite (fun c => ?_) (fun c => ?_)
        · rw [u4 (by omega)] at eN
          have e0 : (natV ms)[0]? = some (.int (b.toNat : Int)) := by unfold natV; rw [List.getElem?_map, ms4]; rfl
          have eb : (b.toNat : Int) = b := by omega
          walk_at "rd"
          refine rd_ixL eN (atI_nat' (i := 0) e0) ?_
          walk_at "rd"
          rw [eb, decide_eq_false (by omega : ¬ b = (mj : Int) - 1)]
          walk_at "rd"
          refine rd_ixL eN (atI_nat' (i := 0) e0) ?_
          walk_at "rd"
          refine rd_newL (by simp) fun N1 H10 _ s10 eN1 _ => ?_
          refine ⟨N1, [b.toNat, mj - 1], s10, ?_, ?_, ⟨Nat.le_refl _, by show 2 ≤ 3; decide, by show 2 ≤ mj; omega⟩, fun n hn => ?_, rfl⟩
          · rw [eN1]
            show some (HO.lst [V.int (b.toNat : Int), V.int ((mj : Int) - 1)]) = some (HO.lst [V.int ((b.toNat : Nat) : Int), V.int ((mj - 1 : Nat) : Int)])
            rw [show (mj : Int) - 1 = ((mj - 1 : Nat) : Int) by omega]
          · simp
            omega
          · simp only [List.mem_cons, List.not_mem_nil, or_false] at hn
            omega
        · walk_at "rd"
          exact ⟨N, us, Same.refl H9, eN, u1, ⟨by omega, by omega, by omega⟩, u3, rfl⟩
      rintro σ H10 ⟨N, us, s10, eN, u1, u2, u3, rfl⟩
      have lus : (natV us).length = us.length := by unfold natV; rw [List.length_map]
      have s810 := s9.trans s10
      clear s9 s10
      walk_at "rd"
      refine rd_lenL eN ?_
      rw [lus]
      walk_at "rd"
      have hus : us.map (fun (n : Nat) => V.int (n : Int)) = (us.map fun (n : Nat) => (n : Int)).map V.int := by rw [List.map_map]; rfl
      refine ⟨fun σ H' => ∃ (pl : Nat), Same H10 H' ∧ pl < mj + 1 - us.length ∧ σ = [some (.ref sc), some (.int i), some (.int most), some (.int (mj : Int)), some (.ref D), some (.int (0 + (j : Int))), some (.int (i + 12 * (0 + (j : Int)) + 1)), some (.int (2 + a)), some (.int b), some (.ref N), some (.int kd), some (.int ((mj : Int) - (us.length : Int) + 1)), some (.int (pl : Int)), v13, v14], ?_, ?_⟩
      · walk_at "rd"
        refine rd_iteN (fun c => ?_) (fun c => ?_)
        · walk_at "rd"
          refine ⟨N, us.map fun (n : Nat) => (n : Int), rfl, SqL.of (by rw [eN]; unfold natV; rw [hus]), by rw [List.length_map]; omega, fun mn hm1 hm2 => ?_⟩
          obtain ⟨n, hn, rfl⟩ := List.mem_map.mp hm1
          have hnl := u3 n hn
          walk_at "rd"
          refine ⟨(min (n : Int) ((mj : Int) - (us.length : Int) + 1 - 1)).toNat, Same.refl H10, by omega, ?_⟩
          rw [show ((min (n : Int) ((mj : Int) - (us.length : Int) + 1 - 1)).toNat : Int) = min (n : Int) ((mj : Int) - (us.length : Int) + 1 - 1) by omega]
          rfl
        · walk_at "rd"
          refine ⟨sc, ns, _, _, rfl, seq (s34.trans (s48.trans s810)), h63, by omega, by omega, fun H11 pl s11 p0 p1 => ?_⟩
          refine ⟨pl.toNat, s11, by omega, ?_⟩
          rw [show (pl.toNat : Int) = pl by omega]
          rfl
      rintro σ H11 ⟨pl, s11, hpl, rfl⟩
      walk_at "rd"
      refine ⟨fun σ H' => ∃ (kb : Bool) (v13 : Option V), Same H11 H' ∧ σ = [some (.ref sc), some (.int i), some (.int most), some (.int (mj : Int)), some (.ref D), some (.int (0 + (j : Int))), some (.int (i + 12 * (0 + (j : Int)) + 1)), some (.int (2 + a)), some (.int b), some (.ref N), some (.int kd), some (.int ((mj : Int) - (us.length : Int) + 1)), some (.int (pl : Int)), v13, some (.bl kb)], ?_, ?_⟩
      · walk_at "rd"
        refine rd_ite (fun c => ?_) (fun c => ?_)
        · walk_at "rd"
          refine ⟨sc, ns, _, _, rfl, seq (s34.trans (s48.trans (s810.trans s11))), h63, by omega, by omega, fun H12 q s12 q0 q1 => ?_⟩
          walk_at "rd"
          exact ⟨_, _, s12, rfl⟩
        · walk_at "rd"
          refine ⟨sc, ns, _, _, rfl, seq (s34.trans (s48.trans (s810.trans s11))), h63, by omega, by omega, fun H12 q s12 q0 q1 => ?_⟩
          walk_at "rd"
          exact ⟨_, _, s12, rfl⟩
      rintro σ H12 ⟨kb, v13, s12, rfl⟩
      have s412 := s48.trans (s810.trans (s11.trans s12))
      have eD12 := s412 _ _ eD4
      walk_at "rd"
      refine rd_tyL eD12 ?_
      walk_at "rd"
      refine rd_tupOfL ((s11.trans s12) _ _ eN) fun U H13 _ s13 eU _ => ?_
      walk_at "rd"
      refine rd_newT (by simp) fun t H14 _ s14 et _ => ?_
      walk_at "rd"
      have s1214 := s13.trans s14
      have okb : okD (.bake us pl kb) := ⟨fun z => by rw [z] at u2; simp at u2, u1, fun n hn => by have := u3 n hn; omega⟩
      have hmb : manyB mj (.bake us pl kb) = some (mj + 1 - us.length) := by
        simp only [manyB]
        rw [if_pos ⟨u3, hpl⟩]
      refine rd_app (s1214 _ _ eD12) (by omega) fun H15 eH15 eD15 => ?_
      walk_at "rd"
      rw [show (mj : Int) - (us.length : Int) + 1 = ((mj + 1 - us.length : Nat) : Int) by omega]
      exact fin H14 _ (.bake us pl kb) (mj + 1 - us.length) _ _ _ _ _ _ _ _ _ _ (s34.trans (s412.trans s1214)) (s1214 _ _ eD12) (da4.mono (s412.trans s1214)) (.tup et (.cons (.str _) (.cons (.tup (s14 _ _ eU) (natD_alln us)) (.cons (.int _) (.cons (.bl _) .nil))))) okb hmb H15 eH15 eD15
    · rintro σ H3 ⟨xs, ds, mj, v5, v6, v7, v8, v9, v10, v11, v12, v13, v14, s3, eD3, da, os, he, hmj, ld, rfl⟩
      exact ⟨xs, ds, _, _, _, _, _, _, _, _, _, _, _, s3, eD3, da, os, by omega, rfl⟩
  rintro σ H2 ⟨xs, ds, v3, v5, v6, v7, v8, v9, v10, v11, v12, v13, v14, s2, eD2, da, os, hl, rfl⟩
  walk_at "rd"
  exact k H2 D xs ds s2 eD2 da os hl hD
end
end Sl

set_option Elab.async false
set_option linter.all false
set_option maxRecDepth 100000
set_option maxHeartbeats 8000000
set_option exponentiation.threshold 9000
namespace Sl
open PySem L2 C8 StX Silt
local macro_rules | `(tactic| walk_at "side") => `(tactic| first
  | exact cdivw (by omega) (by omega)
  | exact cmulw (by omega) (by omega) (by omega) (by omega)
  | exact Or.inr ⟨by omega, by omega⟩
  | exact Or.inl ⟨by omega, by omega⟩
  | omega
  | exact ⟨by omega, by omega, by decide⟩
  | decide)
local macro_rules | `(tactic| walk_at "rd1") => `(tactic| first
  | with_reducible refine rd_seq ?_
  | with_reducible refine rd_asg ?_
  | with_reducible refine rd_drop ?_
  | with_reducible refine rd_ret ?_
  | with_reducible refine rd_retN ?_
  | with_reducible refine rd_ifS ?_
  | ((with_reducible refine rd_var0 ?_); refine ⟨_, rfl, ?_⟩)
  | with_reducible refine rd_c ?_
  | with_reducible refine rd_op ?_
  | with_reducible refine rd_un ?_
  | with_reducible refine rd_I0 ?_
  | with_reducible refine rd_U ?_
  | ((with_reducible refine rd_I ?c ?_); (case c => walk_at "side"))
  | with_reducible refine rd_ipI ?_
  | with_reducible refine rd_eqI ?_
  | with_reducible refine rd_neI ?_
  | with_reducible refine rd_test ?_
  | with_reducible refine rd_tB ?_
  | with_reducible refine rd_bl ?_
  | with_reducible refine rd_not ?_
  | with_reducible refine rd_and ?_
  | with_reducible refine rd_or ?_
  | with_reducible refine rd_andV ?_
  | with_reducible refine rd_orV ?_
  | with_reducible refine rd_notV ?_
  | with_reducible refine rd_ifE ?_
  | with_reducible refine rd_chain ?_
  | with_reducible refine rd_chain3 ?_
  | with_reducible refine rd_nil ?_
  | with_reducible refine rd_cons ?_
  | with_reducible refine rd_call ?_
  | with_reducible refine rd_CB ?_
  | with_reducible refine rd_par ?_
  | with_reducible refine rd_par2 ?_
  | with_reducible refine rd_par3 ?_
  | with_reducible refine rd_par4 ?_
  | ((with_reducible refine rd_aug0 ?_); refine ⟨_, rfl, ?_⟩)
  | with_reducible refine rd_gname ?_
  | with_reducible refine rd_gcons ?_
  | with_reducible refine rd_gnil ?_
  | with_reducible refine rd_max ?_
  | with_reducible refine rd_min ?_
  | with_reducible refine rd_int1 ?_
  | with_reducible refine rd_abs ?_
  | with_reducible refine rd_lst ?_
  | with_reducible refine rd_tup ?_
  | with_reducible refine rd_bm ?_
  | with_reducible refine rd_fld0 ?_
  | with_reducible refine rd_sl0 ?_
  | with_reducible refine rd_noP ?_
  | with_reducible refine rd_part ?_
  | with_reducible refine rd_part2 ?_
  | with_reducible refine rd_meth0 ?_
  | with_reducible refine rd_star ?_
  | with_reducible refine rd_for ?_
  | with_reducible refine rd_rng1 ?_
  | with_reducible refine rd_rng2 ?_
  | with_reducible refine rd_rng3 ?_
  | with_reducible refine rd_iList ?_
  | with_reducible refine rd_iTup ?_
  | with_reducible refine rd_iEnum ?_
  | with_reducible refine rd_lc ?_
  | with_reducible refine rd_yes ?_
  | with_reducible refine rd_augS ?_
  | with_reducible refine rd_drawNew ?_
  | with_reducible refine rd_make0 ?_
  | with_reducible refine rd_next ?_
  | with_reducible refine rd_break ?_
  | with_reducible refine rd_cont ?_
  | with_reducible refine rd_iteTT ?_
  | with_reducible refine rd_iteFF ?_
  | with_reducible refine rd_iteNTT ?_
  | with_reducible refine rd_iteNFF ?_
  | with_reducible refine rd_con0 ?_
  | with_reducible refine rd_truO0 ?_
  | with_reducible refine rd_gfld0 ?_
  | with_reducible refine rd_dc ?_
  | with_reducible refine rd_iKeys ?_
  | with_reducible refine rd_dget0 ?_
  | with_reducible refine rd_dput0 ?_
  | with_reducible refine rd_dnot0 ?_
  | with_reducible refine rd_iEnumT ?_
  | with_reducible refine rd_raP0 ?_
  | with_reducible refine rd_xf0 ?_
  | with_reducible refine rd_cKw ?_
  | with_reducible refine rd_iStr ?_
  | with_reducible refine rd_gSub ?_
  | with_reducible refine rd_asgG ?_)
local macro_rules | `(tactic| walk_at "rd") => `(tactic| repeat walk_at "rd1")
local macro_rules | `(tactic| walk_at "len") => `(tactic| first
  | (intro vs H Q E h; obtain ⟨h2, _⟩ := h; rw [h2]; rfl)
  | (intro vs H Q E h; obtain ⟨_, h2, _⟩ := h; rw [h2]; rfl)
  | (intro vs H Q E h; obtain ⟨_, _, h2, _⟩ := h; rw [h2]; rfl)
  | (intro vs H Q E h; obtain ⟨_, _, _, h2, _⟩ := h; rw [h2]; rfl)
  | (intro vs H Q E h; obtain ⟨_, _, _, _, h2, _⟩ := h; rw [h2]; rfl)
  | (intro vs H Q E h; obtain ⟨_, _, _, _, _, h2, _⟩ := h; rw [h2]; rfl)
  | (intro vs H Q E h; obtain ⟨_, _, _, _, _, _, h2, _⟩ := h; rw [h2]; rfl)
  | (intro vs H Q E h; obtain ⟨_, _, _, _, _, _, _, h2, _⟩ := h; rw [h2]; rfl)
  | (intro vs H Q E h; obtain ⟨_, _, _, _, _, _, _, _, h2, _⟩ := h; rw [h2]; rfl)
  | (intro vs H Q E h; obtain ⟨_, _, _, _, _, _, _, _, _, h2, _⟩ := h; rw [h2]; rfl)
  | (intro vs H Q E h; obtain ⟨_, _, _, _, _, _, _, _, _, _, h2, _⟩ := h; rw [h2]; rfl)
  | (intro vs H Q E h; obtain ⟨_, _, _, _, _, _, _, _, _, _, _, h2, _⟩ := h; rw [h2]; rfl)
  | (intro vs H Q E h; obtain ⟨_, _, _, _, _, _, _, _, _, _, _, _, h2, _⟩ := h; rw [h2]; rfl))
def spLDays : Sp := fun vs H Q _ => ∃ (p : Addr) (m : Nat) (xs : List V) (ds : List Deed), vs = [.ref p, .int (m : Int)] ∧ H p = some (.lst xs) ∧ DnAll H xs (ds.map deedD) ∧ okS m ds ∧ ds.length ≤ 60 ∧ m ≤ 24 ∧ ∀ H' F, Same H H' → H F = none → RowsP H' F (rowsF (initL m) m ds) → Q (.ref F) H'
section
variable {P : Program} {w : World} {K : PySem.W.Frag} {mg : Str → Option Value} {base : Heap} {C_Evidence C_Good C_Bad C_RightRounds C_WrongRound C_BadScript D_FALL : Addr}
theorem cal__law_days (T : TX P K mg C_Evidence C_Good C_Bad C_RightRounds C_WrongRound C_BadScript D_FALL) : Cal P w K mg base 1 "_law_days" (spLDays) [] := by
  obtain ⟨f0, fd, D, dn⟩ := T.d__law_days
  refine cal0 D (D.fn.binds dn fun _ _ _ _ _ _ us hl => match us, hl with | [_, _], _ => rfl) .nil sc__law_days (by walk_at "len") (fun cdv A outer s H vs Q E hr h => ?_)
  obtain ⟨p, m, xs, ds, rfl, ep, da, os, ld, hm, k⟩ := h
  have lx := DeedsP.len da
  refine ⟨_, (pss_cons (ps_par3 (i := 2) (j := 3) (l := 4) rfl sc__law_days.nd rfl rfl rfl (by decide) (by decide) (by decide) rfl rfl rfl (pa_cons (pe_lc (own := [("_law_day", 3)]) (g := gName 3) (tt := tYes) rfl sc__law_days.nd (pi_range3 rfl T.b_range (pa_cons (pv 1) (pa_cons pe_int (pa_cons (pe_un un_neg pe_int) pa_nil)))) (blkOk_by (own := [("_law_day", 3)]) (N := N__law_days) (sc := fnScope s__law_days) (by decide +kernel)) (fun _ _ _ _ _ => (pg_n 3 sc__law_days.nd)) (fun _ _ _ _ _ => pts_nil) (fun _ _ _ _ _ => (pe_tup (pa_cons (pv 3) pa_nil)))) (pa_cons (pv 1) (pa_cons (pe_lst pa_nil) pa_nil))) (by rfl))
      (pss_cut (ps_for PassesOwn.never rfl (pi_list (pv 0)) (pg_n 5 sc__law_days.nd) (pss_cut (ps_if (pt_cmpR (op_eqD hr.units) (pv 5) (pe_tup (pa_cons pe_str pa_nil)) (nomark _)) (pss_cons (ps_s 3 sc__law_days.nd (pe_op op_add (pv 3) pe_int))
      (pss_one (ps_s 2 sc__law_days.nd (pe_op op_cat (pe_lst (pa_cons (pe_tup (pa_cons (pv 3) pa_nil)) pa_nil)) (pv 2))))) (pss_cons (ps_s 6 sc__law_days.nd (pe_tup pa_nil))
      (pss_cons (ps_for PassesOwn.never rfl (pi_tup (pe_ix ix_tup (pv 5) pe_int (fun _ _ => rfl))) (pg_n 7 sc__law_days.nd) (pss_one (ps_s 6 sc__law_days.nd (pe_op op_catA (pv 6) (pe_ix ix_list (pv 2) (pv 7) (fun _ _ => rfl))))))
      (pss_cons (ps_setLc (i := 8) (own := [("_law_place", 9), ("_law_layer", 10)]) (g := gTup _ 2 (gCons (gName 9) (gCons (gName 10) gNil))) (tt := _) rfl sc__law_days.nd rfl rfl (sw_true rfl rfl rfl (by decide +kernel)) (pi_enum (by rfl) T.b_enumerate (pa_cons (pv 2) pa_nil)) (blkOk_by (own := [("_law_place", 9), ("_law_layer", 10)]) (N := N__law_days) (sc := fnScope s__law_days) (by decide +kernel)) (fun _ _ _ _ _ => (pg_tup rfl (pgs_cons (pg_n 9 sc__law_days.nd) (pgs_cons (pg_n 10 sc__law_days.nd) pgs_nil)))) (fun _ _ _ _ _ => (pts_one (pt_cmpR (opK (fun K => rIn K true) K op_notIn_seq) (pv 9) (pe_ix (ixK rIxT K ix_tup) (pv 5) pe_int (fun _ _ => rfl)) (by with_unfolding_all rfl)))) (fun _ _ _ _ _ => (pv 10)))
      (pss_one (ps_s 2 sc__law_days.nd (pe_op op_cat (pe_op op_cat (pe_slice sl_list (pv 8) po_none (po_some (pe_ix ix_tup (pv 5) pe_int (fun _ _ => rfl)))) (pe_lst (pa_cons (pv 6) pa_nil))) (pe_slice sl_list (pv 8) (po_some (pe_ix ix_tup (pv 5) pe_int (fun _ _ => rfl))) po_none))))))))
      (pss_one (ps_expr (pe_bm PySem.F.plainAttrs_list PySem.F.slot_list_append PySem.F.type_list_append mt_append (pv 4) (pa_cons (pv 2) pa_nil))))))
      (pss_one (ps_ret (pv 4))))), ?_⟩
  walk_at "rd"
  refine rd_rgDn (by omega) ?_
  refine lcR_rngC (fun W i H' => Same H H' ∧ ∃ ys, H' W = some (.lst ys) ∧ DnAll H' ys (((List.range i).map fun (i : Nat) => [(m : Int) - (i : Int)]).map layD)) (fun W H' _ s e _ => ⟨s, [], e, .nil⟩) ?_ ?_
  · rintro W i H1 hW hi ⟨s1, ys, eW, dy⟩
    have ly : ys.length = i := by have := dy.length; rw [List.length_map, List.length_map, List.length_range] at this; exact this
    walk_at "rd"
    refine ⟨rfl, ?_⟩
    walk_at "rd"
    refine rd_newT (by simp) fun t H2 _ s2 et _ => ?_
    have eW2 := s2 _ _ eW
    refine rd_lcE eW2 (by omega) fun H3 eH3 eW3 => ?_
    refine ⟨by rw [eH3]; exact Same.mut (s1.trans s2) hW, ys ++ [.ref t], eW3, ?_⟩
    rw [List.range_succ, List.map_append, List.map_append, eH3]
    refine ((dy.mono s2).append (.cons (layOf (l := [(m : Int) - (i : Int)]) ?_) .nil)).updL eW2
    rw [et, show (m : Int) + (i : Int) * -1 = (m : Int) - (i : Int) by omega]
    rfl
  rintro L0 H1 hL0 ⟨s1, ys, eL0, dy⟩
  rw [show ((m : Int) - 0).toNat = m by omega] at dy
  have lp0 : LaysP H1 L0 (initL m) := ⟨ys, eL0, dy⟩
  walk_at "rd"
  refine rd_newL (by simp) fun F H2 hF s2 eF _ => ?_
  walk_at "rd"
  have hLF : L0 ≠ F := fun z => by rw [z] at eL0; rw [eL0] at hF; cases hF
  have hF0 : H F = none := none_back s1 hF
  refine ⟨fun σ H' => RowsP H' F (rowsF (initL m) m ds) ∧ Same H H' ∧ ∃ v2 v3 v5 v6 v7 v8 v9 v10, σ = [some (.ref p), some (.int (m : Int)), v2, v3, some (.ref F), v5, v6, v7, v8, v9, v10], ?_, ?_⟩
  · walk_at "rd"
    refine rd_lsR (SqL.of ((s1.trans s2) _ _ ep)) ?_
    refine forR_lst (xs := xs) (fun j σ H' => ∃ (L : Addr) (zs : List V) (v5 v6 v7 v8 v9 v10 : Option V), Same H H' ∧ LaysP H' L (stF (initL m, m) (ds.take j)).1 ∧ L ≠ F ∧ H' F = some (.lst zs) ∧ RowsAll H' zs (rowsF (initL m) m (ds.take j)) ∧ (∀ l, V.ref l ∈ zs → l ≠ F) ∧
      σ = [some (.ref p), some (.int (m : Int)), some (.ref L), some (.int (stF (initL m, m) (ds.take j)).2), some (.ref F), v5, v6, v7, v8, v9, v10]) (fun j σ H' ⟨_, _, _, _, _, _, _, _, s, _⟩ => SqL.of (s _ _ ep)) ⟨L0, [], _, _, _, _, _, _, s1.trans s2, lp0.mono s2, hLF, eF, ⟨rfl, fun i r h => by simp [rowsF] at h⟩, (fun l hl => by cases hl), rfl⟩ ?_ ?_
    · rintro j y σ H3 hy ⟨L, zs, v5, v6, v7, v8, v9, v10, s3, hL, hLF, eF3, ra, nf, rfl⟩
      obtain ⟨x, hx, dx⟩ := deeds_get (da.mono s3) hy
      have hj := (List.getElem?_eq_some_iff.mp hx).1
      obtain ⟨ok, m', hm'⟩ := okS_at (s := (initL m, (m : Int))) os (initL_len m) hx
      obtain ⟨b1, b2⟩ := stF_len (s := (initL m, (m : Int))) os (initL_len m) j
      rw [show (initL m, (m : Int)).1.flatten.length = m from initL_flat m] at b2
      have etk : ds.take (j + 1) = ds.take j ++ [x] := by rw [List.take_add_one, hx]; rfl
      have es : stF (initL m, (m : Int)) (ds.take (j + 1)) = stepS (stF (initL m, (m : Int)) (ds.take j)) x := by rw [etk, stF_snoc]
      have er : rowsF (initL m) m (ds.take (j + 1)) = rowsF (initL m) m (ds.take j) ++ [(stepS (stF (initL m, (m : Int)) (ds.take j)) x).1] := by rw [etk]; exact rowsF_snoc _ (initL m, (m : Int)) x
      generalize hst : stF (initL m, (m : Int)) (ds.take j) = st at *
      walk_at "rd"
      refine ⟨fun σ H' => ∃ (b : Addr) (v5 v6 v7 v8 v9 v10 : Option V), Same H3 H' ∧ b ≠ F ∧ LaysP H' b (stepS st x).1 ∧ σ = [some (.ref p), some (.int (m : Int)), some (.ref b), some (.int (stepS st x).2), some (.ref F), v5, v6, v7, v8, v9, v10], ?_, ?_⟩
      · walk_at "rd"
        obtain ⟨zl, eL, dL⟩ := hL
        have lzl : zl.length = st.1.length := by have := dL.length; rw [List.length_map] at this; exact this
        refine rd_newT (by simp) fun ft H4 _ s4 eft _ => ?_
        refine rd_eqD (dx.mono s4).dt (.tup eft (.cons (.str "fall") .nil)) (shaped_deed _) (by decide +kernel) ?_
        rw [show PyData.eqv (deedD x) (.tuple [.str "fall"]) = isFall x from eqv_deed x]
        refine ⟨_, rfl, ?_⟩
        cases x with
        | fall =>
          rw [show isFall Deed.fall = true from rfl]
          walk_at "rd"
          refine rd_newT (by simp) fun t H5 _ s5 et _ => ?_
          walk_at "rd"
          refine rd_newL (by simp) fun l1 H6 _ s6 el1 _ => ?_
          walk_at "rd"
          refine rd_cat el1 ((s4.trans (s5.trans s6)) _ _ eL) (by simp; omega) fun l2 H7 hl2 s7 el2 _ => ?_
          have s47 := s4.trans (s5.trans (s6.trans s7))
          have hl2F : l2 ≠ F := fun z => by
            have := (s4.trans (s5.trans s6)) _ _ eF3
            rw [← z, hl2] at this
            cases this
          exact ⟨l2, some y, v6, v7, v8, v9, v10, s47, hl2F, ⟨_, el2, .cons (layOf (l := [st.2 + 1]) ((s6.trans s7) _ _ et)) (dL.mono s47)⟩, rfl⟩
        | bake us pl kp =>
          rw [show isFall (Deed.bake us pl kp) = false from rfl]
          obtain ⟨t, u, rfl, et, eu⟩ := bake_inv dx.dt
          obtain ⟨c1, c2, c3⟩ := manyB_bake hm'
          walk_at "rd"
          refine rd_newT (by simp) fun T0 H5 _ s5 eT0 _ => ?_
          walk_at "rd"
          have s45 := s4.trans s5
          refine rd_ixT (s45 _ _ et) rfl ?_
          refine rd_tpR (SqT.of (s45 _ _ eu)) ?_
          refine forR_tup (xs := natV us) (fun q σ H' => ∃ (T : Addr) (v7 : Option V), Same H3 H' ∧ H' T = some (.tup ((pickL st.1 (us.take q)).flatten.map V.int)) ∧ σ = [some (.ref p), some (.int (m : Int)), some (.ref L), some (.int st.2), some (.ref F), some (.ref t), some (.ref T), v7, v8, v9, v10]) (fun q σ H' ⟨_, _, s, _⟩ => SqT.of (s _ _ eu)) ⟨T0, _, s45, eT0, rfl⟩ ?_ ?_
          · rintro q y σ H6 hy2 ⟨T, v7, s6, eT, rfl⟩
            obtain ⟨n, hn, rfl⟩ : ∃ n : Nat, us[q]? = some n ∧ y = V.int (n : Int) := by
              unfold natV at hy2
              rw [List.getElem?_map] at hy2
              cases q2 : us[q]? with
              | none => rw [q2] at hy2; cases hy2
              | some n => rw [q2] at hy2; exact ⟨n, rfl, (Option.some.inj hy2).symm⟩
            have hnl := c1 n (List.mem_of_getElem? hn)
            obtain ⟨vl, hvl, dl⟩ := DnAll.get2 (dL.mono s6) (i := n) (d := layD st.1[n]) (by rw [List.getElem?_map, List.getElem?_eq_getElem hnl]; rfl)
            obtain ⟨tl, rfl, etl⟩ := dl.lay
            walk_at "rd"
            refine rd_ixL (s6 _ _ eL) (atI_nat' hvl) ?_
            have ep2 : pickL st.1 (us.take (q + 1)) = pickL st.1 (us.take q) ++ [st.1[n]] := by
              rw [List.take_add_one, hn]
              show pickL st.1 (us.take q ++ [n]) = _
              rw [pick_snoc, List.getElem?_eq_getElem hnl]
            have pl1 := pick_len (ls := st.1) (ms := us.take (q + 1)) (ok.2.1.sublist (List.take_sublist _ _)) (fun n hn => c1 n (List.mem_of_mem_take hn))
            rw [ep2, List.flatten_append, List.length_append] at pl1
            simp only [List.flatten_cons, List.flatten_nil, List.append_nil] at pl1
            refine rd_catA eT etl (by rw [List.length_map, List.length_map]; omega) fun T2 H7 s7 eT2 => ?_
            refine ⟨T2, _, s6.trans s7, ?_, rfl⟩
            rw [eT2, ep2, List.flatten_append, List.map_append]
            simp
          rintro σ H6 ⟨T, v7, s6, eT, rfl⟩
          unfold natV at eT
          rw [List.length_map, List.take_length] at eT
          walk_at "rd"
          refine rd_enR (SqL.of (s6 _ _ eL)) ?_
          refine lcR_enum (xs := zl) (fun W i H' => Same H6 H' ∧ H' W = some (.lst (restL (zl.take i) us))) (fun W i H' _ ⟨s, _⟩ => SqL.of ((s6.trans s) _ _ eL)) (fun W H' _ s e _ => ⟨s, e⟩) ?_ ?_
          · rintro W i x H7 q H8 hW hx8 ⟨s7, eW⟩ _ s8 eq8 _
            have hi := (List.getElem?_eq_some_iff.mp hx8).1
            refine rd_gtup eq8 rfl ?_
            walk_at "rd"
            refine ⟨rfl, ?_⟩
            walk_at "rd"
            have s38 := s6.trans (s7.trans s8)
            refine rd_ixT (s38 _ _ et) rfl ?_
            refine ⟨u, _, rfl, .inr (SqT.of (s38 _ _ eu)), rfl, flat_nat us, ?_⟩
            rw [inV_nat]
            refine ⟨_, rfl, ?_⟩
            have esn : restL (zl.take (i + 1)) us = restL (zl.take i) us ++ (if i ∈ us then [] else [x]) := by
              rw [List.take_add_one, hx8]
              show restL (zl.take i ++ [x]) us = _
              rw [rest_snoc, List.length_take, Nat.min_eq_left (by omega)]
            by_cases c : i ∈ us
            · rw [decide_eq_true c]
              refine rd_iteFF ⟨s7.trans s8, ?_⟩
              rw [esn, if_pos c, List.append_nil]
              exact s8 _ _ eW
            · rw [decide_eq_false c]
              refine rd_iteTT ?_
              walk_at "rd"
              have lr : (restL (zl.take i) us).length ≤ zl.length := by
                unfold restL
                rw [List.length_map]
                refine Nat.le_trans (List.length_filter_le _ _) ?_
                rw [List.length_zipIdx, List.length_take]
                exact Nat.min_le_right _ _
              refine rd_lcE (s8 _ _ eW) (by omega) fun H9 eH9 eW9 => ?_
              refine ⟨by rw [eH9]; exact Same.mut (s7.trans s8) hW, ?_⟩
              rw [eW9, esn, if_neg c]
          rintro W H7 hW ⟨s7, eW⟩
          rw [List.take_length] at eW
          walk_at "rd"
          have s37 := s6.trans s7
          refine rd_ixT (s37 _ _ et) rfl ?_
          walk_at "rd"
          refine rd_slL (SqL.of eW) fun R1 H8 _ s8 eR1 _ => ?_
          rw [cutN_take] at eR1
          walk_at "rd"
          refine rd_newL (by simp) fun R2 H9 _ s9 eR2 _ => ?_
          have lr : (restL zl us).length ≤ zl.length := by
            have := (rest_pick ok.2.1 (xs := zl) (fun n hn => by rw [lzl]; exact c1 n hn)).length_eq
            rw [List.length_append] at this
            omega
          refine rd_cat (s9 _ _ eR1) eR2 (by simp; omega) fun R3 H10 _ s10 eR3 _ => ?_
          walk_at "rd"
          have s710 := s8.trans (s9.trans s10)
          refine rd_ixT ((s37.trans s710) _ _ et) rfl ?_
          walk_at "rd"
          refine rd_slL (SqL.of (s710 _ _ eW)) fun R4 H11 _ s11 eR4 _ => ?_
          rw [cutN_drop] at eR4
          refine rd_cat (s11 _ _ eR3) eR4 (by simp; omega) fun R5 H12 hR5 s12 eR5 _ => ?_
          have s712 := s710.trans (s11.trans s12)
          have s312 := s37.trans s712
          have hRF : R5 ≠ F := fun z => by
            have := (s37.trans (s710.trans s11)) _ _ eF3
            rw [← z, hR5] at this
            cases this
          have dr : DnAll H12 (restL zl us) ((restL st.1 us).map layD) := by
            rw [← restL_map]
            exact (dL.mono s312).rest us
          refine ⟨R5, some (.ref t), some (.ref T), v7, some (.ref W), v9, v10, s312, hRF, ⟨_, eR5, ?_⟩, ?_⟩
          · show DnAll H12 _ ((insP (restL st.1 us) pl (pickL st.1 us).flatten).map layD)
            rw [← insP_map]
            unfold insP
            have h1 := (dr.take pl).append (.cons (layOf ((s7.trans s712) _ _ eT)) (dr.drop pl))
            simpa using h1
          · show _ = [_, _, _, some (V.int (dayB st.2 (.bake us pl kp))), _, _, _, _, _, _, _]
            rw [show dayB st.2 (.bake us pl kp) = st.2 from by show st.2 + 0 = st.2; omega]
            rfl
      rintro σ H4 ⟨b, w5, w6, w7, w8, w9, w10, s4, hbF, hB, rfl⟩
      have eF4 := s4 _ _ eF3
      walk_at "rd"
      refine rd_tyL eF4 ?_
      walk_at "rd"
      have lz : zs.length = j := by
        rw [ra.1, rowsF_len, List.length_take]
        omega
      refine rd_app eF4 (by omega) fun H5 eH5 eF5 => ?_
      have lays5 : ∀ {l : Addr} {r : List (List Int)}, l ≠ F → LaysP H4 l r → LaysP H5 l r := fun {l r} hl ⟨ys, e, d⟩ => ⟨ys, by rw [eH5, upd_ne hl]; exact e, by rw [eH5]; exact d.updL eF4⟩
      have ra4 := ra.mono s4
      refine ⟨b, zs ++ [.ref b], w5, w6, w7, w8, w9, w10, by rw [eH5]; exact Same.mut (s3.trans s4) hF0, ?_, hbF, eF5, ?_, ?_, ?_⟩
      · rw [es]
        exact lays5 hbF hB
      · rw [er]
        refine ⟨by rw [List.length_append, List.length_append, ra4.1]; rfl, fun i r hr => ?_⟩
        by_cases c : i < (rowsF (initL m) m (ds.take j)).length
        · rw [List.getElem?_append_left c] at hr
          obtain ⟨l, e, p⟩ := ra4.2 i r hr
          exact ⟨l, by rw [List.getElem?_append_left (by rw [ra4.1]; exact c)]; exact e, lays5 (nf l (List.mem_of_getElem? e)) p⟩
        · rw [List.getElem?_append_right (by omega)] at hr
          have ei : i - (rowsF (initL m) m (ds.take j)).length = 0 := by
            have hh : i - (rowsF (initL m) m (ds.take j)).length < 1 := (List.getElem?_eq_some_iff.mp hr).1
            exact Nat.lt_one_iff.mp hh
          rw [ei] at hr
          cases hr
          exact ⟨b, by rw [List.getElem?_append_right (by rw [ra4.1]; omega), ra4.1, ei]; rfl, lays5 hbF hB⟩
      · intro l hl
        rcases List.mem_append.mp hl with z | z
        · exact nf l z
        · have := List.mem_singleton.mp z
          cases this
          exact hbF
      · rw [es]
    · rintro σ H3 ⟨L, zs, v5, v6, v7, v8, v9, v10, s3, hL, hLF, eF3, ra, nf, rfl⟩
      rw [lx, List.take_length] at ra
      exact ⟨⟨zs, eF3, ra⟩, s3, _, _, _, _, _, _, _, _, rfl⟩
  rintro σ H3 ⟨rp, s3, v2, v3, v5, v6, v7, v8, v9, v10, rfl⟩
  walk_at "rd"
  exact k H3 F s3 hF0 rp
end
end Sl

set_option Elab.async false
set_option linter.all false
set_option maxRecDepth 100000
set_option maxHeartbeats 8000000
set_option exponentiation.threshold 9000
namespace Sl
open PySem L2 C8 StX Silt
local macro_rules | `(tactic| walk_at "side") => `(tactic| first
  | exact cdivw (by omega) (by omega)
  | exact cmulw (by omega) (by omega) (by omega) (by omega)
  | exact Or.inr ⟨by omega, by omega⟩
  | exact Or.inl ⟨by omega, by omega⟩
  | omega
  | exact ⟨by omega, by omega, by decide⟩
  | decide)
local macro_rules | `(tactic| walk_at "rd1") => `(tactic| first
  | with_reducible refine rd_seq ?_
  | with_reducible refine rd_asg ?_
  | with_reducible refine rd_drop ?_
  | with_reducible refine rd_ret ?_
  | with_reducible refine rd_retN ?_
  | with_reducible refine rd_ifS ?_
  | ((with_reducible refine rd_var0 ?_); refine ⟨_, rfl, ?_⟩)
  | with_reducible refine rd_c ?_
  | with_reducible refine rd_op ?_
  | with_reducible refine rd_un ?_
  | with_reducible refine rd_I0 ?_
  | with_reducible refine rd_U ?_
  | ((with_reducible refine rd_I ?c ?_); (case c => walk_at "side"))
  | with_reducible refine rd_ipI ?_
  | with_reducible refine rd_eqI ?_
  | with_reducible refine rd_neI ?_
  | with_reducible refine rd_test ?_
  | with_reducible refine rd_tB ?_
  | with_reducible refine rd_bl ?_
  | with_reducible refine rd_not ?_
  | with_reducible refine rd_and ?_
  | with_reducible refine rd_or ?_
  | with_reducible refine rd_andV ?_
  | with_reducible refine rd_orV ?_
  | with_reducible refine rd_notV ?_
  | with_reducible refine rd_ifE ?_
  | with_reducible refine rd_chain ?_
  | with_reducible refine rd_chain3 ?_
  | with_reducible refine rd_nil ?_
  | with_reducible refine rd_cons ?_
  | with_reducible refine rd_call ?_
  | with_reducible refine rd_CB ?_
  | with_reducible refine rd_par ?_
  | with_reducible refine rd_par2 ?_
  | with_reducible refine rd_par3 ?_
  | with_reducible refine rd_par4 ?_
  | ((with_reducible refine rd_aug0 ?_); refine ⟨_, rfl, ?_⟩)
  | with_reducible refine rd_gname ?_
  | with_reducible refine rd_gcons ?_
  | with_reducible refine rd_gnil ?_
  | with_reducible refine rd_max ?_
  | with_reducible refine rd_min ?_
  | with_reducible refine rd_int1 ?_
  | with_reducible refine rd_abs ?_
  | with_reducible refine rd_lst ?_
  | with_reducible refine rd_tup ?_
  | with_reducible refine rd_bm ?_
  | with_reducible refine rd_fld0 ?_
  | with_reducible refine rd_sl0 ?_
  | with_reducible refine rd_noP ?_
  | with_reducible refine rd_part ?_
  | with_reducible refine rd_part2 ?_
  | with_reducible refine rd_meth0 ?_
  | with_reducible refine rd_star ?_
  | with_reducible refine rd_for ?_
  | with_reducible refine rd_rng1 ?_
  | with_reducible refine rd_rng2 ?_
  | with_reducible refine rd_rng3 ?_
  | with_reducible refine rd_iList ?_
  | with_reducible refine rd_iTup ?_
  | with_reducible refine rd_iEnum ?_
  | with_reducible refine rd_lc ?_
  | with_reducible refine rd_yes ?_
  | with_reducible refine rd_augS ?_
  | with_reducible refine rd_drawNew ?_
  | with_reducible refine rd_make0 ?_
  | with_reducible refine rd_next ?_
  | with_reducible refine rd_break ?_
  | with_reducible refine rd_cont ?_
  | with_reducible refine rd_iteTT ?_
  | with_reducible refine rd_iteFF ?_
  | with_reducible refine rd_iteNTT ?_
  | with_reducible refine rd_iteNFF ?_
  | with_reducible refine rd_con0 ?_
  | with_reducible refine rd_truO0 ?_
  | with_reducible refine rd_gfld0 ?_
  | with_reducible refine rd_dc ?_
  | with_reducible refine rd_iKeys ?_
  | with_reducible refine rd_dget0 ?_
  | with_reducible refine rd_dput0 ?_
  | with_reducible refine rd_dnot0 ?_
  | with_reducible refine rd_iEnumT ?_
  | with_reducible refine rd_raP0 ?_
  | with_reducible refine rd_xf0 ?_
  | with_reducible refine rd_cKw ?_
  | with_reducible refine rd_iStr ?_
  | with_reducible refine rd_gSub ?_
  | with_reducible refine rd_asgG ?_)
local macro_rules | `(tactic| walk_at "rd") => `(tactic| repeat walk_at "rd1")
local macro_rules | `(tactic| walk_at "len") => `(tactic| first
  | (intro vs H Q E h; obtain ⟨h2, _⟩ := h; rw [h2]; rfl)
  | (intro vs H Q E h; obtain ⟨_, h2, _⟩ := h; rw [h2]; rfl)
  | (intro vs H Q E h; obtain ⟨_, _, h2, _⟩ := h; rw [h2]; rfl)
  | (intro vs H Q E h; obtain ⟨_, _, _, h2, _⟩ := h; rw [h2]; rfl)
  | (intro vs H Q E h; obtain ⟨_, _, _, _, h2, _⟩ := h; rw [h2]; rfl)
  | (intro vs H Q E h; obtain ⟨_, _, _, _, _, h2, _⟩ := h; rw [h2]; rfl)
  | (intro vs H Q E h; obtain ⟨_, _, _, _, _, _, h2, _⟩ := h; rw [h2]; rfl)
  | (intro vs H Q E h; obtain ⟨_, _, _, _, _, _, _, h2, _⟩ := h; rw [h2]; rfl)
  | (intro vs H Q E h; obtain ⟨_, _, _, _, _, _, _, _, h2, _⟩ := h; rw [h2]; rfl)
  | (intro vs H Q E h; obtain ⟨_, _, _, _, _, _, _, _, _, h2, _⟩ := h; rw [h2]; rfl)
  | (intro vs H Q E h; obtain ⟨_, _, _, _, _, _, _, _, _, _, h2, _⟩ := h; rw [h2]; rfl)
  | (intro vs H Q E h; obtain ⟨_, _, _, _, _, _, _, _, _, _, _, h2, _⟩ := h; rw [h2]; rfl)
  | (intro vs H Q E h; obtain ⟨_, _, _, _, _, _, _, _, _, _, _, _, h2, _⟩ := h; rw [h2]; rfl))
local macro_rules | `(tactic| walk_at "rd1") => `(tactic| first
  | with_reducible refine rd_dget10 ?_)
theorem valsF_snoc (f : Int → Option Mk) : ∀ (ds : List Deed) (s : List (Option Mk) × Int) (x : Deed), valsF f s.1 s.2 (ds ++ [x]) = valsF f s.1 s.2 ds ++ [(stepVS f (stVF f s ds) x).1]
  | [], s, x => rfl
  | y :: r, s, x => by
    have ih := valsF_snoc f r (stepVS f s y) x
    show stepV f s.1 (dayB s.2 y) y :: valsF f (stepVS f s y).1 (stepVS f s y).2 (r ++ [x]) = _
    rw [ih]
    rfl
def spLReads : Sp := fun vs H Q _ => ∃ (p D : Addr) (m : Nat) (xs : List V) (ds : List Deed) (f : Int → Option Mk), vs = [.ref p, .int (m : Int), .ref D] ∧ H p = some (.lst xs) ∧ DnAll H xs (ds.map deedD) ∧ okS m ds ∧ ds.length ≤ 24 ∧ m ≤ 24 ∧ FallsP H D f ∧ ∀ H' F, Same H H' → H F = none → H' F = some (.lst (strV ((valsF f (initV f m) m ds).map readV))) → Q (.ref F) H'
section
variable {P : Program} {w : World} {K : PySem.W.Frag} {mg : Str → Option Value} {base : Heap} {C_Evidence C_Good C_Bad C_RightRounds C_WrongRound C_BadScript D_FALL : Addr}
theorem cal__law_reads (T : TX P K mg C_Evidence C_Good C_Bad C_RightRounds C_WrongRound C_BadScript D_FALL) : Cal P w K mg base 1 "_law_reads" (spLReads) [] := by
  obtain ⟨f0, fd, D, dn⟩ := T.d__law_reads
  refine cal0 D (D.fn.binds dn fun _ _ _ _ _ _ us hl => match us, hl with | [_, _, _], _ => rfl) .nil sc__law_reads (by walk_at "len") (fun cdv A outer s H vs Q E hr h => ?_)
  obtain ⟨p, D, m, xs, ds, f, rfl, ep, da, os, ld, hm, hf, k⟩ := h
  have lx := DeedsP.len da
  refine ⟨_, (pss_cons (ps_asg (pe_tup (pa_cons (pe_lc (own := [("_law_day", 4)]) (g := gName 4) (tt := tYes) rfl sc__law_reads.nd (pi_range3 rfl T.b_range (pa_cons (pv 1) (pa_cons pe_int (pa_cons (pe_un un_neg pe_int) pa_nil)))) (blkOk_by (own := [("_law_day", 4)]) (N := N__law_reads) (sc := fnScope s__law_reads) (by decide +kernel)) (fun _ _ _ _ _ => (pg_n 4 sc__law_reads.nd)) (fun _ _ _ _ _ => pts_nil) (fun _ _ _ _ _ => (pe_dget1 (hu_of hr) (pv 2) (pv 4) ⟨rfl, rfl, rfl, rfl⟩))) (pa_cons (pv 1) (pa_cons (pe_lst pa_nil) pa_nil)))) (pg_tup rfl (pgs_cons (pg_n 3 sc__law_reads.nd) (pgs_cons (pg_n 4 sc__law_reads.nd) (pgs_cons (pg_n 5 sc__law_reads.nd) pgs_nil)))))
      (pss_cut (ps_for PassesOwn.never rfl (pi_list (pv 0)) (pg_n 6 sc__law_reads.nd) (pss_cut (ps_if (pt_cmpR (op_eqD hr.units) (pv 6) (pe_tup (pa_cons pe_str pa_nil)) (nomark _)) (pss_cons (ps_s 4 sc__law_reads.nd (pe_op op_add (pv 4) pe_int))
      (pss_one (ps_s 3 sc__law_reads.nd (pe_op op_cat (pe_lst (pa_cons (pe_dget1 (hu_of hr) (pv 2) (pv 4) ⟨rfl, rfl, rfl, rfl⟩) pa_nil)) (pv 3))))) (pss_cons (ps_setLc (i := 7) (own := [("_law_number", 8)]) (g := gName 8) (tt := _) rfl sc__law_reads.nd rfl rfl (sw_true rfl rfl rfl (by decide +kernel)) (pi_tup (pe_ix ix_tup (pv 6) pe_int (fun _ _ => rfl))) (blkOk_by (own := [("_law_number", 8)]) (N := N__law_reads) (sc := fnScope s__law_reads) (by decide +kernel)) (fun _ _ _ _ _ => (pg_n 8 sc__law_reads.nd)) (fun _ _ _ _ _ => (pts_one (pt_cmpR op_notNn (pe_ix (ixK rIxL K ix_list) (pv 3) (pv 8) (fun _ _ => rfl)) pe_non (nomark _)))) (fun _ _ _ _ _ => (pe_ix (ixK rIxL K ix_list) (pv 3) (pv 8) (fun _ _ => rfl))))
      (pss_cons (ps_s 9 sc__law_reads.nd (pe_ifExp (pt_cmpR (op_neD hr.units) (pv 7) (pe_lst pa_nil) (nomark _)) (pe_ix ix_list (pv 7) pe_int (fun _ _ => rfl)) pe_non))
      (pss_cut (ps_if (PW.pt (pw_and (pt_cmpR op_eq (pv 9) pe_str (nomark _)) (pw_and1 (pt_not (pt_val (pe_ix ix_tup (pv 6) pe_int (fun _ _ => rfl))))))) (pss_one (ps_s 9 sc__law_reads.nd pe_non)) pss_nil)
      (pss_cons (ps_setLc (i := 10) (own := [("_law_place", 11), ("_law_layer", 12)]) (g := gTup _ 2 (gCons (gName 11) (gCons (gName 12) gNil))) (tt := _) rfl sc__law_reads.nd rfl rfl (sw_true rfl rfl rfl (by decide +kernel)) (pi_enum (by rfl) T.b_enumerate (pa_cons (pv 3) pa_nil)) (blkOk_by (own := [("_law_place", 11), ("_law_layer", 12)]) (N := N__law_reads) (sc := fnScope s__law_reads) (by decide +kernel)) (fun _ _ _ _ _ => (pg_tup rfl (pgs_cons (pg_n 11 sc__law_reads.nd) (pgs_cons (pg_n 12 sc__law_reads.nd) pgs_nil)))) (fun _ _ _ _ _ => (pts_one (pt_cmpR (opK (fun K => rIn K true) K op_notIn_seq) (pv 11) (pe_ix (ixK rIxT K ix_tup) (pv 6) pe_int (fun _ _ => rfl)) (by with_unfolding_all rfl)))) (fun _ _ _ _ _ => (pv 12)))
      (pss_one (ps_s 3 sc__law_reads.nd (pe_op op_cat (pe_op op_cat (pe_slice sl_list (pv 10) po_none (po_some (pe_ix ix_tup (pv 6) pe_int (fun _ _ => rfl)))) (pe_lst (pa_cons (pv 9) pa_nil))) (pe_slice sl_list (pv 10) (po_some (pe_ix ix_tup (pv 6) pe_int (fun _ _ => rfl))) po_none)))))))))
      (pss_cons (ps_setLc (i := 7) (own := [("_law_layer", 12)]) (g := gName 12) (tt := _) rfl sc__law_reads.nd rfl rfl (sw_true rfl rfl rfl (by decide +kernel)) (pi_list (pv 3)) (blkOk_by (own := [("_law_layer", 12)]) (N := N__law_reads) (sc := fnScope s__law_reads) (by decide +kernel)) (fun _ _ _ _ _ => (pg_n 12 sc__law_reads.nd)) (fun _ _ _ _ _ => (pts_one (pt_cmpR op_notNn (pv 12) pe_non (nomark _)))) (fun _ _ _ _ _ => (pv 12)))
      (pss_one (ps_expr (pe_bm PySem.F.plainAttrs_list PySem.F.slot_list_append PySem.F.type_list_append mt_append (pv 5) (pa_cons (pe_ifExp (pt_cmpR (op_neD hr.units) (pv 7) (pe_lst pa_nil) (nomark _)) (pe_ix ix_list (pv 7) pe_int (fun _ _ => rfl)) pe_str) pa_nil)))))))
      (pss_one (ps_ret (pv 5))))), ?_⟩
  walk_at "rd"
  refine rd_rgDn (by omega) ?_
  refine lcR_rngC (fun W i H' => Same H H' ∧ H' W = some (.lst (((List.range i).map fun (i : Nat) => f ((m : Int) - (i : Int))).map mV))) (fun W H' _ s e _ => ⟨s, e⟩) ?_ ?_
  · rintro W i H1 hW hi ⟨s1, eW⟩
    walk_at "rd"
    refine ⟨rfl, ?_⟩
    walk_at "rd"
    refine rd_fallsGet (hf.mono s1) rfl ?_
    refine rd_lcE eW (by rw [List.length_map, List.length_map, List.length_range]; omega) fun H3 eH3 eW3 => ?_
    refine ⟨by rw [eH3]; exact Same.mut s1 hW, ?_⟩
    rw [eW3, List.range_succ, List.map_append, List.map_append, show (m : Int) + (i : Int) * -1 = (m : Int) - (i : Int) by omega]
    rfl
  rintro L0 H1 hL0 ⟨s1, eL0⟩
  rw [show ((m : Int) - 0).toNat = m by omega] at eL0
  have eL0 : H1 L0 = some (.lst ((initV f m).map mV)) := eL0
  walk_at "rd"
  refine rd_newL (by simp) fun F H2 hF s2 eF _ => ?_
  walk_at "rd"
  have hLF : L0 ≠ F := fun z => by rw [z] at eL0; rw [eL0] at hF; cases hF
  have hF0 : H F = none := none_back s1 hF
  refine rd_newT (by simp) fun t0 H2b _ s2b et0 _ => ?_
  refine rd_gtup et0 rfl ?_
  walk_at "rd"
  refine ⟨fun σ H' => H' F = some (.lst (strV ((valsF f (initV f m) m ds).map readV))) ∧ Same H H' ∧ ∃ v3 v4 v6 v7 v8 v9 v10 v11 v12, σ = [some (.ref p), some (.int (m : Int)), some (.ref D), v3, v4, some (.ref F), v6, v7, v8, v9, v10, v11, v12], ?_, ?_⟩
  · walk_at "rd"
    have s02 := s1.trans (s2.trans s2b)
    refine rd_lsR (SqL.of (s02 _ _ ep)) ?_
    refine forR_lst (xs := xs) (fun j σ H' => ∃ (L : Addr) (v6 v7 v8 v9 v10 v11 v12 : Option V), Same H H' ∧ H' L = some (.lst ((stVF f (initV f m, m) (ds.take j)).1.map mV)) ∧ L ≠ F ∧ H' F = some (.lst (strV ((valsF f (initV f m) m (ds.take j)).map readV))) ∧
      σ = [some (.ref p), some (.int (m : Int)), some (.ref D), some (.ref L), some (.int (stVF f (initV f m, m) (ds.take j)).2), some (.ref F), v6, v7, v8, v9, v10, v11, v12]) (fun j σ H' ⟨_, _, _, _, _, _, _, _, s, _⟩ => SqL.of (s _ _ ep)) ⟨L0, _, _, _, _, _, _, _, s02, (s2.trans s2b) _ _ eL0, hLF, s2b _ _ eF, rfl⟩ ?_ ?_
    · rintro j y σ H3 hy ⟨L, v6, v7, v8, v9, v10, v11, v12, s3, eL, hLF, eF3, rfl⟩
      obtain ⟨x, hx, dx⟩ := deeds_get (da.mono s3) hy
      have hj := (List.getElem?_eq_some_iff.mp hx).1
      obtain ⟨ok, m', hm'⟩ := okV_at (f := f) (s := (initV f m, (m : Int))) os (initV_len f m) hx
      have b1 := stVF_len (f := f) (s := (initV f m, (m : Int))) os (initV_len f m) j
      have b1' := stVF_len (f := f) (s := (initV f m, (m : Int))) os (initV_len f m) (j + 1)
      have etk : ds.take (j + 1) = ds.take j ++ [x] := by rw [List.take_add_one, hx]; rfl
      have es : stVF f (initV f m, (m : Int)) (ds.take (j + 1)) = stepVS f (stVF f (initV f m, (m : Int)) (ds.take j)) x := by rw [etk, stVF_snoc]
      have er : valsF f (initV f m) m (ds.take (j + 1)) = valsF f (initV f m) m (ds.take j) ++ [(stepVS f (stVF f (initV f m, (m : Int)) (ds.take j)) x).1] := by rw [etk]; exact valsF_snoc f _ (initV f m, (m : Int)) x
      rw [es] at b1'
      generalize hst : stVF f (initV f m, (m : Int)) (ds.take j) = st at *
      walk_at "rd"
      refine ⟨fun σ H' => ∃ (b : Addr) (v6 v7 v8 v9 v10 v11 v12 : Option V), Same H3 H' ∧ b ≠ F ∧ H' b = some (.lst ((stepVS f st x).1.map mV)) ∧ σ = [some (.ref p), some (.int (m : Int)), some (.ref D), some (.ref b), some (.int (stepVS f st x).2), some (.ref F), v6, v7, v8, v9, v10, v11, v12], ?_, ?_⟩
      · walk_at "rd"
        refine rd_newT (by simp) fun ft H4 _ s4 eft _ => ?_
        refine rd_eqD (dx.mono s4).dt (.tup eft (.cons (.str "fall") .nil)) (shaped_deed _) (by decide +kernel) ?_
        rw [show PyData.eqv (deedD x) (.tuple [.str "fall"]) = isFall x from eqv_deed x]
        refine ⟨_, rfl, ?_⟩
        cases x with
        | fall =>
          rw [show isFall Deed.fall = true from rfl]
          walk_at "rd"
          refine rd_fallsGet (hf.mono (s3.trans s4)) rfl ?_
          walk_at "rd"
          refine rd_newL (by simp) fun l1 H6 _ s6 el1 _ => ?_
          walk_at "rd"
          refine rd_cat el1 ((s4.trans s6) _ _ eL) (by simp; omega) fun l2 H7 hl2 s7 el2 _ => ?_
          have s47 := s4.trans (s6.trans s7)
          have hl2F : l2 ≠ F := fun z => by
            have := (s4.trans s6) _ _ eF3
            rw [← z, hl2] at this
            cases this
          exact ⟨l2, some y, v7, v8, v9, v10, v11, v12, s47, hl2F, el2, rfl⟩
        | bake us pl kp =>
          rw [show isFall (Deed.bake us pl kp) = false from rfl]
          obtain ⟨t, u, rfl, et, eu⟩ := bake_inv dx.dt
          obtain ⟨c1, c2, c3⟩ := manyB_bake hm'
          have lns := okD_len ok
          walk_at "rd"
          have s34 := s3.trans s4
          refine rd_ixT (s4 _ _ et) rfl ?_
          refine rd_tpR (SqT.of (s4 _ _ eu)) ?_
          refine lcR_tup (xs := natV us) (fun W i H' => Same H4 H' ∧ H' W = some (.lst (strV (toldL st.1 (us.take i))))) (fun W i H' _ ⟨s, _⟩ => SqT.of ((s4.trans s) _ _ eu)) (fun W H' _ s e _ => ⟨s, e⟩) ?_ ?_
          · rintro W i x H5 hW hx5 ⟨s5, eW⟩
            obtain ⟨n, hn, rfl⟩ : ∃ n : Nat, us[i]? = some n ∧ x = V.int (n : Int) := by
              unfold natV at hx5
              rw [List.getElem?_map] at hx5
              cases q : us[i]? with
              | none => rw [q] at hx5; cases hx5
              | some n => rw [q] at hx5; exact ⟨n, rfl, (Option.some.inj hx5).symm⟩
            have hi := (List.getElem?_eq_some_iff.mp hn).1
            have hnl := c1 n (List.mem_of_getElem? hn)
            have hv : st.1[n]? = some st.1[n] := List.getElem?_eq_getElem hnl
            have esn : toldL st.1 (us.take (i + 1)) = toldL st.1 (us.take i) ++ (st.1[n]).toList := by
              rw [List.take_add_one, hn]
              exact toldL_snoc _ _ hv
            walk_at "rd"
            refine ⟨rfl, ?_⟩
            walk_at "rd"
            have hmv : (st.1.map mV)[n]? = some (mV st.1[n]) := by rw [List.getElem?_map, hv]; rfl
            refine rd_ixL ((s4.trans s5) _ _ eL) (atI_nat' hmv) ?_
            walk_at "rd"
            refine rd_notN0 ?_
            refine ⟨_, rfl, ?_⟩
            cases hq : st.1[n] with
            | none =>
              rw [hq] at esn
              refine rd_iteFF ⟨s5, ?_⟩
              rw [esn, show (none : Option Mk).toList = [] from rfl, List.append_nil]
              exact eW
            | some m1 =>
              rw [hq] at esn hmv
              have : decide (mV (some m1) = V.non) = false := decide_eq_false (fun z => by cases z)
              rw [this]
              refine rd_iteTT ?_
              walk_at "rd"
              refine rd_ixL ((s4.trans s5) _ _ eL) (atI_nat' hmv) ?_
              have hl := toldL_len st.1 (us.take i)
              rw [List.length_take] at hl
              refine rd_lcE eW (by unfold strV; rw [List.length_map]; omega) fun H6 eH6 eW6 => ?_
              refine ⟨by rw [eH6]; exact Same.mut s5 hW, ?_⟩
              rw [eW6, esn]
              unfold strV
              rw [List.map_append]
              rfl
          rintro W H5 hW ⟨s5, eW⟩
          unfold natV at eW
          rw [List.length_map, List.take_length] at eW
          walk_at "rd"
          refine rd_newL (by simp) fun u2 H6 _ s6 eu2 _ => ?_
          refine rd_neD (.lst (s6 _ _ eW) (strV_dt _)) (.lst eu2 .nil) (shaped_strs _) (by rfl) ?_
          rw [eqv_emp]
          refine ⟨_, rfl, ?_⟩
          refine rd_iteW (v := mV (toldL st.1 us).head?) (fun c Q' q => ?_) (fun c Q' q => ?_) ?_
          · cases hq : toldL st.1 us with
            | nil => rw [hq] at c; cases c
            | cons m1 r =>
              rw [hq] at eW q
              walk_at "rd"
              exact rd_ixL (s6 _ _ eW) (atI_nat' (i := 0) rfl) q
          · cases hq : toldL st.1 us with
            | nil =>
              rw [hq] at q
              walk_at "rd"
              exact q
            | cons m1 r => rw [hq] at c; cases c
          walk_at "rd"
          have s36 := s4.trans (s5.trans s6)
          have elate : (if (toldL st.1 us).head? = some Mk.mark ∧ kp = false then none else (toldL st.1 us).head?) = valK (pickL st.1 us) kp := by
            unfold valK
            rw [pick_told]
          refine ⟨fun σ H' => Same H6 H' ∧ σ = [some (.ref p), some (.int (m : Int)), some (.ref D), some (.ref L), some (.int st.2), some (.ref F), some (.ref t), some (.ref W), v8, some (mV (valK (pickL st.1 us) kp)), v10, v11, v12], ?_, ?_⟩
          · walk_at "rd"
            refine rd_eq (mV_scal _ _) ?_
            rw [mS_eq]
            refine ⟨_, rfl, ?_⟩
            by_cases c : (toldL st.1 us).head? = some .mark
            · rw [decide_eq_true c]
              walk_at "rd"
              refine rd_ixT (s36 _ _ et) rfl ?_
              walk_at "rd"
              cases kp
              · walk_at "rd"
                refine ⟨Same.refl H6, ?_⟩
                rw [← elate, if_pos ⟨c, rfl⟩]
                rfl
              · walk_at "rd"
                refine ⟨Same.refl H6, ?_⟩
                rw [← elate, if_neg (fun z => Bool.noConfusion z.2)]
                rfl
            · rw [decide_eq_false c]
              walk_at "rd"
              refine ⟨Same.refl H6, ?_⟩
              rw [← elate, if_neg (fun z => c z.1)]
              rfl
          rintro σ H7 ⟨s7, rfl⟩
          generalize hvk : valK (pickL st.1 us) kp = vk at *
          have s37 := s36.trans s7
          walk_at "rd"
          refine rd_enR (SqL.of (s37 _ _ eL)) ?_
          refine lcR_enum (xs := st.1.map mV) (fun W2 i H' => Same H7 H' ∧ H' W2 = some (.lst (restL ((st.1.map mV).take i) us))) (fun W2 i H' _ ⟨s, _⟩ => SqL.of ((s37.trans s) _ _ eL)) (fun W H' _ s e _ => ⟨s, e⟩) ?_ ?_
          · rintro W2 i x H8 q H9 hW2 hx9 ⟨s8, eW2⟩ _ s9 eq9 _
            have hi := (List.getElem?_eq_some_iff.mp hx9).1
            refine rd_gtup eq9 rfl ?_
            walk_at "rd"
            refine ⟨rfl, ?_⟩
            walk_at "rd"
            have s79 := s8.trans s9
            refine rd_ixT ((s37.trans s79) _ _ et) rfl ?_
            refine ⟨u, _, rfl, .inr (SqT.of ((s37.trans s79) _ _ eu)), rfl, flat_nat us, ?_⟩
            rw [inV_nat]
            refine ⟨_, rfl, ?_⟩
            have esn : restL ((st.1.map mV).take (i + 1)) us = restL ((st.1.map mV).take i) us ++ (if i ∈ us then [] else [x]) := by
              rw [List.take_add_one, hx9]
              show restL ((st.1.map mV).take i ++ [x]) us = _
              rw [rest_snoc, List.length_take, Nat.min_eq_left (by omega)]
            by_cases c : i ∈ us
            · rw [decide_eq_true c]
              refine rd_iteFF ⟨s79, ?_⟩
              rw [esn, if_pos c, List.append_nil]
              exact s9 _ _ eW2
            · rw [decide_eq_false c]
              refine rd_iteTT ?_
              walk_at "rd"
              have lr : (restL ((st.1.map mV).take i) us).length ≤ (st.1.map mV).length := by
                unfold restL
                rw [List.length_map]
                refine Nat.le_trans (List.length_filter_le _ _) ?_
                rw [List.length_zipIdx, List.length_take]
                exact Nat.min_le_right _ _
              rw [List.length_map] at lr
              refine rd_lcE (s9 _ _ eW2) (by omega) fun H10 eH10 eW10 => ?_
              refine ⟨by rw [eH10]; exact Same.mut s79 hW2, ?_⟩
              rw [eW10, esn, if_neg c]
          rintro W2 H8 hW2 ⟨s8, eW2⟩
          rw [List.take_length] at eW2
          walk_at "rd"
          have s38 := s37.trans s8
          refine rd_ixT (s38 _ _ et) rfl ?_
          walk_at "rd"
          refine rd_slL (SqL.of eW2) fun R1 H9 _ s9 eR1 _ => ?_
          rw [cutN_take] at eR1
          walk_at "rd"
          refine rd_newL (by simp) fun R2 H10 _ s10 eR2 _ => ?_
          have lr : (restL (st.1.map mV) us).length ≤ st.1.length := by
            have := (rest_pick ok.2.1 (xs := st.1.map mV) (fun n hn => by rw [List.length_map]; exact c1 n hn)).length_eq
            rw [List.length_append, List.length_map] at this
            omega
          refine rd_cat (s10 _ _ eR1) eR2 (by simp; omega) fun R3 H11 _ s11 eR3 _ => ?_
          walk_at "rd"
          have s811 := s9.trans (s10.trans s11)
          refine rd_ixT ((s38.trans s811) _ _ et) rfl ?_
          walk_at "rd"
          refine rd_slL (SqL.of (s811 _ _ eW2)) fun R4 H12 _ s12 eR4 _ => ?_
          rw [cutN_drop] at eR4
          refine rd_cat (s12 _ _ eR3) eR4 (by simp; omega) fun R5 H13 hR5 s13 eR5 _ => ?_
          have s313 := s38.trans (s811.trans (s12.trans s13))
          have hRF : R5 ≠ F := fun z => by
            have := (s38.trans (s811.trans s12)) _ _ eF3
            rw [← z, hR5] at this
            cases this
          refine ⟨R5, some (.ref t), some (.ref W), v8, some (mV vk), some (.ref W2), v11, v12, s313, hRF, ?_, ?_⟩
          · rw [eR5]
            show _ = some (HO.lst ((insP (restL st.1 us) pl (valK (pickL st.1 us) kp)).map mV))
            rw [hvk, ← insP_map, ← restL_map]
            unfold insP
            simp
          · show _ = [_, _, _, _, some (V.int (dayB st.2 (.bake us pl kp))), _, _, _, _, _, _, _, _]
            rw [show dayB st.2 (.bake us pl kp) = st.2 from by show st.2 + 0 = st.2; omega]
            rfl
      rintro σ H4 ⟨b, w6, w7, w8, w9, w10, w11, w12, s4, hbF, eb, rfl⟩
      have eF4 := s4 _ _ eF3
      walk_at "rd"
      refine rd_lsR (SqL.of eb) ?_
      generalize hvs : (stepVS f st x).1 = vs at *
      refine lcR_lst (xs := vs.map mV) (fun W i H' => Same H4 H' ∧ H' W = some (.lst (strV ((vs.take i).filterMap id)))) (fun W i H' _ ⟨s, _⟩ => SqL.of (s _ _ eb)) (fun W H' _ s e _ => ⟨s, e⟩) ?_ ?_
      · rintro W i x2 H5 hW hx5 ⟨s5, eW⟩
        obtain ⟨m1, hm1, rfl⟩ : ∃ m1, vs[i]? = some m1 ∧ x2 = mV m1 := by
          rw [List.getElem?_map] at hx5
          cases q : vs[i]? with
          | none => rw [q] at hx5; cases hx5
          | some m1 => rw [q] at hx5; exact ⟨m1, rfl, (Option.some.inj hx5).symm⟩
        have esn : (vs.take (i + 1)).filterMap id = (vs.take i).filterMap id ++ m1.toList := by
          rw [List.take_add_one, hm1, List.filterMap_append]
          cases m1 <;> rfl
        walk_at "rd"
        refine ⟨rfl, ?_⟩
        walk_at "rd"
        refine rd_notN0 ?_
        refine ⟨_, rfl, ?_⟩
        cases m1 with
        | none =>
          refine rd_iteFF ⟨s5, ?_⟩
          rw [esn, show (none : Option Mk).toList = [] from rfl, List.append_nil]
          exact eW
        | some m1 =>
          have : decide (mV (some m1) = V.non) = false := decide_eq_false (fun z => by cases z)
          rw [this]
          refine rd_iteTT ?_
          walk_at "rd"
          have hl : ((vs.take i).filterMap id).length ≤ (vs.take i).length := List.length_filterMap_le _ _
          rw [List.length_take] at hl
          refine rd_lcE eW (by unfold strV; rw [List.length_map]; omega) fun H6 eH6 eW6 => ?_
          refine ⟨by rw [eH6]; exact Same.mut s5 hW, ?_⟩
          rw [eW6, esn]
          unfold strV
          rw [List.map_append]
          rfl
      rintro W H5 hW ⟨s5, eW⟩
      rw [List.length_map, List.take_length] at eW
      walk_at "rd"
      have eF5 := s5 _ _ eF4
      refine rd_tyL eF5 ?_
      walk_at "rd"
      refine rd_newL (by simp) fun u2 H6 _ s6 eu2 _ => ?_
      refine rd_neD (.lst (s6 _ _ eW) (strV_dt _)) (.lst eu2 .nil) (shaped_strs _) (by rfl) ?_
      rw [eqv_emp]
      refine ⟨_, rfl, ?_⟩
      have lz : (strV ((valsF f (initV f m) m (ds.take j)).map readV)).length = j := by
        unfold strV
        rw [List.length_map, List.length_map, valsF_len, List.length_take]
        omega
      refine rd_iteW (v := .str (mkS (readV vs))) (fun c Q' q => ?_) (fun c Q' q => ?_) ?_
      · unfold readV at q
        cases hq : vs.filterMap id with
        | nil => rw [hq] at c; cases c
        | cons m1 r =>
          rw [hq] at eW q
          walk_at "rd"
          exact rd_ixL (s6 _ _ eW) (atI_nat' (i := 0) rfl) q
      · unfold readV at q
        cases hq : vs.filterMap id with
        | nil =>
          rw [hq] at q
          walk_at "rd"
          exact q
        | cons m1 r => rw [hq] at c; cases c
      walk_at "rd"
      have eF6 := s6 _ _ eF5
      refine rd_app eF6 (by rw [lz]; omega) fun H7 eH7 eF7 => ?_
      refine ⟨b, w6, some (.ref W), w8, w9, w10, w11, w12, by rw [eH7]; exact Same.mut (s3.trans (s4.trans (s5.trans s6))) hF0, ?_, hbF, ?_, ?_⟩
      · rw [eH7, upd_ne hbF, es, hvs]
        exact (s5.trans s6) _ _ eb
      · rw [eF7, er, List.map_append]
        unfold strV
        rw [List.map_append]
        rfl
      · rw [es]
        rfl
    · rintro σ H3 ⟨L, v6, v7, v8, v9, v10, v11, v12, s3, eL, hLF, eF3, rfl⟩
      rw [lx, List.take_length] at eF3
      exact ⟨eF3, s3, _, _, _, _, _, _, _, _, _, rfl⟩
  rintro σ H3 ⟨eF3, s3, v3, v4, v6, v7, v8, v9, v10, v11, v12, rfl⟩
  walk_at "rd"
  exact k H3 F s3 hF0 eF3
end
end Sl

set_option Elab.async false
set_option linter.all false
set_option maxRecDepth 100000
set_option maxHeartbeats 8000000
set_option exponentiation.threshold 9000
namespace Sl
open PySem L2 C8 StX Silt
local macro_rules | `(tactic| walk_at "side") => `(tactic| first
  | exact cdivw (by omega) (by omega)
  | exact cmulw (by omega) (by omega) (by omega) (by omega)
  | exact Or.inr ⟨by omega, by omega⟩
  | exact Or.inl ⟨by omega, by omega⟩
  | omega
  | exact ⟨by omega, by omega, by decide⟩
  | decide)
local macro_rules | `(tactic| walk_at "rd1") => `(tactic| first
  | with_reducible refine rd_seq ?_
  | with_reducible refine rd_asg ?_
  | with_reducible refine rd_drop ?_
  | with_reducible refine rd_ret ?_
  | with_reducible refine rd_retN ?_
  | with_reducible refine rd_ifS ?_
  | ((with_reducible refine rd_var0 ?_); refine ⟨_, rfl, ?_⟩)
  | with_reducible refine rd_c ?_
  | with_reducible refine rd_op ?_
  | with_reducible refine rd_un ?_
  | with_reducible refine rd_I0 ?_
  | with_reducible refine rd_U ?_
  | ((with_reducible refine rd_I ?c ?_); (case c => walk_at "side"))
  | with_reducible refine rd_ipI ?_
  | with_reducible refine rd_eqI ?_
  | with_reducible refine rd_neI ?_
  | with_reducible refine rd_test ?_
  | with_reducible refine rd_tB ?_
  | with_reducible refine rd_bl ?_
  | with_reducible refine rd_not ?_
  | with_reducible refine rd_and ?_
  | with_reducible refine rd_or ?_
  | with_reducible refine rd_andV ?_
  | with_reducible refine rd_orV ?_
  | with_reducible refine rd_notV ?_
  | with_reducible refine rd_ifE ?_
  | with_reducible refine rd_chain ?_
  | with_reducible refine rd_chain3 ?_
  | with_reducible refine rd_nil ?_
  | with_reducible refine rd_cons ?_
  | with_reducible refine rd_call ?_
  | with_reducible refine rd_CB ?_
  | with_reducible refine rd_par ?_
  | with_reducible refine rd_par2 ?_
  | with_reducible refine rd_par3 ?_
  | with_reducible refine rd_par4 ?_
  | ((with_reducible refine rd_aug0 ?_); refine ⟨_, rfl, ?_⟩)
  | with_reducible refine rd_gname ?_
  | with_reducible refine rd_gcons ?_
  | with_reducible refine rd_gnil ?_
  | with_reducible refine rd_max ?_
  | with_reducible refine rd_min ?_
  | with_reducible refine rd_int1 ?_
  | with_reducible refine rd_abs ?_
  | with_reducible refine rd_lst ?_
  | with_reducible refine rd_tup ?_
  | with_reducible refine rd_bm ?_
  | with_reducible refine rd_fld0 ?_
  | with_reducible refine rd_sl0 ?_
  | with_reducible refine rd_noP ?_
  | with_reducible refine rd_part ?_
  | with_reducible refine rd_part2 ?_
  | with_reducible refine rd_meth0 ?_
  | with_reducible refine rd_star ?_
  | with_reducible refine rd_for ?_
  | with_reducible refine rd_rng1 ?_
  | with_reducible refine rd_rng2 ?_
  | with_reducible refine rd_rng3 ?_
  | with_reducible refine rd_iList ?_
  | with_reducible refine rd_iTup ?_
  | with_reducible refine rd_iEnum ?_
  | with_reducible refine rd_lc ?_
  | with_reducible refine rd_yes ?_
  | with_reducible refine rd_augS ?_
  | with_reducible refine rd_drawNew ?_
  | with_reducible refine rd_make0 ?_
  | with_reducible refine rd_next ?_
  | with_reducible refine rd_break ?_
  | with_reducible refine rd_cont ?_
  | with_reducible refine rd_iteTT ?_
  | with_reducible refine rd_iteFF ?_
  | with_reducible refine rd_iteNTT ?_
  | with_reducible refine rd_iteNFF ?_
  | with_reducible refine rd_con0 ?_
  | with_reducible refine rd_truO0 ?_
  | with_reducible refine rd_gfld0 ?_
  | with_reducible refine rd_dc ?_
  | with_reducible refine rd_iKeys ?_
  | with_reducible refine rd_dget0 ?_
  | with_reducible refine rd_dput0 ?_
  | with_reducible refine rd_dnot0 ?_
  | with_reducible refine rd_iEnumT ?_
  | with_reducible refine rd_raP0 ?_
  | with_reducible refine rd_xf0 ?_
  | with_reducible refine rd_cKw ?_
  | with_reducible refine rd_iStr ?_
  | with_reducible refine rd_gSub ?_
  | with_reducible refine rd_asgG ?_)
local macro_rules | `(tactic| walk_at "rd") => `(tactic| repeat walk_at "rd1")
local macro_rules | `(tactic| walk_at "len") => `(tactic| first
  | (intro vs H Q E h; obtain ⟨h2, _⟩ := h; rw [h2]; rfl)
  | (intro vs H Q E h; obtain ⟨_, h2, _⟩ := h; rw [h2]; rfl)
  | (intro vs H Q E h; obtain ⟨_, _, h2, _⟩ := h; rw [h2]; rfl)
  | (intro vs H Q E h; obtain ⟨_, _, _, h2, _⟩ := h; rw [h2]; rfl)
  | (intro vs H Q E h; obtain ⟨_, _, _, _, h2, _⟩ := h; rw [h2]; rfl)
  | (intro vs H Q E h; obtain ⟨_, _, _, _, _, h2, _⟩ := h; rw [h2]; rfl)
  | (intro vs H Q E h; obtain ⟨_, _, _, _, _, _, h2, _⟩ := h; rw [h2]; rfl)
  | (intro vs H Q E h; obtain ⟨_, _, _, _, _, _, _, h2, _⟩ := h; rw [h2]; rfl)
  | (intro vs H Q E h; obtain ⟨_, _, _, _, _, _, _, _, h2, _⟩ := h; rw [h2]; rfl)
  | (intro vs H Q E h; obtain ⟨_, _, _, _, _, _, _, _, _, h2, _⟩ := h; rw [h2]; rfl)
  | (intro vs H Q E h; obtain ⟨_, _, _, _, _, _, _, _, _, _, h2, _⟩ := h; rw [h2]; rfl)
  | (intro vs H Q E h; obtain ⟨_, _, _, _, _, _, _, _, _, _, _, h2, _⟩ := h; rw [h2]; rfl)
  | (intro vs H Q E h; obtain ⟨_, _, _, _, _, _, _, _, _, _, _, _, h2, _⟩ := h; rw [h2]; rfl))
local macro_rules | `(tactic| walk_at "rd1") => `(tactic| first
  | with_reducible refine rd_dget10 ?_)
def bV : Option Nat → V
  | none => .non
  | some x => .int (x : Int)
/-- what is the least found so far: no less than what is sought, and it itself once D has been seen -/
def Inv (w : Option Nat) (D : Prop) (B : Option Nat) : Prop := (∀ x, B = some x → ∃ w', w = some w' ∧ w' ≤ x) ∧ ∀ w', w = some w' → D → B = some w'
theorem Inv.start (w : Option Nat) : Inv w False none := ⟨fun x h => (by cases h), fun _ _ h => h.elim⟩
theorem Inv.le {w B : Option Nat} {D D' : Prop} (h : Inv w D B) (hd : ∀ w', w = some w' → D' → D) : Inv w D' B := ⟨h.1, fun w' e d => h.2 w' e (hd w' e d)⟩
theorem Inv.fin {w B : Option Nat} {D : Prop} (h : Inv w D B) (hd : ∀ w', w = some w' → D) : B = w := by
  cases hw : w with
  | some w' => exact h.2 w' hw (hd w' hw)
  | none =>
    cases hb : B with
    | none => rfl
    | some x =>
      obtain ⟨w', e, _⟩ := h.1 x hb
      rw [hw] at e
      cases e
theorem Inv.step1 {w B : Option Nat} {D E : Prop} {q : Nat} (h : Inv w D B) (h1 : ∃ w', w = some w' ∧ w' ≤ q + 1) (hb : ∀ x, B = some x → q + 1 < x) : Inv w (D ∨ (E ∧ w = some (q + 1))) (some (q + 1)) := by
  refine ⟨fun x e => by cases e; exact h1, fun w' e d => ?_⟩
  rcases d with d | ⟨_, d⟩
  · have := hb _ (h.2 w' e d)
    obtain ⟨w2, e2, l⟩ := h1
    rw [e] at e2
    cases e2
    omega
  · rw [e] at d
    cases d
    rfl
theorem Inv.step2 {w B : Option Nat} {D E : Prop} {q : Nat} (h : Inv w D B) (h2 : E → w = some (q + 1) → ∃ x, B = some x ∧ x ≤ q + 1) : Inv w (D ∨ (E ∧ w = some (q + 1))) B := by
  refine ⟨h.1, fun w' e d => ?_⟩
  rcases d with d | ⟨d1, d2⟩
  · exact h.2 w' e d
  · obtain ⟨x, hx, l⟩ := h2 d1 d2
    obtain ⟨w2, e2, l2⟩ := h.1 x hx
    rw [d2] at e e2
    cases e
    cases e2
    rw [hx, show x = q + 1 by omega]
theorem Inv.next {w B : Option Nat} {D E : Prop} {u : Nat} (h : Inv w ((D ∨ (E ∧ ∃ w', w = some w' ∧ w' ≤ u)) ∨ (E ∧ w = some (u + 1))) B) : Inv w (D ∨ (E ∧ ∃ w', w = some w' ∧ w' ≤ u + 1)) B := h.le fun w' e d => by
  rcases d with d | ⟨d, w2, e2, l⟩
  · exact .inl (.inl d)
  · by_cases c : w2 ≤ u
    · exact .inl (.inr ⟨d, w2, e2, c⟩)
    · exact .inr ⟨d, by rw [e2, show w2 = u + 1 by omega]⟩
theorem fallsN_le (ds : List Deed) (j : Nat) : fallsN (ds.take j) ≤ fallsN ds := by
  unfold fallsN
  exact (List.Sublist.filter _ (List.take_sublist j ds)).length_le
theorem fallsN_len (ds : List Deed) : fallsN ds ≤ ds.length := List.length_filter_le _ _
theorem rd_dgetG {H : Hp} {Q : VK} {a : Addr} {kvs : List (Key × V)} {k : Int} {v : V} (e : H a = some (.dK kvs)) (l : valV kvs (Sum.inl k) = some v) (h : Q v H) : rDGet (.ref a) (.int k) H Q := ⟨a, v, rfl, .inl ⟨_, Sum.inl k, .inl e, rfl, l.symm⟩, h⟩
theorem rd_fallsIx {H : Hp} {Q : VK} {D : Addr} {f : Int → Option Mk} {y : Int} {m : Mk} (hf : FallsP H D f) (e : f y = some m) (h : Q (.str (mkS m)) H) : rDGet (.ref D) (.int y) H Q := by
  obtain ⟨kvs, eD, d⟩ := hf
  have := d y
  rw [e] at this
  cases hv : valV kvs (Sum.inl y) with
  | none => rw [hv] at this; cases this
  | some v =>
    rw [hv] at this
    have this : v = .str (mkS m) := this
    subst this
    exact rd_dgetG eD hv h
def rDisp2 (p : Addr) (Q : VK) (x y x2 y2 : V) (H2 : Hp) : Prop := H2 p = some (.dK []) ∧ ∃ kvs : List (Key × V), [(x, y), (x2, y2)] = kvs.map (fun kv => (kV kv.1, kv.2)) ∧ kvs.length ≤ 15 ∧ Q (.ref p) (upd H2 p (.dK (mergeK [] kvs)))
theorem rd_disp2 {σ : L2.St} {H : Hp} {Q : VK} {tk tv tk2 tv2 : TE} (h : ∀ p H1, H p = none → Same H H1 → H1 p = some (.dK []) → tk σ H1 fun x H2 => tv σ H2 fun y H3 => tk2 σ H3 fun x2 H4 => tv2 σ H4 fun y2 H5 => rDisp2 p Q x y x2 y2 H5) : tDisp [(tk, tv), (tk2, tv2)] σ H Q :=
  fun p hp => h p _ hp (Same.new (Same.refl H) hp) upd_same
theorem rd_d2 {Q : VK} {p : Addr} {i j : Int} {y y2 : V} {H2 : Hp} (ij : i ≠ j) (e : H2 p = some (.dK [])) (h : ∀ H3, H3 = upd H2 p (.dK [(Sum.inl i, y), (Sum.inl j, y2)]) → H3 p = some (.dK [(Sum.inl i, y), (Sum.inl j, y2)]) → Q (.ref p) H3) : rDisp2 p Q (.int i) y (.int j) y2 H2 := by
  refine ⟨e, [(Sum.inl i, y), (Sum.inl j, y2)], rfl, Nat.le_of_lt_succ (by decide : 2 < 16), ?_⟩
  have : mergeK [] [((Sum.inl i : Key), y), (Sum.inl j, y2)] = [(Sum.inl i, y), (Sum.inl j, y2)] := by
    simp [mergeK, putK, ij]
  rw [this]
  exact h _ rfl upd_same
theorem falls_one {H : Hp} {D : Addr} {a : Int} {k : Mk} (e : H D = some (.dK [(Sum.inl a, .str "leaf")])) : FallsP H D (fl a a k) := by
  refine ⟨_, e, fun y => ?_⟩
  unfold fl valV
  by_cases c : a = y
  · subst c
    simp [mV, mkS]
  · simp [c, mV, Ne.symm c]
theorem falls_twoD {H : Hp} {D : Addr} {a b : Int} {k : Mk} (ab : a ≠ b) (e : H D = some (.dK [(Sum.inl a, .str "leaf"), (Sum.inl b, .str (mkS k))])) : FallsP H D (fl a b k) := by
  refine ⟨_, e, fun y => ?_⟩
  unfold fl valV
  by_cases c : a = y
  · subst c
    simp [ab, mV, mkS]
  · by_cases c2 : b = y
    · subst c2
      simp [c, ab, mV]
    · simp [c, c2, mV, Ne.symm c, Ne.symm c2]
def kT : Nat → Mk
  | 0 => .late
  | _ => .mark
def kI : Mk → Nat
  | .late => 0
  | .mark => 1
  | .leaf => 2
def spLFirst : Sp := fun vs H Q _ => ∃ (p : Addr) (m : Nat) (xs : List V) (ds : List Deed), vs = [.ref p, .int (m : Int)] ∧ H p = some (.lst xs) ∧ DnAll H xs (ds.map deedD) ∧ okS m ds ∧ ds.length ≤ 24 ∧ m ≤ 24 ∧ ∀ H', Same H H' → Q (bV (wrongF (initL m) m ds)) H'
section
variable {P : Program} {w : World} {K : PySem.W.Frag} {mg : Str → Option Value} {base : Heap} {C_Evidence C_Good C_Bad C_RightRounds C_WrongRound C_BadScript D_FALL : Addr}
theorem cal__law_first_wrong (T : TX P K mg C_Evidence C_Good C_Bad C_RightRounds C_WrongRound C_BadScript D_FALL) : Cal P w K mg base 2 "_law_first_wrong" (spLFirst) [] := by
  obtain ⟨f0, fd, D, dn⟩ := T.d__law_first_wrong
  have G__law_reads := cal__law_reads (P := P) (w := w) (base := base) T
  refine cal0 D (D.fn.binds dn fun _ _ _ _ _ _ us hl => match us, hl with | [_, _], _ => rfl) .nil sc__law_first_wrong (by walk_at "len") (fun cdv A outer s H vs Q E hr h => ?_)
  obtain ⟨p, m, xs, ds, rfl, ep, da, os, ld, hm, k⟩ := h
  have lx := DeedsP.len da
  refine ⟨_, (pss_cons (ps_s 2 sc__law_first_wrong.nd (pe_op op_add (pv 1) (pe_callB cr_lenS (by rfl) T.b_len (by decide +kernel) (pa_cons (pe_lc (own := [("_law_deed", 3)]) (g := gName 3) (tt := _) rfl sc__law_first_wrong.nd (pi_list (pv 0)) (blkOk_by (own := [("_law_deed", 3)]) (N := N__law_first_wrong) (sc := fnScope s__law_first_wrong) (by decide +kernel)) (fun _ _ _ _ _ => (pg_n 3 sc__law_first_wrong.nd)) (fun _ _ _ _ _ => (pts_one (pt_cmpR (opK rEqD K (op_eqD hr.units)) (pv 3) (pe_tup (pa_cons pe_str pa_nil)) (nomark _)))) (fun _ _ _ _ _ => (pv 3))) pa_nil))))
      (pss_cons (ps_s 4 sc__law_first_wrong.nd pe_non)
      (pss_cons (ps_for PassesOwn.never rfl (pi_range2 rfl T.b_range (pa_cons pe_int (pa_cons (pe_op op_add (pv 2) pe_int) pa_nil))) (pg_n 5 sc__law_first_wrong.nd) (pss_one (ps_for PassesOwn.never rfl (pi_range2 rfl T.b_range (pa_cons (pv 5) (pa_cons (pe_op op_add (pv 2) pe_int) pa_nil))) (pg_n 6 sc__law_first_wrong.nd) (pss_one (ps_for PassesOwn.never rfl (pi_tup (pe_tup (pa_cons pe_str (pa_cons pe_str pa_nil)))) (pg_n 7 sc__law_first_wrong.nd) (pss_cut (ps_s 8 sc__law_first_wrong.nd (pe_ifExp (pt_cmpR op_eq (pv 6) (pv 5) (nomark _)) (pe_disp (pps_cons (pv 5) pe_str pps_nil) rfl rfl (by simp) (by decide)) (pe_disp (pps_cons (pv 5) pe_str (pps_cons (pv 6) (pv 7) pps_nil)) rfl rfl (by simp) (by decide))))
      (pss_cons (ps_s 9 sc__law_first_wrong.nd (pv 1))
      (pss_one (ps_for PassesOwn.never rfl (pi_enum (by rfl) T.b_enumerate (pa_cons (pe_c G__law_reads hr (by decide) rfl (pa_cons (pv 0) (pa_cons (pv 1) (pa_cons (pv 8) pa_nil)))) pa_nil)) (pg_tup rfl (pgs_cons (pg_n 10 sc__law_first_wrong.nd) (pgs_cons (pg_n 11 sc__law_first_wrong.nd) pgs_nil))) (pss_cut (ps_s 9 sc__law_first_wrong.nd (pe_op op_add (pv 9) (pe_ifExp (pt_cmpR (op_eqD hr.units) (pe_ix ix_list (pv 0) (pv 10) (fun _ _ => rfl)) (pe_tup (pa_cons pe_str pa_nil)) (nomark _)) pe_int pe_int)))
      (pss_cut (ps_s 12 sc__law_first_wrong.nd (pe_ifExp (pt_cmpR op_le (pv 6) (pv 9) (nomark _)) (pe_dget (hu_of hr) (pv 8) (pv 6) (fun _ _ => rfl)) (pe_ifExp (pt_cmpR op_le (pv 5) (pv 9) (nomark _)) pe_str pe_str)))
      (pss_one (ps_if (PW.pt (pw_and (pt_cmpR op_ne (pv 11) (pv 12) (nomark _)) (pw_and1 (PW.pt (pw_or (pt_cmpR op_isNn (pv 4) pe_non (nomark _)) (pw_or1 (pt_cmpR op_lt (pe_op op_add (pv 10) pe_int) (pv 4) (nomark _)))))))) (pss_one (ps_s 4 sc__law_first_wrong.nd (pe_op op_add (pv 10) pe_int))) pss_nil)))))))))))))
      (pss_one (ps_ret (pv 4)))))), ?_⟩
  walk_at "rd"
  refine rd_lsR (SqL.of ep) ?_
  refine lcR_lst (xs := xs) (fun W i H' => Same H H' ∧ ∃ ys, H' W = some (.lst ys) ∧ ys.length = fallsN (ds.take i)) (fun W i H' _ ⟨s, _⟩ => SqL.of (s _ _ ep)) (fun W H' _ s e _ => ⟨s, [], e, rfl⟩) ?_ ?_
  · rintro W i y H1 hW hy ⟨s1, ys, eW, ly⟩
    obtain ⟨x, hx, dx⟩ := deeds_get (da.mono s1) hy
    have en := fallsN_take hx 0
    have l1 := fallsN_le ds i
    have l2 := fallsN_len ds
    walk_at "rd"
    refine ⟨rfl, ?_⟩
    walk_at "rd"
    refine rd_newT (by simp) fun ft H4 _ s4 eft _ => ?_
    refine rd_eqD (dx.mono s4).dt (.tup eft (.cons (.str "fall") .nil)) (shaped_deed _) (by decide +kernel) ?_
    rw [show PyData.eqv (deedD x) (.tuple [.str "fall"]) = isFall x from eqv_deed x]
    refine ⟨_, rfl, ?_⟩
    unfold dayB at en
    cases hf : isFall x with
    | true =>
      rw [hf, if_pos rfl] at en
      refine rd_iteTT ?_
      walk_at "rd"
      refine rd_lcE (s4 _ _ eW) (by omega) fun H6 eH6 eW6 => ?_
      refine ⟨by rw [eH6]; exact Same.mut (s1.trans s4) hW, _, eW6, ?_⟩
      rw [List.length_append]
      show ys.length + 1 = _
      omega
    | false =>
      rw [hf, if_neg Bool.false_ne_true] at en
      refine rd_iteFF ⟨s1.trans s4, ys, s4 _ _ eW, ?_⟩
      omega
  rintro W H1 hW ⟨s1, ys, eW, ly⟩
  rw [show ds.take xs.length = ds by rw [lx, List.take_length]] at ly
  have l2 := fallsN_len ds
  walk_at "rd"
  refine rd_lenL eW ?_
  walk_at "rd"
  obtain ⟨a0, b0, k0, hWit⟩ : ∃ a0 b0 k0, ∀ w', wrongF (initL m) m ds = some w' → WitM m ds w' a0 b0 k0 := by
    cases hw : wrongF (initL m) m ds with
    | none => exact ⟨0, 0, .late, fun w' z => by cases z⟩
    | some w' =>
      obtain ⟨a, b, k, h⟩ := witM_ex os hw
      exact ⟨a, b, k, fun w2 z => by cases z; exact h⟩
  generalize hw : wrongF (initL m) m ds = w at *
  obtain ⟨n, hn⟩ : ∃ n, n = m + fallsN ds := ⟨_, rfl⟩
  rw [ly, show (m : Int) + (fallsN ds : Int) = (n : Int) by omega]
  refine rd_rgR2 (by omega) ?_
  refine forR_rng (fun i σ H' => ∃ (B : Option Nat) (v3 v5 v6 v7 v8 v9 v10 v11 v12 : Option V), Same H H' ∧ Inv w (a0 < 1 + (i : Int)) B ∧ σ = [some (.ref p), some (.int (m : Int)), some (.int (n : Int)), v3, some (bV B), v5, v6, v7, v8, v9, v10, v11, v12]) ?_ ?_ ?_
  · refine ⟨none, _, _, _, _, _, _, _, _, _, s1, (Inv.start w).le fun w' e d => ?_, rfl⟩
    have := (hWit w' e).a1
    omega
  · rintro i σ H2 hi ⟨B, v3, v5, v6, v7, v8, v9, v10, v11, v12, s2, iv, rfl⟩
    walk_at "rd"
    refine rd_rgR2 (by omega) ?_
    refine forR_rng (fun j σ H' => ∃ (B : Option Nat) (v6 v7 v8 v9 v10 v11 v12 : Option V), Same H H' ∧ Inv w (a0 < 1 + (i : Int) ∨ (a0 = 1 + (i : Int) ∧ b0 < 1 + (i : Int) + (j : Int))) B ∧ σ = [some (.ref p), some (.int (m : Int)), some (.int (n : Int)), v3, some (bV B), some (.int (1 + (i : Int))), v6, v7, v8, v9, v10, v11, v12]) ?_ ?_ ?_
    · refine ⟨B, _, _, _, _, _, _, _, s2, iv.le fun w' e d => ?_, rfl⟩
      have := (hWit w' e).ab
      omega
    · rintro j σ H3 hj ⟨B, v6, v7, v8, v9, v10, v11, v12, s3, iv, rfl⟩
      walk_at "rd"
      refine rd_newT (by simp) fun t H4 _ s4 et _ => ?_
      refine rd_tpR (SqT.of et) ?_
      refine forR_tup (fun q σ H' => ∃ (B : Option Nat) (v7 v8 v9 v10 v11 v12 : Option V), Same H4 H' ∧ Inv w ((a0 < 1 + (i : Int) ∨ (a0 = 1 + (i : Int) ∧ b0 < 1 + (i : Int) + (j : Int))) ∨ ((a0 = 1 + (i : Int) ∧ b0 = 1 + (i : Int) + (j : Int)) ∧ kI k0 < q)) B ∧ σ = [some (.ref p), some (.int (m : Int)), some (.int (n : Int)), v3, some (bV B), some (.int (1 + (i : Int))), some (.int (1 + (i : Int) + (j : Int))), v7, v8, v9, v10, v11, v12]) (fun q σ H' ⟨_, _, _, _, _, _, _, s, _⟩ => SqT.of (s _ _ et)) ?_ ?_ ?_
      · refine ⟨B, _, _, _, _, _, _, Same.refl H4, iv.le fun w' e d => ?_, rfl⟩
        rcases d with d | ⟨_, d⟩
        · exact d
        · omega
      · rintro q y σ H5 hq ⟨B, v7, v8, v9, v10, v11, v12, s5, iv, rfl⟩
        obtain ⟨q2, rfl⟩ : q < 2 ∧ y = .str (mkS (kT q)) := by
          rcases q with _ | _ | q
          · exact ⟨by omega, (Option.some.inj hq).symm⟩
          · exact ⟨by omega, (Option.some.inj hq).symm⟩
          · cases hq
        have sH5 := s3.trans (s4.trans s5)
        generalize hE : kT q = kind at *
        refine ⟨fun σ H' => ∃ (D : Addr), Same H5 H' ∧ FallsP H' D (fl (1 + (i : Int)) (1 + (i : Int) + (j : Int)) kind) ∧ σ = [some (.ref p), some (.int (m : Int)), some (.int (n : Int)), v3, some (bV B), some (.int (1 + (i : Int))), some (.int (1 + (i : Int) + (j : Int))), some (.str (mkS kind)), some (.ref D), v9, v10, v11, v12], ?_, ?_⟩
        · walk_at "rd"
          refine rd_ite (fun c => ?_) (fun c => ?_)
          · refine rd_disp1 fun D H6 hD s6 eD => ?_
            walk_at "rd"
            refine rd_d1 eD fun H7 eH7 eD7 => ?_
            walk_at "rd"
            refine ⟨D, ?_, ?_, rfl⟩
            · rw [eH7]
              exact Same.mut s6 hD
            · have := falls_one (k := kind) eD7
              rw [show (1 + (i : Int) + (j : Int)) = 1 + (i : Int) by omega]
              exact this
          · refine rd_disp2 fun D H6 hD s6 eD => ?_
            walk_at "rd"
            refine rd_d2 (by omega) eD fun H7 eH7 eD7 => ?_
            walk_at "rd"
            refine ⟨D, ?_, falls_twoD (by omega) eD7, rfl⟩
            rw [eH7]
            exact Same.mut s6 hD
        rintro σ H6 ⟨D, s6, fD, rfl⟩
        walk_at "rd"
        have sH6 := sH5.trans s6
        refine ⟨p, D, m, xs, ds, _, rfl, sH6 _ _ ep, da.mono sH6, os, ld, hm, fD, fun H7 F s7 hF eF => ?_⟩
        have eF : H7 F = some (.lst (strV ((valsF (fl (1 + (i : Int)) (1 + (i : Int) + (j : Int)) kind) (initV (fl (1 + (i : Int)) (1 + (i : Int) + (j : Int)) kind) m) m ds).map readV))) := eF
        walk_at "rd"
        refine rd_enR (SqL.of eF) ?_
        have lF : (strV ((valsF (fl (1 + (i : Int)) (1 + (i : Int) + (j : Int)) kind) (initV (fl (1 + (i : Int)) (1 + (i : Int) + (j : Int)) kind) m) m ds).map readV)).length = ds.length := by
          unfold strV
          rw [List.length_map, List.length_map, valsF_len]
        refine forR_enum (fun u σ H' => ∃ (B : Option Nat) (v10 v11 v12 : Option V), Same H7 H' ∧ Inv w (((a0 < 1 + (i : Int) ∨ (a0 = 1 + (i : Int) ∧ b0 < 1 + (i : Int) + (j : Int))) ∨ ((a0 = 1 + (i : Int) ∧ b0 = 1 + (i : Int) + (j : Int)) ∧ kI k0 < q)) ∨ ((a0 = 1 + (i : Int) ∧ b0 = 1 + (i : Int) + (j : Int) ∧ k0 = kind) ∧ ∃ w', w = some w' ∧ w' ≤ u)) B ∧ σ = [some (.ref p), some (.int (m : Int)), some (.int (n : Int)), v3, some (bV B), some (.int (1 + (i : Int))), some (.int (1 + (i : Int) + (j : Int))), some (.str (mkS kind)), some (.ref D), some (.int ((m : Int) + (fallsN (ds.take u) : Int))), v10, v11, v12]) (fun u σ H' ⟨_, _, _, _, s, _⟩ => SqL.of (s _ _ eF)) ?_ ?_ ?_
        · refine ⟨B, _, _, _, Same.refl H7, iv.le fun w' e d => ?_, rfl⟩
          rcases d with d | ⟨_, w2, e2, l⟩
          · exact d
          · have := wrongF_pos (hw.trans e2)
            omega
        · rintro u y σ H8 t8 H9 hy ⟨B, v10, v11, v12, s8, iv, rfl⟩ ht8 s9 et8 _
          have hu : u < ds.length := by
            have := (List.getElem?_eq_some_iff.mp hy).1
            rwa [lF] at this
          have hx : ds[u]? = some ds[u] := List.getElem?_eq_getElem hu
          have ey : y = .str (mkS (readV (stVF (fl (1 + (i : Int)) (1 + (i : Int) + (j : Int)) kind) (initV (fl (1 + (i : Int)) (1 + (i : Int) + (j : Int)) kind) m, (m : Int)) (ds.take (u + 1))).1)) := by
            unfold strV at hy
            rw [List.getElem?_map, List.getElem?_map, valsF_at (f := (fl (1 + (i : Int)) (1 + (i : Int) + (j : Int)) kind)) (s := (initV (fl (1 + (i : Int)) (1 + (i : Int) + (j : Int)) kind) m, (m : Int))) hx] at hy
            exact (Option.some.inj hy).symm
          subst ey
          have s89 := s8.trans s9
          have sH9 := sH6.trans (s7.trans s89)
          have en := fallsN_take hx (m : Int)
          have dx := da
          refine rd_gtup et8 rfl ?_
          walk_at "rd"
          refine ⟨fun σ H' => Same H9 H' ∧ σ = [some (.ref p), some (.int (m : Int)), some (.int (n : Int)), v3, some (bV B), some (.int (1 + (i : Int))), some (.int (1 + (i : Int) + (j : Int))), some (.str (mkS kind)), some (.ref D), some (.int ((m : Int) + (fallsN (ds.take (u + 1)) : Int))), some (.int (u : Int)), some (.str (mkS (readV (stVF (fl (1 + (i : Int)) (1 + (i : Int) + (j : Int)) kind) (initV (fl (1 + (i : Int)) (1 + (i : Int) + (j : Int)) kind) m, (m : Int)) (ds.take (u + 1))).1))), v12], ?_, ?_⟩
          · walk_at "rd"
            obtain ⟨y2, hy2, dy2⟩ := deeds_get2 (da.mono sH9) hx
            refine rd_ixL (sH9 _ _ ep) (atI_nat' hy2) ?_
            walk_at "rd"
            refine rd_newT (by simp) fun ft H10 _ s10 eft _ => ?_
            refine rd_eqD (dy2.mono s10).dt (.tup eft (.cons (.str "fall") .nil)) (shaped_deed _) (by decide +kernel) ?_
            rw [show PyData.eqv (deedD ds[u]) (.tuple [.str "fall"]) = isFall ds[u] from eqv_deed _]
            refine ⟨_, rfl, ?_⟩
            unfold dayB at en
            cases hf : isFall ds[u] with
            | true =>
              rw [hf, if_pos rfl] at en
              walk_at "rd"
              refine ⟨s10, ?_⟩
              rw [en]
              rfl
            | false =>
              rw [hf, if_neg Bool.false_ne_true] at en
              walk_at "rd"
              refine ⟨s10, ?_⟩
              rw [en]
              rfl
          rintro σ H10 ⟨s10, rfl⟩
          have ha : (1 : Int) ≤ 1 + (i : Int) := by omega
          have hab : 1 + (i : Int) ≤ 1 + (i : Int) + (j : Int) := by omega
          generalize hdue : due (1 + (i : Int)) (1 + (i : Int) + (j : Int)) kind ((m : Int) + (fallsN (ds.take (u + 1)) : Int)) = dv at *
          refine ⟨fun σ H' => Same H10 H' ∧ σ = [some (.ref p), some (.int (m : Int)), some (.int (n : Int)), v3, some (bV B), some (.int (1 + (i : Int))), some (.int (1 + (i : Int) + (j : Int))), some (.str (mkS kind)), some (.ref D), some (.int ((m : Int) + (fallsN (ds.take (u + 1)) : Int))), some (.int (u : Int)), some (.str (mkS (readV (stVF (fl (1 + (i : Int)) (1 + (i : Int) + (j : Int)) kind) (initV (fl (1 + (i : Int)) (1 + (i : Int) + (j : Int)) kind) m, (m : Int)) (ds.take (u + 1))).1))), some (.str (mkS dv))], ?_, ?_⟩
          · unfold due at hdue
            walk_at "rd"
            refine rd_ite (fun c => ?_) (fun c => ?_)
            · rw [if_pos c] at hdue
              walk_at "rd"
              refine rd_fallsIx (m := dv) (fD.mono (s7.trans (s89.trans s10))) (by unfold fl; rw [if_pos rfl, hdue]) ?_
              walk_at "rd"
              exact ⟨Same.refl H10, rfl⟩
            · rw [if_neg c] at hdue
              walk_at "rd"
              refine rd_ite (fun c => ?_) (fun c => ?_)
              · rw [if_pos c] at hdue
                subst hdue
                walk_at "rd"
                exact ⟨Same.refl H10, rfl⟩
              · rw [if_neg c] at hdue
                subst hdue
                walk_at "rd"
                exact ⟨Same.refl H10, rfl⟩
          rintro σ H11 ⟨s11, rfl⟩
          have h1 : readV (stVF (fl (1 + (i : Int)) (1 + (i : Int) + (j : Int)) kind) (initV (fl (1 + (i : Int)) (1 + (i : Int) + (j : Int)) kind) m, (m : Int)) (ds.take (u + 1))).1 ≠ dv → ∃ w', w = some w' ∧ w' ≤ u + 1 := fun z => Classical.byContradiction fun y => z (by
            rw [← hdue]
            refine reads_okM os hu (fun w' e => ?_) ha hab
            by_cases c : w' ≤ u + 1
            · exact absurd ⟨w', hw ▸ e, c⟩ y
            · omega)
          have h2 : (a0 = 1 + (i : Int) ∧ b0 = 1 + (i : Int) + (j : Int) ∧ k0 = kind) → w = some (u + 1) → readV (stVF (fl (1 + (i : Int)) (1 + (i : Int) + (j : Int)) kind) (initV (fl (1 + (i : Int)) (1 + (i : Int) + (j : Int)) kind) m, (m : Int)) (ds.take (u + 1))).1 ≠ dv := fun ⟨e1, e2, e3⟩ e => by
            have := witM_wrong (hWit _ e)
            rw [e1, e2, e3, hdue] at this
            exact this
          generalize readV (stVF (fl (1 + (i : Int)) (1 + (i : Int) + (j : Int)) kind) (initV (fl (1 + (i : Int)) (1 + (i : Int) + (j : Int)) kind) m, (m : Int)) (ds.take (u + 1))).1 = g at *
          have sL := s8.trans (s9.trans (s10.trans s11))
          walk_at "rd"
          refine rd_ne rfl ?_
          refine ⟨_, rfl, ?_⟩
          by_cases hr : g = dv
          · rw [decide_eq_true (congrArg (fun m => V.str (mkS m)) hr)]
            refine rd_iteFF ?_
            walk_at "rd"
            exact ⟨B, _, _, _, sL, (iv.step2 fun h3 h4 => absurd hr (h2 h3 h4)).next, rfl⟩
          · rw [decide_eq_false (fun z => hr (mkS_inj (V.str.inj z)))]
            refine rd_iteTT ?_
            cases B with
            | none =>
              walk_at "rd"
              refine rd_isN0 ?_
              refine ⟨_, rfl, ?_⟩
              rw [show decide (bV none = V.non) = true from rfl]
              refine rd_iteTT ?_
              refine rd_iteTT ?_
              walk_at "rd"
              exact ⟨some (u + 1), _, _, _, sL, (iv.step1 (h1 hr) fun x e => by cases e).next, rfl⟩
            | some x =>
              rw [show bV (some x) = V.int (x : Int) from rfl]
              walk_at "rd"
              refine rd_isN0 ?_
              refine ⟨_, rfl, ?_⟩
              rw [show decide (V.int (x : Int) = V.non) = false from rfl]
              refine rd_iteFF ?_
              walk_at "rd"
              refine rd_ite (fun c => ?_) (fun c => ?_)
              · walk_at "rd"
                exact ⟨some (u + 1), _, _, _, sL, (iv.step1 (h1 hr) fun x e => by cases e; omega).next, rfl⟩
              · walk_at "rd"
                exact ⟨some x, _, _, _, sL, (iv.step2 fun h3 h4 => ⟨x, rfl, by omega⟩).next, rfl⟩
        · rintro σ H8 ⟨B, v10, v11, v12, s8, iv, rfl⟩
          refine ⟨B, _, _, _, _, _, _, s5.trans (s6.trans (s7.trans s8)), iv.le fun w' e d => ?_, rfl⟩
          rcases d with d | ⟨d, d2⟩
          · exact .inl (.inl d)
          · by_cases c : kI k0 < q
            · exact .inl (.inr ⟨d, c⟩)
            · refine .inr ⟨⟨d.1, d.2, ?_⟩, w', e, by rw [lF]; exact wrongF_le (hw.trans e)⟩
              rw [← hE]
              have hnl := (hWit w' e).nl
              rcases q with _ | _ | q
              · cases k0 <;> first | rfl | exact absurd rfl hnl | (exfalso; exact absurd d2 (by decide))
              · cases k0 <;> first | rfl | exact absurd rfl hnl | (exfalso; exact absurd (by decide) c)
              · omega
      · rintro σ H5 ⟨B, v7, v8, v9, v10, v11, v12, s5, iv, rfl⟩
        refine ⟨B, _, _, _, _, _, _, _, s3.trans (s4.trans s5), iv.le fun w' e d => ?_, rfl⟩
        have h := hWit w' e
        have : kI k0 < 2 := by
          have := h.nl
          cases k0 <;> first | decide | exact absurd rfl this
        simp only [List.length_cons, List.length_nil]
        omega
    · rintro σ H3 ⟨B, v6, v7, v8, v9, v10, v11, v12, s3, iv, rfl⟩
      refine ⟨B, _, _, _, _, _, _, _, _, _, s3, iv.le fun w' e d => ?_, rfl⟩
      have h := hWit w' e
      have h1 := h.ab
      have h2 := h.bt
      have h3 := fallsN_le ds w'
      omega
  · rintro σ H2 ⟨B, v3, v5, v6, v7, v8, v9, v10, v11, v12, s2, iv, rfl⟩
    walk_at "rd"
    have e : B = w := iv.fin fun w' e => by
      have h := hWit w' e
      have h1 := h.ab
      have h2 := h.bt
      have h3 := fallsN_le ds w'
      omega
    rw [e]
    exact k _ s2
end
end Sl

set_option Elab.async false
set_option linter.all false
set_option maxRecDepth 100000
set_option maxHeartbeats 8000000
set_option exponentiation.threshold 9000
namespace Sl
open PySem L2 C8 StX Silt
local macro_rules | `(tactic| walk_at "side") => `(tactic| first
  | exact cdivw (by omega) (by omega)
  | exact cmulw (by omega) (by omega) (by omega) (by omega)
  | exact Or.inr ⟨by omega, by omega⟩
  | exact Or.inl ⟨by omega, by omega⟩
  | omega
  | exact ⟨by omega, by omega, by decide⟩
  | decide)
local macro_rules | `(tactic| walk_at "rd1") => `(tactic| first
  | with_reducible refine rd_seq ?_
  | with_reducible refine rd_asg ?_
  | with_reducible refine rd_drop ?_
  | with_reducible refine rd_ret ?_
  | with_reducible refine rd_retN ?_
  | with_reducible refine rd_ifS ?_
  | ((with_reducible refine rd_var0 ?_); refine ⟨_, rfl, ?_⟩)
  | with_reducible refine rd_c ?_
  | with_reducible refine rd_op ?_
  | with_reducible refine rd_un ?_
  | with_reducible refine rd_I0 ?_
  | with_reducible refine rd_U ?_
  | ((with_reducible refine rd_I ?c ?_); (case c => walk_at "side"))
  | with_reducible refine rd_ipI ?_
  | with_reducible refine rd_eqI ?_
  | with_reducible refine rd_neI ?_
  | with_reducible refine rd_test ?_
  | with_reducible refine rd_tB ?_
  | with_reducible refine rd_bl ?_
  | with_reducible refine rd_not ?_
  | with_reducible refine rd_and ?_
  | with_reducible refine rd_or ?_
  | with_reducible refine rd_andV ?_
  | with_reducible refine rd_orV ?_
  | with_reducible refine rd_notV ?_
  | with_reducible refine rd_ifE ?_
  | with_reducible refine rd_chain ?_
  | with_reducible refine rd_chain3 ?_
  | with_reducible refine rd_nil ?_
  | with_reducible refine rd_cons ?_
  | with_reducible refine rd_call ?_
  | with_reducible refine rd_CB ?_
  | with_reducible refine rd_par ?_
  | with_reducible refine rd_par2 ?_
  | with_reducible refine rd_par3 ?_
  | with_reducible refine rd_par4 ?_
  | ((with_reducible refine rd_aug0 ?_); refine ⟨_, rfl, ?_⟩)
  | with_reducible refine rd_gname ?_
  | with_reducible refine rd_gcons ?_
  | with_reducible refine rd_gnil ?_
  | with_reducible refine rd_max ?_
  | with_reducible refine rd_min ?_
  | with_reducible refine rd_int1 ?_
  | with_reducible refine rd_abs ?_
  | with_reducible refine rd_lst ?_
  | with_reducible refine rd_tup ?_
  | with_reducible refine rd_bm ?_
  | with_reducible refine rd_fld0 ?_
  | with_reducible refine rd_sl0 ?_
  | with_reducible refine rd_noP ?_
  | with_reducible refine rd_part ?_
  | with_reducible refine rd_part2 ?_
  | with_reducible refine rd_meth0 ?_
  | with_reducible refine rd_star ?_
  | with_reducible refine rd_for ?_
  | with_reducible refine rd_rng1 ?_
  | with_reducible refine rd_rng2 ?_
  | with_reducible refine rd_rng3 ?_
  | with_reducible refine rd_iList ?_
  | with_reducible refine rd_iTup ?_
  | with_reducible refine rd_iEnum ?_
  | with_reducible refine rd_lc ?_
  | with_reducible refine rd_yes ?_
  | with_reducible refine rd_augS ?_
  | with_reducible refine rd_drawNew ?_
  | with_reducible refine rd_make0 ?_
  | with_reducible refine rd_next ?_
  | with_reducible refine rd_break ?_
  | with_reducible refine rd_cont ?_
  | with_reducible refine rd_iteTT ?_
  | with_reducible refine rd_iteFF ?_
  | with_reducible refine rd_iteNTT ?_
  | with_reducible refine rd_iteNFF ?_
  | with_reducible refine rd_con0 ?_
  | with_reducible refine rd_truO0 ?_
  | with_reducible refine rd_gfld0 ?_
  | with_reducible refine rd_dc ?_
  | with_reducible refine rd_iKeys ?_
  | with_reducible refine rd_dget0 ?_
  | with_reducible refine rd_dput0 ?_
  | with_reducible refine rd_dnot0 ?_
  | with_reducible refine rd_iEnumT ?_
  | with_reducible refine rd_raP0 ?_
  | with_reducible refine rd_xf0 ?_
  | with_reducible refine rd_cKw ?_
  | with_reducible refine rd_iStr ?_
  | with_reducible refine rd_gSub ?_
  | with_reducible refine rd_asgG ?_)
local macro_rules | `(tactic| walk_at "rd") => `(tactic| repeat walk_at "rd1")
local macro_rules | `(tactic| walk_at "len") => `(tactic| first
  | (intro vs H Q E h; obtain ⟨h2, _⟩ := h; rw [h2]; rfl)
  | (intro vs H Q E h; obtain ⟨_, h2, _⟩ := h; rw [h2]; rfl)
  | (intro vs H Q E h; obtain ⟨_, _, h2, _⟩ := h; rw [h2]; rfl)
  | (intro vs H Q E h; obtain ⟨_, _, _, h2, _⟩ := h; rw [h2]; rfl)
  | (intro vs H Q E h; obtain ⟨_, _, _, _, h2, _⟩ := h; rw [h2]; rfl)
  | (intro vs H Q E h; obtain ⟨_, _, _, _, _, h2, _⟩ := h; rw [h2]; rfl)
  | (intro vs H Q E h; obtain ⟨_, _, _, _, _, _, h2, _⟩ := h; rw [h2]; rfl)
  | (intro vs H Q E h; obtain ⟨_, _, _, _, _, _, _, h2, _⟩ := h; rw [h2]; rfl)
  | (intro vs H Q E h; obtain ⟨_, _, _, _, _, _, _, _, h2, _⟩ := h; rw [h2]; rfl)
  | (intro vs H Q E h; obtain ⟨_, _, _, _, _, _, _, _, _, h2, _⟩ := h; rw [h2]; rfl)
  | (intro vs H Q E h; obtain ⟨_, _, _, _, _, _, _, _, _, _, h2, _⟩ := h; rw [h2]; rfl)
  | (intro vs H Q E h; obtain ⟨_, _, _, _, _, _, _, _, _, _, _, h2, _⟩ := h; rw [h2]; rfl)
  | (intro vs H Q E h; obtain ⟨_, _, _, _, _, _, _, _, _, _, _, _, h2, _⟩ := h; rw [h2]; rfl))
def spGain : Sp := fun vs H Q _ => ∃ (a : Addr) (xs : List V) (ds : List Deed), vs = [.ref a] ∧ H a = some (.lst xs) ∧ DnAll H xs (ds.map deedD) ∧ ds.length ≤ 24 ∧ ∀ H', Same H H' → Q (.int (gainS ds)) H'
section
variable {P : Program} {w : World} {K : PySem.W.Frag} {mg : Str → Option Value} {base : Heap} {C_Evidence C_Good C_Bad C_RightRounds C_WrongRound C_BadScript D_FALL : Addr}
theorem cal_gain_of (T : TX P K mg C_Evidence C_Good C_Bad C_RightRounds C_WrongRound C_BadScript D_FALL) : Cal P w K mg base 1 "gain_of" (spGain) [] := by
  obtain ⟨f0, fd, D, dn⟩ := T.d_gain_of
  refine cal0 D (D.fn.binds dn fun _ _ _ _ _ _ us hl => match us, hl with | [_], _ => rfl) .nil sc_gain_of (by walk_at "len") (fun cdv A outer s H vs Q E hr h => ?_)
  obtain ⟨a, xs, ds, rfl, ep, da, ld, k⟩ := h
  have lx := DeedsP.len da
  refine ⟨_, (pss_one (ps_ret (pe_callB (cr_sum rfl) (by rfl) T.b_sum (by decide +kernel) (pa_cons (pe_lc (own := [("deed", 1)]) (g := gName 1) (tt := tYes) rfl sc_gain_of.nd (pi_alt (pi_list (pv 0)) (pi_tup (pv 0))) (blkOk_by (own := [("deed", 1)]) (N := N_gain_of) (sc := fnScope s_gain_of) (by decide +kernel)) (fun _ _ _ _ _ => (pg_n 1 sc_gain_of.nd)) (fun _ _ _ _ _ => pts_nil) (fun _ _ _ _ _ => (pe_ifExp (pt_cmpR (opK rEqD K (op_eqD hr.units)) (pv 1) (pe_gc rfl T.gt_FALL) (nomark _)) pe_int (pe_op op_sub pe_int (pe_callB (callK rLenS K cr_lenS) (by rfl) T.b_len (by decide +kernel) (pa_cons (pe_ix (ixK rIxT K ix_tup) (pv 1) pe_int (fun _ _ => rfl)) pa_nil)))))) pa_nil)))), ?_⟩
  walk_at "rd"
  refine .inl ?_
  walk_at "rd"
  refine rd_lsR (SqL.of ep) ?_
  refine lcR_lst (xs := xs) (fun W i H' => Same H H' ∧ H' W = some (.lst (((ds.take i).map gainB).map V.int))) (fun W i H' _ ⟨s, _⟩ => SqL.of (s _ _ ep)) (fun W H' _ s e _ => ⟨s, e⟩) ?_ ?_
  · rintro W i y H1 hW hy ⟨s1, eW⟩
    obtain ⟨x, hx, dx⟩ := deeds_get (da.mono s1) hy
    have hi := (List.getElem?_eq_some_iff.mp hx).1
    walk_at "rd"
    refine ⟨rfl, ?_⟩
    walk_at "rd"
    refine rd_eqDp dx.dt (fall_dp T.e_FALL H1) (shaped_deed _) (by decide +kernel) ?_
    rw [eqv_deed]
    refine ⟨_, rfl, ?_⟩
    have fin : ∀ H2, Same H1 H2 → LcE W (fun H' => Same H H' ∧ H' W = some (.lst (((ds.take (i + 1)).map gainB).map V.int))) (.int (gainB x)) H2 := fun H2 s2 => by
      refine rd_lcE (s2 _ _ eW) (by rw [List.length_map, List.length_map, List.length_take]; omega) fun H3 eH3 eW3 => ?_
      refine ⟨by rw [eH3]; exact Same.mut (s1.trans s2) hW, ?_⟩
      rw [eW3, List.take_add_one, hx, List.map_append, List.map_append]
      rfl
    cases x with
    | fall =>
      rw [show isFall Deed.fall = true from rfl]
      walk_at "rd"
      exact fin H1 (Same.refl H1)
    | bake us p kp =>
      rw [show isFall (Deed.bake us p kp) = false from rfl]
      obtain ⟨t, u, rfl, et, eu⟩ := bake_inv dx.dt
      walk_at "rd"
      refine rd_ixT et rfl ?_
      walk_at "rd"
      refine rd_lenT eu ?_
      walk_at "rd"
      have := fin H1 (Same.refl H1)
      unfold gainB at this
      unfold natV
      rw [List.length_map]
      exact this
  rintro W H1 hW ⟨s1, eW⟩
  rw [show ds.take xs.length = ds by rw [lx, List.take_length]] at eW
  walk_at "rd"
  refine rd_sum (SqL.of eW) ?_
  walk_at "rd"
  exact k _ s1
end
end Sl

set_option Elab.async false
set_option linter.all false
set_option maxRecDepth 100000
set_option maxHeartbeats 8000000
set_option exponentiation.threshold 9000
namespace Sl
open PySem L2 C8 StX Silt
local macro_rules | `(tactic| walk_at "side") => `(tactic| first
  | exact cdivw (by omega) (by omega)
  | exact cmulw (by omega) (by omega) (by omega) (by omega)
  | exact Or.inr ⟨by omega, by omega⟩
  | exact Or.inl ⟨by omega, by omega⟩
  | omega
  | exact ⟨by omega, by omega, by decide⟩
  | decide)
local macro_rules | `(tactic| walk_at "rd1") => `(tactic| first
  | with_reducible refine rd_seq ?_
  | with_reducible refine rd_asg ?_
  | with_reducible refine rd_drop ?_
  | with_reducible refine rd_ret ?_
  | with_reducible refine rd_retN ?_
  | with_reducible refine rd_ifS ?_
  | ((with_reducible refine rd_var0 ?_); refine ⟨_, rfl, ?_⟩)
  | with_reducible refine rd_c ?_
  | with_reducible refine rd_op ?_
  | with_reducible refine rd_un ?_
  | with_reducible refine rd_I0 ?_
  | with_reducible refine rd_U ?_
  | ((with_reducible refine rd_I ?c ?_); (case c => walk_at "side"))
  | with_reducible refine rd_ipI ?_
  | with_reducible refine rd_eqI ?_
  | with_reducible refine rd_neI ?_
  | with_reducible refine rd_test ?_
  | with_reducible refine rd_tB ?_
  | with_reducible refine rd_bl ?_
  | with_reducible refine rd_not ?_
  | with_reducible refine rd_and ?_
  | with_reducible refine rd_or ?_
  | with_reducible refine rd_andV ?_
  | with_reducible refine rd_orV ?_
  | with_reducible refine rd_notV ?_
  | with_reducible refine rd_ifE ?_
  | with_reducible refine rd_chain ?_
  | with_reducible refine rd_chain3 ?_
  | with_reducible refine rd_nil ?_
  | with_reducible refine rd_cons ?_
  | with_reducible refine rd_call ?_
  | with_reducible refine rd_CB ?_
  | with_reducible refine rd_par ?_
  | with_reducible refine rd_par2 ?_
  | with_reducible refine rd_par3 ?_
  | with_reducible refine rd_par4 ?_
  | ((with_reducible refine rd_aug0 ?_); refine ⟨_, rfl, ?_⟩)
  | with_reducible refine rd_gname ?_
  | with_reducible refine rd_gcons ?_
  | with_reducible refine rd_gnil ?_
  | with_reducible refine rd_max ?_
  | with_reducible refine rd_min ?_
  | with_reducible refine rd_int1 ?_
  | with_reducible refine rd_abs ?_
  | with_reducible refine rd_lst ?_
  | with_reducible refine rd_tup ?_
  | with_reducible refine rd_bm ?_
  | with_reducible refine rd_fld0 ?_
  | with_reducible refine rd_sl0 ?_
  | with_reducible refine rd_noP ?_
  | with_reducible refine rd_part ?_
  | with_reducible refine rd_part2 ?_
  | with_reducible refine rd_meth0 ?_
  | with_reducible refine rd_star ?_
  | with_reducible refine rd_for ?_
  | with_reducible refine rd_rng1 ?_
  | with_reducible refine rd_rng2 ?_
  | with_reducible refine rd_rng3 ?_
  | with_reducible refine rd_iList ?_
  | with_reducible refine rd_iTup ?_
  | with_reducible refine rd_iEnum ?_
  | with_reducible refine rd_lc ?_
  | with_reducible refine rd_yes ?_
  | with_reducible refine rd_augS ?_
  | with_reducible refine rd_drawNew ?_
  | with_reducible refine rd_make0 ?_
  | with_reducible refine rd_next ?_
  | with_reducible refine rd_break ?_
  | with_reducible refine rd_cont ?_
  | with_reducible refine rd_iteTT ?_
  | with_reducible refine rd_iteFF ?_
  | with_reducible refine rd_iteNTT ?_
  | with_reducible refine rd_iteNFF ?_
  | with_reducible refine rd_con0 ?_
  | with_reducible refine rd_truO0 ?_
  | with_reducible refine rd_gfld0 ?_
  | with_reducible refine rd_dc ?_
  | with_reducible refine rd_iKeys ?_
  | with_reducible refine rd_dget0 ?_
  | with_reducible refine rd_dput0 ?_
  | with_reducible refine rd_dnot0 ?_
  | with_reducible refine rd_iEnumT ?_
  | with_reducible refine rd_raP0 ?_
  | with_reducible refine rd_xf0 ?_
  | with_reducible refine rd_cKw ?_
  | with_reducible refine rd_iStr ?_
  | with_reducible refine rd_gSub ?_
  | with_reducible refine rd_asgG ?_)
local macro_rules | `(tactic| walk_at "rd") => `(tactic| repeat walk_at "rd1")
local macro_rules | `(tactic| walk_at "len") => `(tactic| first
  | (intro vs H Q E h; obtain ⟨h2, _⟩ := h; rw [h2]; rfl)
  | (intro vs H Q E h; obtain ⟨_, h2, _⟩ := h; rw [h2]; rfl)
  | (intro vs H Q E h; obtain ⟨_, _, h2, _⟩ := h; rw [h2]; rfl)
  | (intro vs H Q E h; obtain ⟨_, _, _, h2, _⟩ := h; rw [h2]; rfl)
  | (intro vs H Q E h; obtain ⟨_, _, _, _, h2, _⟩ := h; rw [h2]; rfl)
  | (intro vs H Q E h; obtain ⟨_, _, _, _, _, h2, _⟩ := h; rw [h2]; rfl)
  | (intro vs H Q E h; obtain ⟨_, _, _, _, _, _, h2, _⟩ := h; rw [h2]; rfl)
  | (intro vs H Q E h; obtain ⟨_, _, _, _, _, _, _, h2, _⟩ := h; rw [h2]; rfl)
  | (intro vs H Q E h; obtain ⟨_, _, _, _, _, _, _, _, h2, _⟩ := h; rw [h2]; rfl)
  | (intro vs H Q E h; obtain ⟨_, _, _, _, _, _, _, _, _, h2, _⟩ := h; rw [h2]; rfl)
  | (intro vs H Q E h; obtain ⟨_, _, _, _, _, _, _, _, _, _, h2, _⟩ := h; rw [h2]; rfl)
  | (intro vs H Q E h; obtain ⟨_, _, _, _, _, _, _, _, _, _, _, h2, _⟩ := h; rw [h2]; rfl)
  | (intro vs H Q E h; obtain ⟨_, _, _, _, _, _, _, _, _, _, _, _, h2, _⟩ := h; rw [h2]; rfl))
def spDeep : Sp := fun vs H Q _ => ∃ (a : Addr) (xs : List V) (ds : List Deed), vs = [.ref a] ∧ H a = some (.lst xs) ∧ DnAll H xs (ds.map deedD) ∧ ds.length ≤ 24 ∧ (∀ x ∈ ds, okD x) ∧ ∀ H', Same H H' → Q (.int (deepF ds)) H'
section
variable {P : Program} {w : World} {K : PySem.W.Frag} {mg : Str → Option Value} {base : Heap} {C_Evidence C_Good C_Bad C_RightRounds C_WrongRound C_BadScript D_FALL : Addr}
theorem cal_deepest (T : TX P K mg C_Evidence C_Good C_Bad C_RightRounds C_WrongRound C_BadScript D_FALL) : Cal P w K mg base 1 "deepest" (spDeep) [] := by
  obtain ⟨f0, fd, D, dn⟩ := T.d_deepest
  refine cal0 D (D.fn.binds dn fun _ _ _ _ _ _ us hl => match us, hl with | [_], _ => rfl) .nil sc_deepest (by walk_at "len") (fun cdv A outer s H vs Q E hr h => ?_)
  obtain ⟨a, xs, ds, rfl, ep, da, ld, ok, k⟩ := h
  have lx := DeedsP.len da
  refine ⟨_, (pss_cons (ps_asg (pe_tup (pa_cons pe_int (pa_cons pe_int pa_nil))) (pg_tup rfl (pgs_cons (pg_n 1 sc_deepest.nd) (pgs_cons (pg_n 2 sc_deepest.nd) pgs_nil))))
      (pss_cons (ps_for PassesOwn.never rfl (pi_alt (pi_list (pv 0)) (pi_tup (pv 0))) (pg_n 3 sc_deepest.nd) (pss_cut (ps_if (pt_cmpR (op_neD hr.units) (pv 3) (pe_gc rfl T.gt_FALL) (nomark _)) (pss_one (ps_s 1 sc_deepest.nd (pe_callB (cr_max2 rfl) (by rfl) T.b_max (by decide +kernel) (pa_cons (pv 1) (pa_cons (pe_op op_sub (pe_op op_add (pe_callB (cr_max rfl) (by rfl) T.b_max (by decide +kernel) (pa_cons (pe_lst (pa_star (pe_ix ix_tup (pv 3) pe_int (fun _ _ => rfl)) (pa_cons (pe_op op_add (pe_ix ix_tup (pv 3) pe_int (fun _ _ => rfl)) (pe_callB cr_lenS (by rfl) T.b_len (by decide +kernel) (pa_cons (pe_ix ix_tup (pv 3) pe_int (fun _ _ => rfl)) pa_nil))) pa_nil))) pa_nil)) pe_int) (pv 2)) pa_nil))))) pss_nil)
      (pss_one (ps_s 2 sc_deepest.nd (pe_op op_add (pv 2) (pe_ifExp (pt_cmpR (op_eqD hr.units) (pv 3) (pe_gc rfl T.gt_FALL) (nomark _)) pe_int (pe_op op_sub pe_int (pe_callB cr_lenS (by rfl) T.b_len (by decide +kernel) (pa_cons (pe_ix ix_tup (pv 3) pe_int (fun _ _ => rfl)) pa_nil)))))))))
      (pss_one (ps_ret (pe_op op_add (pv 1) pe_int))))), ?_⟩
  walk_at "rd"
  refine rd_newT (by simp) fun t0 H1 _ s1 et0 _ => ?_
  refine rd_gtup et0 rfl ?_
  walk_at "rd"
  refine .inl ?_
  walk_at "rd"
  refine rd_lsR (SqL.of (s1 _ _ ep)) ?_
  refine forR_lst (xs := xs) (fun j σ H' => ∃ (v3 : Option V), Same H H' ∧ σ = [some (.ref a), some (.int (deepS (0, 0) (ds.take j)).1), some (.int (deepS (0, 0) (ds.take j)).2), v3]) (fun j σ H' ⟨_, s, _⟩ => SqL.of (s _ _ ep)) ⟨_, s1, rfl⟩ ?_ ?_
  · rintro j y σ H2 hy ⟨v3, s2, rfl⟩
    obtain ⟨x, hx, dx⟩ := deeds_get (da.mono s2) hy
    have etk : ds.take (j + 1) = ds.take j ++ [x] := by rw [List.take_add_one, hx]; rfl
    have es : deepS (0, 0) (ds.take (j + 1)) = stepDp (deepS (0, 0) (ds.take j)) x := by rw [etk, deepS_snoc]
    generalize hst : deepS (0, 0) (ds.take j) = st at *
    walk_at "rd"
    refine ⟨fun σ H' => Same H2 H' ∧ σ = [some (.ref a), some (.int (stepDp st x).1), some (.int st.2), some y], ?_, ?_⟩
    · walk_at "rd"
      refine rd_neDp dx.dt (fall_dp T.e_FALL H2) (shaped_deed _) (by decide +kernel) ?_
      rw [eqv_deed]
      refine ⟨_, rfl, ?_⟩
      cases x with
      | fall =>
        rw [show isFall Deed.fall = true from rfl]
        refine rd_iteFF ?_
        walk_at "rd"
        exact ⟨Same.refl H2, rfl⟩
      | bake us p kp =>
        rw [show isFall (Deed.bake us p kp) = false from rfl]
        obtain ⟨t, u, rfl, et, eu⟩ := bake_inv dx.dt
        refine rd_iteTT ?_
        walk_at "rd"
        refine rd_ixT et rfl ?_
        refine ⟨u, natV us, rfl, .inl (SqT.of eu), ?_⟩
        walk_at "rd"
        refine rd_ixT et rfl ?_
        walk_at "rd"
        refine rd_ixT et rfl ?_
        walk_at "rd"
        refine rd_lenT eu ?_
        walk_at "rd"
        have hus := okD_len (ok _ (List.mem_of_getElem? hx))
        refine rd_newL (by unfold natV; simp; omega) fun l H3 _ s3 el _ => ?_
        have el2 : H3 l = some (.lst ((us.map (fun (n : Nat) => (n : Int)) ++ [(p : Int) + (us.length : Int)]).map V.int)) := by
          rw [el]
          unfold natV
          simp
        walk_at "rd"
        refine rd_maxL (m := 0) (SqL.of el2) (by simp) fun mx h1 h2 => ?_
        rw [mxL_uniq h1 h2]
        walk_at "rd"
        exact ⟨s3, rfl⟩
    rintro σ H3 ⟨s3, rfl⟩
    have s23 := s2.trans s3
    have dx3 := dx.mono s3
    have fin : stepDp st x = ((stepDp st x).1, st.2 + gainB x) := rfl
    walk_at "rd"
    refine rd_eqDp dx3.dt (fall_dp T.e_FALL H3) (shaped_deed _) (by decide +kernel) ?_
    rw [eqv_deed]
    refine ⟨_, rfl, ?_⟩
    cases x with
    | fall =>
      rw [show isFall Deed.fall = true from rfl]
      walk_at "rd"
      exact ⟨_, s23, by rw [es]; rfl⟩
    | bake us p kp =>
      rw [show isFall (Deed.bake us p kp) = false from rfl]
      obtain ⟨t, u, rfl, et, eu⟩ := bake_inv dx3.dt
      walk_at "rd"
      refine rd_ixT et rfl ?_
      walk_at "rd"
      refine rd_lenT eu ?_
      walk_at "rd"
      refine ⟨some (.ref t), s23, ?_⟩
      rw [es, show (natV us).length = us.length by unfold natV; rw [List.length_map]]
      rfl
  · rintro σ H2 ⟨v3, s2, rfl⟩
    rw [show ds.take xs.length = ds by rw [lx, List.take_length]]
    walk_at "rd"
    exact k _ s2
end
end Sl

set_option Elab.async false
set_option linter.all false
set_option maxRecDepth 100000
set_option maxHeartbeats 8000000
set_option exponentiation.threshold 9000
namespace Sl
open PySem L2 C8 StX Silt
local macro_rules | `(tactic| walk_at "side") => `(tactic| first
  | exact cdivw (by omega) (by omega)
  | exact cmulw (by omega) (by omega) (by omega) (by omega)
  | exact Or.inr ⟨by omega, by omega⟩
  | exact Or.inl ⟨by omega, by omega⟩
  | omega
  | exact ⟨by omega, by omega, by decide⟩
  | decide)
local macro_rules | `(tactic| walk_at "rd1") => `(tactic| first
  | with_reducible refine rd_seq ?_
  | with_reducible refine rd_asg ?_
  | with_reducible refine rd_drop ?_
  | with_reducible refine rd_ret ?_
  | with_reducible refine rd_retN ?_
  | with_reducible refine rd_ifS ?_
  | ((with_reducible refine rd_var0 ?_); refine ⟨_, rfl, ?_⟩)
  | with_reducible refine rd_c ?_
  | with_reducible refine rd_op ?_
  | with_reducible refine rd_un ?_
  | with_reducible refine rd_I0 ?_
  | with_reducible refine rd_U ?_
  | ((with_reducible refine rd_I ?c ?_); (case c => walk_at "side"))
  | with_reducible refine rd_ipI ?_
  | with_reducible refine rd_eqI ?_
  | with_reducible refine rd_neI ?_
  | with_reducible refine rd_test ?_
  | with_reducible refine rd_tB ?_
  | with_reducible refine rd_bl ?_
  | with_reducible refine rd_not ?_
  | with_reducible refine rd_and ?_
  | with_reducible refine rd_or ?_
  | with_reducible refine rd_andV ?_
  | with_reducible refine rd_orV ?_
  | with_reducible refine rd_notV ?_
  | with_reducible refine rd_ifE ?_
  | with_reducible refine rd_chain ?_
  | with_reducible refine rd_chain3 ?_
  | with_reducible refine rd_nil ?_
  | with_reducible refine rd_cons ?_
  | with_reducible refine rd_call ?_
  | with_reducible refine rd_CB ?_
  | with_reducible refine rd_par ?_
  | with_reducible refine rd_par2 ?_
  | with_reducible refine rd_par3 ?_
  | with_reducible refine rd_par4 ?_
  | ((with_reducible refine rd_aug0 ?_); refine ⟨_, rfl, ?_⟩)
  | with_reducible refine rd_gname ?_
  | with_reducible refine rd_gcons ?_
  | with_reducible refine rd_gnil ?_
  | with_reducible refine rd_max ?_
  | with_reducible refine rd_min ?_
  | with_reducible refine rd_int1 ?_
  | with_reducible refine rd_abs ?_
  | with_reducible refine rd_lst ?_
  | with_reducible refine rd_tup ?_
  | with_reducible refine rd_bm ?_
  | with_reducible refine rd_fld0 ?_
  | with_reducible refine rd_sl0 ?_
  | with_reducible refine rd_noP ?_
  | with_reducible refine rd_part ?_
  | with_reducible refine rd_part2 ?_
  | with_reducible refine rd_meth0 ?_
  | with_reducible refine rd_star ?_
  | with_reducible refine rd_for ?_
  | with_reducible refine rd_rng1 ?_
  | with_reducible refine rd_rng2 ?_
  | with_reducible refine rd_rng3 ?_
  | with_reducible refine rd_iList ?_
  | with_reducible refine rd_iTup ?_
  | with_reducible refine rd_iEnum ?_
  | with_reducible refine rd_lc ?_
  | with_reducible refine rd_yes ?_
  | with_reducible refine rd_augS ?_
  | with_reducible refine rd_drawNew ?_
  | with_reducible refine rd_make0 ?_
  | with_reducible refine rd_next ?_
  | with_reducible refine rd_break ?_
  | with_reducible refine rd_cont ?_
  | with_reducible refine rd_iteTT ?_
  | with_reducible refine rd_iteFF ?_
  | with_reducible refine rd_iteNTT ?_
  | with_reducible refine rd_iteNFF ?_
  | with_reducible refine rd_con0 ?_
  | with_reducible refine rd_truO0 ?_
  | with_reducible refine rd_gfld0 ?_
  | with_reducible refine rd_dc ?_
  | with_reducible refine rd_iKeys ?_
  | with_reducible refine rd_dget0 ?_
  | with_reducible refine rd_dput0 ?_
  | with_reducible refine rd_dnot0 ?_
  | with_reducible refine rd_iEnumT ?_
  | with_reducible refine rd_raP0 ?_
  | with_reducible refine rd_xf0 ?_
  | with_reducible refine rd_cKw ?_
  | with_reducible refine rd_iStr ?_
  | with_reducible refine rd_gSub ?_
  | with_reducible refine rd_asgG ?_)
local macro_rules | `(tactic| walk_at "rd") => `(tactic| repeat walk_at "rd1")
local macro_rules | `(tactic| walk_at "len") => `(tactic| first
  | (intro vs H Q E h; obtain ⟨h2, _⟩ := h; rw [h2]; rfl)
  | (intro vs H Q E h; obtain ⟨_, h2, _⟩ := h; rw [h2]; rfl)
  | (intro vs H Q E h; obtain ⟨_, _, h2, _⟩ := h; rw [h2]; rfl)
  | (intro vs H Q E h; obtain ⟨_, _, _, h2, _⟩ := h; rw [h2]; rfl)
  | (intro vs H Q E h; obtain ⟨_, _, _, _, h2, _⟩ := h; rw [h2]; rfl)
  | (intro vs H Q E h; obtain ⟨_, _, _, _, _, h2, _⟩ := h; rw [h2]; rfl)
  | (intro vs H Q E h; obtain ⟨_, _, _, _, _, _, h2, _⟩ := h; rw [h2]; rfl)
  | (intro vs H Q E h; obtain ⟨_, _, _, _, _, _, _, h2, _⟩ := h; rw [h2]; rfl)
  | (intro vs H Q E h; obtain ⟨_, _, _, _, _, _, _, _, h2, _⟩ := h; rw [h2]; rfl)
  | (intro vs H Q E h; obtain ⟨_, _, _, _, _, _, _, _, _, h2, _⟩ := h; rw [h2]; rfl)
  | (intro vs H Q E h; obtain ⟨_, _, _, _, _, _, _, _, _, _, h2, _⟩ := h; rw [h2]; rfl)
  | (intro vs H Q E h; obtain ⟨_, _, _, _, _, _, _, _, _, _, _, h2, _⟩ := h; rw [h2]; rfl)
  | (intro vs H Q E h; obtain ⟨_, _, _, _, _, _, _, _, _, _, _, _, h2, _⟩ := h; rw [h2]; rfl))
theorem okS_all : ∀ {ds : List Deed} {m : Nat}, okS m ds → ∀ x ∈ ds, okD x
  | [], _, _, x, h => by cases h
  | y :: r, m, ⟨ok, m', hm, os⟩, x, h => by
    rcases List.mem_cons.mp h with rfl | h
    · exact ok
    · exact okS_all os x h
theorem endK_le : ∀ {ds : List Deed} {m : Nat}, okS m ds → endK m ds ≤ m + ds.length
  | [], m, _ => Nat.le_refl _
  | x :: r, m, ⟨ok, m', hm, os⟩ => by
    have ih := endK_le os
    have h := manyB_le ok hm
    show endK ((manyB m x).getD 0) r ≤ _
    rw [hm, List.length_cons]
    show endK m' r ≤ _
    omega
def roundsF (m : Nat) (ds : List Deed) : Int := if gainS ds = 0 then 2 else max 0 (deepF ds - (m : Int)) / gainS ds + 2
def spNeeded : Sp := fun vs H Q _ => ∃ (a : Addr) (m : Nat) (xs : List V) (ds : List Deed), vs = [.ref a, .int (m : Int)] ∧ H a = some (.lst xs) ∧ DnAll H xs (ds.map deedD) ∧ ds.length ≤ 24 ∧ m ≤ 24 ∧ okS m ds ∧ 0 ≤ gainS ds ∧ ∀ H', Same H H' → Q (.int (roundsF m ds)) H'
section
variable {P : Program} {w : World} {K : PySem.W.Frag} {mg : Str → Option Value} {base : Heap} {C_Evidence C_Good C_Bad C_RightRounds C_WrongRound C_BadScript D_FALL : Addr}
theorem cal_rounds_needed (T : TX P K mg C_Evidence C_Good C_Bad C_RightRounds C_WrongRound C_BadScript D_FALL) : Cal P w K mg base 2 "rounds_needed" (spNeeded) [] := by
  obtain ⟨f0, fd, D, dn⟩ := T.d_rounds_needed
  have G_gain_of := cal_gain_of (P := P) (w := w) (base := base) T
  have G_deepest := cal_deepest (P := P) (w := w) (base := base) T
  refine cal0 D (D.fn.binds dn fun _ _ _ _ _ _ us hl => match us, hl with | [_, _], _ => rfl) .nil sc_rounds_needed (by walk_at "len") (fun cdv A outer s H vs Q E hr h => ?_)
  obtain ⟨a, m, xs, ds, rfl, ep, da, ld, hm, os, hg, k⟩ := h
  refine ⟨_, (pss_cons (ps_s 2 sc_rounds_needed.nd (pe_c G_gain_of hr (by decide) rfl (pa_cons (pv 0) pa_nil)))
      (pss_one (ps_ret (pe_ifExp (pt_cmpR op_eq (pv 2) pe_int (nomark _)) pe_int (pe_op op_add (pe_op op_fdivW (pe_callB (cr_max2 rfl) (by rfl) T.b_max (by decide +kernel) (pa_cons pe_int (pa_cons (pe_op op_sub (pe_c G_deepest hr (by decide) rfl (pa_cons (pv 0) pa_nil)) (pv 1)) pa_nil))) (pv 2)) pe_int))))), ?_⟩
  walk_at "rd"
  refine ⟨a, xs, ds, rfl, ep, da, ld, fun H1 s1 => ?_⟩
  walk_at "rd"
  obtain ⟨G, eG, eK⟩ := gain_nat os hg
  have hgl := endK_le os
  refine rd_ite (fun c => ?_) (fun c => ?_)
  · walk_at "rd"
    have := k H1 s1
    unfold roundsF at this
    rw [if_pos c] at this
    exact this
  · walk_at "rd"
    refine ⟨a, xs, ds, rfl, s1 _ _ ep, da.mono s1, ld, okS_all os, fun H2 s2 => ?_⟩
    have hd := deepF_le os
    walk_at "rd"
    refine rd_I (cdivw (by omega) (Int.le_trans (show gainS ds ≤ 1000 by omega) (by decide +kernel))) ?_
    walk_at "rd"
    have := k H2 (s1.trans s2)
    unfold roundsF at this
    rw [if_neg c] at this
    exact this
end
end Sl

set_option Elab.async false
set_option linter.all false
set_option maxRecDepth 100000
set_option maxHeartbeats 8000000
set_option exponentiation.threshold 9000
namespace Sl
open PySem L2 C8 StX Silt
local macro_rules | `(tactic| walk_at "side") => `(tactic| first
  | exact cdivw (by omega) (by omega)
  | exact cmulw (by omega) (by omega) (by omega) (by omega)
  | exact Or.inr ⟨by omega, by omega⟩
  | exact Or.inl ⟨by omega, by omega⟩
  | omega
  | exact ⟨by omega, by omega, by decide⟩
  | decide)
local macro_rules | `(tactic| walk_at "rd1") => `(tactic| first
  | with_reducible refine rd_seq ?_
  | with_reducible refine rd_asg ?_
  | with_reducible refine rd_drop ?_
  | with_reducible refine rd_ret ?_
  | with_reducible refine rd_retN ?_
  | with_reducible refine rd_ifS ?_
  | ((with_reducible refine rd_var0 ?_); refine ⟨_, rfl, ?_⟩)
  | with_reducible refine rd_c ?_
  | with_reducible refine rd_op ?_
  | with_reducible refine rd_un ?_
  | with_reducible refine rd_I0 ?_
  | with_reducible refine rd_U ?_
  | ((with_reducible refine rd_I ?c ?_); (case c => walk_at "side"))
  | with_reducible refine rd_ipI ?_
  | with_reducible refine rd_eqI ?_
  | with_reducible refine rd_neI ?_
  | with_reducible refine rd_test ?_
  | with_reducible refine rd_tB ?_
  | with_reducible refine rd_bl ?_
  | with_reducible refine rd_not ?_
  | with_reducible refine rd_and ?_
  | with_reducible refine rd_or ?_
  | with_reducible refine rd_andV ?_
  | with_reducible refine rd_orV ?_
  | with_reducible refine rd_notV ?_
  | with_reducible refine rd_ifE ?_
  | with_reducible refine rd_chain ?_
  | with_reducible refine rd_chain3 ?_
  | with_reducible refine rd_nil ?_
  | with_reducible refine rd_cons ?_
  | with_reducible refine rd_call ?_
  | with_reducible refine rd_CB ?_
  | with_reducible refine rd_par ?_
  | with_reducible refine rd_par2 ?_
  | with_reducible refine rd_par3 ?_
  | with_reducible refine rd_par4 ?_
  | ((with_reducible refine rd_aug0 ?_); refine ⟨_, rfl, ?_⟩)
  | with_reducible refine rd_gname ?_
  | with_reducible refine rd_gcons ?_
  | with_reducible refine rd_gnil ?_
  | with_reducible refine rd_max ?_
  | with_reducible refine rd_min ?_
  | with_reducible refine rd_int1 ?_
  | with_reducible refine rd_abs ?_
  | with_reducible refine rd_lst ?_
  | with_reducible refine rd_tup ?_
  | with_reducible refine rd_bm ?_
  | with_reducible refine rd_fld0 ?_
  | with_reducible refine rd_sl0 ?_
  | with_reducible refine rd_noP ?_
  | with_reducible refine rd_part ?_
  | with_reducible refine rd_part2 ?_
  | with_reducible refine rd_meth0 ?_
  | with_reducible refine rd_star ?_
  | with_reducible refine rd_for ?_
  | with_reducible refine rd_rng1 ?_
  | with_reducible refine rd_rng2 ?_
  | with_reducible refine rd_rng3 ?_
  | with_reducible refine rd_iList ?_
  | with_reducible refine rd_iTup ?_
  | with_reducible refine rd_iEnum ?_
  | with_reducible refine rd_lc ?_
  | with_reducible refine rd_yes ?_
  | with_reducible refine rd_augS ?_
  | with_reducible refine rd_drawNew ?_
  | with_reducible refine rd_make0 ?_
  | with_reducible refine rd_next ?_
  | with_reducible refine rd_break ?_
  | with_reducible refine rd_cont ?_
  | with_reducible refine rd_iteTT ?_
  | with_reducible refine rd_iteFF ?_
  | with_reducible refine rd_iteNTT ?_
  | with_reducible refine rd_iteNFF ?_
  | with_reducible refine rd_con0 ?_
  | with_reducible refine rd_truO0 ?_
  | with_reducible refine rd_gfld0 ?_
  | with_reducible refine rd_dc ?_
  | with_reducible refine rd_iKeys ?_
  | with_reducible refine rd_dget0 ?_
  | with_reducible refine rd_dput0 ?_
  | with_reducible refine rd_dnot0 ?_
  | with_reducible refine rd_iEnumT ?_
  | with_reducible refine rd_raP0 ?_
  | with_reducible refine rd_xf0 ?_
  | with_reducible refine rd_cKw ?_
  | with_reducible refine rd_iStr ?_
  | with_reducible refine rd_gSub ?_
  | with_reducible refine rd_asgG ?_)
local macro_rules | `(tactic| walk_at "rd") => `(tactic| repeat walk_at "rd1")
local macro_rules | `(tactic| walk_at "len") => `(tactic| first
  | (intro vs H Q E h; obtain ⟨h2, _⟩ := h; rw [h2]; rfl)
  | (intro vs H Q E h; obtain ⟨_, h2, _⟩ := h; rw [h2]; rfl)
  | (intro vs H Q E h; obtain ⟨_, _, h2, _⟩ := h; rw [h2]; rfl)
  | (intro vs H Q E h; obtain ⟨_, _, _, h2, _⟩ := h; rw [h2]; rfl)
  | (intro vs H Q E h; obtain ⟨_, _, _, _, h2, _⟩ := h; rw [h2]; rfl)
  | (intro vs H Q E h; obtain ⟨_, _, _, _, _, h2, _⟩ := h; rw [h2]; rfl)
  | (intro vs H Q E h; obtain ⟨_, _, _, _, _, _, h2, _⟩ := h; rw [h2]; rfl)
  | (intro vs H Q E h; obtain ⟨_, _, _, _, _, _, _, h2, _⟩ := h; rw [h2]; rfl)
  | (intro vs H Q E h; obtain ⟨_, _, _, _, _, _, _, _, h2, _⟩ := h; rw [h2]; rfl)
  | (intro vs H Q E h; obtain ⟨_, _, _, _, _, _, _, _, _, h2, _⟩ := h; rw [h2]; rfl)
  | (intro vs H Q E h; obtain ⟨_, _, _, _, _, _, _, _, _, _, h2, _⟩ := h; rw [h2]; rfl)
  | (intro vs H Q E h; obtain ⟨_, _, _, _, _, _, _, _, _, _, _, h2, _⟩ := h; rw [h2]; rfl)
  | (intro vs H Q E h; obtain ⟨_, _, _, _, _, _, _, _, _, _, _, _, h2, _⟩ := h; rw [h2]; rfl))
def spCheckR : Sp := fun vs H Q _ => ∃ (a : Addr) (m : Nat) (xs : List V) (ds : List Deed), vs = [.ref a, .int (m : Int)] ∧ H a = some (.lst xs) ∧ DnAll H xs (ds.map deedD) ∧ ds.length ≤ 24 ∧ m ≤ 20 ∧ okS m ds ∧ 0 ≤ gainS ds ∧ ∀ H', Same H H' → Q .non H'
/-- no number of layers -/
def BadM (v : V) : Prop := v = .non ∨ (∃ b, v = .bl b) ∨ ∃ i : Int, v = .int i ∧ (i < 0 ∨ 20 < i)
def spCheckRX (C : Addr) : Sp := fun vs H Q E => ∃ (a : Addr) (v : V) (xs : List V) (ds : List Deed), vs = [.ref a, v] ∧ H a = some (.lst xs) ∧ DnAll H xs (ds.map deedD) ∧ ds.length ≤ 24 ∧ (BadM v ∨ ∃ m : Nat, v = .int (m : Int) ∧ m ≤ 20 ∧ okS m ds ∧ gainS ds < 0) ∧ ∀ d H', Same H H' → H' d = some (.xd [("place", .non)]) → E (.ref C) (some d) H'
section
variable {P : Program} {w : World} {K : PySem.W.Frag} {mg : Str → Option Value} {base : Heap} {C_Evidence C_Good C_Bad C_RightRounds C_WrongRound C_BadScript D_FALL : Addr}
theorem cal_check_round (T : TX P K mg C_Evidence C_Good C_Bad C_RightRounds C_WrongRound C_BadScript D_FALL) : Cal P w K mg base 5 "check_round" (spCheckR) [] := by
  obtain ⟨f0, fd, D, dn⟩ := T.d_check_round
  have G_is_whole := cal_is_whole (P := P) (w := w) (base := base) T
  have G_check_script_2 := cal_check_script_2 (P := P) (w := w) (base := base) T
  have G_gain_of := cal_gain_of (P := P) (w := w) (base := base) T
  refine cal0 D (D.fn.binds dn fun _ _ _ _ _ _ us hl => match us, hl with | [_, _], _ => rfl) .nil sc_check_round (by walk_at "len") (fun cdv A outer s H vs Q E hr h => ?_)
  obtain ⟨a, m, xs, ds, rfl, ep, da, ld, hm, os, hg, k⟩ := h
  refine ⟨_, (pss_cons (ps_if (PW.pt (pw_or (pt_not (pt_val (pe_c G_is_whole hr (by decide) rfl (pa_cons (pv 1) pa_nil)))) (pw_or1 (pt_not (pt_chain op_le op_le pe_int (pv 1) (pe_gc rfl T.g_MOST_LAYERS)))))) (pss_one ps_never) pss_nil)
      (pss_cons (ps_expr (pe_c G_check_script_2 hr (by decide) rfl (pa_cons (pv 0) (pa_cons (pv 1) pa_nil))))
      (pss_one (ps_if (pt_cmpR op_lt (pe_c G_gain_of hr (by decide) rfl (pa_cons (pv 0) pa_nil)) pe_int (nomark _)) (pss_one ps_never) pss_nil)))), ?_⟩
  walk_at "rd"
  refine ⟨_, _, rfl, .int (m : Int), ?_⟩
  refine ⟨true, rfl, rd_iteNTT ?_⟩
  walk_at "rd"
  refine rd_iteT (by omega) ?_
  walk_at "rd"
  refine rd_iteNF (by omega) ?_
  walk_at "rd"
  refine ⟨a, m, ds, rfl, ⟨xs, .inl ep, da⟩, os, ld, fun H1 s1 => ?_⟩
  walk_at "rd"
  refine ⟨a, xs, ds, rfl, s1 _ _ ep, da.mono s1, ld, fun H2 s2 => ?_⟩
  walk_at "rd"
  refine rd_iteF (by omega) ?_
  walk_at "rd"
  exact k _ (s1.trans s2)
theorem xal_check_round (T : TX P K mg C_Evidence C_Good C_Bad C_RightRounds C_WrongRound C_BadScript D_FALL) : CalX P w K mg base 5 "check_round" (spCheckRX C_BadScript) [] := by
  obtain ⟨f0, fd, D, dn⟩ := T.d_check_round
  have G_is_whole := cal_is_whole (P := P) (w := w) (base := base) T
  have G_check_script_2 := cal_check_script_2 (P := P) (w := w) (base := base) T
  have G_gain_of := cal_gain_of (P := P) (w := w) (base := base) T
  refine calX0 D (D.fn.binds dn fun _ _ _ _ _ _ us hl => match us, hl with | [_, _], _ => rfl) .nil sc_check_round (by walk_at "len") (fun cdv A outer s H vs Q E hr h => ?_)
  obtain ⟨a, v, xs, ds, rfl, ep, da, ld, hb, k⟩ := h
  rcases hb with hb | ⟨m, rfl, hm, os, hg⟩
  · refine ⟨_, (pss_cut (ps_if (PW.pt (pw_or (pt_not (pt_val (pe_c G_is_whole hr (by decide) rfl (pa_cons (pv 1) pa_nil)))) (pw_or1 (pt_not (pt_chain op_le op_le pe_int (pv 1) (pe_gc rfl T.g_MOST_LAYERS)))))) (pss_one (ps_raiseP rfl (takes_of rfl rfl rfl rfl) T.y_BadScript ss_BadScript T.b_super T.mg_BadScript hr (by decide) rfl pe_non)) pss_nil)
      (pss_cons (ps_expr (pe_c G_check_script_2 hr (by decide) rfl (pa_cons (pv 0) (pa_cons (pv 1) pa_nil))))
      (pss_one (ps_if (pt_cmpR op_lt (pe_c G_gain_of hr (by decide) rfl (pa_cons (pv 0) pa_nil)) pe_int (nomark _)) (pss_one (ps_raiseP rfl (takes_of rfl rfl rfl rfl) T.y_BadScript ss_BadScript T.b_super T.mg_BadScript hr (by decide) rfl pe_non)) pss_nil)))), ?_⟩
    walk_at "rd"
    refine ⟨fun σ H' => False, ?_, fun σ H' q => q.elim⟩
    walk_at "rd"
    rcases hb with rfl | ⟨b, rfl⟩ | ⟨i, rfl, hi⟩
    · refine ⟨_, _, rfl, .non, ?_⟩
      refine ⟨false, rfl, rd_iteNFF ?_⟩
      walk_at "rd"
      exact rd_raP fun d H' hd s e => k d H' s e
    · refine ⟨_, _, rfl, .bl b, ?_⟩
      refine ⟨false, rfl, rd_iteNFF ?_⟩
      walk_at "rd"
      exact rd_raP fun d H' hd s e => k d H' s e
    · refine ⟨_, _, rfl, .int i, ?_⟩
      refine ⟨true, rfl, rd_iteNTT ?_⟩
      walk_at "rd"
      refine rd_ite (fun c => ?_) (fun c => ?_)
      · walk_at "rd"
        refine rd_iteNT (by omega) ?_
        walk_at "rd"
        exact rd_raP fun d H' hd s e => k d H' s e
      · refine ⟨false, rfl, rd_iteNFF ?_⟩
        walk_at "rd"
        exact rd_raP fun d H' hd s e => k d H' s e
  · refine ⟨_, (pss_cut (ps_if (PW.pt (pw_or (pt_not (pt_val (pe_c G_is_whole hr (by decide) rfl (pa_cons (pv 1) pa_nil)))) (pw_or1 (pt_not (pt_chain op_le op_le pe_int (pv 1) (pe_gc rfl T.g_MOST_LAYERS)))))) (pss_one (ps_raiseP rfl (takes_of rfl rfl rfl rfl) T.y_BadScript ss_BadScript T.b_super T.mg_BadScript hr (by decide) rfl pe_non)) pss_nil)
      (pss_cons (ps_expr (pe_c G_check_script_2 hr (by decide) rfl (pa_cons (pv 0) (pa_cons (pv 1) pa_nil))))
      (pss_one (ps_if (pt_cmpR op_lt (pe_c G_gain_of hr (by decide) rfl (pa_cons (pv 0) pa_nil)) pe_int (nomark _)) (pss_one (ps_raiseP rfl (takes_of rfl rfl rfl rfl) T.y_BadScript ss_BadScript T.b_super T.mg_BadScript hr (by decide) rfl pe_non)) pss_nil)))), ?_⟩
    walk_at "rd"
    refine ⟨fun σ H' => H' = H ∧ σ = [some (.ref a), some (.int (m : Int))], ?_, ?_⟩
    · walk_at "rd"
      refine ⟨_, _, rfl, .int (m : Int), ?_⟩
      refine ⟨true, rfl, rd_iteNTT ?_⟩
      walk_at "rd"
      refine rd_iteT (by omega) ?_
      walk_at "rd"
      refine rd_iteNF (by omega) ?_
      walk_at "rd"
      exact ⟨rfl, rfl⟩
    rintro σ H1 ⟨rfl, rfl⟩
    walk_at "rd"
    refine ⟨a, m, ds, rfl, ⟨xs, .inl ep, da⟩, os, ld, fun H2 s2 => ?_⟩
    walk_at "rd"
    refine ⟨a, xs, ds, rfl, s2 _ _ ep, da.mono s2, ld, fun H3 s3 => ?_⟩
    walk_at "rd"
    refine rd_iteT hg ?_
    walk_at "rd"
    exact rd_raP fun d H' hd s e => k d H' ((s2.trans s3).trans s) e
end
end Sl

set_option Elab.async false
set_option linter.all false
set_option maxRecDepth 100000
set_option maxHeartbeats 8000000
set_option exponentiation.threshold 9000
namespace Sl
open PySem L2 C8 StX Silt
local macro_rules | `(tactic| walk_at "side") => `(tactic| first
  | exact cdivw (by omega) (by omega)
  | exact cmulw (by omega) (by omega) (by omega) (by omega)
  | exact Or.inr ⟨by omega, by omega⟩
  | exact Or.inl ⟨by omega, by omega⟩
  | omega
  | exact ⟨by omega, by omega, by decide⟩
  | decide)
local macro_rules | `(tactic| walk_at "rd1") => `(tactic| first
  | with_reducible refine rd_seq ?_
  | with_reducible refine rd_asg ?_
  | with_reducible refine rd_drop ?_
  | with_reducible refine rd_ret ?_
  | with_reducible refine rd_retN ?_
  | with_reducible refine rd_ifS ?_
  | ((with_reducible refine rd_var0 ?_); refine ⟨_, rfl, ?_⟩)
  | with_reducible refine rd_c ?_
  | with_reducible refine rd_op ?_
  | with_reducible refine rd_un ?_
  | with_reducible refine rd_I0 ?_
  | with_reducible refine rd_U ?_
  | ((with_reducible refine rd_I ?c ?_); (case c => walk_at "side"))
  | with_reducible refine rd_ipI ?_
  | with_reducible refine rd_eqI ?_
  | with_reducible refine rd_neI ?_
  | with_reducible refine rd_test ?_
  | with_reducible refine rd_tB ?_
  | with_reducible refine rd_bl ?_
  | with_reducible refine rd_not ?_
  | with_reducible refine rd_and ?_
  | with_reducible refine rd_or ?_
  | with_reducible refine rd_andV ?_
  | with_reducible refine rd_orV ?_
  | with_reducible refine rd_notV ?_
  | with_reducible refine rd_ifE ?_
  | with_reducible refine rd_chain ?_
  | with_reducible refine rd_chain3 ?_
  | with_reducible refine rd_nil ?_
  | with_reducible refine rd_cons ?_
  | with_reducible refine rd_call ?_
  | with_reducible refine rd_CB ?_
  | with_reducible refine rd_par ?_
  | with_reducible refine rd_par2 ?_
  | with_reducible refine rd_par3 ?_
  | with_reducible refine rd_par4 ?_
  | ((with_reducible refine rd_aug0 ?_); refine ⟨_, rfl, ?_⟩)
  | with_reducible refine rd_gname ?_
  | with_reducible refine rd_gcons ?_
  | with_reducible refine rd_gnil ?_
  | with_reducible refine rd_max ?_
  | with_reducible refine rd_min ?_
  | with_reducible refine rd_int1 ?_
  | with_reducible refine rd_abs ?_
  | with_reducible refine rd_lst ?_
  | with_reducible refine rd_tup ?_
  | with_reducible refine rd_bm ?_
  | with_reducible refine rd_fld0 ?_
  | with_reducible refine rd_sl0 ?_
  | with_reducible refine rd_noP ?_
  | with_reducible refine rd_part ?_
  | with_reducible refine rd_part2 ?_
  | with_reducible refine rd_meth0 ?_
  | with_reducible refine rd_star ?_
  | with_reducible refine rd_for ?_
  | with_reducible refine rd_rng1 ?_
  | with_reducible refine rd_rng2 ?_
  | with_reducible refine rd_rng3 ?_
  | with_reducible refine rd_iList ?_
  | with_reducible refine rd_iTup ?_
  | with_reducible refine rd_iEnum ?_
  | with_reducible refine rd_lc ?_
  | with_reducible refine rd_yes ?_
  | with_reducible refine rd_augS ?_
  | with_reducible refine rd_drawNew ?_
  | with_reducible refine rd_make0 ?_
  | with_reducible refine rd_next ?_
  | with_reducible refine rd_break ?_
  | with_reducible refine rd_cont ?_
  | with_reducible refine rd_iteTT ?_
  | with_reducible refine rd_iteFF ?_
  | with_reducible refine rd_iteNTT ?_
  | with_reducible refine rd_iteNFF ?_
  | with_reducible refine rd_con0 ?_
  | with_reducible refine rd_truO0 ?_
  | with_reducible refine rd_gfld0 ?_
  | with_reducible refine rd_dc ?_
  | with_reducible refine rd_iKeys ?_
  | with_reducible refine rd_dget0 ?_
  | with_reducible refine rd_dput0 ?_
  | with_reducible refine rd_dnot0 ?_
  | with_reducible refine rd_iEnumT ?_
  | with_reducible refine rd_raP0 ?_
  | with_reducible refine rd_xf0 ?_
  | with_reducible refine rd_cKw ?_
  | with_reducible refine rd_iStr ?_
  | with_reducible refine rd_gSub ?_
  | with_reducible refine rd_asgG ?_)
local macro_rules | `(tactic| walk_at "rd") => `(tactic| repeat walk_at "rd1")
local macro_rules | `(tactic| walk_at "len") => `(tactic| first
  | (intro vs H Q E h; obtain ⟨h2, _⟩ := h; rw [h2]; rfl)
  | (intro vs H Q E h; obtain ⟨_, h2, _⟩ := h; rw [h2]; rfl)
  | (intro vs H Q E h; obtain ⟨_, _, h2, _⟩ := h; rw [h2]; rfl)
  | (intro vs H Q E h; obtain ⟨_, _, _, h2, _⟩ := h; rw [h2]; rfl)
  | (intro vs H Q E h; obtain ⟨_, _, _, _, h2, _⟩ := h; rw [h2]; rfl)
  | (intro vs H Q E h; obtain ⟨_, _, _, _, _, h2, _⟩ := h; rw [h2]; rfl)
  | (intro vs H Q E h; obtain ⟨_, _, _, _, _, _, h2, _⟩ := h; rw [h2]; rfl)
  | (intro vs H Q E h; obtain ⟨_, _, _, _, _, _, _, h2, _⟩ := h; rw [h2]; rfl)
  | (intro vs H Q E h; obtain ⟨_, _, _, _, _, _, _, _, h2, _⟩ := h; rw [h2]; rfl)
  | (intro vs H Q E h; obtain ⟨_, _, _, _, _, _, _, _, _, h2, _⟩ := h; rw [h2]; rfl)
  | (intro vs H Q E h; obtain ⟨_, _, _, _, _, _, _, _, _, _, h2, _⟩ := h; rw [h2]; rfl)
  | (intro vs H Q E h; obtain ⟨_, _, _, _, _, _, _, _, _, _, _, h2, _⟩ := h; rw [h2]; rfl)
  | (intro vs H Q E h; obtain ⟨_, _, _, _, _, _, _, _, _, _, _, _, h2, _⟩ := h; rw [h2]; rfl))
/-- rounds and deeds told, or nothing -/
def toldP (H : Hp) (o : Option (Nat × Nat)) (v : V) : Prop := match o with
  | none => v = .non
  | some (q, p) => ∃ t, v = .ref t ∧ H t = some (.tup [.int (q : Int), .int (p : Int)])
def wrongR (m : Nat) (ds : List Deed) : Option (Nat × Nat) := toldR ds.length (wrongF (initL m) m (RP 2 ds))
theorem roundsF_nat {m : Nat} {ds : List Deed} (os : okS m ds) (hg : 0 ≤ gainS ds) : ∃ R : Nat, roundsF m ds = (R : Int) ∧ 2 ≤ R ∧ R ≤ 4 := by
  have h := deepF_le os
  have : 2 ≤ roundsF m ds ∧ roundsF m ds ≤ 4 := by
    unfold roundsF
    by_cases c : gainS ds = 0
    · rw [if_pos c]
      omega
    · rw [if_neg c]
      have h0 : 0 ≤ max 0 (deepF ds - (m : Int)) / gainS ds := Int.ediv_nonneg (by omega) hg
      have h1 : max 0 (deepF ds - (m : Int)) / gainS ds ≤ 2 := by
        have : max 0 (deepF ds - (m : Int)) / gainS ds ≤ max 0 (deepF ds - (m : Int)) := Int.ediv_le_self _ (by omega)
        omega
      omega
  exact ⟨(roundsF m ds).toNat, by omega, by omega, by omega⟩
def spWrongR : Sp := fun vs H Q _ => ∃ (a : Addr) (m : Nat) (xs : List V) (ds : List Deed), vs = [.ref a, .int (m : Int)] ∧ H a = some (.lst xs) ∧ DnAll H xs (ds.map deedD) ∧ ds.length ≤ 24 ∧ m ≤ 20 ∧ okS m ds ∧ 0 ≤ gainS ds ∧ ∀ H' v, Same H H' → toldP H' (wrongR m ds) v → Q v H'
theorem stF_leM {m : Nat} {ds : List Deed} (os : okS m ds) (i : Nat) : (stF (initL m, (m : Int)) (ds.take i)).1.length ≤ m + i ∧ (stF (initL m, (m : Int)) (ds.take i)).1.flatten.length ≤ m + i := by
  have b := stF_len (s := (initL m, (m : Int))) os (initL_len m) i
  have b1 : (stF (initL m, (m : Int)) (ds.take i)).1.length ≤ (initL m).length + i := by
    have := b.1
    rwa [initL_len]
  have b2 : (stF (initL m, (m : Int)) (ds.take i)).1.flatten.length ≤ (initL m).flatten.length + i := b.2
  rw [initL_len] at b1
  rw [initL_flat] at b2
  exact ⟨b1, b2⟩
section
variable {P : Program} {w : World} {K : PySem.W.Frag} {mg : Str → Option Value} {base : Heap} {C_Evidence C_Good C_Bad C_RightRounds C_WrongRound C_BadScript D_FALL : Addr}
theorem cal_wrong_round (T : TX P K mg C_Evidence C_Good C_Bad C_RightRounds C_WrongRound C_BadScript D_FALL) : Cal P w K mg base 3 "wrong_round" (spWrongR) [] := by
  obtain ⟨f0, fd, D, dn⟩ := T.d_wrong_round
  have G_rounds_needed := cal_rounds_needed (P := P) (w := w) (base := base) T
  have G_behind_deed := cal_behind_deed (P := P) (w := w) (base := base) T
  have G_loses_marks := cal_loses_marks (P := P) (w := w) (base := base) T
  have G_falling_pair := cal_falling_pair (P := P) (w := w) (base := base) T
  refine cal0 D (D.fn.binds dn fun _ _ _ _ _ _ us hl => match us, hl with | [_, _], _ => rfl) .nil sc_wrong_round (by walk_at "len") (fun cdv A outer s H vs Q E hr h => ?_)
  obtain ⟨a, m, xs, ds, rfl, ep, da, ld, hm, os, hg, k⟩ := h
  have lx := DeedsP.len da
  obtain ⟨R, eR, R2, R4⟩ := roundsF_nat os hg
  obtain ⟨G, eG, eK⟩ := gain_nat os hg
  have k : ∀ H' v, Same H H' → toldP H' (toldR ds.length (wrongF (initL m) m (RP R ds))) v → Q v H' := by
    rw [rounds_two os eK R2]
    exact k
  have osR : okS m (RP R ds) := by
    have := (okS_rounds os eK R 0).1
    rwa [Nat.zero_mul, Nat.add_zero] at this
  have lR := RP_len R ds
  have hn := Nat.mul_le_mul R4 ld
  refine ⟨_, (pss_cons (ps_par (i := 2) (j := 3) rfl sc_wrong_round.nd rfl rfl (by decide) rfl rfl (pa_cons (pe_lc (own := [("day", 3)]) (g := gName 3) (tt := tYes) rfl sc_wrong_round.nd (pi_range3 rfl T.b_range (pa_cons (pv 1) (pa_cons pe_int (pa_cons (pe_un un_neg pe_int) pa_nil)))) (blkOk_by (own := [("day", 3)]) (N := N_wrong_round) (sc := fnScope s_wrong_round) (by decide +kernel)) (fun _ _ _ _ _ => (pg_n 3 sc_wrong_round.nd)) (fun _ _ _ _ _ => pts_nil) (fun _ _ _ _ _ => (pe_tup (pa_cons (pv 3) pa_nil)))) (pa_cons (pv 1) pa_nil)) (by rfl))
      (pss_cons (ps_for PassesOwn.never rfl (pi_range1 rfl T.b_range (pa_cons (pe_c G_rounds_needed hr (by decide) rfl (pa_cons (pv 0) (pa_cons (pv 1) pa_nil))) pa_nil)) (pg_n 4 sc_wrong_round.nd) (pss_one (ps_for PassesOwn.never rfl (pi_alt (pi_enum (by rfl) T.b_enumerate (pa_cons (pv 0) pa_nil)) (pi_enumT (by rfl) T.b_enumerate (pa_cons (pv 0) pa_nil))) (pg_tup rfl (pgs_cons (pg_n 5 sc_wrong_round.nd) (pgs_cons (pg_n 6 sc_wrong_round.nd) pgs_nil))) (pss_cons (ps_au 3 sc_wrong_round.nd (pe_ifExp (pt_cmpR (op_eqD hr.units) (pv 6) (pe_gc rfl T.gt_FALL) (nomark _)) pe_int pe_int) ip_add)
      (pss_cons (ps_s 2 sc_wrong_round.nd (pe_c G_behind_deed hr (by decide) rfl (pa_cons (pv 2) (pa_cons (pv 6) (pa_cons (pv 3) pa_nil)))))
      (pss_one (ps_if (PW.pt (pw_or (pt_cmpR op_notNn (pe_c G_falling_pair hr (by decide) rfl (pa_cons (pv 2) pa_nil)) pe_non (nomark _)) (pw_or1 (pt_val (pe_c G_loses_marks hr (by decide) rfl (pa_cons (pv 2) (pa_cons (pv 6) pa_nil))))))) (pss_one (ps_ret (pe_tup (pa_cons (pv 4) (pa_cons (pe_op op_add (pv 5) pe_int) pa_nil))))) pss_nil)))))))
      (pss_one (ps_ret pe_non)))), ?_⟩
  walk_at "rd"
  refine rd_rgDn (by omega) ?_
  refine lcR_rngC (fun W i H' => Same H H' ∧ ∃ ys, H' W = some (.lst ys) ∧ DnAll H' ys (((List.range i).map fun (i : Nat) => [(m : Int) - (i : Int)]).map layD)) (fun W H' _ s e _ => ⟨s, [], e, .nil⟩) ?_ ?_
  · rintro W i H1 hW hi ⟨s1, ys, eW, dy⟩
    have ly : ys.length = i := by have := dy.length; rw [List.length_map, List.length_map, List.length_range] at this; exact this
    walk_at "rd"
    refine ⟨rfl, ?_⟩
    walk_at "rd"
    refine rd_newT (by simp) fun t H2 _ s2 et _ => ?_
    have eW2 := s2 _ _ eW
    refine rd_lcE eW2 (by omega) fun H3 eH3 eW3 => ?_
    refine ⟨by rw [eH3]; exact Same.mut (s1.trans s2) hW, ys ++ [.ref t], eW3, ?_⟩
    rw [List.range_succ, List.map_append, List.map_append, eH3]
    refine ((dy.mono s2).append (.cons (layOf (l := [(m : Int) - (i : Int)]) ?_) .nil)).updL eW2
    rw [et, show (m : Int) + (i : Int) * -1 = (m : Int) - (i : Int) by omega]
    rfl
  rintro L0 H1 hL0 ⟨s1, ys, eL0, dy⟩
  rw [show ((m : Int) - 0).toNat = m by omega] at dy
  have lp0 : LaysP H1 L0 (initL m) := ⟨ys, eL0, dy⟩
  walk_at "rd"
  refine ⟨a, m, xs, ds, rfl, s1 _ _ ep, da.mono s1, ld, by omega, os, hg, fun H2 s2 => ?_⟩
  rw [eR]
  walk_at "rd"
  refine rd_rgR1 (by omega) (by omega) ?_
  have jn : ((R : Int)).toNat = R := by omega
  rw [jn]
  have s02 := s1.trans s2
  refine forR_rng (fun q σ H' => ∃ (L : Addr) (v4 v5 v6 : Option V), Same H H' ∧ LaysP H' L (stF (initL m, (m : Int)) ((RP R ds).take (q * ds.length))).1 ∧ (∀ w, wrongF (initL m) m (RP R ds) = some w → q * ds.length < w) ∧ σ = [some (.ref a), some (.int (m : Int)), some (.ref L), some (.int (stF (initL m, (m : Int)) ((RP R ds).take (q * ds.length))).2), v4, v5, v6]) ⟨L0, _, _, _, s02, by rw [Nat.zero_mul]; exact lp0.mono s2, (fun w hw => by rw [Nat.zero_mul]; exact wrongF_pos hw), by rw [Nat.zero_mul]; rfl⟩ ?_ ?_
  · rintro q σ H3 hq ⟨L, v4, v5, v6, s3, hL, hw, rfl⟩
    have hq3 := Nat.mul_le_mul (show q ≤ 3 by omega) ld
    walk_at "rd"
    refine .inl ?_
    walk_at "rd"
    refine rd_enR (SqL.of (s3 _ _ ep)) ?_
    refine forR_enum (xs := xs) (fun j σ H' => ∃ (L : Addr) (v5 v6 : Option V), Same H H' ∧ LaysP H' L (stF (initL m, (m : Int)) ((RP R ds).take (q * ds.length + j))).1 ∧ (∀ w, wrongF (initL m) m (RP R ds) = some w → q * ds.length + j < w) ∧ σ = [some (.ref a), some (.int (m : Int)), some (.ref L), some (.int (stF (initL m, (m : Int)) ((RP R ds).take (q * ds.length + j))).2), some (.int (0 + (q : Int))), v5, v6]) (fun j σ H' ⟨_, _, _, s, _⟩ => SqL.of (s _ _ ep)) ⟨L, _, _, s3, hL, hw, rfl⟩ ?_ ?_
    · rintro j y σ H4 t H5 hy ⟨L, v5, v6, s4, hL, hw, rfl⟩ _ s5 et _
      have s45 := s4.trans s5
      obtain ⟨x, hx, dx⟩ := deeds_get (da.mono s45) hy
      have hj := (List.getElem?_eq_some_iff.mp hx).1
      have hX : (RP R ds)[q * ds.length + j]? = some x := by rw [RP_at hq hj]; exact hx
      obtain ⟨ok, m', hm'⟩ := okS_at (s := (initL m, (m : Int))) osR (initL_len m) hX
      have hsc := wrongF_scan (s := (initL m, (m : Int))) hX hw
      obtain ⟨b1, b2⟩ := stF_leM osR (q * ds.length + j)
      obtain ⟨b3, b4⟩ := stF_leM osR (q * ds.length + (j + 1))
      have etk : (RP R ds).take (q * ds.length + (j + 1)) = (RP R ds).take (q * ds.length + j) ++ [x] := by rw [← Nat.add_assoc, List.take_add_one, hX]; rfl
      have es : stF (initL m, (m : Int)) ((RP R ds).take (q * ds.length + (j + 1))) = stepS (stF (initL m, (m : Int)) ((RP R ds).take (q * ds.length + j))) x := by rw [etk, stF_snoc]
      rw [es] at b3 b4
      generalize hst : stF (initL m, (m : Int)) ((RP R ds).take (q * ds.length + j)) = st at *
      refine rd_gtup et rfl ?_
      walk_at "rd"
      refine rd_eqDp dx.dt (fall_dp T.e_FALL H5) (shaped_deed _) (by decide +kernel) ?_
      rw [eqv_deed]
      refine ⟨_, rfl, ?_⟩
      have hday : ∀ {σ : L2.St} (Q' : V → Hp → Prop), Q' (.int (if isFall x = true then 1 else 0)) H5 → if isFall x = true then tC (.int 1) σ H5 Q' else tC (.int 0) σ H5 Q' := fun Q' q => by
        split
        · rename_i c; rw [if_pos c] at q; exact q
        · rename_i c; rw [if_neg c] at q; exact q
      refine hday _ ?_
      walk_at "rd"
      refine ⟨L, y, _, st.1, x, m', rfl, hL.mono s5, dx.dt, ok, hm', by omega, by omega, fun H6 b s6 hb hB => ?_⟩
      walk_at "rd"
      have hB : LaysP H6 b (stepS st x).1 := hB
      refine ⟨b, _, rfl, hB, by omega, by omega, fun H7 v s7 hv => ?_⟩
      walk_at "rd"
      refine rd_notN0 ?_
      rw [fallV_non hv]
      have s47 := s45.trans (s6.trans s7)
      have bad : badB (stepS st x).1 x = true → ∀ H' t, Same H H' → H' t = some (.tup [.int (0 + (q : Int)), .int ((j : Int) + 1)]) → Q (.ref t) H' := fun hb H' t s e => by
        refine k H' _ s ?_
        rw [hsc.1 hb, toldR_at hj]
        exact ⟨t, rfl, by rw [e, Int.zero_add]; rfl⟩
      refine ⟨_, rfl, ?_⟩
      cases hf : (fallIn (stepS st x).1.flatten).isNone
      · rw [Bool.not_false]
        walk_at "rd"
        refine rd_newT (by simp) fun t2 H8 _ s8 et2 _ => ?_
        refine bad ?_ H8 t2 (s47.trans s8) et2
        unfold badB
        rw [Bool.or_eq_true]
        left
        cases hq2 : fallIn (stepS st x).1.flatten with
        | none => rw [hq2] at hf; cases hf
        | some z => rfl
      · rw [Bool.not_true]
        walk_at "rd"
        refine ⟨b, _, _, x, rfl, hB.mono s7, (dx.mono (s6.trans s7)).dt, ?_⟩
        have eb : badB (stepS st x).1 x = losesM (stepS st x).1 x := by
          unfold badB
          cases hq2 : fallIn (stepS st x).1.flatten with
          | none => rfl
          | some z => rw [hq2] at hf; cases hf
        cases hl : losesM (stepS st x).1 x
        · walk_at "rd"
          refine ⟨b, _, _, s47, by rw [es]; exact hB.mono s7, hsc.2 (by rw [← hst] at *; rw [eb]; exact hl), by rw [es]; rfl⟩
        · walk_at "rd"
          refine rd_newT (by simp) fun t2 H8 _ s8 et2 _ => ?_
          exact bad (by rw [eb]; exact hl) H8 t2 (s47.trans s8) et2
    · rintro σ H4 ⟨L, v5, v6, s4, hL, hw, rfl⟩
      rw [lx] at hL hw
      rw [← Nat.succ_mul] at hL hw
      exact ⟨L, _, _, _, s4, hL, hw, by rw [lx, ← Nat.succ_mul]⟩
  · rintro σ H3 ⟨L, v4, v5, v6, s3, hL, hw, rfl⟩
    walk_at "rd"
    refine k H3 .non s3 ?_
    cases hq : wrongF (initL m) m (RP R ds) with
    | none => rfl
    | some w =>
      have h1 := hw w hq
      have h2 := wrongF_le hq
      omega
end
end Sl

set_option Elab.async false
set_option linter.all false
set_option maxRecDepth 100000
set_option maxHeartbeats 8000000
set_option exponentiation.threshold 9000
namespace Sl
open PySem L2 C8 StX Silt
local macro_rules | `(tactic| walk_at "side") => `(tactic| first
  | exact cdivw (by omega) (by omega)
  | exact cmulw (by omega) (by omega) (by omega) (by omega)
  | exact Or.inr ⟨by omega, by omega⟩
  | exact Or.inl ⟨by omega, by omega⟩
  | omega
  | exact ⟨by omega, by omega, by decide⟩
  | decide)
local macro_rules | `(tactic| walk_at "rd1") => `(tactic| first
  | with_reducible refine rd_seq ?_
  | with_reducible refine rd_asg ?_
  | with_reducible refine rd_drop ?_
  | with_reducible refine rd_ret ?_
  | with_reducible refine rd_retN ?_
  | with_reducible refine rd_ifS ?_
  | ((with_reducible refine rd_var0 ?_); refine ⟨_, rfl, ?_⟩)
  | with_reducible refine rd_c ?_
  | with_reducible refine rd_op ?_
  | with_reducible refine rd_un ?_
  | with_reducible refine rd_I0 ?_
  | with_reducible refine rd_U ?_
  | ((with_reducible refine rd_I ?c ?_); (case c => walk_at "side"))
  | with_reducible refine rd_ipI ?_
  | with_reducible refine rd_eqI ?_
  | with_reducible refine rd_neI ?_
  | with_reducible refine rd_test ?_
  | with_reducible refine rd_tB ?_
  | with_reducible refine rd_bl ?_
  | with_reducible refine rd_not ?_
  | with_reducible refine rd_and ?_
  | with_reducible refine rd_or ?_
  | with_reducible refine rd_andV ?_
  | with_reducible refine rd_orV ?_
  | with_reducible refine rd_notV ?_
  | with_reducible refine rd_ifE ?_
  | with_reducible refine rd_chain ?_
  | with_reducible refine rd_chain3 ?_
  | with_reducible refine rd_nil ?_
  | with_reducible refine rd_cons ?_
  | with_reducible refine rd_call ?_
  | with_reducible refine rd_CB ?_
  | with_reducible refine rd_par ?_
  | with_reducible refine rd_par2 ?_
  | with_reducible refine rd_par3 ?_
  | with_reducible refine rd_par4 ?_
  | ((with_reducible refine rd_aug0 ?_); refine ⟨_, rfl, ?_⟩)
  | with_reducible refine rd_gname ?_
  | with_reducible refine rd_gcons ?_
  | with_reducible refine rd_gnil ?_
  | with_reducible refine rd_max ?_
  | with_reducible refine rd_min ?_
  | with_reducible refine rd_int1 ?_
  | with_reducible refine rd_abs ?_
  | with_reducible refine rd_lst ?_
  | with_reducible refine rd_tup ?_
  | with_reducible refine rd_bm ?_
  | with_reducible refine rd_fld0 ?_
  | with_reducible refine rd_sl0 ?_
  | with_reducible refine rd_noP ?_
  | with_reducible refine rd_part ?_
  | with_reducible refine rd_part2 ?_
  | with_reducible refine rd_meth0 ?_
  | with_reducible refine rd_star ?_
  | with_reducible refine rd_for ?_
  | with_reducible refine rd_rng1 ?_
  | with_reducible refine rd_rng2 ?_
  | with_reducible refine rd_rng3 ?_
  | with_reducible refine rd_iList ?_
  | with_reducible refine rd_iTup ?_
  | with_reducible refine rd_iEnum ?_
  | with_reducible refine rd_lc ?_
  | with_reducible refine rd_yes ?_
  | with_reducible refine rd_augS ?_
  | with_reducible refine rd_drawNew ?_
  | with_reducible refine rd_make0 ?_
  | with_reducible refine rd_next ?_
  | with_reducible refine rd_break ?_
  | with_reducible refine rd_cont ?_
  | with_reducible refine rd_iteTT ?_
  | with_reducible refine rd_iteFF ?_
  | with_reducible refine rd_iteNTT ?_
  | with_reducible refine rd_iteNFF ?_
  | with_reducible refine rd_con0 ?_
  | with_reducible refine rd_truO0 ?_
  | with_reducible refine rd_gfld0 ?_
  | with_reducible refine rd_dc ?_
  | with_reducible refine rd_iKeys ?_
  | with_reducible refine rd_dget0 ?_
  | with_reducible refine rd_dput0 ?_
  | with_reducible refine rd_dnot0 ?_
  | with_reducible refine rd_iEnumT ?_
  | with_reducible refine rd_raP0 ?_
  | with_reducible refine rd_xf0 ?_
  | with_reducible refine rd_cKw ?_
  | with_reducible refine rd_iStr ?_
  | with_reducible refine rd_gSub ?_
  | with_reducible refine rd_asgG ?_)
local macro_rules | `(tactic| walk_at "rd") => `(tactic| repeat walk_at "rd1")
local macro_rules | `(tactic| walk_at "len") => `(tactic| first
  | (intro vs H Q E h; obtain ⟨h2, _⟩ := h; rw [h2]; rfl)
  | (intro vs H Q E h; obtain ⟨_, h2, _⟩ := h; rw [h2]; rfl)
  | (intro vs H Q E h; obtain ⟨_, _, h2, _⟩ := h; rw [h2]; rfl)
  | (intro vs H Q E h; obtain ⟨_, _, _, h2, _⟩ := h; rw [h2]; rfl)
  | (intro vs H Q E h; obtain ⟨_, _, _, _, h2, _⟩ := h; rw [h2]; rfl)
  | (intro vs H Q E h; obtain ⟨_, _, _, _, _, h2, _⟩ := h; rw [h2]; rfl)
  | (intro vs H Q E h; obtain ⟨_, _, _, _, _, _, h2, _⟩ := h; rw [h2]; rfl)
  | (intro vs H Q E h; obtain ⟨_, _, _, _, _, _, _, h2, _⟩ := h; rw [h2]; rfl)
  | (intro vs H Q E h; obtain ⟨_, _, _, _, _, _, _, _, h2, _⟩ := h; rw [h2]; rfl)
  | (intro vs H Q E h; obtain ⟨_, _, _, _, _, _, _, _, _, h2, _⟩ := h; rw [h2]; rfl)
  | (intro vs H Q E h; obtain ⟨_, _, _, _, _, _, _, _, _, _, h2, _⟩ := h; rw [h2]; rfl)
  | (intro vs H Q E h; obtain ⟨_, _, _, _, _, _, _, _, _, _, _, h2, _⟩ := h; rw [h2]; rfl)
  | (intro vs H Q E h; obtain ⟨_, _, _, _, _, _, _, _, _, _, _, _, h2, _⟩ := h; rw [h2]; rfl))
local macro_rules | `(tactic| walk_at "rd1") => `(tactic| first
  | with_reducible refine rd_gfld0 ?_)
def RRP (C : Addr) (H : Hp) (x : Addr) (r : Int) : Prop := ∃ dx, H x = some (.ins C dx [("rounds", .int r)])
def WRP (C : Addr) (H : Hp) (x : Addr) (q p : Nat) : Prop := ∃ dx, H x = some (.ins C dx [("rounds", .int (q : Int)), ("deeds", .int (p : Int))])
theorem RRP.mono {C : Addr} {H H' : Hp} {x : Addr} {r : Int} (s : Same H H') (h : RRP C H x r) : RRP C H' x r := by
  obtain ⟨dx, e⟩ := h
  exact ⟨dx, s _ _ e⟩
theorem WRP.mono {C : Addr} {H H' : Hp} {x : Addr} {q p : Nat} (s : Same H H') (h : WRP C H x q p) : WRP C H' x q p := by
  obtain ⟨dx, e⟩ := h
  exact ⟨dx, s _ _ e⟩
def RF1 (x : V) : List (Str × V) := [("rounds", x)]
def RF2 (x y : V) : List (Str × V) := [("rounds", x), ("deeds", y)]
theorem put_r1 (x : V) : putF "rounds" x [] = RF1 x := rfl
theorem put_r2 (x y : V) : putF "deeds" y (RF1 x) = RF2 x y := by
  have h : ¬ (("rounds" : Str) = "deeds") := by decide +kernel
  unfold RF1 putF
  rw [if_neg h]
  rfl
def toldD : Option (Nat × Nat) → PyData
  | none => .none
  | some (q, p) => .tuple [.int (q : Int), .int (p : Int)]
theorem toldP.dt {H : Hp} {o : Option (Nat × Nat)} {v : V} (h : toldP H o v) : Dt H v (toldD o) := by
  cases o with
  | none =>
    obtain rfl : v = .non := h
    exact .non
  | some qp =>
    obtain ⟨q, p⟩ := qp
    obtain ⟨t, rfl, et⟩ : ∃ t, v = .ref t ∧ _ := h
    exact .tup et (.cons (.int _) (.cons (.int _) .nil))
theorem shaped_told (o : Option (Nat × Nat)) : SeqAt.shaped (toldD o) = true := by
  cases o with
  | none => rfl
  | some qp => rfl
theorem eqv_told (o : Option (Nat × Nat)) (q p : Nat) : PyData.eqv (toldD o) (.tuple [.int (q : Int), .int (p : Int)]) = decide (o = some (q, p)) := by
  rw [Bool.eq_iff_iff, decide_eq_true_iff]
  cases o with
  | none => simp [toldD, PyData.eqv]
  | some qp =>
    obtain ⟨q2, p2⟩ := qp
    simp [toldD, PyData.eqv, PyData.eqvAll]
    omega
def spRRInit (C : Addr) : Sp := fun vs H Q _ => ∃ (self dx : Addr) (H0 : Hp) (r : Int), vs = [.ref self, .int r] ∧ Same H0 H ∧ H0 self = none ∧ H self = some (.ins C dx []) ∧ ∀ H', Same H0 H' → RRP C H' self r → Q .non H'
def spWRInit (C : Addr) : Sp := fun vs H Q _ => ∃ (self dx : Addr) (H0 : Hp) (q p : Nat), vs = [.ref self, .int (q : Int), .int (p : Int)] ∧ Same H0 H ∧ H0 self = none ∧ H self = some (.ins C dx []) ∧ ∀ H', Same H0 H' → WRP C H' self q p → Q .non H'
def spRRShows (C : Addr) : Sp := fun vs H Q _ => ∃ (x a : Addr) (r : Int) (m : Nat) (xs : List V) (ds : List Deed), vs = [.ref x, .ref a, .int (m : Int)] ∧ RRP C H x r ∧ H a = some (.lst xs) ∧ DnAll H xs (ds.map deedD) ∧ ds.length ≤ 24 ∧ m ≤ 20 ∧ okS m ds ∧ 0 ≤ gainS ds ∧ ∀ H', Same H H' → Q (.bl (decide (r = roundsF m ds ∧ wrongR m ds = none))) H'
def spWRShows (C : Addr) : Sp := fun vs H Q _ => ∃ (x a : Addr) (q p : Nat) (m : Nat) (xs : List V) (ds : List Deed), vs = [.ref x, .ref a, .int (m : Int)] ∧ WRP C H x q p ∧ H a = some (.lst xs) ∧ DnAll H xs (ds.map deedD) ∧ ds.length ≤ 24 ∧ m ≤ 20 ∧ okS m ds ∧ 0 ≤ gainS ds ∧ ∀ H', Same H H' → Q (.bl (decide (wrongR m ds = some (q, p)))) H'
/-- what judge_rounds returns -/
def JudgeR (C1 C2 : Addr) (H : Hp) (x : Addr) (m : Nat) (ds : List Deed) : Prop := (wrongR m ds = none ∧ RRP C1 H x (roundsF m ds)) ∨ ∃ q p, wrongR m ds = some (q, p) ∧ WRP C2 H x q p
def spJudgeR (C1 C2 : Addr) : Sp := fun vs H Q _ => ∃ (a : Addr) (m : Nat) (xs : List V) (ds : List Deed), vs = [.ref a, .int (m : Int)] ∧ H a = some (.lst xs) ∧ DnAll H xs (ds.map deedD) ∧ ds.length ≤ 24 ∧ m ≤ 20 ∧ okS m ds ∧ 0 ≤ gainS ds ∧ ∀ H' x, Same H H' → JudgeR C1 C2 H' x m ds → Q (.ref x) H'
section
variable {P : Program} {w : World} {K : PySem.W.Frag} {mg : Str → Option Value} {base : Heap} {C_Evidence C_Good C_Bad C_RightRounds C_WrongRound C_BadScript D_FALL : Addr}
theorem mak_RightRounds_init (T : TX P K mg C_Evidence C_Good C_Bad C_RightRounds C_WrongRound C_BadScript D_FALL) : Mak P w K mg base 1 "RightRounds" C_RightRounds (spRRInit C_RightRounds) [] := by
  obtain ⟨f0, fd, D, dn, mk⟩ := T.m_RightRounds_init
  refine mak0 mk T.mg_RightRounds D (D.binds dn fun _ _ _ _ _ _ us hl => match us, hl with | [_, _], _ => rfl) .nil sc_RightRounds_init (by walk_at "len") (fun cdv A outer s H vs Q E hr h => ?_)
  obtain ⟨self, dx, H0, r, rfl, s0, h0, eS, k⟩ := h
  refine ⟨_, (pss_one (ps_asg (pv 1) (pg_attr (pv 0)))), ?_⟩
  walk_at "rd"
  refine rd_gfld eS T.cl_RightRounds T.na_RightRounds_rounds (by decide) fun H1 e1 e1' => ?_
  rw [put_r1] at e1 e1'
  walk_at "rd"
  exact k H1 (by rw [e1]; exact Same.mut s0 h0) ⟨dx, e1'⟩
theorem mak_WrongRound_init (T : TX P K mg C_Evidence C_Good C_Bad C_RightRounds C_WrongRound C_BadScript D_FALL) : Mak P w K mg base 1 "WrongRound" C_WrongRound (spWRInit C_WrongRound) [] := by
  obtain ⟨f0, fd, D, dn, mk⟩ := T.m_WrongRound_init
  refine mak0 mk T.mg_WrongRound D (D.binds dn fun _ _ _ _ _ _ us hl => match us, hl with | [_, _, _], _ => rfl) .nil sc_WrongRound_init (by walk_at "len") (fun cdv A outer s H vs Q E hr h => ?_)
  obtain ⟨self, dx, H0, q, p, rfl, s0, h0, eS, k⟩ := h
  refine ⟨_, (pss_cons (ps_asg (pv 1) (pg_attr (pv 0)))
      (pss_one (ps_asg (pv 2) (pg_attr (pv 0))))), ?_⟩
  walk_at "rd"
  refine rd_gfld eS T.cl_WrongRound T.na_WrongRound_rounds (by decide) fun H1 e1 e1' => ?_
  rw [put_r1] at e1 e1'
  walk_at "rd"
  refine rd_gfld e1' T.cl_WrongRound T.na_WrongRound_deeds (Nat.lt_of_le_of_lt (Nat.le_refl 1) (by decide)) fun H2 e2 e2' => ?_
  rw [put_r2] at e2 e2'
  walk_at "rd"
  have s2 : Same H0 H2 := by
    rw [e2]
    refine Same.mut ?_ h0
    rw [e1]
    exact Same.mut s0 h0
  exact k H2 s2 ⟨dx, e2'⟩
theorem met_RightRounds_bool (T : TX P K mg C_Evidence C_Good C_Bad C_RightRounds C_WrongRound C_BadScript D_FALL) : Met P w K mg base 1 C_RightRounds "__bool__" spTrueS [] := by
  obtain ⟨f0, fd, D, dn, me, _⟩ := T.m_RightRounds_bool
  refine met0 T.cl_RightRounds me D (D.binds dn fun _ _ _ _ _ _ us hl => match us, hl with | [_], _ => rfl) sc_Good_bool (by walk_at "len") (fun cdv A outer s H vs Q E hr h => ?_)
  obtain ⟨a, rfl, k⟩ := h
  refine ⟨_, (pss_one (ps_ret pe_bl)), ?_⟩
  walk_at "rd"
  exact k
theorem met_WrongRound_bool (T : TX P K mg C_Evidence C_Good C_Bad C_RightRounds C_WrongRound C_BadScript D_FALL) : Met P w K mg base 1 C_WrongRound "__bool__" spFalseS [] := by
  obtain ⟨f0, fd, D, dn, me, _⟩ := T.m_WrongRound_bool
  refine met0 T.cl_WrongRound me D (D.binds dn fun _ _ _ _ _ _ us hl => match us, hl with | [_], _ => rfl) sc_Bad_bool (by walk_at "len") (fun cdv A outer s H vs Q E hr h => ?_)
  obtain ⟨a, rfl, k⟩ := h
  refine ⟨_, (pss_one (ps_ret pe_bl)), ?_⟩
  walk_at "rd"
  exact k
theorem met_RightRounds_shows (T : TX P K mg C_Evidence C_Good C_Bad C_RightRounds C_WrongRound C_BadScript D_FALL) : Met P w K mg base 6 C_RightRounds "shows" (spRRShows C_RightRounds) [] := by
  obtain ⟨f0, fd, D, dn, me, _⟩ := T.m_RightRounds_shows
  have G_check_round := cal_check_round (P := P) (w := w) (base := base) T
  have G_wrong_round := cal_wrong_round (P := P) (w := w) (base := base) T
  have G_rounds_needed := cal_rounds_needed (P := P) (w := w) (base := base) T
  refine met0 T.cl_RightRounds me D (D.binds dn fun _ _ _ _ _ _ us hl => match us, hl with | [_, _, _], _ => rfl) sc_RightRounds_shows (by walk_at "len") (fun cdv A outer s H vs Q E hr h => ?_)
  obtain ⟨x, a, r, m, xs, ds, rfl, ⟨dx, ex⟩, ep, da, ld, hm, os, hg, k⟩ := h
  refine ⟨_, (pss_cons (ps_expr (pe_c G_check_round hr (by decide) rfl (pa_cons (pv 1) (pa_cons (pv 2) pa_nil))))
      (pss_one (ps_ret (pe_and (pe_cmpR op_eq (pe_fld (pv 0) rfl) (pe_c G_rounds_needed hr (by decide) rfl (pa_cons (pv 1) (pa_cons (pv 2) pa_nil))) (nomark _)) (pe_one (pe_cmpR op_isNn (pe_c G_wrong_round hr (by decide) rfl (pa_cons (pv 1) (pa_cons (pv 2) pa_nil))) pe_non (nomark _))))))), ?_⟩
  walk_at "rd"
  refine ⟨a, m, xs, ds, rfl, ep, da, ld, hm, os, hg, fun H1 s1 => ?_⟩
  walk_at "rd"
  refine rd_fld (s1 _ _ ex) T.cl_RightRounds T.na_RightRounds_rounds rfl ?_
  walk_at "rd"
  refine ⟨a, m, xs, ds, rfl, s1 _ _ ep, da.mono s1, ld, by omega, os, hg, fun H2 s2 => ?_⟩
  have s12 := s1.trans s2
  walk_at "rd"
  by_cases c : r = roundsF m ds
  · rw [decide_eq_true c]
    walk_at "rd"
    refine ⟨a, m, xs, ds, rfl, s12 _ _ ep, da.mono s12, ld, by omega, os, hg, fun H3 v s3 hv => ?_⟩
    walk_at "rd"
    refine rd_isN0 ?_
    have k := k H3 (s12.trans s3)
    cases hq : wrongR m ds with
    | none =>
      rw [hq] at hv
      obtain rfl : v = .non := hv
      rw [hq, decide_eq_true ⟨c, rfl⟩] at k
      exact k
    | some qp =>
      rw [hq] at hv
      obtain ⟨t, rfl, et⟩ : ∃ t, v = .ref t ∧ _ := hv
      rw [hq, decide_eq_false (fun z => by cases z.2)] at k
      exact k
  · rw [decide_eq_false c]
    walk_at "rd"
    have k := k H2 s12
    rw [decide_eq_false (fun z => c z.1)] at k
    exact k
theorem met_WrongRound_shows (T : TX P K mg C_Evidence C_Good C_Bad C_RightRounds C_WrongRound C_BadScript D_FALL) : Met P w K mg base 6 C_WrongRound "shows" (spWRShows C_WrongRound) [] := by
  obtain ⟨f0, fd, D, dn, me, _⟩ := T.m_WrongRound_shows
  have G_check_round := cal_check_round (P := P) (w := w) (base := base) T
  have G_wrong_round := cal_wrong_round (P := P) (w := w) (base := base) T
  refine met0 T.cl_WrongRound me D (D.binds dn fun _ _ _ _ _ _ us hl => match us, hl with | [_, _, _], _ => rfl) sc_WrongRound_shows (by walk_at "len") (fun cdv A outer s H vs Q E hr h => ?_)
  obtain ⟨x, a, q, p, m, xs, ds, rfl, ⟨dx, ex⟩, ep, da, ld, hm, os, hg, k⟩ := h
  refine ⟨_, (pss_cons (ps_expr (pe_c G_check_round hr (by decide) rfl (pa_cons (pv 1) (pa_cons (pv 2) pa_nil))))
      (pss_one (ps_ret (pe_cmpR (op_eqD hr.units) (pe_c G_wrong_round hr (by decide) rfl (pa_cons (pv 1) (pa_cons (pv 2) pa_nil))) (pe_tup (pa_cons (pe_fld (pv 0) rfl) (pa_cons (pe_fld (pv 0) rfl) pa_nil))) (nomark _))))), ?_⟩
  walk_at "rd"
  refine ⟨a, m, xs, ds, rfl, ep, da, ld, hm, os, hg, fun H1 s1 => ?_⟩
  walk_at "rd"
  refine ⟨a, m, xs, ds, rfl, s1 _ _ ep, da.mono s1, ld, by omega, os, hg, fun H2 v s2 hv => ?_⟩
  have s12 := s1.trans s2
  walk_at "rd"
  refine rd_fld (s12 _ _ ex) T.cl_WrongRound T.na_WrongRound_rounds rfl ?_
  walk_at "rd"
  refine rd_fld (s12 _ _ ex) T.cl_WrongRound T.na_WrongRound_deeds rfl ?_
  walk_at "rd"
  refine rd_newT (by simp) fun t H3 _ s3 et _ => ?_
  walk_at "rd"
  refine rd_eqD (hv.dt.mono s3) (.tup et (.cons (.int _) (.cons (.int _) .nil))) (shaped_told _) (by rfl) ?_
  rw [eqv_told]
  exact k H3 (s12.trans s3)
theorem cal_judge_rounds (T : TX P K mg C_Evidence C_Good C_Bad C_RightRounds C_WrongRound C_BadScript D_FALL) : Cal P w K mg base 6 "judge_rounds" (spJudgeR C_RightRounds C_WrongRound) [] := by
  obtain ⟨f0, fd, D, dn⟩ := T.d_judge_rounds
  have G_check_round := cal_check_round (P := P) (w := w) (base := base) T
  have G_wrong_round := cal_wrong_round (P := P) (w := w) (base := base) T
  have G_RightRounds_init := mak_RightRounds_init (P := P) (w := w) (base := base) T
  have G_rounds_needed := cal_rounds_needed (P := P) (w := w) (base := base) T
  have G_WrongRound_init := mak_WrongRound_init (P := P) (w := w) (base := base) T
  refine cal0 D (D.fn.binds dn fun _ _ _ _ _ _ us hl => match us, hl with | [_, _], _ => rfl) .nil sc_judge_rounds (by walk_at "len") (fun cdv A outer s H vs Q E hr h => ?_)
  obtain ⟨a, m, xs, ds, rfl, ep, da, ld, hm, os, hg, k⟩ := h
  refine ⟨_, (pss_cons (ps_expr (pe_c G_check_round hr (by decide) rfl (pa_cons (pv 0) (pa_cons (pv 1) pa_nil))))
      (pss_cons (ps_s 2 sc_judge_rounds.nd (pe_c G_wrong_round hr (by decide) rfl (pa_cons (pv 0) (pa_cons (pv 1) pa_nil))))
      (pss_one (ps_ret (pe_ifExp (pt_cmpR op_isNn (pv 2) pe_non (nomark _)) (pe_mk G_RightRounds_init hr (by decide) rfl (pa_cons (pe_c G_rounds_needed hr (by decide) rfl (pa_cons (pv 0) (pa_cons (pv 1) pa_nil))) pa_nil)) (pe_mk G_WrongRound_init hr (by decide) rfl (pa_cons (pe_ix ix_tup (pv 2) pe_int (fun _ _ => rfl)) (pa_cons (pe_ix ix_tup (pv 2) pe_int (fun _ _ => rfl)) pa_nil)))))))), ?_⟩
  walk_at "rd"
  refine ⟨a, m, xs, ds, rfl, ep, da, ld, hm, os, hg, fun H1 s1 => ?_⟩
  walk_at "rd"
  refine ⟨a, m, xs, ds, rfl, s1 _ _ ep, da.mono s1, ld, by omega, os, hg, fun H2 v s2 hv => ?_⟩
  have s12 := s1.trans s2
  walk_at "rd"
  refine rd_isN0 ?_
  cases hq : wrongR m ds with
  | none =>
    rw [hq] at hv
    obtain rfl : v = .non := hv
    refine ⟨_, rfl, ?_⟩
    rw [decide_eq_true rfl]
    walk_at "rd"
    refine ⟨a, m, xs, ds, rfl, s12 _ _ ep, da.mono s12, ld, by omega, os, hg, fun H3 s3 => ?_⟩
    walk_at "rd"
    refine rd_make fun x dx H4 s4 hx ex => ?_
    refine ⟨x, dx, H3, _, rfl, s4, hx, ex, fun H5 s5 rr => ⟨rfl, ?_⟩⟩
    exact k H5 x (s12.trans (s3.trans s5)) (.inl ⟨hq, rr⟩)
  | some qp =>
    obtain ⟨q, p⟩ := qp
    rw [hq] at hv
    obtain ⟨t, rfl, et⟩ : ∃ t, v = .ref t ∧ _ := hv
    refine ⟨_, rfl, ?_⟩
    rw [decide_eq_false (show ¬ V.ref t = .non from fun z => by cases z)]
    walk_at "rd"
    refine rd_ixT et rfl ?_
    walk_at "rd"
    refine rd_ixT et rfl ?_
    walk_at "rd"
    refine rd_make fun x dx H4 s4 hx ex => ?_
    refine ⟨x, dx, H2, q, p, rfl, s4, hx, ex, fun H5 s5 rr => ⟨rfl, ?_⟩⟩
    exact k H5 x (s12.trans s5) (.inr ⟨q, p, hq, rr⟩)
end
end Sl

set_option Elab.async false
set_option linter.all false
set_option maxRecDepth 100000
set_option maxHeartbeats 8000000
set_option exponentiation.threshold 9000
namespace Sl
open PySem L2 C8 StX Silt
local macro_rules | `(tactic| walk_at "side") => `(tactic| first
  | exact cdivw (by omega) (by omega)
  | exact cmulw (by omega) (by omega) (by omega) (by omega)
  | exact Or.inr ⟨by omega, by omega⟩
  | exact Or.inl ⟨by omega, by omega⟩
  | omega
  | exact ⟨by omega, by omega, by decide⟩
  | decide)
local macro_rules | `(tactic| walk_at "rd1") => `(tactic| first
  | with_reducible refine rd_seq ?_
  | with_reducible refine rd_asg ?_
  | with_reducible refine rd_drop ?_
  | with_reducible refine rd_ret ?_
  | with_reducible refine rd_retN ?_
  | with_reducible refine rd_ifS ?_
  | ((with_reducible refine rd_var0 ?_); refine ⟨_, rfl, ?_⟩)
  | with_reducible refine rd_c ?_
  | with_reducible refine rd_op ?_
  | with_reducible refine rd_un ?_
  | with_reducible refine rd_I0 ?_
  | with_reducible refine rd_U ?_
  | ((with_reducible refine rd_I ?c ?_); (case c => walk_at "side"))
  | with_reducible refine rd_ipI ?_
  | with_reducible refine rd_eqI ?_
  | with_reducible refine rd_neI ?_
  | with_reducible refine rd_test ?_
  | with_reducible refine rd_tB ?_
  | with_reducible refine rd_bl ?_
  | with_reducible refine rd_not ?_
  | with_reducible refine rd_and ?_
  | with_reducible refine rd_or ?_
  | with_reducible refine rd_andV ?_
  | with_reducible refine rd_orV ?_
  | with_reducible refine rd_notV ?_
  | with_reducible refine rd_ifE ?_
  | with_reducible refine rd_chain ?_
  | with_reducible refine rd_chain3 ?_
  | with_reducible refine rd_nil ?_
  | with_reducible refine rd_cons ?_
  | with_reducible refine rd_call ?_
  | with_reducible refine rd_CB ?_
  | with_reducible refine rd_par ?_
  | with_reducible refine rd_par2 ?_
  | with_reducible refine rd_par3 ?_
  | with_reducible refine rd_par4 ?_
  | ((with_reducible refine rd_aug0 ?_); refine ⟨_, rfl, ?_⟩)
  | with_reducible refine rd_gname ?_
  | with_reducible refine rd_gcons ?_
  | with_reducible refine rd_gnil ?_
  | with_reducible refine rd_max ?_
  | with_reducible refine rd_min ?_
  | with_reducible refine rd_int1 ?_
  | with_reducible refine rd_abs ?_
  | with_reducible refine rd_lst ?_
  | with_reducible refine rd_tup ?_
  | with_reducible refine rd_bm ?_
  | with_reducible refine rd_fld0 ?_
  | with_reducible refine rd_sl0 ?_
  | with_reducible refine rd_noP ?_
  | with_reducible refine rd_part ?_
  | with_reducible refine rd_part2 ?_
  | with_reducible refine rd_meth0 ?_
  | with_reducible refine rd_star ?_
  | with_reducible refine rd_for ?_
  | with_reducible refine rd_rng1 ?_
  | with_reducible refine rd_rng2 ?_
  | with_reducible refine rd_rng3 ?_
  | with_reducible refine rd_iList ?_
  | with_reducible refine rd_iTup ?_
  | with_reducible refine rd_iEnum ?_
  | with_reducible refine rd_lc ?_
  | with_reducible refine rd_yes ?_
  | with_reducible refine rd_augS ?_
  | with_reducible refine rd_drawNew ?_
  | with_reducible refine rd_make0 ?_
  | with_reducible refine rd_next ?_
  | with_reducible refine rd_break ?_
  | with_reducible refine rd_cont ?_
  | with_reducible refine rd_iteTT ?_
  | with_reducible refine rd_iteFF ?_
  | with_reducible refine rd_iteNTT ?_
  | with_reducible refine rd_iteNFF ?_
  | with_reducible refine rd_con0 ?_
  | with_reducible refine rd_truO0 ?_
  | with_reducible refine rd_gfld0 ?_
  | with_reducible refine rd_dc ?_
  | with_reducible refine rd_iKeys ?_
  | with_reducible refine rd_dget0 ?_
  | with_reducible refine rd_dput0 ?_
  | with_reducible refine rd_dnot0 ?_
  | with_reducible refine rd_iEnumT ?_
  | with_reducible refine rd_raP0 ?_
  | with_reducible refine rd_xf0 ?_
  | with_reducible refine rd_cKw ?_
  | with_reducible refine rd_iStr ?_
  | with_reducible refine rd_gSub ?_
  | with_reducible refine rd_asgG ?_)
local macro_rules | `(tactic| walk_at "rd") => `(tactic| repeat walk_at "rd1")
local macro_rules | `(tactic| walk_at "len") => `(tactic| first
  | (intro vs H Q E h; obtain ⟨h2, _⟩ := h; rw [h2]; rfl)
  | (intro vs H Q E h; obtain ⟨_, h2, _⟩ := h; rw [h2]; rfl)
  | (intro vs H Q E h; obtain ⟨_, _, h2, _⟩ := h; rw [h2]; rfl)
  | (intro vs H Q E h; obtain ⟨_, _, _, h2, _⟩ := h; rw [h2]; rfl)
  | (intro vs H Q E h; obtain ⟨_, _, _, _, h2, _⟩ := h; rw [h2]; rfl)
  | (intro vs H Q E h; obtain ⟨_, _, _, _, _, h2, _⟩ := h; rw [h2]; rfl)
  | (intro vs H Q E h; obtain ⟨_, _, _, _, _, _, h2, _⟩ := h; rw [h2]; rfl)
  | (intro vs H Q E h; obtain ⟨_, _, _, _, _, _, _, h2, _⟩ := h; rw [h2]; rfl)
  | (intro vs H Q E h; obtain ⟨_, _, _, _, _, _, _, _, h2, _⟩ := h; rw [h2]; rfl)
  | (intro vs H Q E h; obtain ⟨_, _, _, _, _, _, _, _, _, h2, _⟩ := h; rw [h2]; rfl)
  | (intro vs H Q E h; obtain ⟨_, _, _, _, _, _, _, _, _, _, h2, _⟩ := h; rw [h2]; rfl)
  | (intro vs H Q E h; obtain ⟨_, _, _, _, _, _, _, _, _, _, _, h2, _⟩ := h; rw [h2]; rfl)
  | (intro vs H Q E h; obtain ⟨_, _, _, _, _, _, _, _, _, _, _, _, h2, _⟩ := h; rw [h2]; rfl))
section
variable {P : Program} {w : World} {K : PySem.W.Frag} {mg : Str → Option Value} {base : Heap} {C_Evidence C_Good C_Bad C_RightRounds C_WrongRound C_BadScript D_FALL : Addr}
theorem xal_judge_rounds (T : TX P K mg C_Evidence C_Good C_Bad C_RightRounds C_WrongRound C_BadScript D_FALL) : CalX P w K mg base 6 "judge_rounds" (spCheckRX C_BadScript) [] := by
  obtain ⟨f0, fd, D, dn⟩ := T.d_judge_rounds
  have X_check_round := xal_check_round (P := P) (w := w) (base := base) T
  refine calX0 D (D.fn.binds dn fun _ _ _ _ _ _ us hl => match us, hl with | [_, _], _ => rfl) .nil sc_judge_rounds (by walk_at "len") (fun cdv A outer s H vs Q E hr h => ?_)
  obtain ⟨a, v, xs, ds, rfl, ep, da, ld, hb, k⟩ := h
  refine ⟨_, (pss_cons (ps_expr (pe_cX X_check_round hr (by decide) rfl (fun σ => passAt (takes_of rfl rfl rfl rfl) σ) (pa_cons (pv 0) (pa_cons (pv 1) pa_nil))))
      (pss_cons ps_never
      (pss_one ps_never))), ?_⟩
  walk_at "rd"
  refine rd_callSd ?_
  walk_at "rd"
  exact rd_callSd2 ⟨a, v, xs, ds, rfl, ep, da, ld, hb, k⟩
end
end Sl

set_option Elab.async false
set_option linter.all false
set_option maxRecDepth 100000
set_option maxHeartbeats 8000000
set_option exponentiation.threshold 9000
namespace Sl
open PySem L2 C8 StX Silt
local macro_rules | `(tactic| walk_at "side") => `(tactic| first
  | exact cdivw (by omega) (by omega)
  | exact cmulw (by omega) (by omega) (by omega) (by omega)
  | exact Or.inr ⟨by omega, by omega⟩
  | exact Or.inl ⟨by omega, by omega⟩
  | omega
  | exact ⟨by omega, by omega, by decide⟩
  | decide)
local macro_rules | `(tactic| walk_at "rd1") => `(tactic| first
  | with_reducible refine rd_seq ?_
  | with_reducible refine rd_asg ?_
  | with_reducible refine rd_drop ?_
  | with_reducible refine rd_ret ?_
  | with_reducible refine rd_retN ?_
  | with_reducible refine rd_ifS ?_
  | ((with_reducible refine rd_var0 ?_); refine ⟨_, rfl, ?_⟩)
  | with_reducible refine rd_c ?_
  | with_reducible refine rd_op ?_
  | with_reducible refine rd_un ?_
  | with_reducible refine rd_I0 ?_
  | with_reducible refine rd_U ?_
  | ((with_reducible refine rd_I ?c ?_); (case c => walk_at "side"))
  | with_reducible refine rd_ipI ?_
  | with_reducible refine rd_eqI ?_
  | with_reducible refine rd_neI ?_
  | with_reducible refine rd_test ?_
  | with_reducible refine rd_tB ?_
  | with_reducible refine rd_bl ?_
  | with_reducible refine rd_not ?_
  | with_reducible refine rd_and ?_
  | with_reducible refine rd_or ?_
  | with_reducible refine rd_andV ?_
  | with_reducible refine rd_orV ?_
  | with_reducible refine rd_notV ?_
  | with_reducible refine rd_ifE ?_
  | with_reducible refine rd_chain ?_
  | with_reducible refine rd_chain3 ?_
  | with_reducible refine rd_nil ?_
  | with_reducible refine rd_cons ?_
  | with_reducible refine rd_call ?_
  | with_reducible refine rd_CB ?_
  | with_reducible refine rd_par ?_
  | with_reducible refine rd_par2 ?_
  | with_reducible refine rd_par3 ?_
  | with_reducible refine rd_par4 ?_
  | ((with_reducible refine rd_aug0 ?_); refine ⟨_, rfl, ?_⟩)
  | with_reducible refine rd_gname ?_
  | with_reducible refine rd_gcons ?_
  | with_reducible refine rd_gnil ?_
  | with_reducible refine rd_max ?_
  | with_reducible refine rd_min ?_
  | with_reducible refine rd_int1 ?_
  | with_reducible refine rd_abs ?_
  | with_reducible refine rd_lst ?_
  | with_reducible refine rd_tup ?_
  | with_reducible refine rd_bm ?_
  | with_reducible refine rd_fld0 ?_
  | with_reducible refine rd_sl0 ?_
  | with_reducible refine rd_noP ?_
  | with_reducible refine rd_part ?_
  | with_reducible refine rd_part2 ?_
  | with_reducible refine rd_meth0 ?_
  | with_reducible refine rd_star ?_
  | with_reducible refine rd_for ?_
  | with_reducible refine rd_rng1 ?_
  | with_reducible refine rd_rng2 ?_
  | with_reducible refine rd_rng3 ?_
  | with_reducible refine rd_iList ?_
  | with_reducible refine rd_iTup ?_
  | with_reducible refine rd_iEnum ?_
  | with_reducible refine rd_lc ?_
  | with_reducible refine rd_yes ?_
  | with_reducible refine rd_augS ?_
  | with_reducible refine rd_drawNew ?_
  | with_reducible refine rd_make0 ?_
  | with_reducible refine rd_next ?_
  | with_reducible refine rd_break ?_
  | with_reducible refine rd_cont ?_
  | with_reducible refine rd_iteTT ?_
  | with_reducible refine rd_iteFF ?_
  | with_reducible refine rd_iteNTT ?_
  | with_reducible refine rd_iteNFF ?_
  | with_reducible refine rd_con0 ?_
  | with_reducible refine rd_truO0 ?_
  | with_reducible refine rd_gfld0 ?_
  | with_reducible refine rd_dc ?_
  | with_reducible refine rd_iKeys ?_
  | with_reducible refine rd_dget0 ?_
  | with_reducible refine rd_dput0 ?_
  | with_reducible refine rd_dnot0 ?_
  | with_reducible refine rd_iEnumT ?_
  | with_reducible refine rd_raP0 ?_
  | with_reducible refine rd_xf0 ?_
  | with_reducible refine rd_cKw ?_
  | with_reducible refine rd_iStr ?_
  | with_reducible refine rd_gSub ?_
  | with_reducible refine rd_asgG ?_)
local macro_rules | `(tactic| walk_at "rd") => `(tactic| repeat walk_at "rd1")
local macro_rules | `(tactic| walk_at "len") => `(tactic| first
  | (intro vs H Q E h; obtain ⟨h2, _⟩ := h; rw [h2]; rfl)
  | (intro vs H Q E h; obtain ⟨_, h2, _⟩ := h; rw [h2]; rfl)
  | (intro vs H Q E h; obtain ⟨_, _, h2, _⟩ := h; rw [h2]; rfl)
  | (intro vs H Q E h; obtain ⟨_, _, _, h2, _⟩ := h; rw [h2]; rfl)
  | (intro vs H Q E h; obtain ⟨_, _, _, _, h2, _⟩ := h; rw [h2]; rfl)
  | (intro vs H Q E h; obtain ⟨_, _, _, _, _, h2, _⟩ := h; rw [h2]; rfl)
  | (intro vs H Q E h; obtain ⟨_, _, _, _, _, _, h2, _⟩ := h; rw [h2]; rfl)
  | (intro vs H Q E h; obtain ⟨_, _, _, _, _, _, _, h2, _⟩ := h; rw [h2]; rfl)
  | (intro vs H Q E h; obtain ⟨_, _, _, _, _, _, _, _, h2, _⟩ := h; rw [h2]; rfl)
  | (intro vs H Q E h; obtain ⟨_, _, _, _, _, _, _, _, _, h2, _⟩ := h; rw [h2]; rfl)
  | (intro vs H Q E h; obtain ⟨_, _, _, _, _, _, _, _, _, _, h2, _⟩ := h; rw [h2]; rfl)
  | (intro vs H Q E h; obtain ⟨_, _, _, _, _, _, _, _, _, _, _, h2, _⟩ := h; rw [h2]; rfl)
  | (intro vs H Q E h; obtain ⟨_, _, _, _, _, _, _, _, _, _, _, _, h2, _⟩ := h; rw [h2]; rfl))
local macro_rules | `(tactic| walk_at "rd1") => `(tactic| first
  | with_reducible refine rd_iZip ?_)
section
variable {σ : L2.St} {H : Hp} {Q : VK} {K : PySem.W.Frag} {g : TG} {tt : TT} {te : TE} {vs : List Nat}
theorem lcR_zip {a b : Addr} {xs ys : List V} (n : Nat) (hn : n = min xs.length ys.length) (Pv : Addr → Nat → Hp → Prop) (hl : ∀ D i H', H D = none → Pv D i H' → SqL K H' a xs ∧ SqL K H' b ys) (h0 : ∀ D H', H D = none → Same H H' → H' D = some (.lst []) → H' = upd H D (.lst []) → Pv D 0 H')
    (hs : ∀ D (i : Nat) x y H' t H2, H D = none → i < n → xs[i]? = some x → ys[i]? = some y → Pv D i H' → H' t = none → Same H' H2 → H2 t = some (.tup [x, y]) → g (.ref t) (wipe σ vs) H2 fun σ2 H2 => wipe σ2 vs = wipe σ vs ∧ tt σ2 H2 fun b H3 => if b = true then te σ2 H3 fun y H4 => LcE D (Pv D (i + 1)) y H4 else Pv D (i + 1) H3)
    (hd : ∀ D H', H D = none → Pv D n H' → Q (.ref D) H') : LcR (Itz K a b) g tt te vs σ H Q :=
  lcR_gen _ n Pv h0 (fun D i H' hD h p => ⟨xs, ys, xs[i]'(by omega), ys[i]'(by omega), (hl D i H' hD p).1, (hl D i H' hD p).2, by simp, by simp⟩) (fun D H' hD p => ⟨xs, ys, (hl D _ H' hD p).1, (hl D _ H' hD p).2, by omega⟩)
    (fun D i H' x H2 hD hi p ⟨t, x1, y1, e1, e2, e3, e4, e5⟩ => by subst e1; subst e3; exact hs D i x1 y1 H' t _ hD hi (e4 xs (hl D i _ hD p).1) (e5 ys (hl D i _ hD p).2) p e2 (Same.new (Same.refl H') e2) upd_same) hd
end
def fallB (l : List Int) (i : Nat) : Bool := decide (l.getD i 0 < l.getD (i + 1) 0)
theorem fall_any : ∀ l : List Int, ((List.range (l.length - 1)).map (fallB l)).any id = (fallIn l).isSome
  | [] => rfl
  | [_] => rfl
  | a :: b :: r => by
    have ih := fall_any (b :: r)
    have e : (a :: b :: r).length - 1 = ((b :: r).length - 1) + 1 := rfl
    rw [e, List.range_succ_eq_map, List.map_cons, List.map_map, List.any_cons]
    have e2 : (fallB (a :: b :: r) ∘ Nat.succ) = fallB (b :: r) := by
      funext i
      rfl
    rw [e2, ih]
    show (decide (a < b) || _) = _
    conv => rhs; unfold fallIn
    by_cases c : a < b
    · rw [if_pos c, decide_eq_true c]
      rfl
    · rw [if_neg c, decide_eq_false c]
      rfl
def spIsW : Sp := fun vs H Q _ => ∃ (l : Addr) (v : V) (ls : List (List Int)) (x : Deed), vs = [.ref l, v] ∧ LaysP H l ls ∧ Dt H v (deedD x) ∧ ls.length ≤ 1000 ∧ ls.flatten.length ≤ 1000 ∧ ∀ H', Same H H' → Q (.bl (badB ls x)) H'
def spLRounds : Sp := fun vs H Q _ => ∃ (a : Addr) (m r : Nat) (xs : List V) (ds : List Deed), vs = [.ref a, .int (m : Int), .int (r : Int)] ∧ H a = some (.lst xs) ∧ DnAll H xs (ds.map deedD) ∧ ds.length ≤ 6 ∧ r ≤ 9 ∧ m ≤ 20 ∧ okS m (RP r ds) ∧ ∀ H' v, Same H H' → toldP H' (toldR ds.length (wrongF (initL m) m (RP r ds))) v → Q v H'
section
variable {P : Program} {w : World} {K : PySem.W.Frag} {mg : Str → Option Value} {base : Heap} {C_Evidence C_Good C_Bad C_RightRounds C_WrongRound C_BadScript D_FALL : Addr}
theorem cal__law_is_wrong (T : TX P K mg C_Evidence C_Good C_Bad C_RightRounds C_WrongRound C_BadScript D_FALL) : Cal P w K mg base 1 "_law_is_wrong" (spIsW) [] := by
  obtain ⟨f0, fd, D, dn⟩ := T.d__law_is_wrong
  refine cal0 D (D.fn.binds dn fun _ _ _ _ _ _ us hl => match us, hl with | [_, _], _ => rfl) .nil sc__law_is_wrong (by walk_at "len") (fun cdv A outer s H vs Q E hr h => ?_)
  obtain ⟨l, v, ls, x, rfl, ⟨xs, ea, da⟩, dv, ll, lf, k⟩ := h
  have lx : xs.length = ls.length := by have := da.length; rw [List.length_map] at this; exact this
  refine ⟨_, (pss_cons (ps_s 2 sc__law_is_wrong.nd (pe_lst pa_nil))
      (pss_cut (ps_for PassesOwn.never rfl (pi_list (pv 0)) (pg_n 3 sc__law_is_wrong.nd) (pss_one (ps_s 2 sc__law_is_wrong.nd (pe_op op_cat (pv 2) (pe_callTy cr_lstOf (by rfl) T.b_list (by decide +kernel) (pa_cons (pv 3) pa_nil))))))
      (pss_cons (ps_if (pt_val (pe_callB (cr_any rfl) (by rfl) T.b_any (by decide +kernel) (pa_cons (pe_lc (own := [("_law_one", 4), ("_law_late", 5)]) (g := gTup _ 2 (gCons (gName 4) (gCons (gName 5) gNil))) (tt := tYes) rfl sc__law_is_wrong.nd (pi_zip rfl T.b_zip (pa_cons (pv 2) (pa_cons (pe_slice sl_list (pv 2) (po_some pe_int) po_none) pa_nil))) (blkOk_by (own := [("_law_one", 4), ("_law_late", 5)]) (N := N__law_is_wrong) (sc := fnScope s__law_is_wrong) (by decide +kernel)) (fun _ _ _ _ _ => (pg_tup rfl (pgs_cons (pg_n 4 sc__law_is_wrong.nd) (pgs_cons (pg_n 5 sc__law_is_wrong.nd) pgs_nil)))) (fun _ _ _ _ _ => pts_nil) (fun _ _ _ _ _ => (pe_cmpR op_lt (pv 4) (pv 5) (nomark _)))) pa_nil))) (pss_one (ps_ret pe_bl)) pss_nil)
      (pss_one (ps_ret (pe_and (pe_cmpR (op_neD hr.units) (pv 1) (pe_tup (pa_cons pe_str pa_nil)) (nomark _)) (pe_and (pe_not (pe_ix ix_tup (pv 1) pe_int (fun _ _ => rfl))) (pe_one (pe_cmpR op_lt (pe_ix ix_tup (pv 1) pe_int (fun _ _ => rfl)) (pe_op op_sub (pe_callB cr_lenS (by rfl) T.b_len (by decide +kernel) (pa_cons (pv 0) pa_nil)) pe_int) (nomark _)))))))))), ?_⟩
  walk_at "rd"
  refine rd_newL (by simp) fun D0 H0 _ s0 eD0 _ => ?_
  walk_at "rd"
  refine ⟨fun σ H' => ∃ (D : Addr) (v3 : Option V), Same H H' ∧ H' D = some (.lst (ls.flatten.map V.int)) ∧ σ = [some (.ref l), some v, some (.ref D), v3, none, none], ?_, ?_⟩
  · walk_at "rd"
    refine rd_lsR (SqL.of (s0 _ _ ea)) ?_
    refine forR_lst (xs := xs) (fun i σ H' => ∃ (D : Addr) (v3 : Option V), Same H H' ∧ H' D = some (.lst ((ls.take i).flatten.map V.int)) ∧ σ = [some (.ref l), some v, some (.ref D), v3, none, none]) (fun i σ H' ⟨_, _, s, _⟩ => SqL.of (s _ _ ea)) ⟨D0, _, s0, eD0, rfl⟩ ?_ ?_
    · rintro i y σ H1 hx ⟨D, v3, s1, eD, rfl⟩
      obtain ⟨d, hd, dn⟩ := (da.mono s1).get hx
      obtain ⟨l2, hl, rfl⟩ : ∃ l, ls[i]? = some l ∧ d = layD l := by
        rw [List.getElem?_map] at hd
        cases q : ls[i]? with
        | none => rw [q] at hd; cases hd
        | some l => rw [q] at hd; exact ⟨l, rfl, (Option.some.inj hd).symm⟩
      obtain ⟨tl, rfl, etl⟩ := dn.lay
      have el : (ls.take (i + 1)).flatten = (ls.take i).flatten ++ l2 := by
        rw [List.take_add_one, hl, List.flatten_append]
        simp
      have lfl : (ls.take i).flatten.length + l2.length ≤ 1000 := by
        have h1 := congrArg List.length el
        rw [List.length_append] at h1
        have h2 : (ls.take (i + 1)).flatten.length ≤ ls.flatten.length := by
          have := congrArg (fun z => z.flatten.length) (List.take_append_drop (i + 1) ls)
          simp only [List.flatten_append, List.length_append] at this
          omega
        omega
      walk_at "rd"
      refine ⟨tl, _, rfl, .inr (SqT.of etl), fun p hp => ?_⟩
      obtain ⟨H2, eH2⟩ : ∃ H2, H2 = upd H1 p (.lst (l2.map V.int)) := ⟨_, rfl⟩
      rw [← eH2]
      have s2 : Same H1 H2 := by rw [eH2]; exact Same.new (Same.refl H1) hp
      have ep : H2 p = some (.lst (l2.map V.int)) := by rw [eH2]; exact upd_same
      clear eH2
      refine rd_cat (s2 _ _ eD) ep (by rw [List.length_map, List.length_map]; omega) fun D2 H3 _ s3 eD2 _ => ?_
      refine ⟨D2, _, s1.trans (s2.trans s3), ?_, rfl⟩
      rw [eD2, el, List.map_append]
    · rintro σ H1 ⟨D, v3, s1, eD, rfl⟩
      rw [lx, List.take_length] at eD
      exact ⟨D, v3, s1, eD, rfl⟩
  rintro σ H1 ⟨D, v3, s1, eD, rfl⟩
  obtain ⟨l2, el⟩ : ∃ l2, l2 = ls.flatten := ⟨_, rfl⟩
  have k : ∀ H', Same H H' → Q (.bl ((fallIn l2).isSome || losesM ls x)) H' := by rw [el]; exact k
  rw [← el] at eD lf
  walk_at "rd"
  refine rd_slL (SqL.of eD) fun D2 H2 _ s2 eD2 _ => ?_
  rw [show cutV (l2.map V.int) (some 1) none = (l2.map V.int).drop 1 from cutN_drop (m := 1)] at eD2
  walk_at "rd"
  refine rd_zpR (SqL.of (s2 _ _ eD)) (SqL.of eD2) ?_
  refine lcR_zip (xs := l2.map V.int) (ys := (l2.map V.int).drop 1) (l2.length - 1) (by rw [List.length_drop, List.length_map]; omega) (fun W i H' => Same H2 H' ∧ H' W = some (.lst (((List.range i).map (fallB l2)).map V.bl))) (fun W i H' _ ⟨s, _⟩ => ⟨SqL.of ((s2.trans s) _ _ eD), SqL.of (s _ _ eD2)⟩) (fun W H' _ s e _ => ⟨s, e⟩) ?_ ?_
  · rintro W i y z H3 t H4 hW hi hy hz ⟨s3, eW⟩ _ s4 et
    obtain ⟨m1, hm1, rfl⟩ : ∃ m, l2[i]? = some m ∧ y = V.int m := by
      rw [List.getElem?_map] at hy
      cases q : l2[i]? with
      | none => rw [q] at hy; cases hy
      | some m => rw [q] at hy; exact ⟨m, rfl, (Option.some.inj hy).symm⟩
    obtain ⟨m2, hm2, rfl⟩ : ∃ m, l2[i + 1]? = some m ∧ z = V.int m := by
      rw [List.getElem?_drop, List.getElem?_map, Nat.add_comm] at hz
      cases q : l2[i + 1]? with
      | none => rw [q] at hz; cases hz
      | some m => rw [q] at hz; exact ⟨m, rfl, (Option.some.inj hz).symm⟩
    refine rd_gtup et rfl ?_
    walk_at "rd"
    refine ⟨rfl, ?_⟩
    walk_at "rd"
    refine rd_lcE (s4 _ _ eW) (by rw [List.length_map, List.length_map, List.length_range]; omega) fun H5 eH5 eW5 => ?_
    refine ⟨by rw [eH5]; exact Same.mut (s3.trans s4) hW, ?_⟩
    have ef : fallB l2 i = decide (m1 < m2) := by
      unfold fallB
      rw [List.getD_eq_getElem?_getD, List.getD_eq_getElem?_getD, hm1, hm2]
      rfl
    rw [eW5, List.range_succ, List.map_append, List.map_append, List.map_cons, List.map_nil, ef]
    rfl
  rintro W H3 hW ⟨s3, eW⟩
  walk_at "rd"
  refine ⟨W, _, rfl, SqL.of eW, ?_⟩
  rw [fall_any]
  have s13 := s1.trans (s2.trans s3)
  have k0 := k
  have k := k H3 s13
  cases hf : (fallIn l2).isSome
  · refine ⟨false, rfl, ?_⟩
    rw [hf] at k
    walk_at "rd"
    refine rd_newT (by simp) fun ft H4 _ s4 eft _ => ?_
    have dv4 := dv.mono (s13.trans s4)
    have k : ∀ H', Same H H' → Q (.bl (losesM ls x)) H' := by
      intro H' s
      have := k0 H' s
      rw [hf, Bool.false_or] at this
      exact this
    have s14 := s13.trans s4
    cases x with
    | fall =>
      refine rd_neD dv4 (.tup eft (.cons (.str "fall") .nil)) (shaped_deed _) (by decide +kernel) ?_
      rw [show PyData.eqv (deedD Deed.fall) (.tuple [.str "fall"]) = true from eqv_deed .fall]
      walk_at "rd"
      exact k H4 s14
    | bake ns p kp =>
      obtain ⟨t, u, rfl, et, eu⟩ := bake_inv dv4
      refine rd_neD dv4 (.tup eft (.cons (.str "fall") .nil)) (shaped_deed _) (by decide +kernel) ?_
      rw [show PyData.eqv (deedD (Deed.bake ns p kp)) (.tuple [.str "fall"]) = false from eqv_deed (.bake ns p kp)]
      walk_at "rd"
      refine rd_ixT et rfl ?_
      walk_at "rd"
      have k : ∀ H', Same H H' → Q (.bl (!kp && decide (p + 1 < ls.length))) H' := k
      cases kp
      · walk_at "rd"
        refine rd_ixT et rfl ?_
        walk_at "rd"
        refine rd_lenL (s14 _ _ ea) ?_
        walk_at "rd"
        rw [show decide ((p : Int) < (xs.length : Int) - 1) = decide (p + 1 < ls.length) from decide_eq_decide.mpr (by omega)]
        exact k H4 s14
      · walk_at "rd"
        exact k H4 s14
  · refine ⟨true, rfl, ?_⟩
    walk_at "rd"
    have := k0 H3 s13
    rw [hf, Bool.true_or] at this
    exact this
end
end Sl

set_option Elab.async false
set_option linter.all false
set_option maxRecDepth 100000
set_option maxHeartbeats 8000000
set_option exponentiation.threshold 9000
namespace Sl
open PySem L2 C8 StX Silt
local macro_rules | `(tactic| walk_at "side") => `(tactic| first
  | exact cdivw (by omega) (by omega)
  | exact cmulw (by omega) (by omega) (by omega) (by omega)
  | exact Or.inr ⟨by omega, by omega⟩
  | exact Or.inl ⟨by omega, by omega⟩
  | omega
  | exact ⟨by omega, by omega, by decide⟩
  | decide)
local macro_rules | `(tactic| walk_at "rd1") => `(tactic| first
  | with_reducible refine rd_seq ?_
  | with_reducible refine rd_asg ?_
  | with_reducible refine rd_drop ?_
  | with_reducible refine rd_ret ?_
  | with_reducible refine rd_retN ?_
  | with_reducible refine rd_ifS ?_
  | ((with_reducible refine rd_var0 ?_); refine ⟨_, rfl, ?_⟩)
  | with_reducible refine rd_c ?_
  | with_reducible refine rd_op ?_
  | with_reducible refine rd_un ?_
  | with_reducible refine rd_I0 ?_
  | with_reducible refine rd_U ?_
  | ((with_reducible refine rd_I ?c ?_); (case c => walk_at "side"))
  | with_reducible refine rd_ipI ?_
  | with_reducible refine rd_eqI ?_
  | with_reducible refine rd_neI ?_
  | with_reducible refine rd_test ?_
  | with_reducible refine rd_tB ?_
  | with_reducible refine rd_bl ?_
  | with_reducible refine rd_not ?_
  | with_reducible refine rd_and ?_
  | with_reducible refine rd_or ?_
  | with_reducible refine rd_andV ?_
  | with_reducible refine rd_orV ?_
  | with_reducible refine rd_notV ?_
  | with_reducible refine rd_ifE ?_
  | with_reducible refine rd_chain ?_
  | with_reducible refine rd_chain3 ?_
  | with_reducible refine rd_nil ?_
  | with_reducible refine rd_cons ?_
  | with_reducible refine rd_call ?_
  | with_reducible refine rd_CB ?_
  | with_reducible refine rd_par ?_
  | with_reducible refine rd_par2 ?_
  | with_reducible refine rd_par3 ?_
  | with_reducible refine rd_par4 ?_
  | ((with_reducible refine rd_aug0 ?_); refine ⟨_, rfl, ?_⟩)
  | with_reducible refine rd_gname ?_
  | with_reducible refine rd_gcons ?_
  | with_reducible refine rd_gnil ?_
  | with_reducible refine rd_max ?_
  | with_reducible refine rd_min ?_
  | with_reducible refine rd_int1 ?_
  | with_reducible refine rd_abs ?_
  | with_reducible refine rd_lst ?_
  | with_reducible refine rd_tup ?_
  | with_reducible refine rd_bm ?_
  | with_reducible refine rd_fld0 ?_
  | with_reducible refine rd_sl0 ?_
  | with_reducible refine rd_noP ?_
  | with_reducible refine rd_part ?_
  | with_reducible refine rd_part2 ?_
  | with_reducible refine rd_meth0 ?_
  | with_reducible refine rd_star ?_
  | with_reducible refine rd_for ?_
  | with_reducible refine rd_rng1 ?_
  | with_reducible refine rd_rng2 ?_
  | with_reducible refine rd_rng3 ?_
  | with_reducible refine rd_iList ?_
  | with_reducible refine rd_iTup ?_
  | with_reducible refine rd_iEnum ?_
  | with_reducible refine rd_lc ?_
  | with_reducible refine rd_yes ?_
  | with_reducible refine rd_augS ?_
  | with_reducible refine rd_drawNew ?_
  | with_reducible refine rd_make0 ?_
  | with_reducible refine rd_next ?_
  | with_reducible refine rd_break ?_
  | with_reducible refine rd_cont ?_
  | with_reducible refine rd_iteTT ?_
  | with_reducible refine rd_iteFF ?_
  | with_reducible refine rd_iteNTT ?_
  | with_reducible refine rd_iteNFF ?_
  | with_reducible refine rd_con0 ?_
  | with_reducible refine rd_truO0 ?_
  | with_reducible refine rd_gfld0 ?_
  | with_reducible refine rd_dc ?_
  | with_reducible refine rd_iKeys ?_
  | with_reducible refine rd_dget0 ?_
  | with_reducible refine rd_dput0 ?_
  | with_reducible refine rd_dnot0 ?_
  | with_reducible refine rd_iEnumT ?_
  | with_reducible refine rd_raP0 ?_
  | with_reducible refine rd_xf0 ?_
  | with_reducible refine rd_cKw ?_
  | with_reducible refine rd_iStr ?_
  | with_reducible refine rd_gSub ?_
  | with_reducible refine rd_asgG ?_)
local macro_rules | `(tactic| walk_at "rd") => `(tactic| repeat walk_at "rd1")
local macro_rules | `(tactic| walk_at "len") => `(tactic| first
  | (intro vs H Q E h; obtain ⟨h2, _⟩ := h; rw [h2]; rfl)
  | (intro vs H Q E h; obtain ⟨_, h2, _⟩ := h; rw [h2]; rfl)
  | (intro vs H Q E h; obtain ⟨_, _, h2, _⟩ := h; rw [h2]; rfl)
  | (intro vs H Q E h; obtain ⟨_, _, _, h2, _⟩ := h; rw [h2]; rfl)
  | (intro vs H Q E h; obtain ⟨_, _, _, _, h2, _⟩ := h; rw [h2]; rfl)
  | (intro vs H Q E h; obtain ⟨_, _, _, _, _, h2, _⟩ := h; rw [h2]; rfl)
  | (intro vs H Q E h; obtain ⟨_, _, _, _, _, _, h2, _⟩ := h; rw [h2]; rfl)
  | (intro vs H Q E h; obtain ⟨_, _, _, _, _, _, _, h2, _⟩ := h; rw [h2]; rfl)
  | (intro vs H Q E h; obtain ⟨_, _, _, _, _, _, _, _, h2, _⟩ := h; rw [h2]; rfl)
  | (intro vs H Q E h; obtain ⟨_, _, _, _, _, _, _, _, _, h2, _⟩ := h; rw [h2]; rfl)
  | (intro vs H Q E h; obtain ⟨_, _, _, _, _, _, _, _, _, _, h2, _⟩ := h; rw [h2]; rfl)
  | (intro vs H Q E h; obtain ⟨_, _, _, _, _, _, _, _, _, _, _, h2, _⟩ := h; rw [h2]; rfl)
  | (intro vs H Q E h; obtain ⟨_, _, _, _, _, _, _, _, _, _, _, _, h2, _⟩ := h; rw [h2]; rfl))
theorem rep_da {H : Hp} {xs : List V} {ds : List Deed} (da : DnAll H xs (ds.map deedD)) : ∀ r, DnAll H (List.replicate r xs).flatten ((RP r ds).map deedD)
  | 0 => .nil
  | r + 1 => by
    rw [List.replicate_succ, List.flatten_cons, RP_succ, List.map_append]
    exact da.append (rep_da da r)
theorem rd_repL {H : Hp} {Q : VK} {l : Addr} {k : Int} {r : Nat} {xs : List V} (hk : k = (r : Int)) (e : H l = some (.lst xs)) (h1 : xs.length * r ≤ 10000) (h2 : r ≤ 10000) (h : ∀ p H', H p = none → Same H H' → H' p = some (.lst (List.replicate r xs).flatten) → Q (.ref p) H') : rRep (.ref l) (.int k) H Q := by
  subst hk
  refine ⟨l, _, xs, rfl, rfl, e, by omega, by omega, Nat.le_trans (show _ ≤ 10000 from h1) (by decide), fun p hp => ?_⟩
  exact h p _ hp (Same.new (Same.refl H) hp) upd_same
theorem rd_lstL {K : PySem.W.Frag} {H : Hp} {Q : VK} {a : Addr} {xs : List V} (e : H a = some (.lst xs)) (h : ∀ p H', H p = none → Same H H' → H' p = some (.lst xs) → Q (.ref p) H') : rLstOf K [.ref a] H Q :=
  ⟨a, xs, rfl, .inl (SqL.of e), fun p hp => h p _ hp (Same.new (Same.refl H) hp) upd_same⟩
section
variable {P : Program} {w : World} {K : PySem.W.Frag} {mg : Str → Option Value} {base : Heap} {C_Evidence C_Good C_Bad C_RightRounds C_WrongRound C_BadScript D_FALL : Addr}
theorem cal__law_rounds_wrong (T : TX P K mg C_Evidence C_Good C_Bad C_RightRounds C_WrongRound C_BadScript D_FALL) : Cal P w K mg base 2 "_law_rounds_wrong" (spLRounds) [] := by
  obtain ⟨f0, fd, D, dn⟩ := T.d__law_rounds_wrong
  have G__law_days := cal__law_days (P := P) (w := w) (base := base) T
  have G__law_is_wrong := cal__law_is_wrong (P := P) (w := w) (base := base) T
  refine cal0 D (D.fn.binds dn fun _ _ _ _ _ _ us hl => match us, hl with | [_, _, _], _ => rfl) .nil sc__law_rounds_wrong (by walk_at "len") (fun cdv A outer s H vs Q E hr h => ?_)
  obtain ⟨a, m, r, xs, ds, rfl, ep, da, ld, hr9, hm, os, k⟩ := h
  have lx := DeedsP.len da
  have lR := RP_len r ds
  have hn := Nat.mul_le_mul hr9 ld
  refine ⟨_, (pss_cons (ps_par (i := 3) (j := 4) rfl sc__law_rounds_wrong.nd rfl rfl (by decide) rfl rfl (pa_cons (pe_c G__law_days hr (by decide) rfl (pa_cons (pe_op op_rep (pe_callTy cr_lstOf (by rfl) T.b_list (by decide +kernel) (pa_cons (pv 0) pa_nil)) (pv 2)) (pa_cons (pv 1) pa_nil))) (pa_cons (pe_callB cr_lenS (by rfl) T.b_len (by decide +kernel) (pa_cons (pv 0) pa_nil)) pa_nil)) (by rfl))
      (pss_cons (ps_for PassesOwn.never rfl (pi_enum (by rfl) T.b_enumerate (pa_cons (pv 3) pa_nil)) (pg_tup rfl (pgs_cons (pg_n 5 sc__law_rounds_wrong.nd) (pgs_cons (pg_n 6 sc__law_rounds_wrong.nd) pgs_nil))) (pss_one (ps_if (pt_val (pe_c G__law_is_wrong hr (by decide) rfl (pa_cons (pv 6) (pa_cons (pe_ix ix_list (pv 0) (pe_op op_modN (pv 5) (pv 4)) (fun _ _ => rfl)) pa_nil)))) (pss_one (ps_ret (pe_tup (pa_cons (pe_op op_fdivW (pv 5) (pv 4)) (pa_cons (pe_op op_add (pe_op op_modN (pv 5) (pv 4)) pe_int) pa_nil))))) pss_nil)))
      (pss_one (ps_ret pe_non)))), ?_⟩
  walk_at "rd"
  refine rd_lstL ep fun p1 H1 _ s1 e1 => ?_
  walk_at "rd"
  refine rd_repL rfl e1 (by rw [lx, Nat.mul_comm]; omega) (by omega) fun p2 H2 _ s2 e2 => ?_
  walk_at "rd"
  have s02 := s1.trans s2
  refine ⟨p2, m, _, RP r ds, rfl, e2, rep_da (da.mono s02) r, os, by omega, by omega, fun H3 F s3 hF rp => ?_⟩
  have s03 := s02.trans s3
  walk_at "rd"
  refine rd_lenL (s03 _ _ ep) ?_
  rw [lx]
  walk_at "rd"
  obtain ⟨zs, eF, ra⟩ := rp
  have lz : zs.length = r * ds.length := by rw [ra.1, rowsF_len, lR]
  refine rd_enR (SqL.of eF) ?_
  refine forR_enum (xs := zs) (fun j σ H' => ∃ (v5 v6 : Option V), Same H3 H' ∧ (∀ w, wrongF (initL m) m (RP r ds) = some w → j < w) ∧ σ = [some (.ref a), some (.int (m : Int)), some (.int (r : Int)), some (.ref F), some (.int (ds.length : Int)), v5, v6]) (fun j σ H' ⟨_, _, s, _⟩ => SqL.of (s _ _ eF)) ⟨_, _, Same.refl H3, (fun w hw => wrongF_pos hw), rfl⟩ ?_ ?_
  · rintro j y σ H4 t H5 hy ⟨v5, v6, s4, hw, rfl⟩ _ s5 et _
    have hj := (List.getElem?_eq_some_iff.mp hy).1
    rw [lz] at hj
    have hpos : 0 < ds.length := Nat.pos_of_ne_zero fun z => by rw [z] at hj; omega
    have hq : j / ds.length < r := Nat.div_lt_of_lt_mul (by rw [Nat.mul_comm]; exact hj)
    have hi : j % ds.length < ds.length := Nat.mod_lt _ hpos
    have ej : j / ds.length * ds.length + j % ds.length = j := by rw [Nat.mul_comm]; exact Nat.div_add_mod j ds.length
    have hX := RP_at (ds := ds) hq hi
    rw [ej] at hX
    have hx : ds[j % ds.length]? = some ds[j % ds.length] := List.getElem?_eq_getElem hi
    generalize hxx : ds[j % ds.length] = x at hx
    rw [hx] at hX
    obtain ⟨l, el, lp⟩ := (ra.mono (s4.trans s5)).2 j _ (rowsF_at (s := (initL m, (m : Int))) hX)
    rw [hy] at el
    cases el
    have hsc := wrongF_scan (s := (initL m, (m : Int))) hX hw
    obtain ⟨b3, b4⟩ := stF_leM os (j + 1)
    have etk : (RP r ds).take (j + 1) = (RP r ds).take j ++ [x] := by rw [List.take_add_one, hX]; rfl
    rw [etk, stF_snoc] at b3 b4
    generalize hst : stepS (stF (initL m, (m : Int)) ((RP r ds).take j)) x = st at *
    refine rd_gtup et rfl ?_
    walk_at "rd"
    have s35 := s4.trans s5
    obtain ⟨dv, hdv, dx⟩ := deeds_get2 (da.mono (s03.trans s35)) hx
    have efm : ((j : Int)).fmod (ds.length : Int) = ((j % ds.length : Nat) : Int) := by
      rw [Int.fmod_eq_emod_of_nonneg _ (by omega)]
      rfl
    have efd : ((j : Int)).fdiv (ds.length : Int) = ((j / ds.length : Nat) : Int) := by
      rw [Int.fdiv_eq_ediv_of_nonneg _ (by omega)]
      rfl
    rw [efm]
    refine rd_ixL ((s03.trans s35) _ _ ep) (atI_nat' hdv) ?_
    walk_at "rd"
    refine ⟨l, dv, st.1, x, rfl, lp, dx.dt, by omega, by omega, fun H6 s6 => ?_⟩
    have s36 := s35.trans s6
    refine ⟨_, rfl, ?_⟩
    cases hb : badB st.1 x
    · walk_at "rd"
      exact ⟨_, _, s36, hsc.2 hb, rfl⟩
    · walk_at "rd"
      refine rd_I (cdivw (by omega) (Int.le_trans (show (ds.length : Int) ≤ 1000 by omega) (by decide +kernel))) ?_
      walk_at "rd"
      refine rd_newT (by simp) fun t2 H7 _ s7 et2 _ => ?_
      refine k H7 _ (s03.trans (s36.trans s7)) ?_
      rw [hsc.1 hb]
      refine ⟨t2, rfl, ?_⟩
      rw [et2, efm]
      show _ = some (HO.tup [V.int (((j + 1 - 1) / ds.length : Nat) : Int), V.int (((j + 1 - 1) % ds.length + 1 : Nat) : Int)])
      rw [Nat.add_sub_cancel]
      rfl
  · rintro σ H4 ⟨v5, v6, s4, hw, rfl⟩
    walk_at "rd"
    refine k H4 .non (s03.trans s4) ?_
    cases hq : wrongF (initL m) m (RP r ds) with
    | none => rfl
    | some w =>
      have h1 := hw w hq
      have h2 := wrongF_le hq
      omega
end
end Sl

set_option Elab.async false
set_option linter.all false
set_option maxRecDepth 100000
set_option maxHeartbeats 8000000
set_option exponentiation.threshold 9000
namespace Sl
open PySem L2 C8 StX Silt LiI RT
local macro_rules | `(tactic| walk_at "side") => `(tactic| first
  | exact cdivw (by omega) (by omega)
  | exact cmulw (by omega) (by omega) (by omega) (by omega)
  | exact Or.inr ⟨by omega, by omega⟩
  | exact Or.inl ⟨by omega, by omega⟩
  | omega
  | exact ⟨by omega, by omega, by decide⟩
  | decide)
local macro_rules | `(tactic| walk_at "rd1") => `(tactic| first
  | with_reducible refine rd_seq ?_
  | with_reducible refine rd_asg ?_
  | with_reducible refine rd_drop ?_
  | with_reducible refine rd_ret ?_
  | with_reducible refine rd_retN ?_
  | with_reducible refine rd_ifS ?_
  | ((with_reducible refine rd_var0 ?_); refine ⟨_, rfl, ?_⟩)
  | with_reducible refine rd_c ?_
  | with_reducible refine rd_op ?_
  | with_reducible refine rd_un ?_
  | with_reducible refine rd_I0 ?_
  | with_reducible refine rd_U ?_
  | ((with_reducible refine rd_I ?c ?_); (case c => walk_at "side"))
  | with_reducible refine rd_ipI ?_
  | with_reducible refine rd_eqI ?_
  | with_reducible refine rd_neI ?_
  | with_reducible refine rd_test ?_
  | with_reducible refine rd_tB ?_
  | with_reducible refine rd_bl ?_
  | with_reducible refine rd_not ?_
  | with_reducible refine rd_and ?_
  | with_reducible refine rd_or ?_
  | with_reducible refine rd_andV ?_
  | with_reducible refine rd_orV ?_
  | with_reducible refine rd_notV ?_
  | with_reducible refine rd_ifE ?_
  | with_reducible refine rd_chain ?_
  | with_reducible refine rd_chain3 ?_
  | with_reducible refine rd_nil ?_
  | with_reducible refine rd_cons ?_
  | with_reducible refine rd_call ?_
  | with_reducible refine rd_CB ?_
  | with_reducible refine rd_par ?_
  | with_reducible refine rd_par2 ?_
  | with_reducible refine rd_par3 ?_
  | with_reducible refine rd_par4 ?_
  | ((with_reducible refine rd_aug0 ?_); refine ⟨_, rfl, ?_⟩)
  | with_reducible refine rd_gname ?_
  | with_reducible refine rd_gcons ?_
  | with_reducible refine rd_gnil ?_
  | with_reducible refine rd_max ?_
  | with_reducible refine rd_min ?_
  | with_reducible refine rd_int1 ?_
  | with_reducible refine rd_abs ?_
  | with_reducible refine rd_lst ?_
  | with_reducible refine rd_tup ?_
  | with_reducible refine rd_bm ?_
  | with_reducible refine rd_fld0 ?_
  | with_reducible refine rd_sl0 ?_
  | with_reducible refine rd_noP ?_
  | with_reducible refine rd_part ?_
  | with_reducible refine rd_part2 ?_
  | with_reducible refine rd_meth0 ?_
  | with_reducible refine rd_star ?_
  | with_reducible refine rd_for ?_
  | with_reducible refine rd_rng1 ?_
  | with_reducible refine rd_rng2 ?_
  | with_reducible refine rd_rng3 ?_
  | with_reducible refine rd_iList ?_
  | with_reducible refine rd_iTup ?_
  | with_reducible refine rd_iEnum ?_
  | with_reducible refine rd_lc ?_
  | with_reducible refine rd_yes ?_
  | with_reducible refine rd_augS ?_
  | with_reducible refine rd_drawNew ?_
  | with_reducible refine rd_make0 ?_
  | with_reducible refine rd_next ?_
  | with_reducible refine rd_break ?_
  | with_reducible refine rd_cont ?_
  | with_reducible refine rd_iteTT ?_
  | with_reducible refine rd_iteFF ?_
  | with_reducible refine rd_iteNTT ?_
  | with_reducible refine rd_iteNFF ?_
  | with_reducible refine rd_con0 ?_
  | with_reducible refine rd_truO0 ?_
  | with_reducible refine rd_gfld0 ?_
  | with_reducible refine rd_dc ?_
  | with_reducible refine rd_iKeys ?_
  | with_reducible refine rd_dget0 ?_
  | with_reducible refine rd_dput0 ?_
  | with_reducible refine rd_dnot0 ?_
  | with_reducible refine rd_iEnumT ?_
  | with_reducible refine rd_raP0 ?_
  | with_reducible refine rd_xf0 ?_
  | with_reducible refine rd_cKw ?_
  | with_reducible refine rd_iStr ?_
  | with_reducible refine rd_gSub ?_
  | with_reducible refine rd_asgG ?_)
local macro_rules | `(tactic| walk_at "rd") => `(tactic| repeat walk_at "rd1")
local macro_rules | `(tactic| walk_at "len") => `(tactic| first
  | (intro vs H Q E h; obtain ⟨h2, _⟩ := h; rw [h2]; rfl)
  | (intro vs H Q E h; obtain ⟨_, h2, _⟩ := h; rw [h2]; rfl)
  | (intro vs H Q E h; obtain ⟨_, _, h2, _⟩ := h; rw [h2]; rfl)
  | (intro vs H Q E h; obtain ⟨_, _, _, h2, _⟩ := h; rw [h2]; rfl)
  | (intro vs H Q E h; obtain ⟨_, _, _, _, h2, _⟩ := h; rw [h2]; rfl)
  | (intro vs H Q E h; obtain ⟨_, _, _, _, _, h2, _⟩ := h; rw [h2]; rfl)
  | (intro vs H Q E h; obtain ⟨_, _, _, _, _, _, h2, _⟩ := h; rw [h2]; rfl)
  | (intro vs H Q E h; obtain ⟨_, _, _, _, _, _, _, h2, _⟩ := h; rw [h2]; rfl)
  | (intro vs H Q E h; obtain ⟨_, _, _, _, _, _, _, _, h2, _⟩ := h; rw [h2]; rfl)
  | (intro vs H Q E h; obtain ⟨_, _, _, _, _, _, _, _, _, h2, _⟩ := h; rw [h2]; rfl)
  | (intro vs H Q E h; obtain ⟨_, _, _, _, _, _, _, _, _, _, h2, _⟩ := h; rw [h2]; rfl)
  | (intro vs H Q E h; obtain ⟨_, _, _, _, _, _, _, _, _, _, _, h2, _⟩ := h; rw [h2]; rfl)
  | (intro vs H Q E h; obtain ⟨_, _, _, _, _, _, _, _, _, _, _, _, h2, _⟩ := h; rw [h2]; rfl))
def spLaw (K : PySem.W.Frag) : Sp := fun vs H Q _ => ∃ (a : Addr) (ns : List Int), vs = [.ref a] ∧ SqL K H a (ns.map V.int) ∧ ns.length ≤ 63 ∧ ∀ H', Q (.bl true) H'
theorem JudgeR.mono {C1 C2 : Addr} {H H' : Hp} {x : Addr} {m : Nat} {ds : List Deed} (s : Same H H') (h : JudgeR C1 C2 H x m ds) : JudgeR C1 C2 H' x m ds := by
  rcases h with ⟨h1, h2⟩ | ⟨q, p, h1, h2⟩
  · exact .inl ⟨h1, h2.mono s⟩
  · exact .inr ⟨q, p, h1, h2.mono s⟩
theorem toldP.mono {H H' : Hp} {o : Option (Nat × Nat)} {v : V} (s : Same H H') (h : toldP H o v) : toldP H' o v := by
  cases o with
  | none => exact h
  | some qp =>
    obtain ⟨q, p⟩ := qp
    obtain ⟨t, rfl, et⟩ : ∃ t, v = .ref t ∧ _ := h
    exact ⟨t, rfl, s _ _ et⟩
theorem depth_deed (x : Deed) : (deedD x).depth ≤ 60 := by
  cases x with
  | fall => decide +kernel
  | bake ns p k =>
    have h1 := depth_nat ns
    have h4 : PyData.depth (.str "bake") = 0 := by decide +kernel
    simp [deedD, PyData.depth, PyData.depthAll, h4]
    omega
theorem shaped_deeds (ds : List Deed) : SeqAt.shaped (.list (ds.map deedD)) = true :=
  shaped_listMap (fun x => (Bool.and_eq_true_iff.mp (shaped_deed x)).1) depth_deed ds
theorem rd_isiCf {K : PySem.W.Frag} {H : Hp} {Q : VK} {C C2 a dx : Addr} {fs : List (Str × V)} (c : InsC K C2) (n : PySem.W.kitOne K (.ref C2) (.ref C) = some false) (e : H a = some (.ins C2 dx fs)) (h : Q (.bl false) H) : rIsi K [.ref a, .ref C] H Q := ⟨_, _, _, _, false, rfl, .own C, .base (TyOf.ins e c.cl c.ha c.hn c.htk c.hm), n, h⟩
theorem two_ok {m : Nat} (h : 0 < m) (k : Bool) : okS m [.fall, .bake [0, 1] 0 k] := by
  refine ⟨True.intro, m + 1, rfl, ⟨by simp, by simp, fun n hn => by simp at hn; omega⟩, m + 1 + 1 - 2, ?_, True.intro⟩
  show (if _ then _ else _) = _
  rw [if_pos ⟨fun n hn => by simp at hn; omega, by show 0 < m + 1 + 1 - 2; omega⟩]
  rfl
theorem rd_lstOfT {K : PySem.W.Frag} {H : Hp} {Q : VK} {a : Addr} {xs : List V} (e : H a = some (.tup xs)) (h : ∀ p H', H p = none → Same H H' → H' p = some (.lst xs) → H' = upd H p (.lst xs) → Q (.ref p) H') : rLstOf K [.ref a] H Q :=
  ⟨a, xs, rfl, .inr (SqT.of e), fun p hp => h p _ hp (Same.new (Same.refl H) hp) upd_same rfl⟩
/-- both plays tell the same -/
theorem wrongR_nine {m : Nat} {ds : List Deed} (os : okS m ds) (hg : 0 ≤ gainS ds) {r : Nat} (hr : r = 9 ∨ (r = 0 ∧ ds = [])) : toldR ds.length (wrongF (initL m) m (RP r ds)) = wrongR m ds := by
  rcases hr with rfl | ⟨rfl, rfl⟩
  · obtain ⟨G, eG, eK⟩ := gain_nat os hg
    rw [rounds_two os eK (by decide)]
    rfl
  · rfl
theorem okS_nine {m : Nat} {ds : List Deed} (os : okS m ds) (hg : 0 ≤ gainS ds) (r : Nat) : okS m (RP r ds) := by
  obtain ⟨G, eG, eK⟩ := gain_nat os hg
  have := (okS_rounds os eK r 0).1
  rwa [Nat.zero_mul, Nat.add_zero] at this
/-- the first deed alone -/
theorem first_alone {m : Nat} {ds : List Deed} {n : Nat} (hn : n = ds.length) (h : toldR n (wrongF (initL m) m (RP 2 ds)) = some (0, 1)) : wrongF (initL m) m (ds.take 1) = some 1 := by
  cases hq : wrongF (initL m) m (RP 2 ds) with
  | none => rw [hq] at h; cases h
  | some w =>
    rw [hq] at h
    have h : some ((w - 1) / n, (w - 1) % n + 1) = some (0, 1) := h
    have h1 := wrongF_pos hq
    have h2 := wrongF_le hq
    have e := Option.some.inj h
    have e1 : (w - 1) / n = 0 := (Prod.mk.inj e).1
    have e2 : (w - 1) % n = 0 := by have := (Prod.mk.inj e).2; omega
    have hw : w = 1 := by
      have := Nat.div_add_mod (w - 1) n
      rw [e1, e2] at this
      omega
    subst hw
    cases ds with
    | nil => simp [RP] at h2
    | cons x r =>
      have e3 : RP 2 (x :: r) = x :: (r ++ RP 1 (x :: r)) := by rw [RP_succ]; rfl
      rw [e3] at hq
      show wrongF (initL m) m [x] = some 1
      unfold wrongF at hq ⊢
      split at hq
      · rename_i c
        rw [if_pos c]
      · rename_i c
        exfalso
        cases hz : wrongF (stepD (initL m) (dayB (m : Int) x) x) (dayB (m : Int) x) (r ++ RP 1 (x :: r)) with
        | none => rw [hz] at hq; cases hq
        | some w2 =>
          rw [hz] at hq
          have := wrongF_pos hz
          have hq : some (w2 + 1) = some 1 := hq
          have := Option.some.inj hq
          omega
theorem few_right {m : Nat} {ds : List Deed} (os : okS m ds) (hg : 0 ≤ gainS ds) (h : wrongR m ds = none) : wrongF (initL m) m (RP 3 ds) = none := by
  obtain ⟨G, eG, eK⟩ := gain_nat os hg
  rw [rounds_two os eK (by decide)]
  unfold wrongR at h
  cases hq : wrongF (initL m) m (RP 2 ds) with
  | none => rfl
  | some w => rw [hq] at h; cases h
section
variable {K : PySem.W.Frag} {H : Hp} {Q : VK} {E : XK} {C : Addr}
theorem rd_newRR {r : Int} (h : ∀ x H', Same H H' → RRP C H' x r → Q (.ref x) H') : rMake C (spRRInit C) [] E Q [.int r] H :=
  rd_make fun x dx H2 s hx ex => ⟨x, dx, H, r, rfl, s, hx, ex, fun H' s' rp => ⟨rfl, h x H' s' rp⟩⟩
theorem rd_newWR {q p : Nat} (h : ∀ x H', Same H H' → WRP C H' x q p → Q (.ref x) H') : rMake C (spWRInit C) [] E Q [.int (q : Int), .int (p : Int)] H :=
  rd_make fun x dx H2 s hx ex => ⟨x, dx, H, q, p, rfl, s, hx, ex, fun H' s' rp => ⟨rfl, h x H' s' rp⟩⟩
end
section
variable {P : Program} {w : World} {K : PySem.W.Frag} {mg : Str → Option Value} {base : Heap} {C_Evidence C_Good C_Bad C_RightRounds C_WrongRound C_BadScript D_FALL : Addr}
theorem fn_law (T : TX P K mg C_Evidence C_Good C_Bad C_RightRounds C_WrongRound C_BadScript D_FALL) {f0 : Addr} {fd : FuncData} (D : C8.Def K mg "law" s_law f0 fd) : FnOk P w K mg base C8.CX0 7 f0 fd P_law (spLaw K) := by
  have G__law_draw := cal__law_draw (P := P) (w := w) (base := base) T
  have G__law_script := cal__law_script (P := P) (w := w) (base := base) T
  have G_judge_rounds := cal_judge_rounds (P := P) (w := w) (base := base) T
  have G__law_rounds_wrong := cal__law_rounds_wrong (P := P) (w := w) (base := base) T
  have G_RightRounds_shows := met_RightRounds_shows (P := P) (w := w) (base := base) T
  have G_WrongRound_shows := met_WrongRound_shows (P := P) (w := w) (base := base) T
  have G_RightRounds_bool := met_RightRounds_bool (P := P) (w := w) (base := base) T
  have G_WrongRound_bool := met_WrongRound_bool (P := P) (w := w) (base := base) T
  have G_WrongRound_init := mak_WrongRound_init (P := P) (w := w) (base := base) T
  have G__law_first_wrong := cal__law_first_wrong (P := P) (w := w) (base := base) T
  have G_RightRounds_init := mak_RightRounds_init (P := P) (w := w) (base := base) T
  have X_judge_rounds := xal_judge_rounds (P := P) (w := w) (base := base) T
  refine fn0 D.fn sc_law (by walk_at "len") (fun cdv A outer s H vs Q E hr h => ?_)
  obtain ⟨sc, ns, rfl, hsc, hns, k⟩ := h
  refine ⟨_, (pss_cons (ps_s 1 sc_law.nd (pe_c G__law_draw hr (by decide) rfl (pa_cons (pv 0) (pa_cons pe_int (pa_cons pe_int pa_nil)))))
      (pss_cons (ps_s 2 sc_law.nd (pe_c G__law_script hr (by decide) rfl (pa_cons (pv 0) (pa_cons pe_int (pa_cons pe_int (pa_cons (pv 1) pa_nil))))))
      (pss_cut (ps_if (PW.pt (pw_and (pt_cmpR op_eq (pe_c G__law_draw hr (by decide) rfl (pa_cons (pv 0) (pa_cons pe_int (pa_cons pe_int pa_nil)))) pe_int (nomark _)) (pw_and1 (pt_cmpR op_gt (pv 1) pe_int (nomark _))))) (pss_one (ps_s 2 sc_law.nd (pe_lst (pa_cons (pe_tup (pa_cons pe_str pa_nil)) (pa_cons (pe_tup (pa_cons pe_str (pa_cons (pe_tup (pa_cons pe_int (pa_cons pe_int pa_nil))) (pa_cons pe_int (pa_cons (pe_cmpR op_gt (pv 1) pe_int (nomark _)) pa_nil))))) pa_nil))))) pss_nil)
      (pss_cut (ps_s 3 sc_law.nd (pe_callB (cr_sum rfl) (by rfl) T.b_sum (by decide +kernel) (pa_cons (pe_lc (own := [("_law_deed", 4)]) (g := gName 4) (tt := tYes) rfl sc_law.nd (pi_list (pv 2)) (blkOk_by (own := [("_law_deed", 4)]) (N := N_law) (sc := fnScope s_law) (by decide +kernel)) (fun _ _ _ _ _ => (pg_n 4 sc_law.nd)) (fun _ _ _ _ _ => pts_nil) (fun _ _ _ _ _ => (pe_ifExp (pt_cmpR (opK rEqD K (op_eqD hr.units)) (pv 4) (pe_tup (pa_cons pe_str pa_nil)) (nomark _)) pe_int (pe_op op_sub pe_int (pe_callB (callK rLenS K cr_lenS) (by rfl) T.b_len (by decide +kernel) (pa_cons (pe_ix (ixK rIxT K ix_tup) (pv 4) pe_int (fun _ _ => rfl)) pa_nil)))))) pa_nil)))
      (pss_cons (ps_if (pt_cmpR op_lt (pv 3) pe_int (nomark _)) (pss_one (ps_tryAsO (i := 5) rfl rfl sc_law.nd rfl rfl ⟨rfl, by decide, .inl T.mg_BadScript⟩ takesN (fun W pn xe tk => (pss_cons (ps_expr (pe_cX X_judge_rounds hr (by decide) rfl (fun σ => passAt tk σ) (pa_cons (pv 2) (pa_cons (pv 1) pa_nil))))
      (pss_one (ps_ret pe_bl)))) (fun a oe cls d pn hz hf => (pss_one (ps_ret (pe_cmpR op_isNn (pe_xf T.y_BadScript.xf T.y_BadScript.np hz hf (pv 5)) pe_non (nomark _))))))) pss_nil)
      (pss_cut (ps_par (i := 6) (j := 7) rfl sc_law.nd rfl rfl (by decide) rfl rfl (pa_cons (pe_c G_judge_rounds hr (by decide) rfl (pa_cons (pv 2) (pa_cons (pv 1) pa_nil))) (pa_cons (pe_c G__law_rounds_wrong hr (by decide) rfl (pa_cons (pv 2) (pa_cons (pv 1) (pa_cons (pe_ifExp (pt_cmpR (op_neD hr.units) (pv 2) (pe_lst pa_nil) (nomark _)) pe_int pe_int) pa_nil)))) pa_nil)) (by rfl))
      (pss_cut (ps_if (PW.pt (pw_or (pt_cmpR op_ne (pe_callTy (cr_alt (cr_boolO G_RightRounds_bool hr (by decide)) (cr_boolO G_WrongRound_bool hr (by decide))) (by rfl) T.b_bool (by decide +kernel) (pa_cons (pv 6) pa_nil)) (pe_cmpR op_isNn (pv 7) pe_non (nomark _)) (nomark _)) (pw_or1 (pt_not (pt_val (pe_alt (pe_mt G_RightRounds_shows hr (by decide) (pv 6) (pa_cons (pv 2) (pa_cons (pv 1) pa_nil))) (pe_mt G_WrongRound_shows hr (by decide) (pv 6) (pa_cons (pv 2) (pa_cons (pv 1) pa_nil))))))))) (pss_one (ps_ret pe_bl)) pss_nil)
      (pss_cons (ps_if (pt_val (pe_callB call_isi (by rfl) T.b_isinstance (by decide +kernel) (pa_cons (pv 6) (pa_cons (pe_gc rfl T.g_WrongRound) pa_nil)))) (pss_cut (ps_if (PW.pt (pw_or (pt_cmpR (op_neD hr.units) (pe_tup (pa_cons (pe_fld (pv 6) rfl) (pa_cons (pe_fld (pv 6) rfl) pa_nil))) (pv 7) (nomark _)) (pw_or1 (pt_val (pe_mt G_WrongRound_shows hr (by decide) (pe_mk G_WrongRound_init hr (by decide) rfl (pa_cons (pe_ix ix_tup (pv 7) pe_int (fun _ _ => rfl)) (pa_cons (pe_op op_add (pe_ix ix_tup (pv 7) pe_int (fun _ _ => rfl)) pe_int) pa_nil))) (pa_cons (pv 2) (pa_cons (pv 1) pa_nil))))))) (pss_one (ps_ret pe_bl)) pss_nil)
      (pss_cut (ps_if (pt_val (pe_mt G_WrongRound_shows hr (by decide) (pe_mk G_WrongRound_init hr (by decide) rfl (pa_cons (pe_op op_add (pe_ix ix_tup (pv 7) pe_int (fun _ _ => rfl)) pe_int) (pa_cons (pe_ix ix_tup (pv 7) pe_int (fun _ _ => rfl)) pa_nil))) (pa_cons (pv 2) (pa_cons (pv 1) pa_nil)))) (pss_one (ps_ret pe_bl)) pss_nil)
      (pss_cut (ps_if (PW.pt (pw_and (pt_cmpR (op_eqD hr.units) (pv 7) (pe_tup (pa_cons pe_int (pa_cons pe_int pa_nil))) (nomark _)) (pw_and1 (pt_cmpR op_ne (pe_c G__law_first_wrong hr (by decide) rfl (pa_cons (pe_slice sl_list (pv 2) po_none (po_some pe_int)) (pa_cons (pv 1) pa_nil))) pe_int (nomark _))))) (pss_one (ps_ret pe_bl)) pss_nil)
      (pss_one (ps_ret (pe_and (pe_not (pe_mt G_RightRounds_shows hr (by decide) (pe_mk G_RightRounds_init hr (by decide) rfl (pa_cons pe_int pa_nil)) (pa_cons (pv 2) (pa_cons (pv 1) pa_nil)))) (pe_one (pe_not (pe_mt G_RightRounds_shows hr (by decide) (pe_mk G_RightRounds_init hr (by decide) rfl (pa_cons pe_int pa_nil)) (pa_cons (pv 2) (pa_cons (pv 1) pa_nil))))))))))) pss_nil)
      (pss_cons (ps_asg (pe_tup (pa_cons pe_int (pa_cons pe_int pa_nil))) (pg_tup rfl (pgs_cons (pg_n 8 sc_law.nd) (pgs_cons (pg_n 9 sc_law.nd) pgs_nil))))
      (pss_cut (ps_for PassesOwn.never rfl (pi_list (pv 2)) (pg_n 4 sc_law.nd) (pss_cut (ps_if (pt_cmpR (op_neD hr.units) (pv 4) (pe_tup (pa_cons pe_str pa_nil)) (nomark _)) (pss_one (ps_s 8 sc_law.nd (pe_callB (cr_max2 rfl) (by rfl) T.b_max (by decide +kernel) (pa_cons (pv 8) (pa_cons (pe_op op_sub (pe_op op_add (pe_callB (cr_max rfl) (by rfl) T.b_max (by decide +kernel) (pa_cons (pe_op op_cat (pe_callTy cr_lstOf (by rfl) T.b_list (by decide +kernel) (pa_cons (pe_ix ix_tup (pv 4) pe_int (fun _ _ => rfl)) pa_nil)) (pe_lst (pa_cons (pe_op op_add (pe_ix ix_tup (pv 4) pe_int (fun _ _ => rfl)) (pe_callB cr_lenS (by rfl) T.b_len (by decide +kernel) (pa_cons (pe_ix ix_tup (pv 4) pe_int (fun _ _ => rfl)) pa_nil))) pa_nil))) pa_nil)) pe_int) (pv 9)) pa_nil))))) pss_nil)
      (pss_one (ps_s 9 sc_law.nd (pe_op op_add (pv 9) (pe_ifExp (pt_cmpR (op_eqD hr.units) (pv 4) (pe_tup (pa_cons pe_str pa_nil)) (nomark _)) pe_int (pe_op op_sub pe_int (pe_callB cr_lenS (by rfl) T.b_len (by decide +kernel) (pa_cons (pe_ix ix_tup (pv 4) pe_int (fun _ _ => rfl)) pa_nil)))))))))
      (pss_cut (ps_s 10 sc_law.nd (pe_ifExp (pt_cmpR op_eq (pv 3) pe_int (nomark _)) pe_int (pe_op op_add (pe_op op_fdivW (pe_callB (cr_max2 rfl) (by rfl) T.b_max (by decide +kernel) (pa_cons pe_int (pa_cons (pe_op op_sub (pe_op op_add (pv 8) pe_int) (pv 1)) pa_nil))) (pv 3)) pe_int)))
      (pss_cut (ps_if (PW.pt (pw_or (pt_cmpR op_ne (pe_fld (pv 6) rfl) (pv 10) (nomark _)) (pw_or (pt_val (pe_mt G_RightRounds_shows hr (by decide) (pe_mk G_RightRounds_init hr (by decide) rfl (pa_cons (pe_op op_add (pv 10) pe_int) pa_nil)) (pa_cons (pv 2) (pa_cons (pv 1) pa_nil)))) (pw_or1 (pt_val (pe_mt G_WrongRound_shows hr (by decide) (pe_mk G_WrongRound_init hr (by decide) rfl (pa_cons pe_int (pa_cons pe_int pa_nil))) (pa_cons (pv 2) (pa_cons (pv 1) pa_nil)))))))) (pss_one (ps_ret pe_bl)) pss_nil)
      (pss_cut (ps_if (PW.pt (pw_and (pt_cmpR op_lt (pv 1) pe_int (nomark _)) (pw_and (pt_cmpR op_lt (pe_callB cr_lenS (by rfl) T.b_len (by decide +kernel) (pa_cons (pv 2) pa_nil)) pe_int (nomark _)) (pw_and1 (pt_cmpR op_notNn (pe_c G__law_first_wrong hr (by decide) rfl (pa_cons (pe_op op_rep (pe_callTy cr_lstOf (by rfl) T.b_list (by decide +kernel) (pa_cons (pv 2) pa_nil)) pe_int) (pa_cons (pv 1) pa_nil))) pe_non (nomark _)))))) (pss_one (ps_ret pe_bl)) pss_nil)
      (pss_cons (ps_for PassesOwn.never rfl (pi_tup (pe_tup (pa_cons (pe_un un_neg pe_int) (pa_cons pe_int (pa_cons pe_non (pa_cons pe_bl pa_nil)))))) (pg_n 11 sc_law.nd) (pss_one (ps_tryAsO (i := 5) rfl rfl sc_law.nd rfl rfl ⟨rfl, by decide, .inl T.mg_BadScript⟩ takesN (fun W pn xe tk => (pss_cons (ps_expr (pe_cX X_judge_rounds hr (by decide) rfl (fun σ => passAt tk σ) (pa_cons (pv 2) (pa_cons (pv 11) pa_nil))))
      (pss_one (ps_ret pe_bl)))) (fun a oe cls d pn hz hf => (pss_one (ps_if (pt_cmpR op_notNn (pe_xf T.y_BadScript.xf T.y_BadScript.np hz hf (pv 5)) pe_non (nomark _)) (pss_one (ps_ret pe_bl)) pss_nil))))))
      (pss_one (ps_ret pe_bl)))))))))))))))), ?_⟩
  walk_at "rd"
  refine ⟨sc, ns, _, _, rfl, hsc, hns, by omega, by omega, fun H1 n s1 n0 n1 => ?_⟩
  obtain ⟨m, rfl⟩ : ∃ m : Nat, n = (m : Int) := ⟨n.toNat, by omega⟩
  have hsc1 := L2.Same.seq s1 hsc
  walk_at "rd"
  refine ⟨sc, ns, _, _, m, rfl, hsc1, hns, by omega, by omega, fun H2 D0 xs0 ds0 s2 eD0 da0 os0 ld0 hD0 => ?_⟩
  have hsc2 := L2.Same.seq s2 hsc1
  walk_at "rd"
  refine ⟨fun σ H' => ∃ (D : Addr) (xs : List V) (ds : List Deed), H' D = some (.lst xs) ∧ DnAll H' xs (ds.map deedD) ∧ okS m ds ∧ ds.length ≤ 5 ∧ σ = [some (.ref sc), some (.int (m : Int)), some (.ref D)] ++ List.replicate 9 none, ?_, ?_⟩
  · walk_at "rd"
    refine ⟨sc, ns, _, _, rfl, hsc2, hns, by omega, by omega, fun H3 n s3 n0 n1 => ?_⟩
    walk_at "rd"
    refine rd_ite (fun c => ?_) (fun c => ?_)
    · walk_at "rd"
      refine rd_ite (fun c2 => ?_) (fun c2 => ?_)
      · walk_at "rd"
        refine rd_newT (by simp) fun t1 H4 _ s4 et1 _ => ?_
        walk_at "rd"
        refine rd_newT (by simp) fun u1 H5 _ s5 eu1 _ => ?_
        walk_at "rd"
        refine rd_newT (by simp) fun t2 H6 _ s6 et2 _ => ?_
        walk_at "rd"
        refine rd_newL (by simp) fun D H7 _ s7 eD _ => ?_
        refine ⟨D, _, [.fall, .bake [0, 1] 0 (decide ((1 : Int) < (m : Int)))], eD, ?_, two_ok (by omega) _, Nat.le_of_lt_succ (show 2 < 6 by decide), rfl⟩
        exact .cons (.tup ((s5.trans (s6.trans s7)) _ _ et1) (.cons (.str "fall") .nil)) (.cons (.tup (s7 _ _ et2) (.cons (.str "bake") (.cons (.tup ((s6.trans s7) _ _ eu1) (.cons (.int 0) (.cons (.int 1) .nil))) (.cons (.int 0) (.cons (.bl _) .nil))))) .nil)
      · walk_at "rd"
        exact ⟨D0, xs0, ds0, s3 _ _ eD0, da0.mono s3, os0, by omega, rfl⟩
    · walk_at "rd"
      exact ⟨D0, xs0, ds0, s3 _ _ eD0, da0.mono s3, os0, by omega, rfl⟩
  rintro σ H3 ⟨D, xs, ds, eD, da, os, ld, rfl⟩
  have lx := DeedsP.len da
  walk_at "rd"
  refine ⟨fun σ H' => ∃ v4, Same H3 H' ∧ σ = [some (.ref sc), some (.int (m : Int)), some (.ref D), some (.int (gainS ds)), v4] ++ List.replicate 7 none, ?_, ?_⟩
  · walk_at "rd"
    refine rd_lsR (SqL.of eD) ?_
    refine lcR_lst (xs := xs) (fun W i H' => Same H3 H' ∧ H' W = some (.lst (((ds.take i).map gainB).map V.int))) (fun W i H' _ ⟨s, _⟩ => SqL.of (s _ _ eD)) (fun W H' _ s e _ => ⟨s, e⟩) ?_ ?_
    · rintro W i y H4 hW hy ⟨s4, eW⟩
      obtain ⟨x, hx, dx⟩ := deeds_get (da.mono s4) hy
      have hi := (List.getElem?_eq_some_iff.mp hx).1
      walk_at "rd"
      refine ⟨rfl, ?_⟩
      walk_at "rd"
      refine rd_newT (by simp) fun ft H5 _ s5 eft _ => ?_
      refine rd_eqD (dx.mono s5).dt (.tup eft (.cons (.str "fall") .nil)) (shaped_deed _) (by decide +kernel) ?_
      rw [show PyData.eqv (deedD x) (.tuple [.str "fall"]) = isFall x from eqv_deed x]
      refine ⟨_, rfl, ?_⟩
      have fin : ∀ H2, Same H4 H2 → LcE W (fun H' => Same H3 H' ∧ H' W = some (.lst (((ds.take (i + 1)).map gainB).map V.int))) (.int (gainB x)) H2 := fun H2 s2 => by
        refine rd_lcE (s2 _ _ eW) (by rw [List.length_map, List.length_map, List.length_take]; omega) fun H3 eH3 eW3 => ?_
        refine ⟨by rw [eH3]; exact Same.mut (s4.trans s2) hW, ?_⟩
        rw [eW3, List.take_add_one, hx, List.map_append, List.map_append]
        rfl
      cases x with
      | fall =>
        rw [show isFall Deed.fall = true from rfl]
        walk_at "rd"
        exact fin H5 s5
      | bake us p kp =>
        rw [show isFall (Deed.bake us p kp) = false from rfl]
        obtain ⟨t, u, rfl, et, eu⟩ := bake_inv (dx.mono s5).dt
        walk_at "rd"
        refine rd_ixT et rfl ?_
        walk_at "rd"
        refine rd_lenT eu ?_
        walk_at "rd"
        have := fin H5 s5
        unfold gainB at this
        unfold natV
        rw [List.length_map]
        exact this
    rintro W H4 hW ⟨s4, eW⟩
    rw [show ds.take xs.length = ds by rw [lx, List.take_length]] at eW
    walk_at "rd"
    refine rd_sum (SqL.of eW) ?_
    walk_at "rd"
    exact ⟨_, s4, rfl⟩
  rintro σ H4 ⟨v4, s4, rfl⟩
  have eD4 := s4 _ _ eD
  have da4 := da.mono s4
  walk_at "rd"
  refine rd_ite (fun hg => ?_) (fun hg => ?_)
  · walk_at "rd"
    refine rd_tryAs ?_
    walk_at "rd"
    refine rd_callSd ?_
    walk_at "rd"
    refine rd_callSd2 ⟨D, _, xs, ds, rfl, eD4, da4, by omega, .inr ⟨m, rfl, by omega, os, hg⟩, fun dd H5 s5 ed => ?_⟩
    refine rd_caughtAs T.y_BadScript.e fun ea hea => ?_
    walk_at "rd"
    refine rd_xf ed rfl ?_
    walk_at "rd"
    refine rd_isN0 ?_
    exact k _
  have hg : 0 ≤ gainS ds := by omega
  walk_at "rd"
  refine ⟨fun σ H' => ∃ (x : Addr) (v : V), Same H4 H' ∧ JudgeR C_RightRounds C_WrongRound H' x m ds ∧ toldP H' (wrongR m ds) v ∧ σ = [some (.ref sc), some (.int (m : Int)), some (.ref D), some (.int (gainS ds)), v4, none, some (.ref x), some v] ++ List.replicate 4 none, ?_, ?_⟩
  · walk_at "rd"
    refine ⟨D, m, xs, ds, rfl, eD4, da4, by omega, by omega, os, hg, fun H5 x s5 jp => ?_⟩
    walk_at "rd"
    refine rd_newL (by simp) fun el H6 _ s6 eel _ => ?_
    have s46 := s5.trans s6
    refine rd_neD (.lst (s46 _ _ eD4) (da4.mono s46).dt) (.lst eel .nil) (shaped_deeds ds) (by rfl) ?_
    rw [eqv_emp]
    refine ⟨_, rfl, ?_⟩
    cases hd : ds.isEmpty with
    | true =>
      rw [List.isEmpty_map, hd]
      walk_at "rd"
      have hn : ds = [] := List.isEmpty_iff.mp hd
      refine ⟨D, m, 0, xs, ds, rfl, s46 _ _ eD4, da4.mono s46, by omega, by omega, by omega, okS_nine os hg 0, fun H7 v s7 hv => ?_⟩
      rw [wrongR_nine os hg (.inr ⟨rfl, hn⟩)] at hv
      walk_at "rd"
      exact ⟨x, v, s46.trans s7, jp.mono (s6.trans s7), hv, rfl⟩
    | false =>
      rw [List.isEmpty_map, hd]
      walk_at "rd"
      refine ⟨D, m, 9, xs, ds, rfl, s46 _ _ eD4, da4.mono s46, by omega, by omega, by omega, okS_nine os hg 9, fun H7 v s7 hv => ?_⟩
      rw [wrongR_nine os hg (.inl rfl)] at hv
      walk_at "rd"
      exact ⟨x, v, s46.trans s7, jp.mono (s6.trans s7), hv, rfl⟩
  rintro σ H5 ⟨x, v, s5, jp, hv, rfl⟩
  have eD5 := s5 _ _ eD4
  have da5 := da4.mono s5
  have l24 : ds.length ≤ 24 := by omega
  have m20 : m ≤ 20 := by omega
  rcases jp with ⟨hw, hx⟩ | ⟨q, p, hw, hx⟩
  · rw [hw] at hv
    obtain rfl : v = .non := hv
    obtain ⟨dx, ex⟩ := id hx
    walk_at "rd"
    refine ⟨fun σ H' => Same H5 H' ∧ σ = [some (.ref sc), some (.int (m : Int)), some (.ref D), some (.int (gainS ds)), v4, none, some (.ref x), some .non] ++ List.replicate 4 none, ?_, ?_⟩
    · walk_at "rd"
      refine .inl (rd_boolO ex ⟨x, rfl, true, rfl, ?_⟩)
      walk_at "rd"
      refine rd_isN0 ?_
      refine ⟨rfl, _, rfl, rd_iteNF (by simp) ?_⟩
      walk_at "rd"
      refine .inl ?_
      walk_at "rd"
      refine ⟨x, dx, _, rfl, ex, rfl, ?_⟩
      walk_at "rd"
      refine ⟨x, D, _, m, xs, ds, rfl, hx, eD5, da5, l24, m20, os, hg, fun H6 s6 => ?_⟩
      rw [decide_eq_true ⟨rfl, hw⟩]
      refine ⟨true, rfl, rd_iteNTT ?_⟩
      walk_at "rd"
      exact ⟨s6, rfl⟩
    rintro σ H6 ⟨s6, rfl⟩
    have eD6 := s6 _ _ eD5
    have da6 := da5.mono s6
    have ex6 := s6 _ _ ex
    walk_at "rd"
    refine rd_isiCf T.i_RightRounds T.nc_RightRounds_WrongRound ex6 ?_
    walk_at "rd"
    refine rd_newT (by simp) fun t0 H7 _ s7 et0 _ => ?_
    refine rd_gtup et0 rfl ?_
    walk_at "rd"
    have eD7 := s7 _ _ eD6
    have da7 := da6.mono s7
    refine ⟨fun σ H' => ∃ v4, Same H7 H' ∧ σ = [some (.ref sc), some (.int (m : Int)), some (.ref D), some (.int (gainS ds)), v4, none, some (.ref x), some .non, some (.int (deepS (0, 0) ds).1), some (.int (deepS (0, 0) ds).2), none, none], ?_, ?_⟩
    · walk_at "rd"
      refine rd_lsR (SqL.of eD7) ?_
      refine forR_lst (xs := xs) (fun j σ H' => ∃ v4, Same H7 H' ∧ σ = [some (.ref sc), some (.int (m : Int)), some (.ref D), some (.int (gainS ds)), v4, none, some (.ref x), some .non, some (.int (deepS (0, 0) (ds.take j)).1), some (.int (deepS (0, 0) (ds.take j)).2), none, none]) (fun j σ H' ⟨_, s, _⟩ => SqL.of (s _ _ eD7)) ⟨_, Same.refl H7, rfl⟩ ?_ ?_
      · rintro j y σ H8 hy ⟨v4, s8, rfl⟩
        obtain ⟨z, hz, dz⟩ := deeds_get (da7.mono s8) hy
        have etk : ds.take (j + 1) = ds.take j ++ [z] := by rw [List.take_add_one, hz]; rfl
        have es : deepS (0, 0) (ds.take (j + 1)) = stepDp (deepS (0, 0) (ds.take j)) z := by rw [etk, deepS_snoc]
        generalize hst : deepS (0, 0) (ds.take j) = st at *
        walk_at "rd"
        refine ⟨fun σ H' => Same H8 H' ∧ σ = [some (.ref sc), some (.int (m : Int)), some (.ref D), some (.int (gainS ds)), some y, none, some (.ref x), some .non, some (.int (stepDp st z).1), some (.int st.2), none, none], ?_, ?_⟩
        · walk_at "rd"
          refine rd_newT (by simp) fun ft H9 _ s9 eft _ => ?_
          have dz9 := dz.mono s9
          refine rd_neD dz9.dt (.tup eft (.cons (.str "fall") .nil)) (shaped_deed _) (by decide +kernel) ?_
          rw [show PyData.eqv (deedD z) (.tuple [.str "fall"]) = isFall z from eqv_deed z]
          refine ⟨_, rfl, ?_⟩
          cases z with
          | fall =>
            rw [show isFall Deed.fall = true from rfl]
            refine rd_iteFF ?_
            walk_at "rd"
            exact ⟨s9, rfl⟩
          | bake us p kp =>
            rw [show isFall (Deed.bake us p kp) = false from rfl]
            obtain ⟨t, u, rfl, et, eu⟩ := bake_inv dz9.dt
            refine rd_iteTT ?_
            walk_at "rd"
            refine rd_ixT et rfl ?_
            walk_at "rd"
            refine rd_lstOfT eu fun p1 H10 _ s10 ep1 _ => ?_
            walk_at "rd"
            refine rd_ixT (s10 _ _ et) rfl ?_
            walk_at "rd"
            refine rd_ixT (s10 _ _ et) rfl ?_
            walk_at "rd"
            refine rd_lenT (s10 _ _ eu) ?_
            walk_at "rd"
            have hus := okD_len (okS_all os _ (List.mem_of_getElem? hz))
            refine rd_newL (by simp) fun l1 H11 _ s11 el1 _ => ?_
            refine rd_cat (s11 _ _ ep1) el1 (by unfold natV; simp; omega) fun l H12 _ s12 el _ => ?_
            have el2 : H12 l = some (.lst ((us.map (fun (n : Nat) => (n : Int)) ++ [(p : Int) + (us.length : Int)]).map V.int)) := by
              rw [el]
              unfold natV
              simp
            walk_at "rd"
            refine rd_maxL (m := 0) (SqL.of el2) (by simp) fun mx h1 h2 => ?_
            rw [mxL_uniq h1 h2]
            walk_at "rd"
            exact ⟨s9.trans (s10.trans (s11.trans s12)), rfl⟩
        rintro σ H9 ⟨s9, rfl⟩
        have s89 := s8.trans s9
        walk_at "rd"
        refine rd_newT (by simp) fun ft H10 _ s10 eft _ => ?_
        have dz10 := dz.mono (s9.trans s10)
        refine rd_eqD dz10.dt (.tup eft (.cons (.str "fall") .nil)) (shaped_deed _) (by decide +kernel) ?_
        rw [show PyData.eqv (deedD z) (.tuple [.str "fall"]) = isFall z from eqv_deed z]
        refine ⟨_, rfl, ?_⟩
        cases z with
        | fall =>
          rw [show isFall Deed.fall = true from rfl]
          walk_at "rd"
          exact ⟨_, s89.trans s10, by rw [es]; rfl⟩
        | bake us p kp =>
          rw [show isFall (Deed.bake us p kp) = false from rfl]
          obtain ⟨t, u, rfl, et, eu⟩ := bake_inv dz10.dt
          walk_at "rd"
          refine rd_ixT et rfl ?_
          walk_at "rd"
          refine rd_lenT eu ?_
          walk_at "rd"
          refine ⟨some (.ref t), s89.trans s10, ?_⟩
          rw [es, show (natV us).length = us.length by unfold natV; rw [List.length_map]]
          rfl
      · rintro σ H8 ⟨v4, s8, rfl⟩
        rw [show ds.take xs.length = ds by rw [lx, List.take_length]]
        exact ⟨_, s8, rfl⟩
    rintro σ H8 ⟨w4, s8, rfl⟩
    have eD8 := s8 _ _ eD7
    have da8 := da7.mono s8
    have ex8 := (s7.trans s8) _ _ ex6
    walk_at "rd"
    refine ⟨fun σ H' => H' = H8 ∧ σ = [some (.ref sc), some (.int (m : Int)), some (.ref D), some (.int (gainS ds)), w4, none, some (.ref x), some .non, some (.int (deepS (0, 0) ds).1), some (.int (deepS (0, 0) ds).2), some (.int (roundsF m ds)), none], ?_, ?_⟩
    · have er : roundsF m ds = if gainS ds = 0 then 2 else max 0 ((deepS (0, 0) ds).1 + 1 - (m : Int)) / gainS ds + 2 := rfl
      walk_at "rd"
      refine rd_ite (fun c => ?_) (fun c => ?_)
      · walk_at "rd"
        refine ⟨rfl, ?_⟩
        rw [er, if_pos c]
        rfl
      · have hd := deepF_le os
        unfold deepF at hd
        have hgl := endK_le os
        obtain ⟨G, eG, eK⟩ := gain_nat os hg
        walk_at "rd"
        refine rd_I (cdivw (by omega) (Int.le_trans (show gainS ds ≤ 1000 by omega) (by decide +kernel))) ?_
        walk_at "rd"
        refine ⟨rfl, ?_⟩
        rw [er, if_neg c]
        rfl
    rintro σ H9 ⟨rfl, rfl⟩
    rename_i H9
    obtain ⟨R, eR, R2, R4⟩ := roundsF_nat os hg
    have s59 := s6.trans (s7.trans s8)
    walk_at "rd"
    refine ⟨fun σ H' => Same H9 H' ∧ σ = [some (.ref sc), some (.int (m : Int)), some (.ref D), some (.int (gainS ds)), w4, none, some (.ref x), some .non, some (.int (deepS (0, 0) ds).1), some (.int (deepS (0, 0) ds).2), some (.int (roundsF m ds)), none], ?_, ?_⟩
    · walk_at "rd"
      refine rd_fld ex8 T.cl_RightRounds T.na_RightRounds_rounds rfl ?_
      walk_at "rd"
      refine rd_iteNF rfl ?_
      walk_at "rd"
      refine rd_newRR fun y H10 s10 hy => ?_
      obtain ⟨dy, ey⟩ := id hy
      refine ⟨y, dy, _, rfl, ey, rfl, ?_⟩
      walk_at "rd"
      refine ⟨y, D, _, m, xs, ds, rfl, hy, s10 _ _ eD8, da8.mono s10, l24, m20, os, hg, fun H11 s11 => ?_⟩
      rw [decide_eq_false (fun z => by have := z.1; omega)]
      refine ⟨false, rfl, rd_iteFF ?_⟩
      walk_at "rd"
      refine rd_newWR (q := 0) (p := 1) fun y2 H12 s12 hy2 => ?_
      obtain ⟨dy2, ey2⟩ := id hy2
      refine ⟨y2, dy2, _, rfl, ey2, rfl, ?_⟩
      walk_at "rd"
      have s912 := s10.trans (s11.trans s12)
      refine ⟨y2, D, _, _, m, xs, ds, rfl, hy2, s912 _ _ eD8, da8.mono s912, l24, m20, os, hg, fun H13 s13 => ?_⟩
      rw [decide_eq_false (fun z => by rw [hw] at z; cases z)]
      refine ⟨false, rfl, rd_iteFF ?_⟩
      walk_at "rd"
      exact ⟨s912.trans s13, rfl⟩
    rintro σ H10 ⟨s10, rfl⟩
    have eD10 := s10 _ _ eD8
    have da10 := da8.mono s10
    walk_at "rd"
    refine ⟨fun σ H' => Same H10 H' ∧ σ = [some (.ref sc), some (.int (m : Int)), some (.ref D), some (.int (gainS ds)), w4, none, some (.ref x), some .non, some (.int (deepS (0, 0) ds).1), some (.int (deepS (0, 0) ds).2), some (.int (roundsF m ds)), none], ?_, ?_⟩
    · walk_at "rd"
      refine rd_ite (fun c => ?_) (fun c => ?_)
      · walk_at "rd"
        refine rd_lenL eD10 ?_
        walk_at "rd"
        refine rd_ite (fun c2 => ?_) (fun c2 => ?_)
        · walk_at "rd"
          refine rd_lstL eD10 fun p1 H11 _ s11 ep1 => ?_
          walk_at "rd"
          refine rd_repL (r := 3) rfl ep1 (by omega) (by omega) fun p2 H12 _ s12 ep2 => ?_
          walk_at "rd"
          have s1012 := s11.trans s12
          refine ⟨p2, m, _, RP 3 ds, rfl, ep2, rep_da (da10.mono s1012) 3, okS_nine os hg 3, by rw [RP_len]; omega, by omega, fun H13 s13 => ?_⟩
          rw [few_right os hg hw]
          walk_at "rd"
          refine rd_notN0 ?_
          refine ⟨_, rfl, ?_⟩
          rw [show decide (bV none = V.non) = true from decide_eq_true rfl]
          refine rd_iteFF ?_
          walk_at "rd"
          exact ⟨s1012.trans s13, rfl⟩
        · walk_at "rd"
          exact ⟨Same.refl H10, rfl⟩
      · walk_at "rd"
        exact ⟨Same.refl H10, rfl⟩
    rintro σ H11 ⟨s11, rfl⟩
    have eD11 := s11 _ _ eD10
    have da11 := da10.mono s11
    walk_at "rd"
    refine rd_newT (by simp) fun tb H12 _ s12 etb _ => ?_
    have g : ∀ y ∈ [V.int (-1), .int 21, .non, .bl true], BadM y := by
      intro y hy
      simp only [List.mem_cons, List.not_mem_nil, or_false] at hy
      rcases hy with rfl | rfl | rfl | rfl
      · exact .inr (.inr ⟨_, rfl, .inl (by decide)⟩)
      · exact .inr (.inr ⟨_, rfl, .inr (by decide)⟩)
      · exact .inl rfl
      · exact .inr (.inl ⟨_, rfl⟩)
    refine rd_tpR (SqT.of etb) ?_
    refine forR_tup (fun q σ H' => ∃ v5 v11, Same H12 H' ∧ σ = [some (.ref sc), some (.int (m : Int)), some (.ref D), some (.int (gainS ds)), w4, v5, some (.ref x), some .non, some (.int (deepS (0, 0) ds).1), some (.int (deepS (0, 0) ds).2), some (.int (roundsF m ds)), v11]) (fun q σ H' ⟨_, _, s, _⟩ => SqT.of (s _ _ etb)) ⟨_, _, Same.refl H12, rfl⟩ ?_ ?_
    · rintro q y σ H13 hy ⟨v5, v11, s13, rfl⟩
      have bad := g y (List.mem_of_getElem? hy)
      walk_at "rd"
      refine rd_tryAs ?_
      walk_at "rd"
      refine rd_callSd ?_
      walk_at "rd"
      refine rd_callSd2 ⟨D, y, xs, ds, rfl, (s12.trans s13) _ _ eD11, da11.mono (s12.trans s13), l24, .inl bad, fun dd H14 s14 ed => ?_⟩
      refine rd_caughtAs T.y_BadScript.e fun ea hea => ?_
      walk_at "rd"
      refine rd_xf ed rfl ?_
      walk_at "rd"
      refine rd_notN0 ?_
      refine ⟨_, rfl, ?_⟩
      rw [decide_eq_true rfl]
      refine rd_iteFF ?_
      walk_at "rd"
      exact ⟨_, _, s13.trans s14, rfl⟩
    · rintro σ H13 ⟨v5, v11, s13, rfl⟩
      walk_at "rd"
      exact k _
  · rw [hw] at hv
    obtain ⟨td, rfl, etd⟩ : ∃ t, v = .ref t ∧ _ := hv
    obtain ⟨dx, ex⟩ := id hx
    walk_at "rd"
    refine ⟨fun σ H' => Same H5 H' ∧ σ = [some (.ref sc), some (.int (m : Int)), some (.ref D), some (.int (gainS ds)), v4, none, some (.ref x), some (.ref td)] ++ List.replicate 4 none, ?_, ?_⟩
    · walk_at "rd"
      refine .inr (rd_boolO ex ⟨x, rfl, false, rfl, ?_⟩)
      walk_at "rd"
      refine rd_isN0 ?_
      refine ⟨rfl, _, rfl, rd_iteNF (by simp) ?_⟩
      walk_at "rd"
      refine .inr ?_
      walk_at "rd"
      refine ⟨x, dx, _, rfl, ex, rfl, ?_⟩
      walk_at "rd"
      refine ⟨x, D, _, _, m, xs, ds, rfl, hx, eD5, da5, l24, m20, os, hg, fun H6 s6 => ?_⟩
      rw [decide_eq_true hw]
      refine ⟨true, rfl, rd_iteNTT ?_⟩
      walk_at "rd"
      exact ⟨s6, rfl⟩
    rintro σ H6 ⟨s6, rfl⟩
    have eD6 := s6 _ _ eD5
    have da6 := da5.mono s6
    have ex6 := s6 _ _ ex
    have etd6 := s6 _ _ etd
    walk_at "rd"
    refine rd_isiC T.i_WrongRound ex6 ?_
    walk_at "rd"
    refine ⟨fun σ H' => Same H6 H' ∧ σ = [some (.ref sc), some (.int (m : Int)), some (.ref D), some (.int (gainS ds)), v4, none, some (.ref x), some (.ref td)] ++ List.replicate 4 none, ?_, ?_⟩
    · walk_at "rd"
      refine rd_fld ex6 T.cl_WrongRound T.na_WrongRound_rounds rfl ?_
      walk_at "rd"
      refine rd_fld ex6 T.cl_WrongRound T.na_WrongRound_deeds rfl ?_
      walk_at "rd"
      refine rd_newT (by simp) fun t1 H7 _ s7 et1 _ => ?_
      walk_at "rd"
      refine rd_neD (.tup et1 (.cons (.int _) (.cons (.int _) .nil))) (.tup (s7 _ _ etd6) (.cons (.int _) (.cons (.int _) .nil))) (by rfl) (by rfl) ?_
      rw [show PyData.eqv (.tuple [.int (q : Int), .int (p : Int)]) (.tuple [.int (q : Int), .int (p : Int)]) = true from (eqv_told (some (q, p)) q p).trans (decide_eq_true rfl)]
      refine ⟨_, rfl, rd_iteFF ?_⟩
      walk_at "rd"
      refine rd_ixT (s7 _ _ etd6) rfl ?_
      walk_at "rd"
      refine rd_ixT (s7 _ _ etd6) rfl ?_
      walk_at "rd"
      refine rd_newWR (q := q) (p := p + 1) fun y H8 s8 hy => ?_
      obtain ⟨dy, ey⟩ := id hy
      refine ⟨y, dy, _, rfl, ey, rfl, ?_⟩
      walk_at "rd"
      refine ⟨y, D, _, _, m, xs, ds, rfl, hy, (s7.trans s8) _ _ eD6, da6.mono (s7.trans s8), l24, m20, os, hg, fun H9 s9 => ?_⟩
      rw [decide_eq_false (fun z => by rw [hw] at z; simp at z)]
      refine ⟨false, rfl, rd_iteFF ?_⟩
      walk_at "rd"
      exact ⟨s7.trans (s8.trans s9), rfl⟩
    rintro σ H7 ⟨s7, rfl⟩
    have s67 := s7
    walk_at "rd"
    refine ⟨fun σ H' => Same H7 H' ∧ σ = [some (.ref sc), some (.int (m : Int)), some (.ref D), some (.int (gainS ds)), v4, none, some (.ref x), some (.ref td)] ++ List.replicate 4 none, ?_, ?_⟩
    · walk_at "rd"
      refine rd_ixT (s67 _ _ etd6) rfl ?_
      walk_at "rd"
      refine rd_ixT (s67 _ _ etd6) rfl ?_
      walk_at "rd"
      refine rd_newWR (q := q + 1) (p := p) fun y H8 s8 hy => ?_
      obtain ⟨dy, ey⟩ := id hy
      refine ⟨y, dy, _, rfl, ey, rfl, ?_⟩
      walk_at "rd"
      refine ⟨y, D, _, _, m, xs, ds, rfl, hy, (s67.trans s8) _ _ eD6, da6.mono (s67.trans s8), l24, m20, os, hg, fun H9 s9 => ?_⟩
      rw [decide_eq_false (fun z => by rw [hw] at z; simp at z)]
      refine ⟨false, rfl, rd_iteFF ?_⟩
      walk_at "rd"
      exact ⟨s8.trans s9, rfl⟩
    rintro σ H8 ⟨s8, rfl⟩
    have s68 := s67.trans s8
    walk_at "rd"
    refine ⟨fun σ H' => Same H8 H' ∧ σ = [some (.ref sc), some (.int (m : Int)), some (.ref D), some (.int (gainS ds)), v4, none, some (.ref x), some (.ref td)] ++ List.replicate 4 none, ?_, ?_⟩
    · walk_at "rd"
      refine rd_newT (by simp) fun t1 H9 _ s9 et1 _ => ?_
      walk_at "rd"
      refine rd_eqD (.tup ((s68.trans s9) _ _ etd6) (.cons (.int _) (.cons (.int _) .nil))) (.tup et1 (.cons (.int _) (.cons (.int _) .nil))) (by rfl) (by rfl) ?_
      rw [show PyData.eqv (.tuple [.int (q : Int), .int (p : Int)]) (.tuple [.int 0, .int 1]) = decide (some (q, p) = some (0, 1)) from eqv_told (some (q, p)) 0 1]
      refine ⟨_, rfl, ?_⟩
      by_cases c : some (q, p) = some (0, 1)
      · rw [decide_eq_true c]
        refine rd_iteTT ?_
        walk_at "rd"
        refine rd_slL (SqL.of ((s68.trans s9) _ _ eD6)) fun P1 H10 _ s10 eP1 _ => ?_
        rw [show cutV xs none (some 1) = xs.take 1 from cutN_take (m := 1)] at eP1
        walk_at "rd"
        refine ⟨P1, m, xs.take 1, ds.take 1, rfl, eP1, by rw [List.map_take]; exact (da6.mono (s68.trans (s9.trans s10))).take 1, okS_take 1 os, by rw [List.length_take]; omega, by omega, fun H11 s11 => ?_⟩
        rw [first_alone rfl (show toldR ds.length (wrongF (initL m) m (RP 2 ds)) = some (0, 1) from hw.trans c)]
        walk_at "rd"
        refine rd_ne rfl ?_
        refine ⟨_, rfl, ?_⟩
        rw [show decide (bV (some 1) = V.int 1) = true from decide_eq_true rfl]
        refine rd_iteFF ?_
        walk_at "rd"
        exact ⟨s9.trans (s10.trans s11), rfl⟩
      · rw [decide_eq_false c]
        refine rd_iteFF ?_
        walk_at "rd"
        exact ⟨s9, rfl⟩
    rintro σ H9 ⟨s9, rfl⟩
    have s69 := s68.trans s9
    walk_at "rd"
    refine rd_newRR fun y H10 s10 hy => ?_
    obtain ⟨dy, ey⟩ := id hy
    refine ⟨y, dy, _, rfl, ey, rfl, ?_⟩
    walk_at "rd"
    refine ⟨y, D, _, m, xs, ds, rfl, hy, (s69.trans s10) _ _ eD6, da6.mono (s69.trans s10), l24, m20, os, hg, fun H11 s11 => ?_⟩
    rw [decide_eq_false (fun z => by rw [hw] at z; cases z.2)]
    walk_at "rd"
    refine rd_newRR fun y2 H12 s12 hy2 => ?_
    obtain ⟨dy2, ey2⟩ := id hy2
    refine ⟨y2, dy2, _, rfl, ey2, rfl, ?_⟩
    walk_at "rd"
    refine ⟨y2, D, _, m, xs, ds, rfl, hy2, (s69.trans (s10.trans (s11.trans s12))) _ _ eD6, da6.mono (s69.trans (s10.trans (s11.trans s12))), l24, m20, os, hg, fun H13 s13 => ?_⟩
    rw [decide_eq_false (fun z => by rw [hw] at z; cases z.2)]
    walk_at "rd"
    exact k _
end
end Sl
namespace Sl
open PySem L2 C8 StX
section
variable {K : PySem.W.Frag} {h : Heap} {mg : Str → Option Value} {x qual : Str} {st : Stmt} {f C : Addr} {oc dV kV doc pm cdv ct : Value} {od an : Option Addr} {osl : Array (Option Value)}
theorem dmk (X : K.In h) (G : h.Ns mainGlobals mg) (a : PySem.W.nsIn K mainGlobals x = some (some (.ref f))) (l : K.lookup f = some ⟨oc, od, .func (PySem.W.fnOf x x (fnArgs st) (fnBody st) (fnScope st) .none kV doc pm an cdv ct), osl⟩)
    (c : PySem.W.codeIn K cdv x = true) (k : PySem.W.keepIn K (.ref f) = true) : ∃ f fd, C8.Def K mg x st f fd ∧ fd.defaults = .none :=
  ⟨f, _, ⟨⟨_, _, _, _, _, _, _, _, _, _, rfl, l, c⟩, PySem.W.mg_of X G a, k⟩, rfl⟩
theorem mmk (a : PySem.W.findIn K (.ref C) x = some (some (.ref f))) (i : PySem.W.isFn K (.ref f) = true) (l : K.lookup f = some ⟨oc, od, .func (PySem.W.fnOf x qual (fnArgs st) (fnBody st) (fnScope st) .none kV doc pm an cdv ct), osl⟩)
    (c : PySem.W.codeIn K cdv qual = true) (k : PySem.W.keepIn K (.ref f) = true) (n : PySem.W.fnIn K f = true) : ∃ f fd, C8.Fun K x qual st f fd ∧ fd.defaults = .none ∧ Meth K C x f ∧ PySem.W.fnIn K f = true :=
  ⟨f, _, ⟨_, _, _, _, _, _, _, _, _, _, rfl, l, c⟩, rfl, ⟨a, i, k⟩, n⟩
theorem mkmk (m : PySem.W.makesIn K C = true) (a : PySem.W.findIn K (.ref C) "__init__" = some (some (.ref f))) (i : PySem.W.isFn K (.ref f) = true) (l : K.lookup f = some ⟨oc, od, .func (PySem.W.fnOf "__init__" qual (fnArgs st) (fnBody st) (fnScope st) .none kV doc pm an cdv ct), osl⟩)
    (c : PySem.W.codeIn K cdv qual = true) (k : PySem.W.keepIn K (.ref C) = true) : ∃ f fd, C8.Fun K "__init__" qual st f fd ∧ fd.defaults = .none ∧ Mk K C f :=
  ⟨f, _, ⟨_, _, _, _, _, _, _, _, _, _, rfl, l, c⟩, rfl, ⟨m, a, i, k⟩⟩
theorem kit_up {D : Addr} (h1 : PySem.W.isClsIn K D = true) (h2 : PySem.W.typeIn K (.ref D) = some (.type "type")) (h3 : PySem.W.subIn K (.ref C) (.ref D) = some true) : PySem.W.kitOne K (.ref C) (.ref D) = some true := by
  have e2 : ((PySem.W.clsIn K D).isSome && PySem.W.typeIn K (.ref D) == some (.type "type")) = true := by
    have h1' : (PySem.W.clsIn K D).isSome = true := h1
    rw [h1', h2] <;> rfl
  unfold PySem.W.kitOne
  by_cases c : ((Value.ref C) == (Value.ref D)) = true
  · rw [if_pos c]
  · rw [if_neg c]
    show (if ((PySem.W.clsIn K D).isSome && PySem.W.typeIn K (.ref D) == some (.type "type")) = true then PySem.W.subIn K (.ref C) (.ref D) else none) = some true
    rw [if_pos e2]
    exact h3
theorem kit_upF {D : Addr} (h1 : PySem.W.isClsIn K D = true) (h2 : PySem.W.typeIn K (.ref D) = some (.type "type")) (h3 : PySem.W.subIn K (.ref C) (.ref D) = some false) (hn : ((Value.ref C) == (Value.ref D)) = false) : PySem.W.kitOne K (.ref C) (.ref D) = some false := by
  have e2 : ((PySem.W.clsIn K D).isSome && PySem.W.typeIn K (.ref D) == some (.type "type")) = true := by
    have h1' : (PySem.W.clsIn K D).isSome = true := h1
    rw [h1', h2] <;> rfl
  unfold PySem.W.kitOne
  rw [if_neg (by rw [hn]; exact Bool.false_ne_true)]
  show (if ((PySem.W.clsIn K D).isSome && PySem.W.typeIn K (.ref D) == some (.type "type")) = true then PySem.W.subIn K (.ref C) (.ref D) else none) = some false
  rw [if_pos e2]
  exact h3
theorem conk {z : Str} {t : Tok} (a : PySem.W.findIn K (.ref C) x = some (some (.str z t))) (g : PySem.W.specialIn K (.str z t) "__get__" = some none) (c : PySem.W.copiedNames.contains x = false) : ∃ u, Con K C x (.str z) u := ⟨_, a, ⟨t, rfl⟩, g, c⟩
theorem nak (a : PySem.W.findIn K (.ref C) x = some none) : NoAttr K C x := a
theorem gmk {n : Int} {t : Tok} (X : K.In h) (G : h.Ns mainGlobals mg) (a : PySem.W.nsIn K mainGlobals x = some (some (.int n t))) : ∃ u, mg x = some u ∧ RelV (.int n) u := ⟨_, PySem.W.mg_of X G a, t, rfl⟩
end
theorem dmk_check_script {K : PySem.W.Frag} {h : Heap} {mg : Str → Option Value} {f T : Addr} {oc kV doc pm cdv ct tc : Value} {od an td : Option Addr} {osl tsl : Array (Option Value)} {n : Nat} {t : Tok} (X : K.In h) (G : h.Ns mainGlobals mg)
    (a : PySem.W.nsIn K mainGlobals "check_script" = some (some (.ref f))) (l : K.lookup f = some ⟨oc, od, .func (PySem.W.fnOf "check_script" "check_script" (fnArgs s_check_script) (fnBody s_check_script) (fnScope s_check_script) (.ref T) kV doc pm an cdv ct), osl⟩)
    (c : PySem.W.codeIn K cdv "check_script" = true) (k : PySem.W.keepIn K (.ref f) = true) (lT : K.lookup T = some ⟨tc, td, .seq #[.int 0 t] n, tsl⟩) :
    ∃ f fd, C8.Def K mg "check_script" s_check_script f fd ∧ (∃ ds, Vals [] ds ∧ Binds K fd P_check_script ds) ∧ (∃ ds, Vals [.int 0] ds ∧ Binds K fd P_check_script ds) := by
  have F : FunD K "check_script" "check_script" (fnArgs s_check_script) (fnBody s_check_script) (fnScope s_check_script) [.int 0] [] f (PySem.W.fnOf "check_script" "check_script" (fnArgs s_check_script) (fnBody s_check_script) (fnScope s_check_script) (.ref T) kV doc pm an cdv ct) :=
    ⟨⟨oc, od, .ref T, kV, doc, pm, an, cdv, ct, osl, rfl, l, c, .inr ⟨by simp, T, _, [.int 0 t], n, rfl, lT, rfl, .cons ⟨t, rfl⟩ .nil⟩, .inl rfl⟩, k⟩
  refine ⟨f, _, ⟨⟨_, _, _, _, _, _, _, _, _, _, rfl, l, c⟩, PySem.W.mg_of X G a, k⟩, ?_, ?_⟩
  · exact F.binds1 2 1 (by simp) rfl fun T kV doc pm an cdv ct us its h1 h2 => match us, its, h1, h2 with | [_, _], [_], _, _ => ⟨_, rfl, rfl⟩
  · exact F.binds1 1 0 (by simp) rfl fun T kV doc pm an cdv ct us its h1 h2 => match us, its, h1, h2 with | [_], [_], _, _ => ⟨_, rfl, rfl⟩
end Sl
namespace Sl
open PySem L2 C8 StX
theorem fin {P : Program} {w : World} {K : PySem.W.Frag} {h : Heap} {mg : Str → Option Value} {fa C_Evidence C_Good C_Bad C_RightRounds C_WrongRound C_BadScript D_FALL : Addr} (T : TX P K mg C_Evidence C_Good C_Bad C_RightRounds C_WrongRound C_BadScript D_FALL) (X : K.In h) (G : h.Ns mainGlobals mg) (hfa : mg "law" = some (.ref fa)) :
    ∃ fd : FuncData, (∀ (s : Shared) (v : Value), BindsTo s fd ⟨[v], []⟩ [("_law_script_here", v)]) ∧ ∀ base : Heap, K.In base → base.Ns mainGlobals mg → FnOk P w K mg base C8.CX0 7 fa fd ["_law_script_here"] (spLaw K) := by
  obtain ⟨f, fd, D, dn⟩ := T.d_law
  have e := hfa.symm.trans D.mgf
  cases e
  refine ⟨fd, fun s v => ?_, fun base _ _ => fn_law T D⟩
  obtain ⟨oc, od, dV, kV, doc, pm, an, cdv, ct, osl, rfl, lk, hcd⟩ := D.fn.ex
  have e : dV = .none := dn
  subst e
  exact .of_eq rfl
end Sl
open PySem PySem.W PyProof.Rows
set_option maxRecDepth 100000 in
set_option maxHeartbeats 0 in
theorem PySem.Challenge.cw_siltstore_k06_whole_rounds_of_scripts_holds : PySem.Challenge.rw_siltstore_k06_whole_rounds_of_scripts.Holds := by
  refine headQ ?_
  k_fill
  refine L2.walk_ofK (sp := Sl.spLaw) (CX := C8.CX0) (n := 63) (k := 7) (x := "_law_script_here") rfl (by decide) rfl ⟨rfl, by decide, by decide⟩ (fun w h Y => PySem.W.kIn_of Y) ?F (fun _ _ a ns hl _ hS => ⟨a, ns, rfl, hS, hl, fun _ => rfl⟩) fun _ _ _ _ z => z
  case F =>
    intro w mg fa h KX G hmg
    refine' Sl.fin ?T KX G hmg
    case T =>
      refine' Sl.TX.mk (PySem.W.mg_of KX G ?q1) (PySem.W.mg_of KX G ?q2) (PySem.W.mg_of KX G ?q3) (PySem.W.mg_of KX G ?q4) (PySem.W.mg_of KX G ?q5) (PySem.W.mg_of KX G ?q6) (Sl.dmk KX G ?q7 ?q8 ?q9 ?q10) (Sl.dmk KX G ?q11 ?q12 ?q13 ?q14) (Sl.dmk KX G ?q15 ?q16 ?q17 ?q18) (Sl.dmk_check_script KX G ?q19 ?q20 ?q21 ?q22 ?q23) (Sl.dmk KX G ?q24 ?q25 ?q26 ?q27) (Sl.dmk KX G ?q28 ?q29 ?q30 ?q31) (Sl.dmk KX G ?q32 ?q33 ?q34 ?q35) (Sl.dmk KX G ?q36 ?q37 ?q38 ?q39) (Sl.mkmk ?q40 ?q41 ?q42 ?q43 ?q44 ?q45) (Sl.mmk ?q46 ?q47 ?q48 ?q49 ?q50 ?q51) (Sl.mmk ?q52 ?q53 ?q54 ?q55 ?q56 ?q57) (Sl.mkmk ?q58 ?q59 ?q60 ?q61 ?q62 ?q63) (Sl.mmk ?q64 ?q65 ?q66 ?q67 ?q68 ?q69) (Sl.mmk ?q70 ?q71 ?q72 ?q73 ?q74 ?q75) (Sl.dmk KX G ?q76 ?q77 ?q78 ?q79) (Sl.dmk KX G ?q80 ?q81 ?q82 ?q83) (Sl.dmk KX G ?q84 ?q85 ?q86 ?q87) (Sl.dmk KX G ?q88 ?q89 ?q90 ?q91) (Sl.dmk KX G ?q92 ?q93 ?q94 ?q95) (Sl.dmk KX G ?q96 ?q97 ?q98 ?q99) (Sl.dmk KX G ?q100 ?q101 ?q102 ?q103) (Sl.dmk KX G ?q104 ?q105 ?q106 ?q107) (Sl.dmk KX G ?q108 ?q109 ?q110 ?q111) (Sl.dmk KX G ?q112 ?q113 ?q114 ?q115) (Sl.dmk KX G ?q116 ?q117 ?q118 ?q119) (Sl.dmk KX G ?q120 ?q121 ?q122 ?q123) (Sl.dmk KX G ?q124 ?q125 ?q126 ?q127) (Sl.dmk KX G ?q128 ?q129 ?q130 ?q131) (Sl.mmk ?q132 ?q133 ?q134 ?q135 ?q136 ?q137) (Sl.mmk ?q138 ?q139 ?q140 ?q141 ?q142 ?q143) (Sl.kit_up ?q144 ?q145 ?q146) (Sl.conk ?q147 ?q148 (by decide)) (Sl.mmk ?q149 ?q150 ?q151 ?q152 ?q153 ?q154) (Sl.mmk ?q155 ?q156 ?q157 ?q158 ?q159 ?q160) (Sl.kit_up ?q161 ?q162 ?q163) (Sl.conk ?q164 ?q165 (by decide)) (⟨?q166, ?q167, ?q168, ?q169⟩) (⟨?q170, ?q171, ?q172, ?q173⟩) (Sl.nak ?q174) (⟨?q175, ?q176, ?q177, ?q178⟩) (⟨?q179, ?q180, ?q181, ?q182⟩) (Sl.nak ?q183) (Sl.nak ?q184) (Sl.kit_upF ?q185 ?q186 ?q187 ?q188) (Sl.kit_upF ?q189 ?q190 ?q191 ?q192) (?q193) (fun n => Sl.kit_not ?q194 ?q195) (?q196) (fun n => Sl.kit_not ?q197 ?q198) (Sl.xsupk ?q199 ?q200 ?q201 ?q202 ?q203 ?q204 ?q205 ?q206 ?q207 ?q208 ?q209 ?q210 ?q211 ?q212 ?q213 ?q214 ?q215 ?q216 ?q217 ?q218 ?q219 ?q220 ?q221 Sl.bd_BadScript) (PySem.W.mg_none_of KX G ?q222) (Sl.gmk KX G ?q223) (Sl.gmk KX G ?q224) (PySem.W.mg_of KX G ?q225) (?q226) (PySem.W.mg_none_of KX G ?q227) (PySem.W.mg_none_of KX G ?q228) (PySem.W.mg_none_of KX G ?q229) (PySem.W.mg_none_of KX G ?q230) (PySem.W.mg_none_of KX G ?q231) (PySem.W.mg_none_of KX G ?q232) (PySem.W.mg_none_of KX G ?q233) (PySem.W.mg_none_of KX G ?q234) (PySem.W.mg_none_of KX G ?q235) (PySem.W.mg_none_of KX G ?q236) (PySem.W.mg_none_of KX G ?q237) (PySem.W.mg_none_of KX G ?q238) (PySem.W.mg_none_of KX G ?q239) (PySem.W.mg_none_of KX G ?q240) (PySem.W.mg_none_of KX G ?q241) (PySem.W.mg_none_of KX G ?q242) (PySem.W.mg_none_of KX G ?q243) (PySem.W.mg_none_of KX G ?q244) (PySem.W.mg_none_of KX G ?q245) (PySem.W.mg_none_of KX G ?q246)
      (case q1 => k_is)
      (case q2 => k_is)
      (case q3 => k_is)
      (case q4 => k_is)
      (case q5 => k_is)
      (case q6 => k_is)
      (case q7 => k_is)
      (case q8 => k_is)
      (case q9 => k_is)
      (case q10 => k_is)
      (case q11 => k_is)
      (case q12 => k_is)
      (case q13 => k_is)
      (case q14 => k_is)
      (case q15 => k_is)
      (case q16 => k_is)
      (case q17 => k_is)
      (case q18 => k_is)
      (case q19 => k_is)
      (case q20 => k_is)
      (case q21 => k_is)
      (case q22 => k_is)
      (case q23 => k_is)
      (case q24 => k_is)
      (case q25 => k_is)
      (case q26 => k_is)
      (case q27 => k_is)
      (case q28 => k_is)
      (case q29 => k_is)
      (case q30 => k_is)
      (case q31 => k_is)
      (case q32 => k_is)
      (case q33 => k_is)
      (case q34 => k_is)
      (case q35 => k_is)
      (case q36 => k_is)
      (case q37 => k_is)
      (case q38 => k_is)
      (case q39 => k_is)
      (case q40 => k_is)
      (case q41 => k_is)
      (case q42 => k_is)
      (case q43 => k_is)
      (case q44 => k_is)
      (case q45 => k_is)
      (case q46 => k_is)
      (case q47 => k_is)
      (case q48 => k_is)
      (case q49 => k_is)
      (case q50 => k_is)
      (case q51 => k_is)
      (case q52 => k_is)
      (case q53 => k_is)
      (case q54 => k_is)
      (case q55 => k_is)
      (case q56 => k_is)
      (case q57 => k_is)
      (case q58 => k_is)
      (case q59 => k_is)
      (case q60 => k_is)
      (case q61 => k_is)
      (case q62 => k_is)
      (case q63 => k_is)
      (case q64 => k_is)
      (case q65 => k_is)
      (case q66 => k_is)
      (case q67 => k_is)
      (case q68 => k_is)
      (case q69 => k_is)
      (case q70 => k_is)
      (case q71 => k_is)
      (case q72 => k_is)
      (case q73 => k_is)
      (case q74 => k_is)
      (case q75 => k_is)
      (case q76 => k_is)
      (case q77 => k_is)
      (case q78 => k_is)
      (case q79 => k_is)
      (case q80 => k_is)
      (case q81 => k_is)
      (case q82 => k_is)
      (case q83 => k_is)
      (case q84 => k_is)
      (case q85 => k_is)
      (case q86 => k_is)
      (case q87 => k_is)
      (case q88 => k_is)
      (case q89 => k_is)
      (case q90 => k_is)
      (case q91 => k_is)
      (case q92 => k_is)
      (case q93 => k_is)
      (case q94 => k_is)
      (case q95 => k_is)
      (case q96 => k_is)
      (case q97 => k_is)
      (case q98 => k_is)
      (case q99 => k_is)
      (case q100 => k_is)
      (case q101 => k_is)
      (case q102 => k_is)
      (case q103 => k_is)
      (case q104 => k_is)
      (case q105 => k_is)
      (case q106 => k_is)
      (case q107 => k_is)
      (case q108 => k_is)
      (case q109 => k_is)
      (case q110 => k_is)
      (case q111 => k_is)
      (case q112 => k_is)
      (case q113 => k_is)
      (case q114 => k_is)
      (case q115 => k_is)
      (case q116 => k_is)
      (case q117 => k_is)
      (case q118 => k_is)
      (case q119 => k_is)
      (case q120 => k_is)
      (case q121 => k_is)
      (case q122 => k_is)
      (case q123 => k_is)
      (case q124 => k_is)
      (case q125 => k_is)
      (case q126 => k_is)
      (case q127 => k_is)
      (case q128 => k_is)
      (case q129 => k_is)
      (case q130 => k_is)
      (case q131 => k_is)
      (case q132 => k_is)
      (case q133 => k_is)
      (case q134 => k_is)
      (case q135 => k_is)
      (case q136 => k_is)
      (case q137 => k_is)
      (case q138 => k_is)
      (case q139 => k_is)
      (case q140 => k_is)
      (case q141 => k_is)
      (case q142 => k_is)
      (case q143 => k_is)
      (case q144 => k_is)
      (case q145 => k_is)
      (case q146 => k_is)
      (case q147 => k_is)
      (case q148 => k_is)
      (case q149 => k_is)
      (case q150 => k_is)
      (case q151 => k_is)
      (case q152 => k_is)
      (case q153 => k_is)
      (case q154 => k_is)
      (case q155 => k_is)
      (case q156 => k_is)
      (case q157 => k_is)
      (case q158 => k_is)
      (case q159 => k_is)
      (case q160 => k_is)
      (case q161 => k_is)
      (case q162 => k_is)
      (case q163 => k_is)
      (case q164 => k_is)
      (case q165 => k_is)
      (case q166 => k_is)
      (case q167 => k_is)
      (case q168 => k_is)
      (case q169 => k_is)
      (case q170 => k_is)
      (case q171 => k_is)
      (case q172 => k_is)
      (case q173 => k_is)
      (case q174 => k_is)
      (case q175 => k_is)
      (case q176 => k_is)
      (case q177 => k_is)
      (case q178 => k_is)
      (case q179 => k_is)
      (case q180 => k_is)
      (case q181 => k_is)
      (case q182 => k_is)
      (case q183 => k_is)
      (case q184 => k_is)
      (case q185 => k_is)
      (case q186 => k_is)
      (case q187 => k_is)
      (case q188 => first | rfl | decide +kernel)
      (case q189 => k_is)
      (case q190 => k_is)
      (case q191 => k_is)
      (case q192 => first | rfl | decide +kernel)
      (case q193 => k_is)
      (case q194 => k_is)
      (case q195 => k_is)
      (case q196 => k_is)
      (case q197 => k_is)
      (case q198 => k_is)
      (case q199 => first | k_is | rfl | decide +kernel)
      (case q200 => first | k_is | rfl | decide +kernel)
      (case q201 => first | k_is | rfl | decide +kernel)
      (case q202 => first | k_is | rfl | decide +kernel)
      (case q203 => first | k_is | rfl | decide +kernel)
      (case q204 => first | k_is | rfl | decide +kernel)
      (case q205 => first | k_is | rfl | decide +kernel)
      (case q206 => first | k_is | rfl | decide +kernel)
      (case q207 => first | k_is | rfl | decide +kernel)
      (case q208 => first | k_is | rfl | decide +kernel)
      (case q209 => first | k_is | rfl | decide +kernel)
      (case q210 => first | k_is | rfl | decide +kernel)
      (case q211 => first | k_is | rfl | decide +kernel)
      (case q212 => first | k_is | rfl | decide +kernel)
      (case q213 => first | k_is | rfl | decide +kernel)
      (case q214 => first | k_is | rfl | decide +kernel)
      (case q215 => first | k_is | rfl | decide +kernel)
      (case q216 => first | k_is | rfl | decide +kernel)
      (case q217 => first | k_is | rfl | decide +kernel)
      (case q218 => first | k_is | rfl | decide +kernel)
      (case q219 => first | k_is | rfl | decide +kernel)
      (case q220 => first | k_is | rfl | decide +kernel)
      (case q221 => first | k_is | rfl | decide +kernel)
      (case q222 => k_is)
      (case q223 => k_is)
      (case q224 => k_is)
      (case q225 => k_is)
      (case q226 => first | k_is | kernel_rfl)
      (case q227 => k_is)
      (case q228 => k_is)
      (case q229 => k_is)
      (case q230 => k_is)
      (case q231 => k_is)
      (case q232 => k_is)
      (case q233 => k_is)
      (case q234 => k_is)
      (case q235 => k_is)
      (case q236 => k_is)
      (case q237 => k_is)
      (case q238 => k_is)
      (case q239 => k_is)
      (case q240 => k_is)
      (case q241 => k_is)
      (case q242 => k_is)
      (case q243 => k_is)
      (case q244 => k_is)
      (case q245 => k_is)
      (case q246 => k_is)
#print axioms PySem.Challenge.cw_siltstore_k06_whole_rounds_of_scripts_holds
