import PyProof.Rows.All
import Wide.All
import OpenK.AllK
import Wide.FinOn
import HandS.ForMost
import HandS.Codes
import HandS.Star
import HandS.Wide
import HandS.IsInst
import HandS.TupAny
import HandS.TupMul
import HandS.Style
import HandS.Defaults
import HandS.TryOnly
import HandS.ExcOwn
import PySem.Challenge.RW_siltstore_k02_whole_baking
import HandS.DictComp
import HandS.OwnEq
import HandS.Conv
import HandS.More
import HandS.ExcInit
import HandS.Nested
import HandS.ExcSuper
import HandS.ExcField
import KE.KExcSuper
import KE.GoesMore
import HandS.Sort
import HandS.EndTab
import HandS.SortKw
import HandS.NoneIn
import KE.SortKeyHeap
import KE.SortData
import HandS.Small
import PyProof.Conv_bool
import HandS.Iter
import HandS.Text
import HandS.SortRule
import HandS.ListItems
import HandS.Rev
import KE.KEqNest
import HandS.WordsDict
import KE.KDictZip
import KE.KRevIter
import PyProof.StrOps2
import HandS.SetBool
import HandS.RevTup
import PyProof.ListStr
import HandS.DictSubView
import PyProof.ListRange
import PyProof.CollectIter
import PyProof.CollectWalk
import KE.SortUse
import KE.SortKeyed
import HandS.TryMany
import KE.GoesEnum
import HandS.DeepEq
import PyProof.NeData
import PyProof.MeetsIn
import PyProof.NeKinds
import HandS.Zip
set_option Elab.async false
set_option linter.all false
set_option maxRecDepth 100000
set_option maxHeartbeats 4000000
set_option exponentiation.threshold 9000
section
open PySem PySem.W PyProof.Rows
set_option maxHeartbeats 0
open_top headQ for PySem.Challenge.rw_siltstore_k02_whole_baking
end
set_option Elab.async false
set_option linter.all false
set_option maxRecDepth 100000
set_option maxHeartbeats 4000000
namespace L2
open PySem PySem.Spec PyProof.Rows
section
variable {X : Cx} {CX : CXT} {k j : Nat} {f C : Addr} {fd : FuncData} {ps : List Str} {sp : Sp} {dvs : List V} {ds : List Value} {E : XK} {pos : Pos} {a b : Expr} {ta tb : TE}
/-- the callee runs one level within a built-in's body -/
theorem run_fn1 {pins : List (Addr × Obj)} {σ : St} {H : Hp} {s : Shared} {Q : VK} {us : List Value} {vs : List V} (F : FnOk X.prog X.w X.K X.mg X.base CX k f fd ps sp) (hr : Room (k + 1) X.A) (hb : Binds X.K fd ps ds) (hd : Vals dvs ds) (hx : Passes CX X E)
    (I : Inv X pins σ H s) (r : Vals vs us) (h : sp (vs ++ dvs) H Q E) : wpAny (model X.prog X.w) X.A.in1 (call (.ref f) us) (EP X pins σ Q) X.xe s := by
  have r2 : Vals (vs ++ dvs) (us ++ ds) := r.append hd
  have hl : (us ++ ds).length = ps.length := by rw [← r2.length]; exact F.len _ _ _ _ h
  refine wpAny_call (codeAny_mono (F.run X.A.in1 X.stack s H ⟨us, []⟩ (us ++ ds) (vs ++ dvs) Q E hr.in1 I.env0.in1 (hb s us I.kIn hl) r2 h) fun r s' hq => ?_)
  cases r with
  | error e => exact hx pins σ H s e s' I hq
  | ok fl =>
    cases fl with
    | ret u => exact I.after hq
    | next => exact False.elim hq
    | brk => exact False.elim hq
    | cont => exact False.elim hq
/-- o[i] of an own class with its own __getitem__ -/
def rOwnI (C : Addr) (sp : Sp) (dvs : List V) : R2 := fun x y H Q => ∃ a dx fs, x = .ref a ∧ H a = some (.ins C dx fs) ∧ sp (x :: ([y] ++ dvs)) H Q C8.E0
theorem pe_ixO (c : C8.Met X.prog X.w X.K X.mg X.base k C "__getitem__" sp dvs) (hr : Room j X.A) (hk : k + 1 ≤ j) (ha : PE X a ta) (hb : PE X b tb) (hfn : ∀ f, PySem.W.findIn X.K (.ref C) "__getitem__" = some (some (.ref f)) → PySem.W.fnIn X.K f = true)
    (hs : ∀ o i, subscripted b true o i = runValue (.builtin "lifetime.subscript" ⟨[o, i], []⟩) := by intro _ _; first | rfl | with_unfolding_all rfl) :
    PE X (.Subscript a b pos) (tOp (rOwnI C sp dvs) ta tb) := by
  obtain ⟨f, fd, ps, ds, cl, hm, F, bd, d⟩ := c.ex
  refine ⟨fun pins s σ H Q I h => ?_⟩
  refine Subscript_ (binT ha hb I h fun v u s2 x y H2 I2 rx ry q => ?_)
  obtain ⟨p, dx, fs, rfl, e, q⟩ := q
  obtain rfl : v = Value.ref p := rx
  obtain ⟨mA, O, _, _, _, _⟩ := ins_get I2.hok e
  obtain ⟨od, J, _⟩ := O.look
  obtain ⟨m, F0⟩ := I2.fr
  refine PySem.W.sub_K F0 I2.ok.mod.kin J hm.at_ (hfn _ hm.at_) hm.fn ?_ (hs _ _)
  exact run_fn1 (us := [.ref p, u]) (vs := [.ref p, y]) F (hr.mono hk) bd d C8.pass0 I2 (.cons rfl (.cons ry .nil)) q

/-! ### names as slots -/
theorem pg_n (i : Nat) {x : Str} {pos : Pos} (hN : X.N.Nodup) (hi : X.N[i]? = some x := by rfl) (hx : Loc X.env.scope x := by first | exact .inl rfl | exact .inr rfl) (hf : X.fn x = true ∨ X.env.scope.names.lookup x = some .local := by first | exact .inl rfl | exact .inr rfl) : PG X (.Name x pos) (gName i) := pg_name hN hi hx hf
theorem ps_s (i : Nat) {x : Str} {e : Expr} {te : TE} {pos' : Pos} (hN : X.N.Nodup) (he : PE X e te) (hi : X.N[i]? = some x := by rfl) (hx : Loc X.env.scope x := by first | exact .inl rfl | exact .inr rfl) (hs : swapsWith e (some (.Name x pos')) pos.line X.env = pure false := by rfl) (hf : X.fn x = true ∨ X.env.scope.names.lookup x = some .local := by first | exact .inl rfl | exact .inr rfl) :
    PS X (.Assign [.Name x pos'] e pos) (tAsg te (gName i)) := ps_set hN hi hx he hs hf
theorem ps_au (i : Nat) {x : Str} {e : Expr} {te : TE} {op : Operator} {ti : TIp} {pos' : Pos} (hN : X.N.Nodup) (he : PE X e te) (ho : PIp X op ti) (hi : X.N[i]? = some x := by rfl) (hx : Loc X.env.scope x := by first | exact .inl rfl | exact .inr rfl) (hf : X.fn x = true ∨ X.env.scope.names.lookup x = some .local := by first | exact .inl rfl | exact .inr rfl) :
    PS X (.AugAssign (.Name x pos') op e pos) (tAug i te ti) := ps_aug hN hi hx he ho hf
/-! ### a drawing list: item 0 is the script, item 1 some int (which one is not told) -/
def DrawO (a sc : Addr) : HO := .ext fun h => ∃ (i : Int) (t : Tok) (n : Nat), h.get? a = some { cls := .type "list", data := .seq #[.ref sc, .int i t] n }
theorem drawO_new {P : Program} {w : World} {H : Hp} {h : Heap} {a sc : Addr} {i : Int} {t : Tok} {n : Nat} (e : h.get? a = some { cls := .type "list", data := .seq #[.ref sc, .int i t] n }) : ObjOk P w H h a (DrawO a sc) :=
  ⟨⟨i, t, n, e⟩, ⟨_, e⟩, fun h1 h2 ⟨i, t, n, e⟩ k => ⟨i, t, n, k _ e⟩⟩
/-- [script, 0] -/
def tDraw (t : TA) : TE := fun σ H Q => t σ H fun xs H1 => ∃ sc i, xs = [.ref sc, .int i] ∧ ∀ p, H1 p = none → Q (.ref p) (upd H1 p (DrawO p sc))
theorem pe_draw {es : List Expr} {t : TA} (h : PA X es t) : PE X (.List es pos) (tDraw t) := by
  refine ⟨fun pins s σ H Q I hq => ?_⟩
  refine wpAny_List_spliced (thn (h.run pos pins s σ H _ I hq) fun us s1 ⟨xs, H1, I1, r, sc, i, e, q⟩ => ?_)
  subst e
  obtain ⟨u1, u2, rfl, r1, r2⟩ := vals2 r
  obtain rfl : u1 = Value.ref sc := r1
  obtain ⟨t, rfl⟩ := r2
  refine ⟨by show 2 ≤ sizeLine; decide, ?_⟩
  have hf : H1 s1.heap.objs.size = none := I1.hok.fresh (Nat.le_refl _)
  refine ⟨.ref s1.heap.objs.size, upd H1 s1.heap.objs.size (DrawO s1.heap.objs.size sc), I1.laid (t' := s1.toks) (fun b u e => Heap.get?_push_of_some _ e) (Nat.le_refl _) ?_, rfl, q _ hf⟩
  exact drawO_new (i := i) (t := t) (n := 0) (Heap.get?_push_size _ rfl)
theorem draw_get {pins : List (Addr × Obj)} {σ : St} {H : Hp} {s : Shared} {a sc : Addr} (I : Inv X pins σ H s) (e : H a = some (DrawO a sc)) : ∃ (i : Int) (t : Tok) (n : Nat), s.heap.get? a = some { cls := .type "list", data := .seq #[.ref sc, .int i t] n } := (I.hok a _ e).1
def rDraw0 : R2 := fun x y H Q => ∃ a sc, x = .ref a ∧ y = .int 0 ∧ H a = some (DrawO a sc) ∧ Q (.ref sc) H
def rDraw1 : R2 := fun x y H Q => ∃ a sc, x = .ref a ∧ y = .int 1 ∧ H a = some (DrawO a sc) ∧ ∀ i : Int, Q (.int i) H
theorem ix_draw0 : IxR X rDraw0 := by
  intro value slice pins s σ H x y v u Q I rx ry h hs
  obtain ⟨a, sc, rfl, rfl, e, q⟩ := h
  cases rx
  obtain ⟨t, rfl⟩ := ry
  obtain ⟨i, ti, n, ho⟩ := draw_get I e
  exact item_listR (items := #[.ref sc, .int i ti]) (x := .ref sc) ⟨_, ho, rfl, n, rfl⟩ (by decide) (by decide) (by rfl) ⟨.ref sc, H, I, rfl, q⟩ hs
theorem ix_draw1 : IxR X rDraw1 := by
  intro value slice pins s σ H x y v u Q I rx ry h hs
  obtain ⟨a, sc, rfl, rfl, e, q⟩ := h
  cases rx
  obtain ⟨t, rfl⟩ := ry
  obtain ⟨i, ti, n, ho⟩ := draw_get I e
  exact item_listR (items := #[.ref sc, .int i ti]) (x := .int i ti) ⟨_, ho, rfl, n, rfl⟩ (by decide) (by decide) (by rfl) ⟨.int i, H, I, ⟨ti, rfl⟩, q i⟩ hs
theorem get_draw1 : PGet X rDraw1 := by
  intro pins s σ H x y v u Q I rx ry h
  obtain ⟨a, sc, rfl, rfl, e, q⟩ := h
  cases rx
  obtain ⟨t, rfl⟩ := ry
  obtain ⟨i, ti, n, ho⟩ := draw_get I e
  exact wpAny_getItem_list (items := #[.ref sc, .int i ti]) (x := .int i ti) ⟨_, ho, rfl, n, rfl⟩ (by decide) (by decide) (by rfl) ⟨.int i, H, I, ⟨ti, rfl⟩, q i⟩
def sDraw1 : TSet := fun o i v H Q => ∃ (a sc : Addr) (j : Int), o = .ref a ∧ i = .int 1 ∧ v = .int j ∧ H a = some (DrawO a sc) ∧ Q H
theorem upd_self {H : Hp} {a : Addr} {o : HO} (e : H a = some o) : upd H a o = H := by
  funext b
  unfold upd
  by_cases h : b = a
  · rw [if_pos h, h, e]
  · rw [if_neg h]
theorem set_draw1 : PSet X sDraw1 := by
  intro pins s σ H o i v ov iv u Q I ro ri rv h
  obtain ⟨a, sc, j, rfl, rfl, rfl, e, q⟩ := h
  cases ro
  obtain ⟨t, rfl⟩ := ri
  obtain ⟨t2, rfl⟩ := rv
  obtain ⟨i0, ti, n, ho⟩ := draw_get I e
  have hm : Obj.mapSeq (·.setIfInBounds 1 (.int j t2)) { cls := .type "list", data := .seq #[.ref sc, .int i0 ti] n } = { cls := .type "list", data := .seq #[.ref sc, .int j t2] n } := by rfl
  have g1 : (s.heap.update a (Obj.mapSeq (·.setIfInBounds 1 (.int j t2)))).get? a = some { cls := .type "list", data := .seq #[.ref sc, .int j t2] n } := by
    rw [Heap.get?_update_self _ ho (by rw [hm]; rfl), hm]
  have I' := I.write (x := a) (e := a) (o := DrawO a sc) (h' := s.heap.update a (Obj.mapSeq (·.setIfInBounds 1 (.int j t2)))) (t' := s.toks) (by rw [e]; exact True.intro) (.inl rfl)
    (fun b u hb z => by rw [Heap.get?_update_ne _ _ _ _ hb]; exact z) ⟨_, g1⟩ (drawO_new g1)
  rw [upd_self e] at I'
  exact PySem.W.ki_setAt (items := #[.ref sc, .int i0 ti]) ho (by decide) (by decide) (by show (1 : Int) < 2; decide) ⟨H, I', q⟩
end
end L2
set_option Elab.async false
set_option linter.all false
set_option maxRecDepth 100000
set_option maxHeartbeats 4000000
namespace L2
open PySem PySem.Spec PyProof.Rows
section
variable {X : Cx} {a b c d : Expr} {ta tb tc td : TE} {pos : Pos}
/-- a op1 b op2 c op3 d -/
def tChain3 (r r' r'' : R2) (ta tb tc td : TE) : TE := fun σ H Q => ta σ H fun x H1 => tb σ H1 fun y H2 => r x y H2 fun z H3 => ∃ k, z = .bl k ∧
  (if k = true then tc σ H3 fun w' H4 => r' y w' H4 fun z' H5 => ∃ k', z' = .bl k' ∧ (if k' = true then td σ H5 fun v' H6 => r'' w' v' H6 Q else Q (.bl false) H5) else Q (.bl false) H3)
theorem pe_chain3 {op op' op'' : CmpOp} {r r' r'' : R2} (ho : OpR X (compareOp op) r) (ho' : OpR X (compareOp op') r') (ho'' : OpR X (compareOp op'') r'') (ha : PE X a ta) (hb : PE X b tb) (hc : PE X c tc) (hd : PE X d td)
    (hm : lastMarks [op, op', op''] [b, c, d] = false := by with_unfolding_all rfl) : PE X (.Compare a [op, op', op''] [b, c, d] pos) (tChain3 r r' r'' ta tb tc td) := by
  refine ⟨fun pins s σ H Q I h => ?_⟩
  refine Compare_chain (thn (ha.run pins s σ H _ I h) fun v s1 ⟨x, H1, I1, r1, q1⟩ => chain_link (thn (hb.run pins s1 σ H1 _ I1 q1) fun u s2 ⟨y, H2, I2, r2, q2⟩ =>
    thn (ho pins s2 σ H2 x y v u _ I2 r1 r2 q2) fun d s3 ⟨z, H3, I3, r3, k, e, q3⟩ => ?_)) hm
  subst e
  cases r3
  refine wpAny_truthy_bool ?_
  cases k with
  | false => exact ite_ff ⟨.bl false, H3, I3, rfl, q3⟩
  | true =>
    refine ite_tt (chain_link (thn (hc.run pins s3 σ H3 _ I3 q3) fun w' s4 ⟨z', H4, I4, r4, q4⟩ => thn (ho' pins s4 σ H4 y z' u w' _ I4 r2 r4 q4) fun d s5 ⟨z5, H5, I5, r5, k5, e5, q5⟩ => ?_))
    subst e5
    cases r5
    refine wpAny_truthy_bool ?_
    cases k5 with
    | false => exact ite_ff ⟨.bl false, H5, I5, rfl, q5⟩
    | true => exact ite_tt (chain_last (thn (hd.run pins s5 σ H5 _ I5 q5) fun w6 s6 ⟨z6, H6, I6, r6, q6⟩ => ho'' pins s6 σ H6 z' z6 w' w6 Q I6 r4 r6 q6))
/-- o.f as a target -/
def gFld (K : PySem.W.Frag) (to : TE) (f : Str) : TG := fun v σ H Q => to σ H fun x H1 => ∃ a C dx fs, x = .ref a ∧ H1 a = some (.ins C dx fs) ∧ Cls K C ∧ NoAttr K C f ∧ fs.length < 1000 ∧ Q σ (upd H1 a (.ins C dx (putF f v fs)))
theorem pg_attr {o : Expr} {f : Str} {to : TE} (ho : PE X o to)
    (ha : ∀ v, assign (.Attribute o f pos) X.env v = (do
      let ov ← holding [v] (eval o X.env)
      standAt pos.atName
      holding [v, ov] (setAttr ov f v)
      release [v, ov] []) := by intro _; rfl) : PG X (.Attribute o f pos) (gFld X.K to f) := by
  refine ⟨fun pins s σ H v u Q I r h => ?_⟩
  rw [ha]
  refine wpAny_bind (wpAny_holding (thn (ho.run pins s σ H _ I h) fun ov s1 ⟨x, H1, I1, r1, p, C, dx, fs, ex, e, c, n, hl, q1⟩ => ?_))
  subst ex
  obtain rfl : ov = Value.ref p := r1
  refine wpAny_bind (wpAny_standAt (wpAny_bind (wpAny_holding (setattr_ok I1 e c n hl r fun s2 I2 => ?_))))
  exact wpAny_release ⟨σ, _, I2, q1⟩
/-! ### tuple * 1 is the tuple itself -/
theorem tuple_mul1 (l : Addr) (items : Array Value) (n : Nat) (dd : Option Addr) (sl : Array (Option Value)) (u : Tok) :
    Meets (Builtin.«tuple.__mul__» ⟨[.ref l, .int 1 u], []⟩) (fun _ R s => s.heap.get? l = some { cls := .type "tuple", dict := dd, data := .seq items n, slots := sl } ∧
      R (.ok (.ret (Value.ref l))) s) :=
  .of_wp fun prog w A R s h => by
    obtain ⟨hp, g, d, tk, os⟩ := s
    obtain ⟨hl, h⟩ := h
    have f1 := AutoSeq1.idx_int
    have c1 : (items.isEmpty || (1 : Int) == 1) = true := by simp
    wp_walk using wpAny_loadPart' hl
    exact ⟨_, rfl, h⟩
def rRepT1 (K : PySem.W.Frag) : R2 := fun x y H Q => ∃ l xs, x = .ref l ∧ y = .int 1 ∧ SqT K H l xs ∧ Q (.ref l) H
theorem op_repT1 : OpR X (binaryOp .Mult) (rRepT1 X.K) := by
  intro pins s σ H x y v u Q I rx ry h
  obtain ⟨l, xs, rfl, rfl, hT, q⟩ := h
  cases rx
  obtain ⟨t, rfl⟩ := ry
  obtain ⟨its, r, ⟨⟨cls, dd, data, sl⟩, ho, hc, n, hd⟩, hs⟩ := I.tuple hT
  simp only at hc hd
  subst hc hd
  exact wpAny_binaryOp_repeat_ref (T := "tuple") (U := "int") (by decide) ⟨_, ho, rfl⟩ (fun s' => typeIs_int s' 1 t) noFill_tuple_mul F.fills_int_mul F.slot_int_rmul repeat_tuple F.slot_int_index.lookup
    (call_meets F.slot_int_rmul (typeIs_int s 1 t) F.entry_int_rmul (F.args_int_rmul_2 _ _) (int_rmul_tuple 1 t l its.toArray n dd sl)
      ⟨ho, rfl, ⟨_, ho, rfl⟩, call_meets F.slot_tuple_mul ⟨_, ho, rfl⟩ F.entry_tuple_mul (F.args_tuple_mul_2 _ _) (tuple_mul1 l its.toArray n dd sl t) ⟨ho, ⟨.ref l, H, I, rfl, q⟩⟩⟩)
def rOr (r r' : R2) : R2 := fun x y H Q => r x y H Q ∨ r' x y H Q
theorem opR_or {f : Value → Value → Sem Value} {r r' : R2} (h : OpR X f r) (h' : OpR X f r') : OpR X f (rOr r r') := by
  intro pins s σ H x y v u Q I rx ry q
  rcases q with q | q
  · exact h pins s σ H x y v u Q I rx ry q
  · exact h' pins s σ H x y v u Q I rx ry q
theorem op_repTA : OpR X (binaryOp .Mult) (rOr (rRepT1 X.K) (rRepT X.K)) := opR_or op_repT1 op_repT
/-- x is None, x is not None -/
def rIsNn : R2 := fun x y H Q => y = .non ∧ Q (.bl (decide (x = .non))) H
def rNotNn : R2 := fun x y H Q => y = .non ∧ Q (.bl (!decide (x = .non))) H
theorem op_isNn : OpR X (compareOp .Is) rIsNn := op_isN
theorem op_notNn : OpR X (compareOp .IsNot) rNotNn := op_notN
/-! ### within a comprehension the frag must be told by its name -/
theorem ixK (R : PySem.W.Frag → R2) (K : PySem.W.Frag) (h : IxR X (R X.K)) (e : X.K = K := by rfl) : IxR X (R K) := e ▸ h
theorem opK {f : Value → Value → Sem Value} (R : PySem.W.Frag → R2) (K : PySem.W.Frag) (h : OpR X f (R X.K)) (e : X.K = K := by rfl) : OpR X f (R K) := e ▸ h
theorem callK {f : Value} (R : PySem.W.Frag → List V → Hp → VK → Prop) (K : PySem.W.Frag) (h : CallR X f (R X.K)) (e : X.K = K := by rfl) : CallR X f (R K) := e ▸ h
theorem pe_fldK {f : Str} (K : PySem.W.Frag) (h : PE X (.Attribute a f pos) (tFld X.K ta f)) (e : X.K = K := by rfl) : PE X (.Attribute a f pos) (tFld K ta f) := e ▸ h
end
end L2
set_option Elab.async false
set_option linter.all false
set_option maxRecDepth 100000
set_option maxHeartbeats 4000000
set_option exponentiation.threshold 9000
namespace Sl
open PySem L2 C8 StX
/-! ### great numbers -/
def BBn : Nat := 2 ^ 8900
theorem bbn_pos : 1000000 ≤ BBn := by
  unfold BBn
  have e : (2 : Nat) ^ 8900 = 2 ^ 20 * 2 ^ 8880 := (Nat.pow_add 2 20 8880)
  have : (1 : Nat) ≤ 2 ^ 8880 := Nat.pow_pos (by decide)
  rw [e]
  omega
theorem bbn_lt : BBn < 2 ^ 8901 := by
  unfold BBn
  exact Nat.pow_lt_pow_right (by decide) (by decide)
def BB : Int := (BBn : Nat)
theorem bb_nat {i : Int} (h0 : -BB ≤ i) (h : i ≤ BB) : i.natAbs < 2 ^ 8901 := by
  have := bbn_lt
  unfold BB at h0 h
  generalize (2 : Nat) ^ 8001 = b at *
  omega
theorem bb_pos : 1000000 ≤ BB := by have := bbn_pos; unfold BB; omega
def DDn : Nat := 2 ^ 2000
/-- days are below this -/
def DD : Int := (DDn : Nat)
theorem dd_pos : 1000000 ≤ DD := by
  have : 1000000 ≤ DDn := by
    unfold DDn
    have e : (2 : Nat) ^ 2000 = 2 ^ 20 * 2 ^ 1980 := (Nat.pow_add 2 20 1980)
    have : (1 : Nat) ≤ 2 ^ 1980 := Nat.pow_pos (by decide)
    rw [e]
    omega
  unfold DD; omega
theorem dd_bb : DD * 1000 ≤ BB := by
  have h : DDn * 1000 ≤ BBn := by
    unfold DDn BBn
    have e : (2 : Nat) ^ 8900 = 2 ^ 2000 * 2 ^ 6900 := (Nat.pow_add 2 2000 6900)
    have e2 : (2 : Nat) ^ 6900 = 2 ^ 10 * 2 ^ 6890 := (Nat.pow_add 2 10 6890)
    have : (1 : Nat) ≤ 2 ^ 6890 := Nat.pow_pos (by decide)
    rw [e]
    exact Nat.mul_le_mul_left _ (by omega)
  unfold DD BB
  omega
theorem cmulw {i j : Int} (h0 : -BB ≤ i) (h : i ≤ BB) (g0 : -BB ≤ j) (g : j ≤ BB) : CMulW i j := wide_mul (bb_nat h0 h) (bb_nat g0 g) (by decide) (by decide) (by decide)
theorem cdivw {i j : Int} (h0 : 0 < j) (h : j ≤ BB) : CDivW i j := wide_div h0 (bb_nat (by have := bb_pos; omega) h) (by decide) (by decide)
/-! ### heaps -/
theorem Same.new {H H' : Hp} {p : Addr} {o : HO} (e : Same H H') (h : H' p = none) : Same H (upd H' p o) := fun a u ha => by
  rw [upd_ne (ne_of_none (e a u ha) h)]
  exact e a u ha
theorem Same.mut {H H' : Hp} {p : Addr} {o : HO} (e : Same H H') (h : H p = none) : Same H (upd H' p o) := fun a u ha => by
  rw [upd_ne (ne_of_none ha h)]
  exact e a u ha
mutual
/-- a value that holds data, all of it tracked -/
inductive Dt (H : Hp) : V → PyData → Prop
  | non : Dt H .non .none
  | bl (b : Bool) : Dt H (.bl b) (.bool b)
  | int (i : Int) : Dt H (.int i) (.int i)
  | str (x : Str) : Dt H (.str x) (.str x)
  | lst {a : Addr} {xs : List V} {ds : List PyData} : H a = some (.lst xs) → DtAll H xs ds → Dt H (.ref a) (.list ds)
  | tup {a : Addr} {xs : List V} {ds : List PyData} : H a = some (.tup xs) → DtAll H xs ds → Dt H (.ref a) (.tuple ds)
inductive DtAll (H : Hp) : List V → List PyData → Prop
  | nil : DtAll H [] []
  | cons {v : V} {vs : List V} {d : PyData} {ds : List PyData} : Dt H v d → DtAll H vs ds → DtAll H (v :: vs) (d :: ds)
end
mutual
theorem Dt.mono {H H' : Hp} (s : Same H H') : ∀ {v : V} {d : PyData}, Dt H v d → Dt H' v d
  | _, _, .non => .non
  | _, _, .bl b => .bl b
  | _, _, .int i => .int i
  | _, _, .str x => .str x
  | _, _, .lst e h => .lst (s _ _ e) (DtAll.mono s h)
  | _, _, .tup e h => .tup (s _ _ e) (DtAll.mono s h)
theorem DtAll.mono {H H' : Hp} (s : Same H H') : ∀ {vs : List V} {ds : List PyData}, DtAll H vs ds → DtAll H' vs ds
  | _, _, .nil => .nil
  | _, _, .cons h t => .cons (Dt.mono s h) (DtAll.mono s t)
end
mutual
theorem Dt.dp {K : PySem.W.Frag} {H : Hp} : ∀ {v : V} {d : PyData}, Dt H v d → Dp K H v d
  | _, _, .non => .non
  | _, _, .bl b => .bl b
  | _, _, .int i => .int i
  | _, _, .str x => .str x
  | _, _, .lst e h => .lst (SqL.of e) (DtAll.dp h)
  | _, _, .tup e h => .tup (SqT.of e) (DtAll.dp h)
theorem DtAll.dp {K : PySem.W.Frag} {H : Hp} : ∀ {vs : List V} {ds : List PyData}, DtAll H vs ds → DpAll K H vs ds
  | _, _, .nil => .nil
  | _, _, .cons h t => .cons (Dt.dp h) (DtAll.dp t)
end
theorem DtAll.length {H : Hp} : ∀ {vs : List V} {ds : List PyData}, DtAll H vs ds → vs.length = ds.length
  | _, _, .nil => rfl
  | _, _, .cons _ t => by rw [List.length_cons, List.length_cons, DtAll.length t]
theorem DtAll.get {H : Hp} : ∀ {vs : List V} {ds : List PyData} {i : Nat} {d : PyData}, DtAll H vs ds → ds[i]? = some d → ∃ v, vs[i]? = some v ∧ Dt H v d
  | _, _, _, _, .nil, h => by simp at h
  | _, _, 0, _, .cons h _, e => by simp at e; subst e; exact ⟨_, rfl, h⟩
  | _, _, i + 1, _, .cons _ t, e => by
    obtain ⟨v, h1, h2⟩ := DtAll.get (i := i) t (by simpa using e)
    exact ⟨v, by simpa using h1, h2⟩
theorem DtAll.getV {H : Hp} : ∀ {vs : List V} {ds : List PyData} {i : Nat} {v : V}, DtAll H vs ds → vs[i]? = some v → ∃ d, ds[i]? = some d ∧ Dt H v d
  | _, _, _, _, .nil, h => by simp at h
  | _, _, 0, _, .cons h _, e => by simp at e; subst e; exact ⟨_, rfl, h⟩
  | _, _, i + 1, _, .cons _ t, e => by
    obtain ⟨v, h1, h2⟩ := DtAll.getV (i := i) t (by simpa using e)
    exact ⟨v, by simpa using h1, h2⟩
theorem DtAll.append {H : Hp} : ∀ {vs ws : List V} {ds es : List PyData}, DtAll H vs ds → DtAll H ws es → DtAll H (vs ++ ws) (ds ++ es)
  | _, _, _, _, .nil, s => s
  | _, _, _, _, .cons h t, s => .cons h (DtAll.append t s)
theorem DtAll.take {H : Hp} : ∀ {vs : List V} {ds : List PyData} (n : Nat), DtAll H vs ds → DtAll H (vs.take n) (ds.take n)
  | _, _, 0, _ => .nil
  | _, _, _ + 1, .nil => .nil
  | _, _, n + 1, .cons h t => .cons h (DtAll.take n t)
theorem DtAll.drop {H : Hp} : ∀ {vs : List V} {ds : List PyData} (n : Nat), DtAll H vs ds → DtAll H (vs.drop n) (ds.drop n)
  | _, _, 0, r => r
  | _, _, _ + 1, .nil => .nil
  | _, _, n + 1, .cons _ t => DtAll.drop n t
/-- ints -/
def intsD (ns : List Int) : List PyData := ns.map PyData.int
theorem DtAll.intsD {H : Hp} : ∀ (ns : List Int), DtAll H (ns.map V.int) (intsD ns)
  | [] => .nil
  | n :: ns => .cons (.int n) (DtAll.intsD ns)
theorem DtAll.intsD_inv {H : Hp} : ∀ {ns : List Int} {vs : List V}, DtAll H vs (Sl.intsD ns) → vs = ns.map V.int
  | [], _, .nil => rfl
  | n :: ns, _, .cons (.int _) t => by rw [DtAll.intsD_inv t]; rfl
/-! ### readings by names -/
def rNewL (Q : VK) (xs : List V) (H1 : Hp) : Prop := xs.length ≤ sizeLine ∧ ∀ p, H1 p = none → Q (.ref p) (upd H1 p (.lst xs))
def rNewT (Q : VK) (xs : List V) (H1 : Hp) : Prop := xs.length ≤ sizeLine ∧ ∀ p, H1 p = none → Q (.ref p) (upd H1 p (.tup xs))
def rMax2 : List V → Hp → VK → Prop := fun xs H Q => ∃ i j, xs = [.int i, .int j] ∧ Q (.int (if j > i then j else i)) H
def rMin2 : List V → Hp → VK → Prop := fun xs H Q => ∃ i j, xs = [.int i, .int j] ∧ Q (.int (if j < i then j else i)) H
def rAbs : List V → Hp → VK → Prop := fun xs H Q => ∃ i, xs = [.int i] ∧ Q (.int (if i < 0 then -i else i)) H
def rInt1 : List V → Hp → VK → Prop := fun xs H Q => (∃ i, xs = [.int i] ∧ Q (.int i) H) ∨ ∃ k, xs = [.bl k] ∧ Q (.int (if k then 1 else 0)) H
def rLenS (K : PySem.W.Frag) : List V → Hp → VK → Prop := fun xs H Q => ∃ p ys, xs = [.ref p] ∧ (SqL K H p ys ∨ SqT K H p ys) ∧ Q (.int ys.length) H
def rIsC (C : Addr) : List V → Hp → VK → Prop := fun xs H Q => ∃ a dx fs, xs = [.ref a, .ref C] ∧ H a = some (.ins C dx fs) ∧ Q (.bl true) H
def rTupOf (K : PySem.W.Frag) : List V → Hp → VK → Prop := fun xs H Q => ∃ p ys, xs = [.ref p] ∧ ((SqL K H p ys ∧ ∀ l, H l = none → Q (.ref l) (upd H l (.tup ys))) ∨ (SqT K H p ys ∧ Q (.ref p) H))
def rLstOf (K : PySem.W.Frag) : List V → Hp → VK → Prop := fun xs H Q => ∃ p ys, xs = [.ref p] ∧ (SqL K H p ys ∨ SqT K H p ys) ∧ ∀ l, H l = none → Q (.ref l) (upd H l (.lst ys))
def rFld (K : PySem.W.Frag) (f : Str) : V → Hp → VK → Prop := fun x H1 Q => ∃ a C dx fs v, x = .ref a ∧ H1 a = some (.ins C dx fs) ∧ Cls K C ∧ NoAttr K C f ∧ fs.lookup f = some v ∧ Q v H1
section
variable {X : Cx}
theorem cr_max2 (hc : X.calm = true) : CallR X (.builtin "max") rMax2 := call_max2 hc
theorem cr_min2 (hc : X.calm = true) : CallR X (.builtin "min") rMin2 := call_min2 hc
theorem cr_abs : CallR X (.builtin "abs") rAbs := call_abs
theorem cr_int1 : CallR X (.type "int") rInt1 := call_int1
theorem cr_lenS : CallR X (.builtin "len") (rLenS X.K) := call_len_seq
theorem cr_isC {C : Addr} (c : InsC X.K C) : CallR X (.builtin "isinstance") (rIsC C) := call_isC c
theorem cr_tupOf : CallR X (.type "tuple") (rTupOf X.K) := call_tuple_of
theorem cr_lstOf : CallR X (.type "list") (rLstOf X.K) := call_list_of
end
/-! ### readings, backwards -/
section
variable {σ : L2.St} {H H' : Hp} {Q : VK} {E : XK} {te ta tb tc : TE} {t u : TS} {g : TG} {i : Nat} {v x y : V} {K : PySem.W.Frag} {nx bk ct : L2.St → Hp → Prop} {rt : VK} {QB : Bool → Hp → Prop} {QL : List V → Hp → Prop} {QS : L2.St → Hp → Prop}
theorem rd_seq (h : t ⟨u ⟨nx, rt, bk, ct⟩, rt, bk, ct⟩ σ H) : tSeq t u ⟨nx, rt, bk, ct⟩ σ H := h
theorem rd_asg (h : te σ H fun x H1 => nx (σ.set i (some x)) H1) : tAsg te (gName i) ⟨nx, rt, bk, ct⟩ σ H := h
theorem rd_asgG (h : te σ H fun x H1 => g x σ H1 nx) : tAsg te g ⟨nx, rt, bk, ct⟩ σ H := h
theorem rd_drop (h : te σ H fun _ H1 => nx σ H1) : tDrop te ⟨nx, rt, bk, ct⟩ σ H := h
theorem rd_ret (h : te σ H rt) : tRet te ⟨nx, rt, bk, ct⟩ σ H := h
theorem rd_retN (h : rt .non H) : tRetN ⟨nx, rt, bk, ct⟩ σ H := h
theorem rd_next (h : nx σ H) : tNext ⟨nx, rt, bk, ct⟩ σ H := h
theorem rd_break (h : bk σ H) : tBreak ⟨nx, rt, bk, ct⟩ σ H := h
theorem rd_cont (h : ct σ H) : tCont ⟨nx, rt, bk, ct⟩ σ H := h
theorem rd_ifS {c : TT} (h : c σ H fun b H1 => if b = true then t ⟨nx, rt, bk, ct⟩ σ H1 else u ⟨nx, rt, bk, ct⟩ σ H1) : tIfS c t u ⟨nx, rt, bk, ct⟩ σ H := h
theorem rd_par {j : Nat} {ta : TA} (h : ta σ H fun vs H1 => ∃ v w, vs = [v, w] ∧ nx ((σ.set i (some v)).set j (some w)) H1) : tPar i j ta ⟨nx, rt, bk, ct⟩ σ H := h
theorem rd_par2 {w : V} {R : V → V → Prop} (h : R v w) : ∃ v' w', [v, w] = [v', w'] ∧ R v' w' := ⟨v, w, rfl, h⟩
theorem rd_par3 {j l : Nat} {ta : TA} (h : ta σ H fun vs H1 => ∃ u v w, vs = [u, v, w] ∧ nx (((σ.set i (some u)).set j (some v)).set l (some w)) H1) : tPar3 i j l ta ⟨nx, rt, bk, ct⟩ σ H := h
theorem rd_par4 {u v w : V} {R : V → V → V → Prop} (h : R u v w) : ∃ u' v' w', [u, v, w] = [u', v', w'] ∧ R u' v' w' := ⟨u, v, w, rfl, h⟩
theorem rd_aug {ti : TIp} (e : σ[i]? = some (some x)) (h : te σ H fun y H1 => ti x y H1 fun z H2 => nx (σ.set i (some z)) H2) : tAug i te ti ⟨nx, rt, bk, ct⟩ σ H := ⟨x, e, h⟩
theorem rd_var (e : σ[i]? = some (some v)) (h : Q v H) : tVar i σ H Q := ⟨v, e, h⟩
theorem rd_var0 (h : ∃ v, σ[i]? = some (some v) ∧ Q v H) : tVar i σ H Q := h
theorem rd_aug0 {ti : TIp} (h : ∃ x, σ[i]? = some (some x) ∧ te σ H fun y H1 => ti x y H1 fun z H2 => nx (σ.set i (some z)) H2) : tAug i te ti ⟨nx, rt, bk, ct⟩ σ H := h
theorem rd_c (h : Q v H) : tC v σ H Q := h
theorem rd_op {r : R2} (h : ta σ H fun x H1 => tb σ H1 fun y H2 => r x y H2 Q) : tOp r ta tb σ H Q := h
theorem rd_un {r : V → Hp → VK → Prop} (h : ta σ H fun x H1 => r x H1 Q) : tUn r ta σ H Q := h
theorem rd_I0 {f : Int → Int → V} {a b : Int} (h : Q (f a b) H) : rI0 f (.int a) (.int b) H Q := ⟨a, b, rfl, rfl, h⟩
theorem rd_I {C : Int → Int → Prop} {f : Int → Int → V} {a b : Int} (c : C a b) (h : Q (f a b) H) : rI C f (.int a) (.int b) H Q := ⟨a, b, rfl, rfl, c, h⟩
theorem rd_U {f : Int → V} {a : Int} (h : Q (f a) H) : rU f (.int a) H Q := ⟨a, rfl, h⟩
theorem rd_ipI {f : Int → Int → Int} {a b : Int} (h : Q (.int (f a b)) H) : ipI f (.int a) (.int b) H Q := ⟨a, b, rfl, rfl, h⟩
theorem rd_eq (s : scal x y = true) (h : Q (.bl (decide (x = y))) H) : rEq x y H Q := ⟨s, h⟩
theorem rd_ne (s : scal x y = true) (h : Q (.bl (!decide (x = y))) H) : rNe x y H Q := ⟨s, h⟩
theorem rd_eqI {a b : Int} (h : Q (.bl (decide (a = b))) H) : rEq (.int a) (.int b) H Q := ⟨rfl, by
  have e : decide (V.int a = V.int b) = decide (a = b) := by
    by_cases c : a = b
    · rw [decide_eq_true c, decide_eq_true (by rw [c])]
    · rw [decide_eq_false c, decide_eq_false (by intro z; exact c (V.int.inj z))]
  rw [e]; exact h⟩
theorem rd_neI {a b : Int} (h : Q (.bl (!decide (a = b))) H) : rNe (.int a) (.int b) H Q := ⟨rfl, by
  have e : decide (V.int a = V.int b) = decide (a = b) := by
    by_cases c : a = b
    · rw [decide_eq_true c, decide_eq_true (by rw [c])]
    · rw [decide_eq_false c, decide_eq_false (by intro z; exact c (V.int.inj z))]
  rw [e]; exact h⟩
theorem rd_test (h : te σ H fun x H' => ∃ k, x = .bl k ∧ QB k H') : tTest te σ H QB := h
theorem rd_tB (h : te σ H fun x H' => ∃ k, x = .bl k ∧ QB k H') : tB te σ H QB := h
theorem rd_bl {b : Bool} {R : Bool → Prop} (h : R b) : ∃ k, V.bl b = .bl k ∧ R k := ⟨b, rfl, h⟩
theorem rd_not {c : TT} (h : c σ H fun b H1 => QB (!b) H1) : tNot c σ H QB := h
theorem rd_and {c d : TT} (h : c σ H fun b H1 => if b = true then d σ H1 QB else QB false H1) : tAnd c d σ H QB := h
theorem rd_or {c d : TT} (h : c σ H fun b H1 => if b = true then QB true H1 else d σ H1 QB) : tOr c d σ H QB := h
theorem rd_andV (h : ta σ H fun x H1 => ∃ c, x = .bl c ∧ if c = true then tb σ H1 Q else Q (.bl false) H1) : tAndV ta tb σ H Q := h
theorem rd_orV (h : ta σ H fun x H1 => ∃ c, x = .bl c ∧ if c = true then Q (.bl true) H1 else tb σ H1 Q) : tOrV ta tb σ H Q := h
theorem rd_notV (h : ta σ H fun x H1 => ∃ c, x = .bl c ∧ Q (.bl (!c)) H1) : tNotV ta σ H Q := h
theorem rd_ifE {c : TT} (h : c σ H fun b H1 => if b = true then ta σ H1 Q else tb σ H1 Q) : tIf c ta tb σ H Q := h
theorem rd_chain {r r' : R2} (h : ta σ H fun x H1 => tb σ H1 fun y H2 => r x y H2 fun z H3 => ∃ k, z = .bl k ∧ (if k = true then tc σ H3 fun w' H4 => r' y w' H4 Q else Q (.bl false) H3)) : tChain r r' ta tb tc σ H Q := h
theorem rd_chain3 {r r' r'' : R2} {td : TE} (h : ta σ H fun x H1 => tb σ H1 fun y H2 => r x y H2 fun z H3 => ∃ k, z = .bl k ∧
  (if k = true then tc σ H3 fun w' H4 => r' y w' H4 fun z' H5 => ∃ k', z' = .bl k' ∧ (if k' = true then td σ H5 fun v' H6 => r'' w' v' H6 Q else Q (.bl false) H5) else Q (.bl false) H3)) : tChain3 r r' r'' ta tb tc td σ H Q := h
theorem rd_nil (h : QL [] H) : tNil σ H QL := h
theorem rd_cons {tr : TA} (h : ta σ H fun x H1 => tr σ H1 fun xs H2 => QL (x :: xs) H2) : tCons ta tr σ H QL := h
theorem rd_call {sp : Sp} {dvs : List V} {t : TA} (h : t σ H fun vs H1 => sp (vs ++ dvs) H1 Q E) : tCall sp dvs E t σ H Q := h
theorem rd_CB {r : List V → Hp → VK → Prop} {t : TA} (h : t σ H fun vs H1 => r vs H1 Q) : tCB r t σ H Q := h
theorem rd_gname {j : Nat} (h : QS (σ.set j (some v)) H) : gName j v σ H QS := h
theorem rd_gcons {tg : TG} {ug : TGs} {r : List V} (h : tg v σ H fun σ' H' => ug r σ' H' QS) : gCons tg ug (v :: r) σ H QS := ⟨v, r, rfl, h⟩
theorem rd_gnil (h : QS σ H) : gNil [] σ H QS := ⟨rfl, h⟩
theorem rd_gtup {n : Nat} {tg : TGs} {a : Addr} {xs : List V} (e : H a = some (.tup xs)) (l : xs.length = n) (h : tg xs σ H QS) : gTup K n tg (.ref a) σ H QS := ⟨a, xs, rfl, SqT.of e, l, h⟩
theorem rd_max {a b : Int} (h : Q (.int (max a b)) H) : rMax2 [.int a, .int b] H Q := ⟨a, b, rfl, by
  have e : (if b > a then b else a) = max a b := by split <;> omega
  rw [e]; exact h⟩
theorem rd_min {a b : Int} (h : Q (.int (min a b)) H) : rMin2 [.int a, .int b] H Q := ⟨a, b, rfl, by
  have e : (if b < a then b else a) = min a b := by split <;> omega
  rw [e]; exact h⟩
theorem rd_lenL {a : Addr} {xs : List V} (e : H a = some (.lst xs)) (h : Q (.int xs.length) H) : rLenS K [.ref a] H Q := ⟨a, xs, rfl, .inl (SqL.of e), h⟩
theorem rd_lenT {a : Addr} {xs : List V} (e : H a = some (.tup xs)) (h : Q (.int xs.length) H) : rLenS K [.ref a] H Q := ⟨a, xs, rfl, .inr (SqT.of e), h⟩
theorem rd_lenSq {a : Addr} {xs : List V} (e : SqL K H a xs) (h : Q (.int xs.length) H) : rLenS K [.ref a] H Q := ⟨a, xs, rfl, .inl e, h⟩
theorem rd_int1 {a : Int} (h : Q (.int a) H) : rInt1 [.int a] H Q := .inl ⟨a, rfl, h⟩
theorem rd_abs {a : Int} (h : Q (.int a.natAbs) H) : rAbs [.int a] H Q := ⟨a, rfl, by
  have e : (if a < 0 then -a else a) = (a.natAbs : Int) := by split <;> omega
  rw [e]; exact h⟩
theorem rd_isC {C a dx : Addr} {fs : List (Str × V)} (e : H a = some (.ins C dx fs)) (h : Q (.bl true) H) : rIsC C [.ref a, .ref C] H Q := ⟨a, dx, fs, rfl, e, h⟩
theorem rd_tupOfL {a : Addr} {xs : List V} (e : H a = some (.lst xs)) (h : ∀ p H', H p = none → Same H H' → H' p = some (.tup xs) → H' = upd H p (.tup xs) → Q (.ref p) H') : rTupOf K [.ref a] H Q :=
  ⟨a, xs, rfl, .inl ⟨SqL.of e, fun p hp => h p _ hp (Same.new (Same.refl H) hp) upd_same rfl⟩⟩
theorem rd_tupOfT {a : Addr} {xs : List V} (e : H a = some (.tup xs)) (h : Q (.ref a) H) : rTupOf K [.ref a] H Q := ⟨a, xs, rfl, .inr ⟨SqT.of e, h⟩⟩
theorem rd_fld0 {f : Str} (h : te σ H fun x H1 => rFld K f x H1 Q) : tFld K te f σ H Q := h
theorem rd_fld {a C dx : Addr} {fs : List (Str × V)} {f : Str} (e : H a = some (.ins C dx fs)) (c : Cls K C) (n : NoAttr K C f) (l : fs.lookup f = some v) (h : Q v H) : rFld K f (.ref a) H Q :=
  ⟨a, C, dx, fs, v, rfl, e, c, n, l, h⟩
theorem rd_sum {a : Addr} {ns : List Int} (e : SqL K H a (ns.map V.int)) (h : Q (.int ns.sum) H) : rSum K [.ref a] H Q := ⟨a, ns, rfl, e, h⟩
theorem rd_sl0 {r : V → Option Int → Option Int → Hp → VK → Prop} {tl th : TO} (h : te σ H fun x H1 => tl σ H1 fun l H2 => th σ H2 fun u H3 => r x l u H3 Q) : tSl r te tl th σ H Q := h
theorem rd_noP {QO : Option Int → Hp → Prop} (h : QO none H) : tNoPart σ H QO := h
theorem rd_part {QO : Option Int → Hp → Prop} (h : te σ H fun x H1 => ∃ i, x = .int i ∧ QO (some i) H1) : tPart te σ H QO := h
theorem rd_part2 {R : Int → Prop} {j : Int} (h : R j) : ∃ i, V.int j = .int i ∧ R i := ⟨j, rfl, h⟩
theorem rd_slL {a : Addr} {xs : List V} {lo hi : Option Int} (e : SqL K H a xs) (h : ∀ p H', H p = none → Same H H' → H' p = some (.lst (cutV xs lo hi)) → H' = upd H p (.lst (cutV xs lo hi)) → Q (.ref p) H') : rSlL K (.ref a) lo hi H Q :=
  ⟨a, xs, rfl, e, fun p hp => h p _ hp (Same.new (Same.refl H) hp) upd_same rfl⟩
theorem cut_whole {xs : List V} {lo hi : Option Int} (h : HT.sIx xs.length 0 lo = 0 ∧ HT.sIx xs.length xs.length hi = xs.length) : cutV xs lo hi = xs := by
  unfold cutV
  rw [h.1, h.2]
  simp
theorem rd_slA {a : Addr} {xs : List V} {lo hi : Option Int} (e : H a = some (.tup xs)) (h : ∀ p H', Same H H' → H' p = some (.tup (cutV xs lo hi)) → Q (.ref p) H') : rSlA K (.ref a) lo hi H Q :=
  ⟨a, xs, rfl, SqT.of e, fun c => h a H (Same.refl H) (by rw [cut_whole c]; exact e), fun _ p hp => h p _ (Same.new (Same.refl H) hp) upd_same⟩
theorem rd_cat {a b : Addr} {xs ys : List V} (e1 : H a = some (.lst xs)) (e2 : H b = some (.lst ys)) (l : xs.length + ys.length ≤ 100000) (h : ∀ p H', H p = none → Same H H' → H' p = some (.lst (xs ++ ys)) → H' = upd H p (.lst (xs ++ ys)) → Q (.ref p) H') : rCat (.ref a) (.ref b) H Q :=
  ⟨a, b, xs, ys, rfl, rfl, e1, e2, Nat.le_trans l (by decide), fun p hp => h p _ hp (Same.new (Same.refl H) hp) upd_same rfl⟩
theorem rd_eqD {d e : PyData} (h1 : Dt H x d) (h2 : Dt H y e) (s1 : SeqAt.shaped d = true) (s2 : SeqAt.shaped e = true) (h : Q (.bl (PyData.eqv d e)) H) : rEqD K x y H Q := ⟨d, e, h1.dp, h2.dp, s1, s2, h⟩
theorem rd_neD {d e : PyData} (h1 : Dt H x d) (h2 : Dt H y e) (s1 : SeqAt.shaped d = true) (s2 : SeqAt.shaped e = true) (h : Q (.bl (!PyData.eqv d e)) H) : rNeD K x y H Q := ⟨d, e, h1.dp, h2.dp, s1, s2, h⟩
theorem rd_ownI {C a dx : Addr} {fs : List (Str × V)} {sp : Sp} {dvs : List V} (e : H a = some (.ins C dx fs)) (h : sp (.ref a :: ([y] ++ dvs)) H Q C8.E0) : rOwnI C sp dvs (.ref a) y H Q := ⟨a, dx, fs, rfl, e, h⟩
theorem rd_meth0 {C : Addr} {m : Str} {sp : Sp} {dvs : List V} {t : TA} (h : ta σ H fun x H1 => ∃ a dx fs, x = .ref a ∧ H1 a = some (.ins C dx fs) ∧ fs.lookup m = none ∧ t σ H1 fun vs H2 => sp (x :: (vs ++ dvs)) H2 Q E) : tMeth C m sp dvs E ta t σ H Q := h
theorem rd_star {t : TA} (h : te σ H fun x H1 => ∃ p xs, x = V.ref p ∧ (SqT K H1 p xs ∨ SqL K H1 p xs) ∧ t σ H1 fun ys H2 => QL (xs ++ ys) H2) : tStar K te t σ H QL := h
theorem rd_ixL {a : Addr} {xs : List V} {j : Int} (e : H a = some (.lst xs)) (n : atI xs j = some v) (h : Q v H) : rIxL K (.ref a) (.int j) H Q := ⟨a, xs, j, v, rfl, rfl, SqL.of e, n, h⟩
theorem rd_ixT {a : Addr} {xs : List V} {j : Int} (e : H a = some (.tup xs)) (n : atI xs j = some v) (h : Q v H) : rIxT K (.ref a) (.int j) H Q := ⟨a, xs, j, v, rfl, rfl, SqT.of e, n, h⟩
theorem rd_lst {t : TA} (h : t σ H fun xs H1 => rNewL Q xs H1) : tLst t σ H Q := h
theorem rd_tup {t : TA} (h : t σ H fun xs H1 => rNewT Q xs H1) : tTup t σ H Q := h
/-- a new object: its heap by a name -/
theorem rd_newL {xs : List V} (l : xs.length ≤ 100000) (h : ∀ p H', H p = none → Same H H' → H' p = some (.lst xs) → H' = upd H p (.lst xs) → Q (.ref p) H') : rNewL Q xs H :=
  ⟨Nat.le_trans l (by decide), fun p hp => h p _ hp (Same.new (Same.refl H) hp) upd_same rfl⟩
theorem rd_newT {xs : List V} (l : xs.length ≤ 100000) (h : ∀ p H', H p = none → Same H H' → H' p = some (.tup xs) → H' = upd H p (.tup xs) → Q (.ref p) H') : rNewT Q xs H :=
  ⟨Nat.le_trans l (by decide), fun p hp => h p _ hp (Same.new (Same.refl H) hp) upd_same rfl⟩
theorem rd_app {a : Addr} {xs : List V} (e : H a = some (.lst xs)) (l : xs.length < 100000) (h : ∀ H', H' = upd H a (.lst (xs ++ [y])) → H' a = some (.lst (xs ++ [y])) → Q .non H') : rAppend (.ref a) [y] H Q :=
  ⟨a, xs, y, rfl, rfl, e, Nat.lt_trans l (by decide), h _ rfl upd_same⟩
theorem rd_bm {r : V → List V → Hp → VK → Prop} {t : TA} (h : ta σ H fun x H1 => tyV K "list" x H1 ∧ t σ H1 fun xs H2 => r x xs H2 Q) : tBM K "list" r ta t σ H Q := h
theorem rd_tyL {a : Addr} {xs : List V} {R : Prop} (e : H a = some (.lst xs)) (h : R) : tyV K "list" (.ref a) H ∧ R := ⟨.inl ⟨rfl, xs, SqL.of e⟩, h⟩
theorem rd_ite {p : Prop} [Decidable p] {A B : Prop} (h1 : p → A) (h2 : ¬ p → B) : if decide p = true then A else B := by
  by_cases c : p
  · rw [if_pos (decide_eq_true c)]; exact h1 c
  · rw [if_neg (by rw [decide_eq_false c]; exact Bool.false_ne_true)]; exact h2 c
theorem rd_iteT {p : Prop} [Decidable p] {A B : Prop} (c : p) (h1 : A) : if decide p = true then A else B := by rw [if_pos (decide_eq_true c)]; exact h1
theorem rd_iteF {p : Prop} [Decidable p] {A B : Prop} (c : ¬ p) (h1 : B) : if decide p = true then A else B := by rw [if_neg (by rw [decide_eq_false c]; exact Bool.false_ne_true)]; exact h1
theorem rd_iteN {p : Prop} [Decidable p] {A B : Prop} (h1 : ¬ p → A) (h2 : p → B) : if (!decide p) = true then A else B := by
  by_cases c : p
  · rw [if_neg (by rw [decide_eq_true c]; decide)]; exact h2 c
  · rw [if_pos (by rw [decide_eq_false c]; rfl)]; exact h1 c
theorem rd_iteNT {p : Prop} [Decidable p] {A B : Prop} (c : ¬ p) (h1 : A) : if (!decide p) = true then A else B := by rw [if_pos (by rw [decide_eq_false c]; rfl)]; exact h1
theorem rd_iteNF {p : Prop} [Decidable p] {A B : Prop} (c : p) (h1 : B) : if (!decide p) = true then A else B := by rw [if_neg (by rw [decide_eq_true c]; decide)]; exact h1
theorem rd_iteTT {A B : Prop} (h : A) : if true = true then A else B := by rw [if_pos rfl]; exact h
theorem rd_iteFF {A B : Prop} (h : B) : if false = true then A else B := by rw [if_neg Bool.false_ne_true]; exact h
theorem rd_iteNTT {A B : Prop} (h : B) : if (!true) = true then A else B := h
theorem rd_iteNFF {A B : Prop} (h : A) : if (!false) = true then A else B := h
end
end Sl
set_option Elab.async false
set_option linter.all false
set_option maxRecDepth 100000
set_option maxHeartbeats 4000000
namespace Sl
open PySem L2 C8 StX
def rMake (C : Addr) (sp : Sp) (dvs : List V) (E : XK) (Q : VK) (vs : List V) (H1 : Hp) : Prop := ∀ x dx, H1 x = none → H1 dx = none → dx ≠ x →
  sp (.ref x :: (vs ++ dvs)) (upd (upd H1 dx (.own x)) x (.ins C dx [])) (fun v H2 => v = .non ∧ Q (.ref x) H2) E
def rDrawN (Q : VK) (xs : List V) (H1 : Hp) : Prop := ∃ sc i, xs = [.ref sc, .int i] ∧ ∀ p, H1 p = none → Q (.ref p) (upd H1 p (DrawO p sc))
section
variable {σ : L2.St} {H H1 : Hp} {wi : TI} {g : TG} {tb : TS} {ta : TA} {te : TE} {tt : TT} {c : TT} {nx bk ct : L2.St → Hp → Prop} {rt : VK} {R : It → Hp → Prop} {K : PySem.W.Frag} {Q : VK} {vs : List Nat} {D : Ends}
def ForR (J : It) (g : TG) (tb : TS) (D : Ends) (σ : L2.St) (H1 : Hp) : Prop := ∃ W : Nat → Nat → L2.St → Hp → Prop, (∃ m, W 0 m σ H1) ∧ ∀ i m σ H, W i m σ H →
  (J.stop i H ∧ D.nx σ H) ∨ (J.go i H ∧ ∃ N : L2.St → Hp → Prop, (∀ σ' H', N σ' H' → ∃ m', m' < m ∧ W (i + 1) m' σ' H') ∧ ∀ x H', J.yld i H x H' → g x σ H' fun σ2 H2 => tb { D with nx := N, ct := N, bk := D.nx } σ2 H2)
theorem rd_for (h : wi σ H fun J H1 => ForR J g tb D σ H1) : tFor wi g tb D σ H := h
/-- n turns -/
theorem forR_gen (J : It) (n : Nat) (Pv : Nat → L2.St → Hp → Prop) (h0 : Pv 0 σ H) (hg : ∀ i σ H, i < n → Pv i σ H → J.go i H) (he : ∀ σ H, Pv n σ H → J.stop n H)
    (hs : ∀ i σ H x H', i < n → Pv i σ H → J.yld i H x H' → g x σ H' fun σ2 H2 => tb ⟨Pv (i + 1), rt, nx, Pv (i + 1)⟩ σ2 H2) (hd : ∀ σ H, Pv n σ H → nx σ H) : ForR J g tb ⟨nx, rt, bk, ct⟩ σ H := by
  refine ⟨fun i m σ H => m = n - i ∧ i ≤ n ∧ Pv i σ H, ⟨n, by simp, Nat.zero_le _, h0⟩, ?_⟩
  rintro i m σ H ⟨rfl, hi, p⟩
  by_cases hlt : i < n
  · exact .inr ⟨hg i σ H hlt p, Pv (i + 1), fun σ' H' p' => ⟨n - (i + 1), by omega, rfl, hlt, p'⟩, fun x H' y => hs i σ H x H' hlt p y⟩
  · obtain rfl : i = n := by omega
    exact .inl ⟨he σ H p, hd σ H p⟩
theorem forR_rng {lo : Int} {n : Nat} (Pv : Nat → L2.St → Hp → Prop) (h0 : Pv 0 σ H) (hs : ∀ i σ H, i < n → Pv i σ H → g (.int (lo + i)) σ H fun σ2 H2 => tb ⟨Pv (i + 1), rt, nx, Pv (i + 1)⟩ σ2 H2) (hd : ∀ σ H, Pv n σ H → nx σ H) :
    ForR (Itr lo n) g tb ⟨nx, rt, bk, ct⟩ σ H := forR_gen _ n Pv h0 (fun i _ _ h _ => h) (fun _ _ _ => Nat.le_refl _) (fun i σ H x H' hi p ⟨e1, e2⟩ => by subst e1; subst e2; exact hs i σ _ hi p) hd
theorem forR_rngC {lo c : Int} {n : Nat} (Pv : Nat → L2.St → Hp → Prop) (h0 : Pv 0 σ H) (hs : ∀ (i : Nat) σ H, i < n → Pv i σ H → g (.int (lo + (i : Nat) * c)) σ H fun σ2 H2 => tb ⟨Pv (i + 1), rt, nx, Pv (i + 1)⟩ σ2 H2) (hd : ∀ σ H, Pv n σ H → nx σ H) :
    ForR (Itc lo c n) g tb ⟨nx, rt, bk, ct⟩ σ H := forR_gen _ n Pv h0 (fun i _ _ h _ => h) (fun _ _ _ => Nat.le_refl _) (fun i σ H x H' hi p ⟨e1, e2⟩ => by subst e1; subst e2; exact hs i σ _ hi p) hd
theorem forR_lst {a : Addr} {xs : List V} (Pv : Nat → L2.St → Hp → Prop) (hl : ∀ i σ H, Pv i σ H → SqL K H a xs) (h0 : Pv 0 σ H) (hs : ∀ i x σ H, xs[i]? = some x → Pv i σ H → g x σ H fun σ2 H2 => tb ⟨Pv (i + 1), rt, nx, Pv (i + 1)⟩ σ2 H2) (hd : ∀ σ H, Pv xs.length σ H → nx σ H) :
    ForR (Itl K a) g tb ⟨nx, rt, bk, ct⟩ σ H := forR_gen _ xs.length Pv h0 (fun i σ H h p => ⟨xs, xs[i], hl i σ H p, by simp [h]⟩) (fun σ H p => ⟨xs, hl _ σ H p, Nat.le_refl _⟩)
      (fun i σ H x H' hi p ⟨e1, e2⟩ => by subst e1; exact hs i x σ _ (e2 xs (hl i σ _ p)) p) hd
theorem forR_tup {a : Addr} {xs : List V} (Pv : Nat → L2.St → Hp → Prop) (hl : ∀ i σ H, Pv i σ H → SqT K H a xs) (h0 : Pv 0 σ H) (hs : ∀ i x σ H, xs[i]? = some x → Pv i σ H → g x σ H fun σ2 H2 => tb ⟨Pv (i + 1), rt, nx, Pv (i + 1)⟩ σ2 H2) (hd : ∀ σ H, Pv xs.length σ H → nx σ H) :
    ForR (Itt K a) g tb ⟨nx, rt, bk, ct⟩ σ H := forR_gen _ xs.length Pv h0 (fun i σ H h p => ⟨xs, xs[i], hl i σ H p, by simp [h]⟩) (fun σ H p => ⟨xs, hl _ σ H p, Nat.le_refl _⟩)
      (fun i σ H x H' hi p ⟨e1, e2⟩ => by subst e1; exact hs i x σ _ (e2 xs (hl i σ _ p)) p) hd
/-- the pair is a new tuple at t -/
theorem forR_enum {a : Addr} {xs : List V} (Pv : Nat → L2.St → Hp → Prop) (hl : ∀ i σ H, Pv i σ H → SqL K H a xs) (h0 : Pv 0 σ H)
    (hs : ∀ (i : Nat) x σ H t H', xs[i]? = some x → Pv i σ H → H t = none → Same H H' → H' t = some (.tup [.int (i : Nat), x]) → H' = upd H t (.tup [.int (i : Nat), x]) → g (.ref t) σ H' fun σ2 H2 => tb ⟨Pv (i + 1), rt, nx, Pv (i + 1)⟩ σ2 H2) (hd : ∀ σ H, Pv xs.length σ H → nx σ H) :
    ForR (Ite K a) g tb ⟨nx, rt, bk, ct⟩ σ H := forR_gen _ xs.length Pv h0 (fun i σ H h p => ⟨xs, xs[i], hl i σ H p, by simp [h]⟩) (fun σ H p => ⟨xs, hl _ σ H p, Nat.le_refl _⟩)
      (fun i σ H x H' hi p ⟨t, y, e1, e2, e3, e4⟩ => by subst e1; subst e3; exact hs i y σ H t _ (e4 xs (hl i σ _ p)) p e2 (Same.new (Same.refl H) e2) upd_same rfl) hd
/-! ### what is walked -/
def rgR1 (R : It → Hp → Prop) (vs : List V) (H : Hp) : Prop := ∃ j : Int, vs = [.int j] ∧ -(2 ^ 62) ≤ j ∧ j < 2 ^ 62 ∧ R (Itr 0 j.toNat) H
theorem rd_rng1 (h : ta σ H fun vs H1 => rgR1 R vs H1) : iRng1 ta σ H R := h
theorem rd_rgR1 {j : Int} (h0 : -(2 ^ 62) ≤ j) (h1 : j < 2 ^ 62) (h : R (Itr 0 j.toNat) H) : rgR1 R [.int j] H := ⟨j, rfl, h0, h1, h⟩
def rgR2 (R : It → Hp → Prop) (vs : List V) (H : Hp) : Prop := ∃ i j : Int, vs = [.int i, .int j] ∧ (-(2 ^ 62) ≤ i ∧ i < 2 ^ 62 ∧ -(2 ^ 62) ≤ j ∧ j < 2 ^ 62) ∧ R (Itr i (j - i).toNat) H
theorem rd_rng2 (h : ta σ H fun vs H1 => rgR2 R vs H1) : iRng2 ta σ H R := h
theorem rd_rgR2 {i j : Int} (h0 : -(2 ^ 62) ≤ i ∧ i < 2 ^ 62 ∧ -(2 ^ 62) ≤ j ∧ j < 2 ^ 62) (h : R (Itr i (j - i).toNat) H) : rgR2 R [.int i, .int j] H := ⟨i, j, rfl, h0, h⟩
def rgR3 (R : It → Hp → Prop) (vs : List V) (H : Hp) : Prop := ∃ (i j c : Int) (n : Nat), vs = [.int i, .int j, .int c] ∧ RgC i j c n ∧ R (Itc i c n) H
theorem rd_rng3 (h : ta σ H fun vs H1 => rgR3 R vs H1) : iRng3 ta σ H R := h
theorem rd_rgDn {i j : Int} (h0 : -(2 ^ 62) ≤ i ∧ i < 2 ^ 62 ∧ -(2 ^ 62) ≤ j ∧ j < 2 ^ 62) (h : R (Itc i (-1) (i - j).toNat) H) : rgR3 R [.int i, .int j, .int (-1)] H := ⟨i, j, -1, _, rfl, RgC.neg h0.1 h0.2.1 h0.2.2.1 h0.2.2.2, h⟩
def lsR (K : PySem.W.Frag) (R : It → Hp → Prop) (x : V) (H : Hp) : Prop := ∃ a, x = .ref a ∧ (∃ xs, SqL K H a xs) ∧ R (Itl K a) H
theorem rd_iList (h : te σ H fun x H1 => lsR K R x H1) : iList K te σ H R := h
theorem rd_lsR {a : Addr} {xs : List V} (e : SqL K H a xs) (h : R (Itl K a) H) : lsR K R (.ref a) H := ⟨a, rfl, ⟨xs, e⟩, h⟩
def tpR (K : PySem.W.Frag) (R : It → Hp → Prop) (x : V) (H : Hp) : Prop := ∃ a, x = .ref a ∧ (∃ xs, SqT K H a xs) ∧ R (Itt K a) H
theorem rd_iTup (h : te σ H fun x H1 => tpR K R x H1) : iTup K te σ H R := h
theorem rd_tpR {a : Addr} {xs : List V} (e : SqT K H a xs) (h : R (Itt K a) H) : tpR K R (.ref a) H := ⟨a, rfl, ⟨xs, e⟩, h⟩
def enR (K : PySem.W.Frag) (R : It → Hp → Prop) (vs : List V) (H : Hp) : Prop := ∃ a xs, vs = [.ref a] ∧ SqL K H a xs ∧ R (Ite K a) H
theorem rd_iEnum (h : ta σ H fun vs H1 => enR K R vs H1) : iEnum K ta σ H R := h
theorem rd_enR {a : Addr} {xs : List V} (e : SqL K H a xs) (h : R (Ite K a) H) : enR K R [.ref a] H := ⟨a, xs, rfl, e, h⟩
/-! ### while -/
def WhN (m : Nat) (W : Nat → L2.St → Hp → Prop) (tb : TS) (rt : VK) (nx : L2.St → Hp → Prop) (σ : L2.St) (H1 : Hp) : Prop := ∃ N : L2.St → Hp → Prop, (∀ σ' H', N σ' H' → ∃ m', m' < m ∧ W m' σ' H') ∧ tb ⟨N, rt, nx, N⟩ σ H1
theorem rd_whN {m : Nat} {W : Nat → L2.St → Hp → Prop} (h : tb ⟨fun σ' H' => ∃ m', m' < m ∧ W m' σ' H', rt, nx, fun σ' H' => ∃ m', m' < m ∧ W m' σ' H'⟩ σ H) : WhN m W tb rt nx σ H := ⟨_, fun _ _ q => q, h⟩
theorem rd_while (W : Nat → L2.St → Hp → Prop) (m0 : Nat) (h0 : W m0 σ H) (hs : ∀ m σ H, W m σ H → c σ H fun b H1 => if b = true then WhN m W tb rt nx σ H1 else nx σ H1) :
    tWhile c tb ⟨nx, rt, bk, ct⟩ σ H := ⟨W, ⟨m0, h0⟩, hs⟩
/-! ### a new instance -/
theorem rd_make0 {C : Addr} {sp : Sp} {dvs : List V} {E : XK} {t : TA} (h : t σ H fun vs H1 => rMake C sp dvs E Q vs H1) : tMake C sp dvs E t σ H Q := h
theorem rd_make {C : Addr} {sp : Sp} {dvs : List V} {E : XK} {ws : List V} (h : ∀ x dx H2, Same H H2 → H x = none → H2 x = some (.ins C dx []) → sp (.ref x :: (ws ++ dvs)) H2 (fun v H3 => v = .non ∧ Q (.ref x) H3) E) : rMake C sp dvs E Q ws H :=
  fun x dx hx hdx hne => h x dx _ (fun b o e => by rw [upd_ne (ne_of_none e hx), upd_ne (ne_of_none e hdx)]; exact e) hx upd_same
/-! ### draws -/
theorem rd_augS {to ti te : TE} {tget : V → V → Hp → VK → Prop} {tip : TIp} {tset : TSet} (h : to σ H fun o H1 => ti σ H1 fun i H2 => tget o i H2 fun x H3 => te σ H3 fun y H4 => tip x y H4 fun z H5 => tset o i z H5 fun H6 => nx σ H6) : tAugS to ti te tget tip tset ⟨nx, rt, bk, ct⟩ σ H := h
theorem rd_draw0 {a sc : Addr} (e : H a = some (DrawO a sc)) (h : Q (.ref sc) H) : rDraw0 (.ref a) (.int 0) H Q := ⟨a, sc, rfl, rfl, e, h⟩
theorem rd_draw1 {a sc : Addr} (e : H a = some (DrawO a sc)) (h : ∀ i : Int, Q (.int i) H) : rDraw1 (.ref a) (.int 1) H Q := ⟨a, sc, rfl, rfl, e, h⟩
theorem rd_setDraw1 {a sc : Addr} {j : Int} {QH : Hp → Prop} (e : H a = some (DrawO a sc)) (h : QH H) : sDraw1 (.ref a) (.int 1) (.int j) H QH := ⟨a, sc, j, rfl, rfl, rfl, e, h⟩
theorem rd_drawNew {t : TA} (h : t σ H fun xs H1 => rDrawN Q xs H1) : tDraw t σ H Q := h
theorem rd_drawN {sc : Addr} {j : Int} (h : ∀ p H', H p = none → Same H H' → H' p = some (DrawO p sc) → Q (.ref p) H') : rDrawN Q [.ref sc, .int j] H := ⟨sc, j, rfl, fun p hp => h p _ hp (Same.new (Same.refl H) hp) upd_same⟩
/-! ### comprehensions -/
theorem rd_yes {QB : Bool → Hp → Prop} (h : QB true H) : tYes σ H QB := h
def LcR (J : It) (g : TG) (tt : TT) (te : TE) (vs : List Nat) (σ : L2.St) (H1 : Hp) (Q : VK) : Prop := ∀ D, H1 D = none → ∃ W : Nat → Nat → Hp → Prop, (∃ m, W 0 m (upd H1 D (.lst []))) ∧ ∀ i m H, W i m H →
  (J.stop i H ∧ Q (.ref D) H) ∨ (J.go i H ∧ ∃ Nx : Hp → Prop, (∀ H', Nx H' → ∃ m', m' < m ∧ W (i + 1) m' H') ∧ ∀ x H', J.yld i H x H' → g x (wipe σ vs) H' fun σ2 H2 => wipe σ2 vs = wipe σ vs ∧ tt σ2 H2 fun b H3 =>
    if b = true then te σ2 H3 fun y H4 => ∃ acc, H4 D = some (.lst acc) ∧ acc.length < sizeLine ∧ Nx (upd H4 D (.lst (acc ++ [y]))) else Nx H3)
theorem rd_lc (h : wi σ H fun J H1 => LcR J g tt te vs σ H1 Q) : tLc wi g tt te vs σ H Q := h
/-- what a comprehension does with an element -/
def LcE (D : Addr) (Nx : Hp → Prop) (y : V) (H4 : Hp) : Prop := ∃ acc, H4 D = some (.lst acc) ∧ acc.length < sizeLine ∧ Nx (upd H4 D (.lst (acc ++ [y])))
theorem rd_lcE {D : Addr} {Nx : Hp → Prop} {y : V} {acc : List V} (e : H D = some (.lst acc)) (l : acc.length < 100000) (h : ∀ H', H' = upd H D (.lst (acc ++ [y])) → H' D = some (.lst (acc ++ [y])) → Nx H') : LcE D Nx y H := ⟨acc, e, Nat.lt_trans l (by decide), h _ rfl upd_same⟩
theorem lcR_gen (J : It) (n : Nat) (Pv : Addr → Nat → Hp → Prop) (h0 : ∀ D H', H D = none → Same H H' → H' D = some (.lst []) → H' = upd H D (.lst []) → Pv D 0 H') (hg : ∀ D i H', H D = none → i < n → Pv D i H' → J.go i H') (he : ∀ D H', H D = none → Pv D n H' → J.stop n H')
    (hs : ∀ D i H' x H2, H D = none → i < n → Pv D i H' → J.yld i H' x H2 → g x (wipe σ vs) H2 fun σ2 H2 => wipe σ2 vs = wipe σ vs ∧ tt σ2 H2 fun b H3 => if b = true then te σ2 H3 fun y H4 => LcE D (Pv D (i + 1)) y H4 else Pv D (i + 1) H3)
    (hd : ∀ D H', H D = none → Pv D n H' → Q (.ref D) H') : LcR J g tt te vs σ H Q := by
  intro D hD
  refine ⟨fun i m H => m = n - i ∧ i ≤ n ∧ Pv D i H, ⟨n, by simp, Nat.zero_le _, h0 D _ hD (Same.new (Same.refl H) hD) upd_same rfl⟩, ?_⟩
  rintro i m H' ⟨rfl, hi, p⟩
  by_cases hlt : i < n
  · exact .inr ⟨hg D i H' hD hlt p, Pv D (i + 1), fun H2 p' => ⟨n - (i + 1), by omega, rfl, hlt, p'⟩, fun x H2 y => hs D i H' x H2 hD hlt p y⟩
  · obtain rfl : i = n := by omega
    exact .inl ⟨he D H' hD p, hd D H' hD p⟩
theorem lcR_rng {lo : Int} {n : Nat} (Pv : Addr → Nat → Hp → Prop) (h0 : ∀ D H', H D = none → Same H H' → H' D = some (.lst []) → H' = upd H D (.lst []) → Pv D 0 H')
    (hs : ∀ D i H', H D = none → i < n → Pv D i H' → g (.int (lo + i)) (wipe σ vs) H' fun σ2 H2 => wipe σ2 vs = wipe σ vs ∧ tt σ2 H2 fun b H3 => if b = true then te σ2 H3 fun y H4 => LcE D (Pv D (i + 1)) y H4 else Pv D (i + 1) H3)
    (hd : ∀ D H', H D = none → Pv D n H' → Q (.ref D) H') : LcR (Itr lo n) g tt te vs σ H Q :=
  lcR_gen _ n Pv h0 (fun _ i _ _ h _ => h) (fun _ _ _ _ => Nat.le_refl _) (fun D i H x H' hD hi p ⟨e1, e2⟩ => by subst e1; subst e2; exact hs D i _ hD hi p) hd
theorem lcR_lst {a : Addr} {xs : List V} (Pv : Addr → Nat → Hp → Prop) (hl : ∀ D i H', H D = none → Pv D i H' → SqL K H' a xs) (h0 : ∀ D H', H D = none → Same H H' → H' D = some (.lst []) → H' = upd H D (.lst []) → Pv D 0 H')
    (hs : ∀ D i x H', H D = none → xs[i]? = some x → Pv D i H' → g x (wipe σ vs) H' fun σ2 H2 => wipe σ2 vs = wipe σ vs ∧ tt σ2 H2 fun b H3 => if b = true then te σ2 H3 fun y H4 => LcE D (Pv D (i + 1)) y H4 else Pv D (i + 1) H3)
    (hd : ∀ D H', H D = none → Pv D xs.length H' → Q (.ref D) H') : LcR (Itl K a) g tt te vs σ H Q :=
  lcR_gen _ xs.length Pv h0 (fun D i H' hD h p => ⟨xs, xs[i], hl D i H' hD p, by simp [h]⟩) (fun D H' hD p => ⟨xs, hl D _ H' hD p, Nat.le_refl _⟩)
    (fun D i H' x H2 hD hi p ⟨e1, e2⟩ => by subst e1; exact hs D i x _ hD (e2 xs (hl D i _ hD p)) p) hd
theorem lcR_enum {a : Addr} {xs : List V} (Pv : Addr → Nat → Hp → Prop) (hl : ∀ D i H', H D = none → Pv D i H' → SqL K H' a xs) (h0 : ∀ D H', H D = none → Same H H' → H' D = some (.lst []) → H' = upd H D (.lst []) → Pv D 0 H')
    (hs : ∀ D (i : Nat) x H' t H2, H D = none → xs[i]? = some x → Pv D i H' → H' t = none → Same H' H2 → H2 t = some (.tup [.int (i : Nat), x]) → H2 = upd H' t (.tup [.int (i : Nat), x]) → g (.ref t) (wipe σ vs) H2 fun σ2 H2 => wipe σ2 vs = wipe σ vs ∧ tt σ2 H2 fun b H3 => if b = true then te σ2 H3 fun y H4 => LcE D (Pv D (i + 1)) y H4 else Pv D (i + 1) H3)
    (hd : ∀ D H', H D = none → Pv D xs.length H' → Q (.ref D) H') : LcR (Ite K a) g tt te vs σ H Q :=
  lcR_gen _ xs.length Pv h0 (fun D i H' hD h p => ⟨xs, xs[i], hl D i H' hD p, by simp [h]⟩) (fun D H' hD p => ⟨xs, hl D _ H' hD p, Nat.le_refl _⟩)
    (fun D i H' x H2 hD hi p ⟨t, y, e1, e2, e3, e4⟩ => by subst e1; subst e3; exact hs D i y H' t _ hD (e4 xs (hl D i _ hD p)) p e2 (Same.new (Same.refl H') e2) upd_same rfl) hd
end
end Sl
set_option Elab.async false
set_option linter.all false
set_option maxRecDepth 100000
set_option maxHeartbeats 4000000
namespace L2
open PySem PySem.Spec PyProof.Rows
/-! ### defs that raise: a promise for the refused arguments -/
section
variable {X : Cx} {CX : CXT} {k j : Nat} {f C : Addr} {fd : FuncData} {ps : List Str} {ds : List Value} {dvs : List V} {sp : Sp} {E : St → XK} {x m : Str} {p pos apos : Pos} {e o : Expr} {es : List Expr} {ta : TE} {t : TA}
theorem run_fnSd {pins : List (Addr × Obj)} {σ : St} {H : Hp} {s : Shared} {Q : VK} {us : List Value} {vs : List V} (F : FnOk X.prog X.w X.K X.mg X.base CX k f fd ps sp) (hr : Room k X.A) (hb : Binds X.K fd ps ds) (hd : Vals dvs ds) (hx : PassesAt CX X σ (E σ))
    (I : Inv X pins σ H s) (r : Vals vs us) (h : sp (vs ++ dvs) H Q (E σ)) : wpAny (model X.prog X.w) X.A (call (.ref f) us) (EP X pins σ Q) X.xe s := by
  have r2 : Vals (vs ++ dvs) (us ++ ds) := r.append hd
  have hl : (us ++ ds).length = ps.length := by rw [← r2.length]; exact F.len _ _ _ _ h
  refine wpAny_call (codeAny_mono (F.run X.A X.stack s H ⟨us, []⟩ (us ++ ds) (vs ++ dvs) Q (E σ) hr I.env0 (hb s us I.kIn hl) r2 h) fun r s' hq => ?_)
  cases r with
  | error e => exact hx pins H s e s' I hq
  | ok fl =>
    cases fl with
    | ret u => exact I.after hq
    | next => exact False.elim hq
    | brk => exact False.elim hq
    | cont => exact False.elim hq
def tCallSd (sp : Sp) (dvs : List V) (E : St → XK) (t : TA) : TE := fun σ H Q => t σ H fun vs H1 => sp (vs ++ dvs) H1 Q (E σ)
/-- a def called by its name that may raise -/
structure CalX (P : Program) (w : World) (K : PySem.W.Frag) (mg : Str → Option Value) (base : Heap) (k : Nat) (x : Str) (sp : Sp) (dvs : List V) : Prop where
  ex : ∃ (f : Addr) (fd : FuncData) (ps : List Str) (ds : List Value), FnOk P w K mg base (L2.CX P w) k f fd ps sp ∧ mg x = some (.ref f) ∧ PySem.W.keepIn K (.ref f) = true ∧ Binds K fd ps ds ∧ Vals dvs ds
theorem pe_cX (c : CalX X.prog X.w X.K X.mg X.base k x sp dvs) (hr : Room j X.A) (hk : k ≤ j) (hg : Gl X x) (hx : ∀ σ, PassesAt (L2.CX X.prog X.w) X σ (E σ)) (ha : PA X (e :: es) t)
    (hdb : (x == ("__debug__" : Str)) = false := by decide) (he : starEach (e :: es) X.env = (false, eval e X.env) :: starEach es X.env := by rfl) (hpl : (backTo pos (starEach es X.env)).any (·.1) = false := by rfl) :
    PE X (.Call (.Name x p) (e :: es) [] pos) (tCallSd sp dvs E t) := by
  obtain ⟨f, fd, ps, ds, F, hm, kp, b, d⟩ := c.ex
  refine ⟨fun pins s σ H Q I h => ?_⟩
  refine wpAny_Call_Name_kw (ld_glob I hg hm ?_ hdb)
  refine PySem.W.callWith_K (h₀ := X.base) I.ok.mod.kin kp (thn (ha.run pos pins s σ H _ I h) fun us s1 ⟨vs, H1, I1, r, q⟩ => ⟨I1.kIn, ?_⟩) he hpl
  exact run_fnSd F (hr.mono hk) b d (hx σ) I1 r q
/-- around a body nothing is let out -/
theorem takesN {X : Cx} : Takes X (fun _ _ _ _ => False) := fun _ _ x => by
  obtain ⟨_, _, _, _, _, _, _, _, _, _, _, _, _, _, _, _, z⟩ := x
  exact z.elim
/-- a try by its name -/
def tTry (K : PySem.W.Frag) (c : Value) (tb : WX → TS) (ts : Addr → Value → Option Addr → TS) (Wout : WX) : TS := fun D σ H => tb (wOnly K c ts Wout D) D σ H
theorem ps_tryO {x : Str} {c : Value} {body suite : List Stmt} {b₀ : Stmt} {np pos pos' : Pos} {tb : WX → TS} {ts : Addr → Value → Option Addr → TS} {Wout : WX} (hs : X.stack = X.env :: X.outer) (hf : X.env.frame = some X.env.locals) (hc : Names X x c) (tk : Takes X Wout)
    (hb : ∀ (W : WX) (pn : List (Addr × Obj)) (xe : Value → Shared → Prop), Takes (X.tr pn xe) W → PSs (X.tr pn xe) body (tb W))
    (hsu : ∀ (a : Addr) (oe : Obj) (cls : Value) (d : Option Addr) (pn : List (Addr × Obj)), PSs (X.suite a ((a, oe) :: pn)) (b₀ :: suite) (ts a cls d)) :
    PS X (.Try body [.ExceptHandler (some (.Name x np)) none (b₀ :: suite) pos'] [] [] pos) (tTry X.K c tb ts Wout) :=
  ps_try_only hs hf hc tk (fun W pn xe tk _ => hb W pn xe tk) (fun a oe cls d pn _ _ => hsu a oe cls d pn)
end
end L2
namespace C8
open PySem PySem.Spec PyProof.Rows L2
section
variable {P : Program} {w : World} {K : PySem.W.Frag} {mg : Str → Option Value} {base : Heap}
theorem fnX {x qual : Str} {st : Stmt} {f : Addr} {fd : FuncData} {N ps : List Str} {k : Nat} {sp : Sp} (F : Fun K x qual st f fd) (S : FnScope N ps (fnScope st)) (len : ∀ vs H Q E, sp vs H Q E → vs.length = ps.length)
    (hbody : ∀ (cdv : Value) (A : Around) (outer : List Env) (s : Shared) (H : Hp) (vs : List V) (Q : VK) (E : XK), Room k (A.deeper (envOfC qual (fnScope st) s.heap.objs.size f cdv)) → sp vs H Q E →
      ∃ t, PSs (cxOf (L2.CX P w) P w K mg base N qual (fnScope st) f cdv A outer s H E) (fnBody st) t ∧ t { nx := fun _ H' => Q .non H', rt := Q } (start N vs) H) : FnOk P w K mg base (L2.CX P w) (k + 1) f fd ps sp := by
  obtain ⟨oc, od, dV, kV, doc, pm, an, cdv, ct, osl, rfl, lk, hcd⟩ := F.ex
  exact fn_of lk hcd S len fun A outer s H vs Q E hr hsp => hbody cdv A outer s H vs Q E hr hsp
theorem calX0 {x : Str} {st : Stmt} {f : Addr} {fd : FuncData} {N ps : List Str} {ds : List Value} {dvs : List V} {k : Nat} {sp : Sp} (F : Def K mg x st f fd) (b : Binds K fd ps ds) (d : Vals dvs ds) (S : FnScope N ps (fnScope st)) (len : ∀ vs H Q E, sp vs H Q E → vs.length = ps.length)
    (hbody : ∀ (cdv : Value) (A : Around) (outer : List Env) (s : Shared) (H : Hp) (vs : List V) (Q : VK) (E : XK), Room k (A.deeper (envOfC x (fnScope st) s.heap.objs.size f cdv)) → sp vs H Q E →
      ∃ t, PSs (cxOf (L2.CX P w) P w K mg base N x (fnScope st) f cdv A outer s H E) (fnBody st) t ∧ t { nx := fun _ H' => Q .non H', rt := Q } (start N vs) H) : CalX P w K mg base (k + 1) x sp dvs :=
  ⟨f, fd, ps, ds, fnX F.fn S len hbody, F.mgf, F.kp, b, d⟩
end
end C8
namespace Sl
open PySem L2 C8 StX
/-- an error of the class at S is what «except S» names -/
theorem exm_own {K : PySem.W.Frag} {S : Addr} (h1 : PySem.W.subIn K (.ref S) (.type "BaseException") = some true) (h2 : PySem.W.isClsIn K S = true) (h3 : PySem.W.typeIn K (.ref S) = some (.type "type")) (h4 : PySem.W.subIn K (.ref S) (.ref S) = some true) :
    PySem.W.exmOne K (.ref S) (.ref S) = some true := by
  have e1 : (PySem.W.subIn K (.ref S) (.type "BaseException") == some true) = true := by rw [h1] <;> rfl
  have e2 : ((PySem.W.clsIn K S).isSome && PySem.W.typeIn K (.ref S) == some (.type "type")) = true := by
    have h2' : (PySem.W.clsIn K S).isSome = true := h2
    rw [h2', h3] <;> rfl
  show (if (PySem.W.subIn K (.ref S) (.type "BaseException") == some true) = true then (if ((PySem.W.clsIn K S).isSome && PySem.W.typeIn K (.ref S) == some (.type "type")) = true then PySem.W.subIn K (.ref S) (.ref S) else none) else none) = some true
  rw [if_pos e1, if_pos e2]
  exact h4
/-- what is known of an own class of errors without its own __init__ -/
structure XOwn (K : PySem.W.Frag) (C : Addr) : Prop where
  x : PySem.W.excIn K C [.type "ValueError", .type "Exception", .type "BaseException", .type "object"] "ValueError.__new__" = true
  k : PySem.W.keepIn K (.ref C) = true
  b : PySem.W.subIn K (.ref C) (.type "BaseException") = some true
  t : PySem.W.typeIn K (.ref C) = some (.type "type")
  i : PySem.W.isClsIn K C = true
  s : PySem.W.subIn K (.ref C) (.ref C) = some true
theorem XOwn.e {K : PySem.W.Frag} {C : Addr} (T : XOwn K C) : PySem.W.exmOne K (.ref C) (.ref C) = some true := exm_own T.b T.i T.t T.s
section
variable {X : Cx} {x : Str} {np pos : Pos} {C : Addr} {W : WX}
/-- X('m') -/
theorem pmk_x {m : Str} {j : Nat} {p p2 pos : Pos} (T : XOwn X.K C) (gC : X.mg x = some (.ref C)) (hg : Gl X x) (hdb : (x == ("__debug__" : Str)) = false := by decide) : PMk X (.Call (.Name x p) [.Constant (.str m) j p2] [] pos) (fun _ H Q => Q (.ref C) none H) :=
  pmk_own PySem.F.excBase_ValueError T.x gC T.k (raises_own T.b T.t) hg hdb
/-- raise X('m') -/
def tRaise (C : Addr) (W : WX) : TS := fun _ σ H => W (.ref C) none σ H
theorem ps_raiseO {m : Str} {j : Nat} {p p2 pos pos2 : Pos} (hc : X.calm = true) (tk : Takes X W) (T : XOwn X.K C) (gC : X.mg x = some (.ref C)) (hg : Gl X x) (hdb : (x == ("__debug__" : Str)) = false := by decide) :
    PS X (.Raise (some (.Call (.Name x p) [.Constant (.str m) j p2] [] pos)) none pos2) (tRaise C W) := ps_raise hc tk (pmk_x T gC hg hdb)
end
section
variable {σ : L2.St} {H : Hp} {Q : VK} {K : PySem.W.Frag} {C : Addr} {W Wout : WX} {nx bk ct : L2.St → Hp → Prop} {rt : VK} {sp : Sp} {dvs : List V} {E : L2.St → XK} {t : TA} {tb : WX → TS} {ts : Addr → Value → Option Addr → TS} {c cls : Value} {d : Option Addr} {D : Ends} {vs : List V}
theorem rd_raise {E : XK} (h : E (.ref C) none H) : tRaise C (fun cls d _ H => E cls d H) ⟨nx, rt, bk, ct⟩ σ H := h
def rCallSd (sp : Sp) (dvs : List V) (E : XK) (Q : VK) (vs : List V) (H : Hp) : Prop := sp (vs ++ dvs) H Q E
theorem rd_callSd (h : t σ H fun vs H1 => rCallSd sp dvs (E σ) Q vs H1) : tCallSd sp dvs E t σ H Q := h
theorem rd_callSd2 {E : XK} {ws : List V} (h : sp (ws ++ dvs) H Q E) : rCallSd sp dvs E Q ws H := h
theorem rd_try (h : tb (wOnly K c ts Wout D) D σ H) : tTry K c tb ts Wout D σ H := h
theorem rd_caught (he : PySem.W.exmOne K cls c = some true) (h : ∀ a, H a = none → ts a cls d D σ H) : WE (wOnly K c ts Wout D) σ cls d H := ⟨true, he, fun _ => h, fun q => nomatch q⟩
theorem rd_isN0 {x : V} (h : Q (.bl (decide (x = .non))) H) : rIsNn x .non H Q := ⟨rfl, h⟩
theorem rd_notN0 {x : V} (h : Q (.bl (!decide (x = .non))) H) : rNotNn x .non H Q := ⟨rfl, h⟩
theorem rd_maxL {a : Addr} {ns : List Int} {m : Int} (e : SqL K H a (ns.map V.int)) (l : 0 < ns.length) (h : ∀ m, m ∈ ns → (∀ y, y ∈ ns → y ≤ m) → Q (.int m) H) : rMax K [.ref a] H Q := ⟨a, ns, rfl, e, l, h⟩
theorem rd_indexI {a : Addr} {ns : List Int} {y : Int} {j : Nat} (e : SqL K H a (ns.map V.int)) (hj : ns[j]? = some y) (hn : ∀ m z, m < j → ns[m]? = some z → z ≠ y) (h : Q (.int (j : Nat)) H) : rIndex K (.ref a) [.int y] H Q := by
  refine ⟨a, ns.map V.int, .int y, j, .int y, rfl, rfl, e, rfl, ?_, by rw [List.getElem?_map, hj]; rfl, by simp [eqV], ?_, h⟩
  · rw [List.all_eq_true]
    intro x hx
    obtain ⟨n, _, rfl⟩ := List.mem_map.mp hx
    rfl
  · intro m z' hm hz
    rw [List.getElem?_map] at hz
    cases q : ns[m]? with
    | none => rw [q] at hz; cases hz
    | some z =>
      rw [q] at hz
      cases hz
      have := hn m z hm q
      simp [eqV, this]
theorem rd_tyLq {a : Addr} {xs : List V} {R : Prop} (e : SqL K H a xs) (h : R) : tyV K "list" (.ref a) H ∧ R := ⟨.inl ⟨rfl, xs, e⟩, h⟩
end
end Sl
set_option Elab.async false
set_option linter.all false
set_option maxRecDepth 100000
set_option maxHeartbeats 400000
namespace L2
open PySem PySem.Spec PyProof.Rows NdefX
/-! ### an own error over ValueError whose __init__ begins with super().__init__('..') -/
section
variable {prog : Program} {w : World} {A : Around} {E : Value → Shared → Prop} {h : Heap} {g : Array GenState} {d : Drawn} {t : Nat} {os : OsState}
variable {nm q : Str} {C N u e t0 : Addr} {bs bm : List Value} {hd : Bool} {sn : List Str} {sub : List Value} {ab : Bool} {col : Option Bool} {dd : Option Addr} {k0 k1 k2 k3 k5 : Option Value}
/-- the bound ValueError.__init__ called: the error's texts are laid anew -/
theorem call_mw {us : List Value} {Q : Value → Shared → Prop} (hC : h.get? C = some (excClassObj nm q C N bs bm hd sn sub ab col dd k0 k1 k2 k3 k5 "ValueError.__new__")) (he : h.get? e = some (HandSPX.excO C t0))
    (hu : h.get? u = some (PySem.W.kxs_mw "ValueError.__init__" e)) (hl : us.length ≤ sizeLine)
    (hq : ∀ h' t1, (∀ b o, b ≠ e → h.get? b = some o → h'.get? b = some o) → h'.get? e = some (HandSPX.excO C t1) → Q .none ⟨h', g, d, t, os⟩) : wpAny (model prog w) A (call (.ref u) us) Q E ⟨h, g, d, t, os⟩ := by
  refine wpAny_call (codeAny_of_tree ?_)
  show wpAny _ A.in1 (callAny (.ref u) ⟨us, []⟩) _ _ _
  simp only [callAny]
  have two : (Value.type "method-wrapper" == Value.type "method" || Value.type "method-wrapper" == Value.type "builtin_function_or_method" || Value.type "method-wrapper" == Value.type "method-wrapper") = true := by decide
  refine wpAny_bind (wpAny_load hu ?_)
  simp only [PySem.W.kxs_mw, two, if_true]
  refine PySem.W.KFB.if_so (by decide) ?_
  refine wpAny_bind (PySem.ESX.check_bound (F.excBase_ValueError) hC he rfl ?_)
  refine (wpAny_bind (wpAny_pure (wpAny_pure ?_)))
  have EN := F.excBase_ValueError.initEntry
  refine ⟨Code.quiet_builtin _ (by decide +kernel), (codeAny_builtin EN ?_)⟩
  exact PySem.W.exc_init_tree (cls := .ref C) (t0 := t0) (dv := none) (c2 := .none) (c3 := .none) (b4 := .bool false) he hl fun h' k e' _ => hq h' _ k e'
end
/-- what the written part says of such a class and its __init__ -/
structure SupFn (P : Program) (K : PySem.W.Frag) (qual : Str) (st : Stmt) (f C : Addr) (fd : FuncData) : Prop where
  ex : ∃ (cc cda : Addr) (oc kV doc pm ct ccl cl : Value) (od an cdd cld : Option Addr) (osl ccs csl : Array (Option Value)) (vs : Array Value) (file : Str) (tf : Tok), fd = PySem.W.fnX "__init__" qual (C8.fnArgs st) (C8.fnBody st) (C8.fnScope st) [("__class__", cc)] .none kV doc pm an (.ref cda) ct ∧
    K.lookup f = some ⟨oc, od, .func fd, osl⟩ ∧ PySem.W.codeIn K (.ref cda) qual = true ∧ K.lookup cda = some ⟨ccl, cdd, .fields vs, ccs⟩ ∧ vs[2]? = some (.str file tf) ∧ ((P.main.file : Str) == file) = true ∧ K.lookup cc = some ⟨cl, cld, .cell (some (.ref C)), csl⟩
  top : (P.main.scope.names.lookup ("super" : Str)).isSome = false
  sub : PySem.W.mroIn K C (.ref C) = some true
  sup : PySem.W.ks_superIn K C C "__init__" = some (some (.builtin "ValueError.__init__"))
  ve : PySem.W.subIn K (.ref C) (.type "ValueError") = some true
  any : PySem.W.nsIn K cStatics "thirdparty.any" = some none
abbrev supNF (qual : Str) (st : Stmt) (cc cda : Addr) : NF := ⟨"__init__", qual, C8.fnArgs st, C8.fnBody st, C8.fnScope st, [("__class__", cc)], cda⟩
abbrev supCx (CX : CXT) (P : Program) (w : World) (K : PySem.W.Frag) (mg : Str → Option Value) (base : Heap) (N : List Str) (qual : Str) (st : Stmt) (cc cda f : Addr) (A : Around) (outer : List Env) (s : Shared) (H : Hp) (E : XK) : Cx := ncx CX P w K mg base N (supNF qual st cc cda) f A outer s H E
section
variable {CX : CXT} {P : Program} {w : World} {K : PySem.W.Frag} {mg : Str → Option Value} {base : Heap} {N ps : List Str} {f C : Addr} {qual txt : Str} {st : Stmt} {fd : FuncData} {k j : Nat} {sp : Sp} {p0 p1 p2 p3 p4 p5 : Pos} {rest : List Stmt} {ar : Arg}
theorem fn_sup (F : SupFn P K qual st f C fd) (S : NScope N ps ["__class__"] (C8.fnScope st)) (hc : ∀ env : Env, ∃ pl : Sem Bool, eval (.Call (.Attribute (.Call (.Name "super" p0) [] [] p1) "__init__" p2) [.Constant (.str txt) j p3] [] p4) env = (do
      let ov ← attributeBase (.Call (.Name "super" p0) [] [] p1) "__init__" env (eval (.Call (.Name "super" p0) [] [] p1) env)
      standAt p2.atName
      let (f, first) ← holding [ov] (getMethod ov "__init__" pl)
      callWith p4 f first (backTo p4 (starEach [.Constant (.str txt) j p3] env)) []))
    (hst : C8.fnBody st = .Expr (.Call (.Attribute (.Call (.Name "super" p0) [] [] p1) "__init__" p2) [.Constant (.str txt) j p3] [] p4) p5 :: rest)
    (hp : ((C8.fnArgs st).posonlyargs ++ (C8.fnArgs st).args).head? = some ar) (h0 : N[0]? = some ar.arg) (h1 : ar.arg ∈ ps) (hks : (C8.fnScope st).names.lookup ("super" : Str) = some .globalImplicit) (hm : mg "super" = none) (T : OexC K C)
    (len : ∀ vs H Q E, sp vs H Q E → vs.length = ps.length) (sp1 : ∀ vs H Q E, sp vs H Q E → ∃ a ws, vs = V.ref a :: ws ∧ H a = some (exo a C none))
    (hbody : ∀ (cc cda : Addr) (A : Around) (outer : List Env) (s : Shared) (H : Hp) (vs : List V) (Q : VK) (E : XK), Room k (A.deeper (envF (supNF qual st cc cda) f s.heap.objs.size)) → sp vs H Q E →
      ∃ t, PSs (supCx CX P w K mg base N qual st cc cda f A outer s H E) rest t ∧ t { nx := fun _ H' => Q .non H', rt := Q } (startF N vs [none]) H) : FnOk P w K mg base CX (k + 1) f fd ps sp := by
  obtain ⟨cc, cda, oc, kV, doc, pm, ct, ccl, cl, od, an, cdd, cld, osl, ccs, csl, vs2, file, tf, rfl, lk, hcd, lc, hvs, hfile, lcell⟩ := F.ex
  refine ⟨len, fun A outer s H args us vs Q E hr e0 hb r hsp => ?_⟩
  have hl := len _ _ _ _ hsp
  have KX : K.In s.heap := e0.mod.kin.keeps fun b o e => (e0.bs b o e).1
  have lim : s.heap.NoLimit := e0.mod.nolimit.keeps fun b o e => (e0.bs b o e).1
  obtain ⟨a, ws, rfl, ea⟩ := sp1 _ _ _ _ hsp
  obtain ⟨t, ht, hq⟩ := hbody cc cda A outer s H _ Q E (hr.deeper _) hsp
  have CA : CellsAt [((("__class__" : Str)), cc)] ["__class__"] [none] s.heap H := by
    have one : ∀ (y : Str) (c : Addr), List.lookup y [((("__class__" : Str)), cc)] = some c → y = ("__class__" : Str) ∧ c = cc := fun y c e => by
      have m := PySem.mem_of_lookup e
      have m := List.mem_singleton.mp m
      exact ⟨congrArg Prod.fst m, congrArg Prod.snd m⟩
    have hcb := e0.bs _ _ (e0.mod.kin _ _ lcell)
    refine ⟨rfl, fun y c e => ?_, fun x y c e1 e2 => ?_, fun i y e => ?_⟩
    · obtain ⟨rfl, rfl⟩ := one y c e
      exact ⟨hcb.2, _, _, hcb.1, rfl⟩
    · rw [(one x c e1).1, (one y c e2).1]
    · have hi : i = 0 := by
        have := (List.getElem?_eq_some_iff.mp e).1
        simp at this
        exact this
      subst hi
      cases e
      exact ⟨cc, List.lookup_cons_self, fun v ev => by cases ev⟩
  refine PySem.ks_codeAny_call_defAt (body := C8.fnBody st) (binds := ps.zip us) hr.depth (KX _ _ lk) rfl lim (PySem.W.codeRec_of KX hcd) rfl hb S.nocell (fun ⟨n, _⟩ hy => S.par n (List.of_mem_zip hy).1) (fun h₁ hns kp => ?_) S.co S.gen S.kind
  have I : Inv (supCx CX P w K mg base N qual st cc cda f A outer s H E) [] (startF N (V.ref a :: ws) [none]) H { s with heap := h₁, toks := s.toks + (ps.zip us).length } := inv_startN S hr.hd e0 hl r CA hns kp
  have kind : ∀ L, interactive (PySem.W.envX qual (C8.fnScope st) L f (.ref cda) [("__class__", cc)]) = false := fun L => by
    show ((C8.fnScope st).kind == .module && _) = false
    rw [S.kind]
    rfl
  show PySem.wpAt (model P w) (A.deeper (PySem.W.envX qual (C8.fnScope st) s.heap.objs.size f (.ref cda) [("__class__", cc)])) (.func (C8.fnBody st) (PySem.W.envX qual (C8.fnScope st) s.heap.objs.size f (.ref cda) [("__class__", cc)])) (execs (C8.fnBody st) (PySem.W.envX qual (C8.fnScope st) s.heap.objs.size f (.ref cda) [("__class__", cc)])) _ _ _
  obtain ⟨pl, he⟩ := hc (PySem.W.envX qual (C8.fnScope st) s.heap.objs.size f (.ref cda) [("__class__", cc)])
  have eB : execs (C8.fnBody st) (PySem.W.envX qual (C8.fnScope st) s.heap.objs.size f (.ref cda) [("__class__", cc)]) = execs (.Expr (.Call (.Attribute (.Call (.Name "super" p0) [] [] p1) "__init__" p2) [.Constant (.str txt) j p3] [] p4) p5 :: rest) (PySem.W.envX qual (C8.fnScope st) s.heap.objs.size f (.ref cda) [("__class__", cc)]) := by rw [hst]
  rw [eB]
  refine PySem.ks_wpAt_execs_cons (PySem.ks_wpAt_Expr_any (PySem.ks_wpAt_MethodCall (pl := pl) ?_ he) (kind _) rfl)
  obtain ⟨nm, qn, NS, bs, bm, sn, sub, ab, col, dd, k0, k1, k2, k3, k5, hC, hbm⟩ := T.cls
  obtain ⟨cd, hcl, hmro⟩ : ∃ cd, PySem.W.clsIn K C = some cd ∧ (∀ h : Heap, K.In h → PySem.W.Looks (model P w) h (mroOf (.ref C)) cd.mro) := by
    refine ⟨_, (by unfold PySem.W.clsIn; rw [hC]), fun h hk => ?_⟩
    exact (PySem.W.looks_clsIn hk (by unfold PySem.W.clsIn; rw [hC])).andThen .now
  have hsup := F.sup
  unfold PySem.W.ks_superIn at hsup
  rw [hcl] at hsup
  have hkc : (C8.fnScope st).names.lookup ("__class__" : Str) = some .free := S.frk _ List.mem_cons_self
  obtain ⟨t1, ho⟩ := exo_at I.hok ea
  obtain ⟨m, hn, hloc⟩ := I.loc
  obtain ⟨ua, rua, lua⟩ := hloc 0 ar.arg (.ref a) h0 rfl (.inl (S.par _ h1))
  obtain rfl : ua = Value.ref a := rua
  have hua : m ar.arg = some (.ref a) := by
    rcases lua with ⟨_, z⟩ | ⟨z, _⟩
    · exact z
    · have y := S.par _ h1
      rcases z with z | z
      · exact absurd (y.symm.trans z) (by simp)
      · exact absurd (y.symm.trans z) (by simp)
  have hCb : H C = none := (I.bs C _ (I.ok.mod.kin _ _ hC)).2
  have haC : a ≠ C := fun z => by rw [z, hCb] at ea; cases ea
  refine PySem.ks_wpAt_super_base hks hkc (by decide +kernel) rfl (I.kIn _ _ lk) rfl hp rfl (I.kIn _ _ lc) rfl hvs hfile F.top ?_
  refine PySem.W.ks_loadName_global S.kind hks ?_
  obtain ⟨mb, hb1, hb2⟩ := I.mod.blt
  refine Calls.loadGlobal_builtin (I.mod.glob.keeps I.bk) hm (hb1.keeps I.bk) ((hb2 _ (by decide +kernel)).trans (by decide +kernel)) ⟨rfl, ?_⟩
  refine wpAny_loadName_free S.kind hkc rfl ⟨_, I.kIn _ _ lcell, rfl⟩ ?_
  refine wpAny_loadName_local S.kind (S.par _ h1) hn hua ?_
  refine PySem.ks_wpAny_isType_cls (I.kIn _ _ hC) rfl ⟨rfl, ?_⟩
  refine PySem.ks_wpAny_call_super (I.kIn _ _ hC) rfl ho rfl (fun c z => nomatch z) (PySem.W.looks_mroIn I.kIn F.sub) (fun h2 hso k2 => ?_)
  -- .__init__
  have I2 := I.kept (t' := s.toks + (ps.zip us).length) k2
  have ho2 := k2 _ _ ho
  have II : PySem.W.InstAt h2 a _ C none := ⟨ho2, rfl, rfl, trivial⟩
  refine PySem.W.kxs_getMethod PySem.W.kxs_ValueError hso (PySem.W.looks_opaque I2.kIn F.any) (hmro _ I2.kIn) rfl I2.kIn hsup (II.type.andThen (PySem.W.looks_subIn I2.kIn F.ve)) haC (by decide +kernel) ?_
  have hmw : (h2.push (PySem.W.kxs_mw "ValueError.__init__" a)).get? h2.objs.size = some (PySem.W.kxs_mw "ValueError.__init__" a) := Heap.get?_push_at rfl rfl
  have k3 : ∀ b o, h2.get? b = some o → (h2.push (PySem.W.kxs_mw "ValueError.__init__" a)).get? b = some o := fun b o e => Heap.get?_push_of_some _ e
  have I3 := (I2.kept (t' := s.toks + (ps.zip us).length + 1) k3).pins_of (pins' := [(h2.objs.size, PySem.W.kxs_mw "ValueError.__init__" a)]) (fun p hp => by
    rw [List.mem_singleton.mp hp]
    exact ⟨hmw, I2.hok.fresh (Nat.le_refl _), Ne.symm (Nat.ne_of_lt I2.lt), I2.nofs (Nat.le_refl _), fun v z => nomatch z⟩)
  refine PySem.W.kxs_callWith (i := "ValueError.__init__") (x := a) rfl (PySem.Calls.evalArgs_plain ?_)
  refine thn ((pa_cons (pe_str (x := txt) (j := j) (pos := p3)) pa_nil).run p4 _ _ _ H (fun vs H1 => H1 = H ∧ vs.length = 1) I3 ⟨rfl, rfl⟩) fun us4 s4 ⟨vs4, H4, I4, r4, eH, hl4⟩ => ?_
  subst eH
  obtain ⟨hu4, -⟩ := I4.pin _ (List.mem_append_right _ (List.mem_singleton.mpr rfl))
  refine ⟨hu4, ?_⟩
  obtain ⟨t4, ho4⟩ := exo_at I4.hok ea
  obtain ⟨h4, g4, d4, tk4, os4⟩ := s4
  refine call_mw (I4.kIn _ _ hC) ho4 hu4 (by show us4.length ≤ sizeLine; rw [← r4.length, hl4]; decide) (fun h5 t5 k5 he5 => ?_)
  have J0 := I4.write (t' := tk4) (x := a) (e := a) (o := exo a C none) (by rw [ea]; exact True.intro) (.inl rfl) k5 ⟨_, he5⟩ (exo_ok he5)
  have eu : upd H4 a (exo a C none) = H4 := funext fun b => by
    by_cases hb : b = a
    · rw [hb, upd_same, ea]
    · exact upd_ne hb
  rw [eu] at J0
  have J := J0.pins_of (pins' := []) (fun p hp => nomatch hp)
  refine wpAt_of_wpAny (wpAny_mono (ht.run [] _ _ H4 _ J hq) (fun fl s6 hs => ?_) fun e s6 hs => hs)
  cases fl with
  | ret u =>
    obtain ⟨v, σ', H', J', rv, q⟩ := hs
    exact ⟨v, H', J'.os, J'.bare, J'.base, J'.hok, rv, q⟩
  | next =>
    obtain ⟨σ', H', J', q⟩ := hs
    exact ⟨V.non, H', J'.os, J'.bare, J'.base, J'.hok, rfl, q⟩
  | brk =>
    obtain ⟨_, _, _, q⟩ := hs
    exact False.elim q
  | cont =>
    obtain ⟨_, _, _, q⟩ := hs
    exact False.elim q
end
/-! ### raise C(place) -/
/-- the text of such an __init__: super().__init__('..'), self.place = place -/
structure SupSt (st : Stmt) (N : List Str) : Prop where
  S : NScope N ["self", "place"] ["__class__"] (C8.fnScope st)
  n0 : N[0]? = some ("self" : Str)
  n1 : N[1]? = some ("place" : Str)
  hp : ∃ ar, ((C8.fnArgs st).posonlyargs ++ (C8.fnArgs st).args).head? = some ar ∧ ar.arg = ("self" : Str)
  ks : (C8.fnScope st).names.lookup ("super" : Str) = some .globalImplicit
  tx : ∃ (p0 p1 p2 p3 p4 p5 a1 a2 a3 a4 : Pos) (txt : Str) (j : Nat), C8.fnBody st = [.Expr (.Call (.Attribute (.Call (.Name "super" p0) [] [] p1) "__init__" p2) [.Constant (.str txt) j p3] [] p4) p5, .Assign [.Attribute (.Name "self" a1) "place" a2] (.Name "place" a3) a4] ∧
    ∀ env : Env, ∃ pl : Sem Bool, eval (.Call (.Attribute (.Call (.Name "super" p0) [] [] p1) "__init__" p2) [.Constant (.str txt) j p3] [] p4) env = (do
      let ov ← attributeBase (.Call (.Name "super" p0) [] [] p1) "__init__" env (eval (.Call (.Name "super" p0) [] [] p1) env)
      standAt p2.atName
      let (f, first) ← holding [ov] (getMethod ov "__init__" pl)
      callWith p4 f first (backTo p4 (starEach [.Constant (.str txt) j p3] env)) [])
structure XSup (P : Program) (K : PySem.W.Frag) (C : Addr) (qual : Str) (st : Stmt) : Prop where
  o : OexC K C
  fn : ∃ f fd, SupFn P K qual st f C fd ∧ Binds K fd ["self", "place"] [] ∧ PySem.W.findIn K (.ref C) "__init__" = some (some (.ref f)) ∧ PySem.W.typeIn K (.ref f) = some (.type "function")
  np : PySem.W.findIn K (.ref C) "place" = some none
  xf : XfC K C
  i : PySem.W.isClsIn K C = true
  s : PySem.W.subIn K (.ref C) (.ref C) = some true
theorem XSup.e {P : Program} {K : PySem.W.Frag} {C : Addr} {qual : Str} {st : Stmt} (T : XSup P K C qual st) : PySem.W.exmOne K (.ref C) (.ref C) = some true := Sl.exm_own T.o.exC T.i T.o.tyC T.s
def spSup (C : Addr) : Sp := fun vs H Q _ => ∃ a v, vs = [V.ref a, v] ∧ H a = some (exo a C none) ∧ ∀ dx, H dx = none → dx ≠ a → Q .non (upd (upd H dx (exd dx [("place", v)])) a (exo a C (some dx)))
theorem fn_place {P : Program} {w : World} {K : PySem.W.Frag} {mg : Str → Option Value} {base : Heap} {C f : Addr} {fd : FuncData} {qual : Str} {st : Stmt} {N : List Str} (T : XSup P K C qual st) (F : SupFn P K qual st f C fd) (Z : SupSt st N) (hm : mg "super" = none) :
    FnOk P w K mg base C8.CX0 1 f fd ["self", "place"] (spSup C) := by
  obtain ⟨ar, ha, hn⟩ := Z.hp
  obtain ⟨p0, p1, p2, p3, p4, p5, a1, a2, a3, a4, txt, j, hb, he⟩ := Z.tx
  refine fn_sup (k := 0) F Z.S he hb ha (by rw [hn]; exact Z.n0) (by rw [hn]; exact List.mem_cons_self) Z.ks hm T.o (fun vs H Q E h => ?_) (fun vs H Q E h => ?_) (fun cc cda A outer s H vs Q E hr h => ?_)
  · obtain ⟨a, v, rfl, _⟩ := h
    rfl
  · obtain ⟨a, v, rfl, e, _⟩ := h
    exact ⟨a, [v], rfl, e⟩
  · obtain ⟨a, v, rfl, e, k⟩ := h
    refine ⟨_, pss_one (ps_ost (pe_var (i := 0) Z.n0 (.inl (Z.S.par _ List.mem_cons_self))) (pe_var (i := 1) Z.n1 (.inl (Z.S.par _ (.tail _ List.mem_cons_self))))), ?_⟩
    refine ⟨v, rfl, .ref a, rfl, a, C, rfl, T.o, T.np, .inl ⟨e, fun dx h1 h2 => ?_⟩⟩
    exact k dx h1 h2
/-- raise C(e) -/
def tRaP (C : Addr) (W : WX) (te : TE) : TS := fun _ σ H => tMkO C (spSup C) [] (tCons te tNil) σ H fun cls d H' => W cls d σ H'
theorem ps_raiseP {X : Cx} {W : WX} {x qual : Str} {C : Addr} {st : Stmt} {N : List Str} {e : Expr} {te : TE} {p pos pos2 : Pos} {n : Nat} (hc : X.calm = true) (tk : Takes X W) (T : XSup X.prog X.K C qual st) (Z : SupSt st N) (hm : X.mg "super" = none) (gC : X.mg x = some (.ref C)) (hr : Room n X.A) (hn : 2 ≤ n) (hg : Gl X x)
    (he : PE X e te) (hdb : (x == ("__debug__" : Str)) = false := by decide) (hs : starEach [e] X.env = (false, eval e X.env) :: starEach [] X.env := by rfl) :
    PS X (.Raise (some (.Call (.Name x p) [e] [] pos)) none pos2) (tRaP C W te) := by
  obtain ⟨f, fd, F, hb, iC, tI⟩ := T.fn
  exact ps_raise hc tk (pmk_oex T.o iC tI (fn_place (w := X.w) (base := X.base) T F Z hm) (hr.mono hn) hb .nil C8.pass0 hg gC (pa_cons he pa_nil hs) hdb hs rfl)
end L2
namespace Sl
open PySem L2 C8 StX
section
variable {σ : L2.St} {H : Hp} {C : Addr} {W : WX} {te : TE} {nx bk ct : L2.St → Hp → Prop} {rt : VK}
def rRaP (C : Addr) (W : WX) (σ : L2.St) (vs : List V) (H1 : Hp) : Prop := vs.length ≤ 1000 ∧ ∀ a, H1 a = none → spSup C (.ref a :: (vs ++ [])) (upd H1 a (exo a C none))
  (fun v H2 => v = .non ∧ ∃ (d : Addr) (fs : List (Str × V)), H2 a = some (exo a C (some d)) ∧ H2 d = some (exd d fs) ∧ H1 d = none ∧ W (.ref C) (some d) σ (upd (del H2 a) d (.xd fs))) (fun _ _ _ => False)
theorem rd_raP0 (h : tCons te tNil σ H fun vs H1 => rRaP C W σ vs H1) : tRaP C W te ⟨nx, rt, bk, ct⟩ σ H := h
theorem rd_raP {v : V} (h : ∀ d H', H d = none → Same H H' → H' d = some (.xd [("place", v)]) → W (.ref C) (some d) σ H') : rRaP C W σ [v] H := by
  refine ⟨(show 1 ≤ 1000 by decide), fun a ha => ⟨a, v, rfl, upd_same, fun dx h1 h2 => ?_⟩⟩
  have hd : H dx = none := by rw [upd_ne h2] at h1; exact h1
  have e : upd (del (upd (upd (upd H a (exo a C none)) dx (exd dx [("place", v)])) a (exo a C (some dx))) a) dx (.xd [("place", v)]) = upd H dx (.xd [("place", v)]) := by
    funext b
    by_cases hb : b = dx
    · rw [hb, upd_same, upd_same]
    · rw [upd_ne hb, upd_ne hb]
      by_cases hc : b = a
      · rw [hc, del_same, ha]
      · rw [del_ne hc, upd_ne hc, upd_ne hb, upd_ne hc]
  show V.non = V.non ∧ _
  refine ⟨rfl, dx, [("place", v)], upd_same, ?_, hd, ?_⟩
  · rw [upd_ne h2, upd_same]
  · rw [e]
    exact h dx _ hd (Same.new (Same.refl H) hd) upd_same
end
/-! ### try .. except X as n -/
end Sl
namespace L2
open PySem PySem.Spec PyProof.Rows
section
variable {X : Cx} {x n : Str} {c : Value} {i : Nat} {body suite : List Stmt} {b₀ : Stmt} {np pos pos' : Pos} {tb : WX → TS} {ts : Addr → Value → Option Addr → TS} {Wout : WX}
def tTryAs (K : PySem.W.Frag) (c : Value) (i : Nat) (tb : WX → TS) (ts : Addr → Value → Option Addr → TS) (Wout : WX) : TS := fun D σ H => tb (wAs K c i ts Wout D) D σ H
theorem ps_tryAsO (hs : X.stack = X.env :: X.outer) (hf : X.env.frame = some X.env.locals) (hN : X.N.Nodup) (hi : X.N[i]? = some n) (hln : X.env.kindOf n = some .local) (hc : Names X x c) (tk : Takes X Wout)
    (hb : ∀ (W : WX) (pn : List (Addr × Obj)) (xe : Value → Shared → Prop), Takes (X.tr pn xe) W → PSs (X.tr pn xe) body (tb W))
    (hsu : ∀ (a : Addr) (oe : Obj) (cls : Value) (d : Option Addr) (pn : List (Addr × Obj)), Zc cls d oe → (∃ vs, oe.data = .fields vs) → PSs (X.suite a ((a, oe) :: pn)) (b₀ :: suite) (ts a cls d)) :
    PS X (.Try body [.ExceptHandler (some (.Name x np)) (some n) (b₀ :: suite) pos'] [] [] pos) (tTryAs X.K c i tb ts Wout) :=
  ps_try_as hs hf hN hi hln hc tk (fun W pn xe k _ => hb W pn xe k) hsu
end
end L2
namespace Sl
open PySem L2 C8 StX
section
variable {σ : L2.St} {H : Hp} {Q : VK} {K : PySem.W.Frag} {C a dd : Addr} {Wout : WX} {te : TE} {tb : WX → TS} {ts : Addr → Value → Option Addr → TS} {c cls : Value} {d : Option Addr} {D : Ends} {i : Nat} {f : Str} {fs : List (Str × V)} {v : V}
theorem rd_tryAs (h : tb (wAs K c i ts Wout D) D σ H) : tTryAs K c i tb ts Wout D σ H := h
theorem rd_caughtAs (he : PySem.W.exmOne K cls c = some true) (h : ∀ a, H a = none → ts a cls d { nx := fun σ' H' => D.nx (σ'.set i none) H', rt := D.rt, bk := fun σ' H' => D.bk (σ'.set i none) H', ct := fun σ' H' => D.ct (σ'.set i none) H' } (σ.set i (some (.ref a))) H) :
    WE (wAs K c i ts Wout D) σ cls d H := ⟨true, he, fun _ => h, fun q => nomatch q⟩
def rXf (a : Addr) (cls : Value) (d : Option Addr) (C : Addr) (f : Str) (x : V) (H1 : Hp) (Q : VK) : Prop := x = .ref a ∧ cls = .ref C ∧ ∃ (dd : Addr) (fs : List (Str × V)) (v : V), d = some dd ∧ H1 dd = some (.xd fs) ∧ fs.lookup f = some v ∧ Q v H1
theorem rd_xf0 (h : te σ H fun x H1 => rXf a cls d C f x H1 Q) : tXf a cls d C f te σ H Q := h
theorem rd_xf (e : H dd = some (.xd fs)) (l : fs.lookup f = some v) (h : Q v H) : rXf a (.ref C) (some dd) C f (.ref a) H Q := ⟨rfl, rfl, dd, fs, v, rfl, e, l, h⟩
end
/-! ### the facts -/
section
open PySem.W
variable {P : Program} {K : PySem.W.Frag} {C f cc cda N dX : Addr} {qual nm q : Str} {st : Stmt} {bs bm : List Value} {sn : List Str} {sub : List Value} {ab : Bool} {col : Option Bool} {dd : Option Addr} {k0 k1 k2 k3 k5 : Option Value} {oc kV doc pm ct ccl cl : Value} {od an cdd cld : Option Addr} {osl ccs csl : Array (Option Value)} {vs : Array Value} {file : Str} {tf : Tok}
theorem xsupk (c1 : K.lookup C = some (excClassObj nm q C N bs bm true sn sub ab col dd k0 k1 k2 k3 k5 "ValueError.__new__")) (c2 : PySem.HandSPX.refsVE bm = true) (c3 : findIn K (.ref C) "__setattr__" = some (some (.builtin "object.__setattr__"))) (c4 : subIn K (.ref C) (.type "BaseException") = some true) (c5 : typeIn K (.ref C) = some (.type "type")) (c6 : keepIn K (.ref C) = true)
    (f1 : findIn K (.ref C) "__init__" = some (some (.ref f))) (f2 : K.lookup f = some ⟨oc, od, .func (fnX "__init__" qual (C8.fnArgs st) (C8.fnBody st) (C8.fnScope st) [("__class__", cc)] .none kV doc pm an (.ref cda) ct), osl⟩) (f3 : codeIn K (.ref cda) qual = true) (f4 : K.lookup cda = some ⟨ccl, cdd, .fields vs, ccs⟩) (f5 : vs[2]? = some (.str file tf)) (f6 : ((P.main.file : Str) == file) = true)
    (f7 : K.lookup cc = some ⟨cl, cld, .cell (some (.ref C)), csl⟩) (f8 : typeIn K (.ref f) = some (.type "function")) (s1 : (P.main.scope.names.lookup ("super" : Str)).isSome = false) (s2 : mroIn K C (.ref C) = some true) (s3 : ks_superIn K C C "__init__" = some (some (.builtin "ValueError.__init__"))) (s4 : subIn K (.ref C) (.type "ValueError") = some true) (s5 : nsIn K cStatics "thirdparty.any" = some none)
    (n1 : findIn K (.ref C) "place" = some none) (x1 : xfB K C = true) (i : isClsIn K C = true) (s : subIn K (.ref C) (.ref C) = some true)
    (bd : ∀ (kV doc pm : Value) (an : Option Addr) (cc cda : Addr) (ct : Value) (us : List Value), us.length = 2 → bindArgs (fnX "__init__" qual (C8.fnArgs st) (C8.fnBody st) (C8.fnScope st) [("__class__", cc)] .none kV doc pm an (.ref cda) ct) ⟨us, []⟩ = pure ((["self", "place"] : List Str).zip us)) : XSup P K C qual st :=
  ⟨⟨⟨_, _, _, _, _, _, _, _, _, _, _, _, _, _, _, c1, c2⟩, c3, c4, c5, c6⟩, ⟨f, _, ⟨⟨cc, cda, oc, kV, doc, pm, ct, ccl, cl, od, an, cdd, cld, osl, ccs, csl, vs, file, tf, rfl, f2, f3, f4, f5, f6, f7⟩, s1, s2, s3, s4, s5⟩, .all fun us hl => bd kV doc pm an cc cda ct us hl, f1, f8⟩, n1, xfB_ok x1, i, s⟩
end
end Sl
set_option Elab.async false
set_option linter.all false
set_option maxRecDepth 100000
set_option maxHeartbeats 4000000
/-! classes that may raise when made, methods that may raise: promises and their calls within a try -/
namespace L2
open PySem PySem.Spec PyProof.Rows
section
variable {X : Cx} {CX : CXT} {k j : Nat} {f C : Addr} {fd : FuncData} {ps : List Str} {ds : List Value} {dvs : List V} {sp : Sp} {E : St → XK} {x m : Str} {p pos apos : Pos} {e o : Expr} {es : List Expr} {ta : TE} {t : TA}
theorem run_makeSd {pins : List (Addr × Obj)} {σ : St} {H : Hp} {s : Shared} {Q : VK} {us : List Value} {vs : List V} (M : Mk X.K C f) (F : FnOk X.prog X.w X.K X.mg X.base CX k f fd ps sp) (hr : Room (k + 1) X.A) (hb : Binds X.K fd ps ds) (hd : Vals dvs ds)
    (hx : PassesAt CX X σ (E σ)) (I : Inv X pins σ H s) (r : Vals vs us)
    (h : ∀ x dx, H x = none → H dx = none → dx ≠ x → sp (.ref x :: (vs ++ dvs)) (upd (upd H dx (.own x)) x (.ins C dx [])) (fun v H2 => v = .non ∧ Q (.ref x) H2) (E σ)) :
    wpAny (model X.prog X.w) X.A (call (.ref C) us) (EP X pins σ Q) X.xe s := by
  have hq := h (s.heap.objs.size + 1) s.heap.objs.size (I.hok.fresh (Nat.le_succ _)) (I.hok.fresh (Nat.le_refl _)) (Nat.ne_of_lt (Nat.lt_succ_self _))
  have I2 := Inv.made (C := C) I
  have r2 : Vals (V.ref (s.heap.objs.size + 1) :: (vs ++ dvs)) (Value.ref (s.heap.objs.size + 1) :: (us ++ ds)) := .cons rfl (r.append hd)
  have hl : (Value.ref (s.heap.objs.size + 1) :: us ++ ds).length = ps.length := by
    have e := r2.length
    rw [F.len _ _ _ _ hq] at e
    exact e.symm
  refine wpAny_call (make_map (f := f) I.kIn M.makes M.init (beq_iff_eq.mp M.fn) (codeAny_mono (F.run _ X.stack _ _ ⟨Value.ref (s.heap.objs.size + 1) :: us, []⟩ (Value.ref (s.heap.objs.size + 1) :: (us ++ ds)) _ _ (E σ) (hr.make C us [])
    (I2.env0.make C us []) (hb _ (Value.ref (s.heap.objs.size + 1) :: us) I2.kIn hl) r2 hq) fun r s' hq' => ?_))
  cases r with
  | error e => exact hx pins _ _ e s' I2 hq'
  | ok fl =>
    cases fl with
    | ret u =>
      obtain ⟨v, H', I3, rv, ev, q3⟩ := I2.after hq'
      subst ev
      exact ⟨rv, ⟨V.ref (s.heap.objs.size + 1), H', I3, rfl, q3⟩⟩
    | next => exact False.elim hq'
    | brk => exact False.elim hq'
    | cont => exact False.elim hq'
def tMakeX (C : Addr) (sp : Sp) (dvs : List V) (E : St → XK) (t : TA) : TE := fun σ H Q => tMake C sp dvs (E σ) t σ H Q
/-- a class that may be made by its name and may raise -/
structure MakX (P : Program) (w : World) (K : PySem.W.Frag) (mg : Str → Option Value) (base : Heap) (k : Nat) (x : Str) (C : Addr) (sp : Sp) (dvs : List V) : Prop where
  ex : ∃ (f : Addr) (fd : FuncData) (ps : List Str) (ds : List Value), Mk K C f ∧ FnOk P w K mg base (L2.CX P w) k f fd ps sp ∧ mg x = some (.ref C) ∧ Binds K fd ps ds ∧ Vals dvs ds
theorem pe_mkX (c : MakX X.prog X.w X.K X.mg X.base k x C sp dvs) (hr : Room j X.A) (hk : k + 1 ≤ j) (hg : Gl X x) (hx : ∀ σ, PassesAt (L2.CX X.prog X.w) X σ (E σ)) (ha : PA X (e :: es) t)
    (hdb : (x == ("__debug__" : Str)) = false := by decide) (he : starEach (e :: es) X.env = (false, eval e X.env) :: starEach es X.env := by rfl) (hpl : (backTo pos (starEach es X.env)).any (·.1) = false := by rfl) :
    PE X (.Call (.Name x p) (e :: es) [] pos) (tMakeX C sp dvs E t) := by
  obtain ⟨f, fd, ps, ds, M, F, hm, b, d⟩ := c.ex
  refine ⟨fun pins s σ H Q I h => ?_⟩
  refine wpAny_Call_Name_kw (ld_glob I hg hm ?_ hdb)
  refine PySem.W.callWith_K (h₀ := X.base) I.ok.mod.kin M.kp (thn (ha.run pos pins s σ H _ I h) fun us s1 ⟨vs, H1, I1, r, q⟩ => ⟨I1.kIn, ?_⟩) he hpl
  exact run_makeSd M F (hr.mono hk) b d (hx σ) I1 r q
def tMethX (C : Addr) (m : Str) (sp : Sp) (dvs : List V) (E : St → XK) (ta : TE) (t : TA) : TE := fun σ H Q => tMeth C m sp dvs (E σ) ta t σ H Q
/-- a method that may raise -/
structure MetX (P : Program) (w : World) (K : PySem.W.Frag) (mg : Str → Option Value) (base : Heap) (k : Nat) (C : Addr) (m : Str) (sp : Sp) (dvs : List V) : Prop where
  ex : ∃ (f : Addr) (fd : FuncData) (ps : List Str) (ds : List Value), Cls K C ∧ Meth K C m f ∧ FnOk P w K mg base (L2.CX P w) k f fd ps sp ∧ Binds K fd ps ds ∧ Vals dvs ds
theorem pe_mtX {pl : Sem Bool} (c : MetX X.prog X.w X.K X.mg X.base k C m sp dvs) (hr : Room j X.A) (hk : k ≤ j) (hx : ∀ σ, PassesAt (L2.CX X.prog X.w) X σ (E σ)) (he : PE X o ta) (ha : PA X (e :: es) t)
    (hst : starEach (e :: es) X.env = (false, eval e X.env) :: starEach es X.env := by rfl) (hpl : (backTo pos (starEach es X.env)).any (·.1) = false := by rfl)
    (ht : eval (.Call (.Attribute o m apos) (e :: es) [] pos) X.env = (do
      let ov ← eval o X.env
      standAt apos.atName
      let (f, first) ← holding [ov] (getMethod ov m pl)
      callWith pos f first (backTo pos (starEach (e :: es) X.env)) (backToKw pos (keywordEach [] X.env))) := by rfl) :
    PE X (.Call (.Attribute o m apos) (e :: es) [] pos) (tMethX C m sp dvs E ta t) := by
  obtain ⟨f, fd, ps, ds, hc, hm, F, b, d⟩ := c.ex
  refine ⟨fun pins s σ H Q I h => ?_⟩
  refine PySem.W.methodCall_KW (pl := pl) (thn (he.run pins s σ H _ I h) fun u s1 ⟨x, H1, I1, rx, a, dx, fs, ex, ea, l, q⟩ => ?_) ht
  subst ex
  obtain rfl : u = Value.ref a := rx
  refine getmeth_ok I1 ea hc hm l ?_
  refine PySem.W.callWith_K (first := [.ref a]) (h₀ := X.base) I.ok.mod.kin hm.kp (thn (ha.run pos pins s1 σ H1 _ I1 q) fun us s2 ⟨vs, H2, I2, r, q2⟩ => ⟨I2.kIn, ?_⟩) hst hpl
  exact run_fnSd (us := .ref a :: us) (vs := .ref a :: vs) F (hr.mono hk) b d (hx σ) I2 (.cons rfl r) q2
end
end L2
namespace C8
open PySem PySem.Spec PyProof.Rows L2
section
variable {P : Program} {w : World} {K : PySem.W.Frag} {mg : Str → Option Value} {base : Heap}
theorem metX0 {m qual : Str} {C : Addr} {st : Stmt} {f : Addr} {fd : FuncData} {N ps : List Str} {k : Nat} {sp : Sp} (c : Cls K C) (me : Meth K C m f) (F : Fun K m qual st f fd) (b : Binds K fd ps []) (S : FnScope N ps (fnScope st)) (len : ∀ vs H Q E, sp vs H Q E → vs.length = ps.length)
    (hbody : ∀ (cdv : Value) (A : Around) (outer : List Env) (s : Shared) (H : Hp) (vs : List V) (Q : VK) (E : XK), Room k (A.deeper (envOfC qual (fnScope st) s.heap.objs.size f cdv)) → sp vs H Q E →
      ∃ t, PSs (cxOf (L2.CX P w) P w K mg base N qual (fnScope st) f cdv A outer s H E) (fnBody st) t ∧ t { nx := fun _ H' => Q .non H', rt := Q } (start N vs) H) : MetX P w K mg base (k + 1) C m sp [] :=
  ⟨f, fd, ps, [], c, me, fnX F S len hbody, b, .nil⟩
end
end C8
namespace Sl
open PySem L2 C8 StX
section
variable {σ : L2.St} {H : Hp} {Q : VK} {C : Addr} {m : Str} {sp : Sp} {dvs : List V} {E : L2.St → XK} {ta : TE} {t : TA}
theorem rd_makeX (h : t σ H fun vs H1 => rMake C sp dvs (E σ) Q vs H1) : tMakeX C sp dvs E t σ H Q := h
def rMethX (C : Addr) (m : Str) (sp : Sp) (dvs : List V) (E : XK) (t : TA) (σ : L2.St) (Q : VK) (x : V) (H1 : Hp) : Prop := ∃ a dx fs, x = .ref a ∧ H1 a = some (.ins C dx fs) ∧ fs.lookup m = none ∧ t σ H1 fun vs H2 => sp (x :: (vs ++ dvs)) H2 Q E
theorem rd_methX0 (h : ta σ H fun x H1 => rMethX C m sp dvs (E σ) t σ Q x H1) : tMethX C m sp dvs E ta t σ H Q := h
end
end Sl
set_option Elab.async false
set_option linter.all false
set_option maxRecDepth 100000
set_option maxHeartbeats 4000000
namespace L2
open PySem PySem.Spec PyProof.Rows
/-! ### min of a list of pairs of ints: the loop of the built-in, the order told by what the heap keeps -/
section
variable {prog : Program} {w : World} {A : Around} {R : Result → Shared → Prop} {J l : Addr} {its : Array Value} {bt : Nat → Nat → Bool} {Kp : Heap → Prop}
/-- what is told of the order: while Kp stands -/
def Ord (prog : Program) (w : World) (A : Around) (its : Array Value) (Kp : Heap → Prop) (bt : Nat → Nat → Bool) : Prop :=
  ∀ i j x y (t : Shared) (Q : Value → Shared → Prop) (E : Value → Shared → Prop), Kp t.heap → its[i]? = some x → its[j]? = some y → Q (.bool (bt i j)) t → wpAny (model prog w) A (richCompare .Lt x y) Q E t
/-- Kp stands while nothing changes but the iterator and the box -/
def Kpt (Kp : Heap → Prop) (J S : Addr) : Prop := ∀ h h' : Heap, Kp h → (∀ b o, b ≠ J → b ≠ S → h.get? b = some o → h'.get? b = some o) → Kp h'
theorem min_turns (hh : A.in1.handled = none) (hlJ : l ≠ J) (O : Ord prog w A.in1 its Kp bt) {S : Addr} (hSJ : S ≠ J) (hSl : S ≠ l) (Z : Kpt Kp J S) :
    ∀ (k j : Nat) (t : Shared) (best : Value) (c : Nat), its.size - (j + 1) = k → j + 1 ≤ its.size → (t.heap.IsListIter J l (j + 1) ∧ t.heap.IsList l its) → Kp t.heap → its[argBest bt j]? = some best →
    t.heap.get? S = some { cls := .type "list", dict := none, data := .seq #[best, best] c, slots := #[] } →
    (∀ v h' tk, its[argBest bt (its.size - 1)]? = some v → (∀ b o, b ≠ J → b ≠ S → t.heap.get? b = some o → h'.get? b = some o) → R (.ok (.ret v)) { t with heap := h', toks := tk }) →
    codeAny (model prog w) A (.builtin "min.loop" ⟨[.ref J, .none, .ref S], []⟩) R t := by
  have Wl := Walks.list (prog := prog) (w := w) (A := A.in1) hh J l hlJ its
  have nm : (toString "min" ++ toString ".loop" : String) = "min.loop" := by decide
  intro k
  induction k with
  | zero =>
    intro j t best c ek ej st kp eb eS back
    refine codeAny_builtin F.entry_min_loop (by
      rw [Around.under_plainId F.plain_min_loop _]
      refine (show wpAny _ A.in1 (seqItems? (.ref S) >>= _) _ _ t from wpAny_bind (wpAny_seqItems eS rfl ?_))
      refine (show wpAny _ A.in1 (tryCatch (pyNext (.ref J)) _ >>= _) _ _ t from wpAny_bind (wpAny_tryCatch (Wl.done t _ _ ((by omega : j + 1 = its.size) ▸ st) fun h2 tk kept => ?_)))
      have eS2 := kept S _ (by simpa using hSJ) eS
      refine (show wpAny _ A.in1 (updateSeq S (fun _ => #[]) >>= _) _ _ _ from wpAny_bind (wpAny_updateSeq eS2 rfl (wpAny_bind (wpAny_letGo (wpAny_pure (back best _ tk ?_ fun b o n1 n2 e => ?_))))))
      · rw [← (by omega : j + 1 = its.size)]; exact eb
      · exact (Heap.get?_update_other _ _ (Ne.symm n2)).trans (kept b o (by simpa using n1) e))
  | succ k ih =>
    intro j t best c ek ej st kp eb eS back
    refine codeAny_builtin F.entry_min_loop (by
      rw [Around.under_plainId F.plain_min_loop _]
      refine (show wpAny _ A.in1 (seqItems? (.ref S) >>= _) _ _ t from wpAny_bind (wpAny_seqItems eS rfl ?_))
      refine (show wpAny _ A.in1 (tryCatch (pyNext (.ref J)) _ >>= _) _ _ t from wpAny_bind (wpAny_tryCatch (Wl.item (j + 1) t _ _ (by omega) st fun v h2 tk ev st2 kept => ?_)))
      have eS2 := kept S _ (by simpa using hSJ) eS
      have kp2 : Kp h2 := Z _ _ kp fun b o n1 _ e => kept b o (by simpa using n1) e
      refine (show wpAny _ A.in1 (tryCatch (holding [v, v] (richCompare .Lt v best >>= _)) _ >>= _) _ _ _ from wpAny_bind (wpAny_tryCatch (wpAny_holding (wpAny_bind (O (j + 1) (argBest bt j) v best _ _ _ kp2 ev eb ?_)))))
      refine wpAny_bind (wpAny_holding (wpAny_truthy_bool (wpAny_bind (wpAny_letGo (wpAny_pure ?_)))))
      cases hb : bt (j + 1) (argBest bt j) with
      | true =>
        simp only [if_true]
        refine wpAny_bind (wpAny_updateSeq eS2 rfl (wpAny_bind (wpAny_letGo ?_)))
        rw [nm]
        have kp3 : ∀ (g : Obj → Obj) b o, b ≠ S → h2.get? b = some o → (h2.update S g).get? b = some o := fun g b o n e => (Heap.get?_update_other _ _ (Ne.symm n)).trans e
        refine wpAny_pure ⟨plainId_quiet F.plain_min_loop _, ih (j + 1) _ v _ (by omega) (by omega) (Wl.frame _ _ _ st2 fun b hb2 o e => ?_) (Z _ _ kp2 fun b o _ n e => kp3 _ b o n e) (by simp only [argBest, hb, if_true]; exact ev) (Heap.get?_update_self _ eS2 rfl)
          fun v' h3 tk3 e3 kept3 => back v' h3 tk3 e3 fun b o n1 n2 e => kept3 b o n1 n2 (kp3 _ b o n2 (kept b o (by simpa using n1) e))⟩
        refine kp3 _ b o (fun z => ?_) e
        rcases List.mem_cons.mp hb2 with q | q
        · exact hSJ (z.symm.trans q)
        · exact hSl (z.symm.trans (by simpa using q))
      | false =>
        simp only [Bool.false_eq_true, if_false]
        refine wpAny_bind (wpAny_letGo ?_)
        rw [nm]
        exact wpAny_pure ⟨plainId_quiet F.plain_min_loop _, ih (j + 1) _ best c (by omega) (by omega) st2 kp2 (by simp only [argBest, hb, Bool.false_eq_true, if_false]; exact eb) eS2
          fun v' h3 tk3 e3 kept3 => back v' h3 tk3 e3 fun b o n1 n2 e => kept3 b o n1 n2 (kept b o (by simpa using n1) e)⟩)
theorem min_start (hh : A.in1.handled = none) (hlJ : l ≠ J) (O : Ord prog w A.in1 its Kp bt) {S : Addr} (hSJ : S ≠ J) (hSl : S ≠ l) (Z : Kpt Kp J S) (n0 : 0 < its.size) {t : Shared} {c : Nat} (st : t.heap.IsListIter J l 0 ∧ t.heap.IsList l its) (kp : Kp t.heap)
    (eS : t.heap.get? S = some { cls := .type "list", dict := none, data := .seq #[] c, slots := #[] })
    (back : ∀ v h' tk, its[argBest bt (its.size - 1)]? = some v → (∀ b o, b ≠ J → b ≠ S → t.heap.get? b = some o → h'.get? b = some o) → R (.ok (.ret v)) { t with heap := h', toks := tk }) :
    codeAny (model prog w) A (.builtin "min.loop" ⟨[.ref J, .none, .ref S], []⟩) R t := by
  have Wl := Walks.list (prog := prog) (w := w) (A := A.in1) hh J l hlJ its
  have nm : (toString "min" ++ toString ".loop" : String) = "min.loop" := by decide
  refine codeAny_builtin F.entry_min_loop (by
    rw [Around.under_plainId F.plain_min_loop _]
    refine (show wpAny _ A.in1 (seqItems? (.ref S) >>= _) _ _ t from wpAny_bind (wpAny_seqItems eS rfl ?_))
    refine (show wpAny _ A.in1 (tryCatch (pyNext (.ref J)) _ >>= _) _ _ t from wpAny_bind (wpAny_tryCatch (Wl.item 0 t _ _ n0 st fun v h2 tk ev st2 kept => ?_)))
    have eS2 := kept S _ (by simpa using hSJ) eS
    have kp2 : Kp h2 := Z _ _ kp fun b o n1 _ e => kept b o (by simpa using n1) e
    refine (show wpAny _ A.in1 (updateSeq S (fun _ => #[v, v]) >>= _) _ _ _ from wpAny_bind (wpAny_updateSeq eS2 rfl ?_))
    rw [nm]
    have kp3 : ∀ (g : Obj → Obj) b o, b ≠ S → h2.get? b = some o → (h2.update S g).get? b = some o := fun g b o n e => (Heap.get?_update_other _ _ (Ne.symm n)).trans e
    refine wpAny_pure ⟨plainId_quiet F.plain_min_loop _, min_turns hh hlJ O hSJ hSl Z _ 0 _ v _ rfl n0 (Wl.frame _ _ _ st2 fun b hb2 o e => ?_) (Z _ _ kp2 fun b o _ n e => kp3 _ b o n e) ev (Heap.get?_update_self _ eS2 rfl)
      fun v' h3 tk3 e3 kept3 => back v' h3 tk3 e3 fun b o n1 n2 e => kept3 b o n1 n2 (kp3 _ b o n2 (kept b o (by simpa using n1) e))⟩
    refine kp3 _ b o (fun z => ?_) e
    rcases List.mem_cons.mp hb2 with q | q
    · exact hSJ (z.symm.trans q)
    · exact hSl (z.symm.trans (by simpa using q)))
end
/-- the least of pairs: an order that is transitive has no better one -/
theorem argBest_least {bt : Nat → Nat → Bool} (tr : ∀ a b c, bt a b = true → bt b c = true → bt a c = true) (ir : ∀ a, bt a a = false) : ∀ k, argBest bt k ≤ k ∧ ∀ j, j ≤ k → bt j (argBest bt k) = false
  | 0 => ⟨Nat.le_refl _, fun j hj => by
    rw [show j = 0 by omega]
    exact ir 0⟩
  | k + 1 => by
    obtain ⟨h1, h2⟩ := argBest_least tr ir k
    show (if bt (k + 1) (argBest bt k) then k + 1 else argBest bt k) ≤ k + 1 ∧ ∀ j, j ≤ k + 1 → bt j (if bt (k + 1) (argBest bt k) then k + 1 else argBest bt k) = false
    by_cases c : bt (k + 1) (argBest bt k) = true
    · rw [if_pos c]
      refine ⟨Nat.le_refl _, fun j hj => ?_⟩
      rcases Nat.lt_or_ge k j with z | z
      · rw [show j = k + 1 by omega]
        exact ir _
      · cases e : bt j (k + 1) with
        | false => rfl
        | true =>
          have := tr _ _ _ e c
          rw [h2 j z] at this
          cases this
    · rw [if_neg c]
      refine ⟨by omega, fun j hj => ?_⟩
      rcases Nat.lt_or_ge k j with z | z
      · rw [show j = k + 1 by omega]
        simpa using c
      · exact h2 j z
section
variable {prog : Program} {w : World} {A : Around} {E : Value → Shared → Prop} {l : Addr} {its : Array Value} {bt : Nat → Nat → Bool}
/-- the call: Kp is that all that was there stands -/
theorem min_callP {s : Shared} {Q : Value → Shared → Prop} (hh : A.in1.handled = none) (hl : s.heap.IsList l its) (n0 : 0 < its.size) (O : Ord prog w A.in1 its (fun h => ∀ b o, s.heap.get? b = some o → h.get? b = some o) bt)
    (back : ∀ v h' tk, its[argBest bt (its.size - 1)]? = some v → (∀ b o, s.heap.get? b = some o → h'.get? b = some o) → Q v { s with heap := h', toks := tk }) : wpAny (model prog w) A (call (.builtin "min") [.ref l]) Q E s := by
  have nm : (toString "min" ++ toString ".loop" : String) = "min.loop" := by decide
  refine call_function_tree F.kind_min F.plain_min F.entry_min (F.args_min1 _) (wpAny_bind (m := Builtin.Builtins.bindParams "min" ["key", "default"] 0 ⟨[], []⟩) (wpAny_of_eq (show Builtin.Builtins.bindParams "min" ["key", "default"] 0 ⟨[], []⟩ = pure [none, none] from rfl) (wpAny_bind (wpAny_pure ?_))))
  refine wpAny_bind (wpAny_pyIter_list hl (wpAny_bind (wpAny_newObj_type ?_)))
  rw [nm]
  have hlt : l < s.heap.objs.size := by
    obtain ⟨_, e, _⟩ := id hl
    exact Heap.lt_size e
  have z1 : (s.heap.push { cls := .type "list_iterator", data := .fields #[.ref l, .int 0 0] }).objs.size = s.heap.objs.size + 1 := Heap.size_push ..
  have old : ∀ b o, s.heap.get? b = some o → b < s.heap.objs.size := fun b o e => Heap.lt_size e
  refine wpAny_pure ⟨plainId_quiet F.plain_min_loop _, min_start (l := l) (its := its) hh (Nat.ne_of_lt hlt) O (S := (s.heap.push { cls := .type "list_iterator", data := .fields #[.ref l, .int 0 0] }).objs.size) (by rw [z1]; exact Nat.succ_ne_self _) (by rw [z1]; exact (Nat.ne_of_lt (Nat.lt_succ_of_lt hlt)).symm) (fun h h' k f b o e => f b o (Nat.ne_of_lt (old b o e)) (by rw [z1]; exact Nat.ne_of_lt (Nat.lt_succ_of_lt (old b o e))) (k b o e)) n0 ⟨⟨_, Heap.get?_push_of_some _ (Heap.get?_push_size _ rfl), rfl, rfl⟩, (hl.push _).push _⟩ (fun b o e => Heap.get?_push_of_some _ (Heap.get?_push_of_some _ e)) (Heap.get?_push_size _ rfl) fun v h' tk ev f => ?_⟩
  exact back v h' tk ev fun b o e => f b o (Nat.ne_of_lt (old b o e)) (by rw [z1]; exact Nat.ne_of_lt (Nat.lt_succ_of_lt (old b o e))) (Heap.get?_push_of_some _ (Heap.get?_push_of_some _ e))
end
/-- x is before y: by the first, then by the second -/
def ltPr (x y : Int × Int) : Bool := decide (x.1 < y.1 ∨ x.1 = y.1 ∧ x.2 < y.2)
/-- min(xs), xs a list of pairs of ints: one of the least -/
def rMinP (K : PySem.W.Frag) : List V → Hp → VK → Prop := fun vs H Q => ∃ (a : Addr) (xs : List V) (ks : List (Int × Int)), vs = [V.ref a] ∧ SqL K H a xs ∧ 0 < xs.length ∧ ks.length = xs.length ∧ (∀ (i : Nat) x k, xs[i]? = some x → ks[i]? = some k → ∃ t, x = V.ref t ∧ H t = some (.tup [.int k.1, .int k.2])) ∧
  ∀ (i : Nat) x k, xs[i]? = some x → ks[i]? = some k → (∀ y ∈ ks, ltPr y k = false) → Q x H
theorem lex_pair (a b : Int × Int) : HT.lexLt [a.1, a.2] [b.1, b.2] = ltPr a b := by
  rw [HT.lexLt_cons, HT.lexLt_cons, HT.lexLt_nil_nil]
  unfold ltPr
  by_cases c : a.1 = b.1
  · rw [if_pos c]
    by_cases d : a.2 = b.2
    · rw [if_pos d]
      symm
      rw [decide_eq_false_iff_not]
      omega
    · rw [if_neg d]
      rw [decide_eq_decide]
      omega
  · rw [if_neg c]
    rw [decide_eq_decide]
    omega
section
variable {X : Cx} {j : Nat}
theorem cr_minP (hc : X.calm = true) (hr : Room (j + 1) X.A) : CallR X (.builtin "min") (rMinP X.K) := by
  intro pins s σ H vs us Q I r h
  obtain ⟨a, xs, ks, rfl, hs, hne, hk, hx, q⟩ := h
  obtain ⟨its, rv, hl, _⟩ := I.list hs
  rw [Vals.ref1 r]
  have hlen : its.length = xs.length := rv.length.symm
  refine min_callP (bt := fun i j => ltPr (ks.getD i (0, 0)) (ks.getD j (0, 0))) (I.ok.hd hc) hl.isList (by simpa using (by omega : 0 < its.length)) ?_ fun v h' tk ev kept => ?_
  · intro i1 i2 x y t Q' E' kp e1 e2 q'
    have g1 : its[i1]? = some x := by simpa using e1
    have g2 : its[i2]? = some y := by simpa using e2
    have b1 : i1 < its.length := (List.getElem?_eq_some_iff.mp g1).1
    have b2 : i2 < its.length := (List.getElem?_eq_some_iff.mp g2).1
    obtain ⟨u1, hu1, r1⟩ := rv.get (List.getElem?_eq_getElem (by omega : i1 < xs.length))
    obtain ⟨u2, hu2, r2⟩ := rv.get (List.getElem?_eq_getElem (by omega : i2 < xs.length))
    rw [g1] at hu1
    rw [g2] at hu2
    cases hu1
    cases hu2
    obtain ⟨t1, z1, o1⟩ := hx i1 _ _ (List.getElem?_eq_getElem (by omega)) (List.getElem?_eq_getElem (by omega : i1 < ks.length))
    obtain ⟨t2, z2, o2⟩ := hx i2 _ _ (List.getElem?_eq_getElem (by omega)) (List.getElem?_eq_getElem (by omega : i2 < ks.length))
    rw [z1] at r1
    rw [z2] at r2
    obtain rfl : x = Value.ref t1 := r1
    obtain rfl : y = Value.ref t2 := r2
    obtain ⟨l1, w1, ⟨ob1, p1, rest1⟩, _⟩ := I.tuple (SqT.of o1)
    obtain ⟨l2, w2, ⟨ob2, p2, rest2⟩, _⟩ := I.tuple (SqT.of o2)
    refine HT.lt_tupInts (l := t1) (b := t2) (items := l1.toArray) (items2 := l2.toArray) (ns := [ks[i1].1, ks[i1].2]) (ms := [ks[i2].1, ks[i2].2]) ⟨ob1, kp _ _ p1, rest1⟩ ⟨ob2, kp _ _ p2, rest2⟩ (Vals.ints w1) (Vals.ints w2) hr.in1.units0 ?_
    rw [lex_pair]
    simp only [List.getD_eq_getElem?_getD, List.getElem?_eq_getElem (by omega : i1 < ks.length), List.getElem?_eq_getElem (by omega : i2 < ks.length), Option.getD_some] at q'
    exact q'
  · obtain ⟨m1, m2⟩ := argBest_least (bt := fun i j => ltPr (ks.getD i (0, 0)) (ks.getD j (0, 0))) (fun a b c => by unfold ltPr; simp only [decide_eq_true_iff]; omega) (fun a => by unfold ltPr; simp) (its.toArray.size - 1)
    generalize hB : argBest (fun i j => ltPr (ks.getD i (0, 0)) (ks.getD j (0, 0))) (its.toArray.size - 1) = B at *
    have zs : its.toArray.size = its.length := by simp
    rw [zs] at m1 m2
    have bB : B < xs.length := by omega
    have g : its[B]? = some v := by simpa using ev
    obtain ⟨u, hu, ru⟩ := rv.get (List.getElem?_eq_getElem bB)
    rw [g] at hu
    cases hu
    refine ⟨xs[B], H, I.kept kept, ru, q B _ ks[B] (List.getElem?_eq_getElem bB) (List.getElem?_eq_getElem (by omega)) fun y hy => ?_⟩
    obtain ⟨i, hi, rfl⟩ := List.getElem_of_mem hy
    have := m2 i (by omega)
    simpa only [List.getD_eq_getElem?_getD, List.getElem?_eq_getElem hi, List.getElem?_eq_getElem (by omega : B < ks.length), Option.getD_some] using this
end
end L2
set_option Elab.async false
set_option linter.all false
set_option maxRecDepth 100000
set_option maxHeartbeats 4000000
namespace L2
open PySem PySem.Spec PyProof.Rows
/-! ### evidence: own __bool__, own __eq__, isinstance of a class above -/
section
variable {X : Cx} {k j : Nat} {C D : Addr} {sp : Sp} {dvs : List V} {a : Expr} {ta : TE}
/-- an instance as a test, by its own __bool__ -/
def tTruO (C : Addr) (sp : Sp) (dvs : List V) (ta : TE) : TT := fun σ H Q => ta σ H fun x H1 => ∃ a dx fs, x = .ref a ∧ H1 a = some (.ins C dx fs) ∧ sp ([.ref a] ++ dvs) H1 (fun v H2 => ∃ b, v = .bl b ∧ Q b H2) C8.E0
theorem pt_own (c : C8.Met X.prog X.w X.K X.mg X.base k C "__bool__" sp dvs) (hr : Room j X.A) (hk : k ≤ j) (ha : PE X a ta) (he : ∀ whole, isTrue a X.env whole = (do let v ← whole; standAt a.pos; holding [v] (truthy v)) := by intro _; rfl) : PT X a (tTruO C sp dvs ta) := by
  obtain ⟨f, fd, ps, ds, cl, hm, F, bd, d⟩ := c.ex
  refine ⟨fun pins s σ H Q I h => isTrue_plain (thn (ha.run pins s σ H _ I h) fun v s1 z => ?_) (he _)⟩
  obtain ⟨x, H1, I1, rx, o, dx, fs, rfl, e, q⟩ := z
  obtain rfl : v = Value.ref o := rx
  obtain ⟨mA, O, _, _, _, _⟩ := ins_get I1.hok e
  obtain ⟨od, J, _⟩ := O.look
  obtain ⟨m, F0⟩ := I1.fr
  refine PySem.W.truthy_K F0 I1.ok.mod.kin J hm.at_ hm.fn (wpAny_mono (run_fn (us := [.ref o]) (vs := [.ref o]) F (hr.mono hk) bd d C8.pass0 I1 (.cons rfl .nil) q) (fun v s2 y => ?_) fun _ _ y => y)
  obtain ⟨x2, H2, I2, rx2, b, rfl, q2⟩ := y
  obtain rfl : v = Value.bool b := rx2
  exact ⟨H2, I2, q2⟩
/-- x == y by the own __eq__ of the class of both -/
def rEqO (C : Addr) (sp : Sp) (dvs : List V) : R2 := fun x y H Q => ∃ a b dx dy fs gs, x = .ref a ∧ y = .ref b ∧ H a = some (.ins C dx fs) ∧ H b = some (.ins C dy gs) ∧ sp ([.ref a, .ref b] ++ dvs) H (fun v H' => ∃ k, v = .bl k ∧ Q v H') C8.E0
theorem op_eqO (c : C8.Met X.prog X.w X.K X.mg X.base k C "__eq__" sp dvs) (hr : Room j X.A) (hk : k ≤ j) : OpR X (compareOp .Eq) (rEqO C sp dvs) := by
  obtain ⟨f, fd, ps, ds, cl, hm, F, bd, d⟩ := c.ex
  intro pins s σ H x y v u Q I rx ry h
  obtain ⟨o, o2, dx, dy, fs, gs, rfl, rfl, e, e2, q⟩ := h
  obtain rfl : v = Value.ref o := rx
  obtain rfl : u = Value.ref o2 := ry
  obtain ⟨mA, O, _, _, _, _⟩ := ins_get I.hok e
  obtain ⟨mB, O2, _, _, _, _⟩ := ins_get I.hok e2
  obtain ⟨od, J, _⟩ := O.look
  obtain ⟨od2, J2, _⟩ := O2.look
  obtain ⟨m, F0⟩ := I.fr
  refine PySem.W.cmp_K (op := .Eq) (tb := .ref C) hr.units0 F0 I.ok.mod.kin J J2.type (by simp [PySem.W.notFirst]) hm.at_ hm.fn (wpAny_mono (run_fn (us := [.ref o, .ref o2]) (vs := [.ref o, .ref o2]) F (hr.mono hk) bd d C8.pass0 I (.cons rfl (.cons rfl .nil)) q) (fun v s2 y => ?_) fun _ _ y => y)
  obtain ⟨x2, H2, I2, rx2, b, rfl, q2⟩ := y
  obtain rfl : v = Value.bool b := rx2
  exact ⟨.bl b, H2, I2, rfl, q2⟩
/-- an instance of C is one of D, a class above -/
structure InsB (K : PySem.W.Frag) (C D : Addr) : Prop where
  cl : Cls K C
  ha : PySem.W.findIn K (.ref C) "__class__" = some (some (.builtin "object.__class__"))
  hn : PySem.W.specialIn K (.builtin "object.__class__") "__get__" = some (some (.builtin "getset_descriptor.__get__"))
  htk : PySem.W.takesIn K (.builtin "object.__class__") = some true
  hm : PySem.W.mroIn K C (.type "object") = some true
  me : PySem.W.kitOne K (.ref C) (.ref D) = some true
def rIsUp (C D : Addr) : List V → Hp → VK → Prop := fun xs H Q => ∃ a dx fs, xs = [.ref a, .ref D] ∧ H a = some (.ins C dx fs) ∧ Q (.bl true) H
theorem cr_isUp (c : InsB X.K C D) : CallR X (.builtin "isinstance") (rIsUp C D) := by
  intro pins s σ H xs us Q I r h
  obtain ⟨o, dx, fs, rfl, e, q⟩ := h
  obtain ⟨u, u2, rfl, r1, r2⟩ := vals2 r
  obtain rfl : u2 = Value.ref D := r2
  exact isinst_ok I r1 (TyOf.ins e c.cl c.ha c.hn c.htk c.hm) c.me fun tk => ⟨.bl true, H, I.tok _, rfl, q⟩
end
end L2
namespace Sl
open PySem L2 C8 StX
section
variable {σ : L2.St} {H : Hp} {Q : VK} {QB : Bool → Hp → Prop} {K : PySem.W.Frag} {C D : Addr} {sp : Sp} {dvs : List V} {ta : TE} {v : V} {f : Str} {u : Value}
def rTruO (C : Addr) (sp : Sp) (dvs : List V) (x : V) (H1 : Hp) (Q : Bool → Hp → Prop) : Prop := ∃ a dx fs, x = .ref a ∧ H1 a = some (.ins C dx fs) ∧ sp ([.ref a] ++ dvs) H1 (fun v H2 => ∃ b, v = .bl b ∧ Q b H2) C8.E0
theorem rd_truO0 (h : ta σ H fun x H1 => rTruO C sp dvs x H1 QB) : tTruO C sp dvs ta σ H QB := h
theorem rd_truO {a dx : Addr} {fs : List (Str × V)} (e : H a = some (.ins C dx fs)) (h : sp ([.ref a] ++ dvs) H (fun v H2 => ∃ b, v = .bl b ∧ QB b H2) C8.E0) : rTruO C sp dvs (.ref a) H QB := ⟨a, dx, fs, rfl, e, h⟩
theorem rd_eqO {a b dx dy : Addr} {fs gs : List (Str × V)} (e : H a = some (.ins C dx fs)) (e2 : H b = some (.ins C dy gs)) (h : sp ([.ref a, .ref b] ++ dvs) H (fun v H' => ∃ k, v = .bl k ∧ Q v H') C8.E0) : rEqO C sp dvs (.ref a) (.ref b) H Q := ⟨a, b, dx, dy, fs, gs, rfl, rfl, e, e2, h⟩
theorem rd_isUp {a dx : Addr} {fs : List (Str × V)} (e : H a = some (.ins C dx fs)) (h : Q (.bl true) H) : rIsUp C D [.ref a, .ref D] H Q := ⟨a, dx, fs, rfl, e, h⟩
def rCon (K : PySem.W.Frag) (f : Str) (x : V) (H : Hp) (Q : VK) : Prop := ∃ a C dx fs v u, x = .ref a ∧ H a = some (.ins C dx fs) ∧ Cls K C ∧ Con K C f v u ∧ fs.lookup f = none ∧ Q v H
theorem rd_con0 (h : ta σ H fun x H1 => rCon K f x H1 Q) : tCon K ta f σ H Q := h
theorem rd_con {a dx : Addr} {fs : List (Str × V)} (e : H a = some (.ins C dx fs)) (c : Cls K C) (k : ∃ u, Con K C f v u) (l : fs.lookup f = none) (h : Q v H) : rCon K f (.ref a) H Q := by
  obtain ⟨u, k⟩ := k
  exact ⟨a, C, dx, fs, v, u, rfl, e, c, k, l, h⟩
theorem rd_minP {a : Addr} {xs : List V} {ks : List (Int × Int)} (e : SqL K H a xs) (n : 0 < xs.length) (l : ks.length = xs.length) (hx : ∀ (i : Nat) x k, xs[i]? = some x → ks[i]? = some k → ∃ t, x = V.ref t ∧ H t = some (.tup [.int k.1, .int k.2]))
    (h : ∀ (i : Nat) t k, xs[i]? = some (.ref t) → ks[i]? = some k → H t = some (.tup [.int k.1, .int k.2]) → (∀ y ∈ ks, ltPr y k = false) → Q (.ref t) H) : rMinP K [.ref a] H Q :=
  ⟨a, xs, ks, rfl, e, n, l, hx, fun i x k h1 h2 h3 => by
    obtain ⟨t, rfl, e⟩ := hx i x k h1 h2
    exact h i t k h1 h2 e h3⟩
end
end Sl
set_option Elab.async false
set_option linter.all false
set_option maxRecDepth 100000
set_option maxHeartbeats 4000000
namespace L2
open PySem PySem.Spec PyProof.Rows
/-- a dict from ints to ints -/
def dI (ls : List (Int × Int)) : List (Key × V) := ls.map fun q => (Sum.inl q.1, V.int q.2)
theorem dI_len (ls : List (Int × Int)) : (dI ls).length = ls.length := by unfold dI; rw [List.length_map]
theorem dI_keys (ls : List (Int × Int)) : (dI ls).map (·.1) = (ls.map (·.1)).map Sum.inl := by unfold dI; rw [List.map_map, List.map_map]; rfl
theorem dI_nodup {ls : List (Int × Int)} (h : (ls.map (·.1)).Nodup) : ((dI ls).map (·.1)).Nodup := by
  rw [dI_keys]
  exact List.Pairwise.map Sum.inl (fun a b n e => n (Sum.inl.inj e)) h
theorem dI_val {ls : List (Int × Int)} (h : (ls.map (·.1)).Nodup) : ∀ p ∈ dI ls, valV (dI ls) p.1 = some p.2 ∧ flatB p.2 = true := by
  intro p hp
  refine ⟨val_nodup (dI_nodup h) p hp, ?_⟩
  obtain ⟨q, _, rfl⟩ := List.mem_map.mp hp
  rfl
theorem dI_at {ls : List (Int × Int)} (h : (ls.map (·.1)).Nodup) {k v : Int} (m : (k, v) ∈ ls) : valV (dI ls) (Sum.inl k) = some (.int v) := val_nodup (dI_nodup h) (Sum.inl k, V.int v) (List.mem_map.mpr ⟨(k, v), m, rfl⟩)
theorem dI_no {ls : List (Int × Int)} {k : Int} (h : ∀ q ∈ ls, q.1 ≠ k) : valV (dI ls) (Sum.inl k) = none := by
  induction ls with
  | nil => rfl
  | cons q r ih =>
    show valV ((Sum.inl q.1, V.int q.2) :: dI r) (Sum.inl k) = none
    rw [valV_neg (fun z => h q List.mem_cons_self (Sum.inl.inj z))]
    exact ih fun q' m => h q' (List.mem_cons_of_mem _ m)
theorem dI_putNew {ls : List (Int × Int)} {k v : Int} (h : ∀ q ∈ ls, q.1 ≠ k) : putK (dI ls) (Sum.inl k) (.int v) = dI (ls ++ [(k, v)]) := by
  rw [putK_new _ (dI_no h)]
  unfold dI
  rw [List.map_append]
  rfl
/-! ### == of such dicts, both answers where the lengths differ -/
section
variable {X : Cx}
def rEqDI : R2 := fun x y H Q => ∃ a b ls ms, x = .ref a ∧ y = .ref b ∧ H a = some (.dK (dI ls)) ∧ H b = some (.dK (dI ms)) ∧ (ls.map (·.1)).Nodup ∧ (ls = ms ∨ ls.length ≠ ms.length) ∧ Q (.bl (decide (ls = ms))) H
def rNeDI : R2 := fun x y H Q => ∃ a b ls ms, x = .ref a ∧ y = .ref b ∧ H a = some (.dK (dI ls)) ∧ H b = some (.dK (dI ms)) ∧ (ls.map (·.1)).Nodup ∧ (ls = ms ∨ ls.length ≠ ms.length) ∧ Q (.bl (!decide (ls = ms))) H
theorem dI_hits {A : Around} {s : Shared} {ls ms : List (Int × Int)} {va vb : List (Key × Value)} (nd : (ls.map (·.1)).Nodup) (h : ls = ms ∨ ls.length ≠ ms.length) (ra : KV (dI ls) va) (rb : KV (dI ms) vb) (e : va.length = vb.length) : ls = ms ∧ PySem.W.KeqHits A s vb va true := by
  rcases h with h | h
  · subst h
    exact ⟨rfl, hits_all rb ra (dI_val nd)⟩
  · exfalso
    have h1 := ra.length
    have h2 := rb.length
    rw [dI_len] at h1 h2
    omega
theorem dI_ans {ls ms : List (Int × Int)} {va vb : List (Key × Value)} (h : ls = ms ∨ ls.length ≠ ms.length) (ra : KV (dI ls) va) (rb : KV (dI ms) vb) : (va.length == vb.length && true) = decide (ls = ms) := by
  have h1 := ra.length
  have h2 := rb.length
  rw [dI_len] at h1 h2
  rw [Bool.and_true]
  rcases h with h | h
  · subst h
    rw [decide_eq_true rfl, ← h1, ← h2]
    simp
  · rw [decide_eq_false (fun z => h (by rw [z])), ← h1, ← h2]
    simpa using h
theorem op_eqDI (hu : X.A.units < cLine) : OpR X (compareOp .Eq) rEqDI := by
  intro pins s σ H x y v u Q I rx ry h
  obtain ⟨a, b, ls, ms, rfl, rfl, ea, eb, nd, hh, q⟩ := h
  obtain rfl : v = Value.ref a := rx
  obtain rfl : u = Value.ref b := ry
  obtain ⟨_, ya, va, ra, da⟩ := (show ObjOk X.prog X.w H s.heap a (.dK (dI ls)) from I.hok a _ ea)
  obtain ⟨_, yb, vb, rb, db⟩ := (show ObjOk X.prog X.w H s.heap b (.dK (dI ms)) from I.hok b _ eb)
  refine PySem.W.keq_eq (knd := mixKind X.prog X.w) (r := true) ya yb da db hu (fun e => (dI_hits nd hh ra rb e).2) ?_
  rw [dI_ans hh ra rb]
  exact ⟨.bl _, H, I, rfl, q⟩
theorem op_neDI (hu : X.A.units < cLine) : OpR X (compareOp .NotEq) rNeDI := by
  intro pins s σ H x y v u Q I rx ry h
  obtain ⟨a, b, ls, ms, rfl, rfl, ea, eb, nd, hh, q⟩ := h
  obtain rfl : v = Value.ref a := rx
  obtain rfl : u = Value.ref b := ry
  obtain ⟨_, ya, va, ra, da⟩ := (show ObjOk X.prog X.w H s.heap a (.dK (dI ls)) from I.hok a _ ea)
  obtain ⟨_, yb, vb, rb, db⟩ := (show ObjOk X.prog X.w H s.heap b (.dK (dI ms)) from I.hok b _ eb)
  refine PySem.W.keq_ne (knd := mixKind X.prog X.w) (r := true) ya yb da db hu (fun e => (dI_hits nd hh ra rb e).2) ?_
  rw [dI_ans hh ra rb]
  exact ⟨.bl _, H, I, rfl, q⟩
end
end L2
namespace Sl
open PySem L2 C8 StX
section
variable {σ : L2.St} {H H1 : Hp} {wi : TI} {g : TG} {tb : TS} {ta : TA} {td te ty tk tv : TE} {tt : TT} {nx bk ct : L2.St → Hp → Prop} {rt : VK} {K : PySem.W.Frag} {Q : VK} {QB : Bool → Hp → Prop} {vs : List Nat} {x y v : V}
theorem rd_dnew (h : ∀ p H', H p = none → Same H H' → H' p = some (.dK (dI [])) → H' = upd H p (.dK (dI [])) → Q (.ref p) H') : tDNewK σ H Q := fun p hp => h p _ hp (Same.new (Same.refl H) hp) upd_same rfl
def rDIn (y x : V) (H : Hp) (Q : VK) : Prop := ∃ a o, x = .ref a ∧ DGet H a y o ∧ Q (.bl o.isSome) H
def rDNot (y x : V) (H : Hp) (Q : VK) : Prop := ∃ a o, x = .ref a ∧ DGet H a y o ∧ Q (.bl (!o.isSome)) H
theorem rd_din0 (h : ty σ H fun y H1 => td σ H1 fun x H2 => rDIn y x H2 Q) : tDIn ty td σ H Q := h
theorem rd_dnot0 (h : ty σ H fun y H1 => td σ H1 fun x H2 => rDNot y x H2 Q) : tDNotIn ty td σ H Q := h
theorem rd_dnot {a : Addr} {ls : List (Int × Int)} {k : Int} (e : H a = some (.dK (dI ls))) (h : Q (.bl (!(valV (dI ls) (Sum.inl k)).isSome)) H) : rDNot (.int k) (.ref a) H Q := ⟨a, _, rfl, DGet.k (k := Sum.inl k) e, h⟩
def rDGet (x y : V) (H : Hp) (Q : VK) : Prop := ∃ a v, x = .ref a ∧ DGet H a y (some v) ∧ Q v H
theorem rd_dget0 (h : td σ H fun x H1 => ty σ H1 fun y H2 => rDGet x y H2 Q) : tDGet td ty σ H Q := h
theorem rd_dget {a : Addr} {ls : List (Int × Int)} {k w : Int} (e : Rd H a (.dK (dI ls))) (l : valV (dI ls) (Sum.inl k) = some (.int w)) (h : Q (.int w) H) : rDGet (.ref a) (.int k) H Q := ⟨a, .int w, rfl, .inl ⟨_, Sum.inl k, e, rfl, l.symm⟩, h⟩
def rDPut (nx : L2.St → Hp → Prop) (σ : L2.St) (v x y : V) (H : Hp) : Prop := ∃ a H4, x = .ref a ∧ DPut H a y v H4 ∧ nx σ H4
theorem rd_dput0 (h : tv σ H fun v H1 => td σ H1 fun x H2 => ty σ H2 fun y H3 => rDPut nx σ v x y H3) : sDPut td ty tv ⟨nx, rt, bk, ct⟩ σ H := h
theorem rd_dput {a : Addr} {ls : List (Int × Int)} {k w : Int} (e : H a = some (.dK (dI ls))) (l : ls.length < 100000) (h : ∀ H', H' = upd H a (.dK (putK (dI ls) (Sum.inl k) (.int w))) → H' a = some (.dK (putK (dI ls) (Sum.inl k) (.int w))) → nx σ H') : rDPut nx σ (.int w) (.ref a) (.int k) H :=
  ⟨a, _, rfl, DPut.k (k := Sum.inl k) e (by rw [dI_len]; exact Nat.lt_trans l (by decide)), h _ rfl upd_same⟩
def rDictD : List V → Hp → VK → Prop := fun xs H Q => ∃ (a : Addr) (kvs : List (Key × V)), xs = [.ref a] ∧ Rd H a (.dK kvs) ∧ ∀ p, H p = none → Q (.ref p) (upd H p (.dK kvs))
theorem cr_dictD {X : Cx} : CallR X (.type "dict") rDictD := call_dictD
theorem rd_dictD {a : Addr} {kvs : List (Key × V)} (e : H a = some (.dK kvs)) (h : ∀ p H', H p = none → Same H H' → H' p = some (.dK kvs) → H' = upd H p (.dK kvs) → Q (.ref p) H') : rDictD [.ref a] H Q := ⟨a, kvs, rfl, .inl e, fun p hp => h p _ hp (Same.new (Same.refl H) hp) upd_same rfl⟩
def rSortDI : List V → Hp → VK → Prop := fun xs H Q => ∃ (a : Addr) (kvs : List (Key × V)) (ks : List Int), xs = [.ref a] ∧ Rd H a (.dK kvs) ∧ kvs.map (·.1) = ks.map Sum.inl ∧ ks.length < 64 ∧ ∀ (ys : List Int) (p : Addr), ys.Perm ks → ys.Pairwise (· ≤ ·) → H p = none → Q (.ref p) (upd H p (.lst (ys.map V.int)))
theorem cr_sortDI {X : Cx} (hc : X.calm = true) : CallR X (.builtin "sorted") rSortDI := call_sortedDI hc
theorem perm_sorted : ∀ {ys ks : List Int}, ys.Perm ks → ys.Pairwise (· ≤ ·) → ks.Pairwise (· < ·) → ys = ks
  | [], ks, p, _, _ => (List.nil_perm.mp p).symm
  | y :: ys, [], p, _, _ => by have := p.length_eq; simp at this
  | y :: ys, k :: ks, p, s1, s2 => by
    have h1 := List.pairwise_cons.mp s1
    have h2 := List.pairwise_cons.mp s2
    have e : y = k := by
      have a : y ∈ k :: ks := p.mem_iff.mp List.mem_cons_self
      have b : k ∈ y :: ys := p.mem_iff.mpr List.mem_cons_self
      rcases List.mem_cons.mp a with z | z
      · exact z
      · rcases List.mem_cons.mp b with w | w
        · exact w.symm
        · have q1 := h2.1 y z
          have q2 := h1.1 k w
          omega
    subst e
    rw [perm_sorted p.cons_inv h1.2 h2.2]
theorem rd_sortDI {a : Addr} {ls : List (Int × Int)} (e : H a = some (.dK (dI ls))) (s : (ls.map (·.1)).Pairwise (· < ·)) (l : ls.length < 64) (h : ∀ p H', H p = none → Same H H' → H' p = some (.lst ((ls.map (·.1)).map V.int)) → Q (.ref p) H') : rSortDI [.ref a] H Q :=
  ⟨a, _, ls.map (·.1), rfl, .inl e, dI_keys ls, by rw [List.length_map]; exact l, fun ys p pm sr hp => by
    rw [perm_sorted pm sr s]
    exact h p _ hp (Same.new (Same.refl H) hp) upd_same⟩
theorem rd_sortL {a : Addr} {ks : List Int} (e : SqL K H a (ks.map V.int)) (s : ks.Pairwise (· < ·)) (l : ks.length < 64) (h : ∀ p H', H p = none → Same H H' → H' p = some (.lst (ks.map V.int)) → Q (.ref p) H') : rSorted K [.ref a] H Q :=
  ⟨a, ks, rfl, e, l, fun ys p pm sr hp => by
    rw [perm_sorted pm sr s]
    exact h p _ hp (Same.new (Same.refl H) hp) upd_same⟩
theorem rd_listD {a : Addr} {ls : List (Int × Int)} (e : H a = some (.dK (dI ls))) (h : ∀ p H', H p = none → Same H H' → H' p = some (.lst ((ls.map (·.1)).map V.int)) → Q (.ref p) H') : rListD [.ref a] H Q :=
  ⟨a, _, rfl, e, fun p hp => h p _ hp (Same.new (Same.refl H) hp) (by rw [upd_same]; unfold dI; rw [List.map_map, List.map_map]; rfl)⟩
theorem rd_eqDI {a b : Addr} {ls ms : List (Int × Int)} (ea : H a = some (.dK (dI ls))) (eb : H b = some (.dK (dI ms))) (nd : (ls.map (·.1)).Nodup) (hh : ls = ms ∨ ls.length ≠ ms.length) (q : Q (.bl (decide (ls = ms))) H) : rEqDI (.ref a) (.ref b) H Q := ⟨a, b, ls, ms, rfl, rfl, ea, eb, nd, hh, q⟩
theorem rd_neDI {a b : Addr} {ls ms : List (Int × Int)} (ea : H a = some (.dK (dI ls))) (eb : H b = some (.dK (dI ms))) (nd : (ls.map (·.1)).Nodup) (hh : ls = ms ∨ ls.length ≠ ms.length) (q : Q (.bl (!decide (ls = ms))) H) : rNeDI (.ref a) (.ref b) H Q := ⟨a, b, ls, ms, rfl, rfl, ea, eb, nd, hh, q⟩
/-! ### dict comprehensions -/
def DcE (D : Addr) (Nx : Hp → Prop) (y z : V) (H5 : Hp) : Prop := ∃ kvs k, y = kV k ∧ H5 D = some (.dK kvs) ∧ kvs.length < sizeLine ∧ Nx (upd H5 D (.dK (putK kvs k z)))
def DcR (J : It) (g : TG) (tt : TT) (tk tv : TE) (vs : List Nat) (σ : L2.St) (H1 : Hp) (Q : VK) : Prop := ∀ D, H1 D = none → ∃ W : Nat → Nat → Hp → Prop, (∃ m, W 0 m (upd H1 D (.dK []))) ∧ ∀ i m H, W i m H →
  (J.stop i H ∧ Q (.ref D) H) ∨ (J.go i H ∧ ∃ Nx : Hp → Prop, (∀ H', Nx H' → ∃ m', m' < m ∧ W (i + 1) m' H') ∧ ∀ x H', J.yld i H x H' → g x (wipe σ vs) H' fun σ2 H2 => wipe σ2 vs = wipe σ vs ∧ tt σ2 H2 fun b H3 =>
    if b = true then tk σ2 H3 fun y H4 => tv σ2 H4 fun z H5 => DcE D Nx y z H5 else Nx H3)
theorem rd_dc (h : wi σ H fun J H1 => DcR J g tt tk tv vs σ H1 Q) : tDc wi g tt tk tv vs σ H Q := h
theorem rd_dcE {D : Addr} {Nx : Hp → Prop} {ls : List (Int × Int)} {k w : Int} (e : H D = some (.dK (dI ls))) (l : ls.length < 100000) (n : ∀ q ∈ ls, q.1 ≠ k) (h : ∀ H', H' = upd H D (.dK (dI (ls ++ [(k, w)]))) → H' D = some (.dK (dI (ls ++ [(k, w)]))) → Nx H') : DcE D Nx (.int k) (.int w) H :=
  ⟨_, Sum.inl k, rfl, e, by rw [dI_len]; exact Nat.lt_trans l (by decide), by rw [dI_putNew n]; exact h _ rfl upd_same⟩
theorem dcR_gen (J : It) (n : Nat) (Pv : Addr → Nat → Hp → Prop) (h0 : ∀ D H', H D = none → Same H H' → H' D = some (.dK (dI [])) → H' = upd H D (.dK (dI [])) → Pv D 0 H') (hg : ∀ D i H', H D = none → i < n → Pv D i H' → J.go i H') (he : ∀ D H', H D = none → Pv D n H' → J.stop n H')
    (hs : ∀ D i H' x H2, H D = none → i < n → Pv D i H' → J.yld i H' x H2 → g x (wipe σ vs) H2 fun σ2 H2 => wipe σ2 vs = wipe σ vs ∧ tt σ2 H2 fun b H3 => if b = true then tk σ2 H3 fun y H4 => tv σ2 H4 fun z H5 => DcE D (Pv D (i + 1)) y z H5 else Pv D (i + 1) H3)
    (hd : ∀ D H', H D = none → Pv D n H' → Q (.ref D) H') : DcR J g tt tk tv vs σ H Q := by
  intro D hD
  refine ⟨fun i m H => m = n - i ∧ i ≤ n ∧ Pv D i H, ⟨n, by simp, Nat.zero_le _, h0 D _ hD (Same.new (Same.refl H) hD) upd_same rfl⟩, ?_⟩
  rintro i m H' ⟨rfl, hi, p⟩
  by_cases hlt : i < n
  · exact .inr ⟨hg D i H' hD hlt p, Pv D (i + 1), fun H2 p' => ⟨n - (i + 1), by omega, rfl, hlt, p'⟩, fun x H2 y => hs D i H' x H2 hD hlt p y⟩
  · obtain rfl : i = n := by omega
    exact .inl ⟨he D H' hD p, hd D H' hD p⟩
theorem dcR_lst {a : Addr} {xs : List V} (Pv : Addr → Nat → Hp → Prop) (hl : ∀ D i H', H D = none → Pv D i H' → SqL K H' a xs) (h0 : ∀ D H', H D = none → Same H H' → H' D = some (.dK (dI [])) → H' = upd H D (.dK (dI [])) → Pv D 0 H')
    (hs : ∀ D i x H', H D = none → xs[i]? = some x → Pv D i H' → g x (wipe σ vs) H' fun σ2 H2 => wipe σ2 vs = wipe σ vs ∧ tt σ2 H2 fun b H3 => if b = true then tk σ2 H3 fun y H4 => tv σ2 H4 fun z H5 => DcE D (Pv D (i + 1)) y z H5 else Pv D (i + 1) H3)
    (hd : ∀ D H', H D = none → Pv D xs.length H' → Q (.ref D) H') : DcR (Itl K a) g tt tk tv vs σ H Q :=
  dcR_gen _ xs.length Pv h0 (fun D i H' hD h p => ⟨xs, xs[i], hl D i H' hD p, by simp [h]⟩) (fun D H' hD p => ⟨xs, hl D _ H' hD p, Nat.le_refl _⟩)
    (fun D i H' x H2 hD hi p ⟨e1, e2⟩ => by subst e1; exact hs D i x _ hD (e2 xs (hl D i _ hD p)) p) hd
/-! ### the keys of a dict that is walked -/
def KeysR (R : It → Hp → Prop) (x : V) (H : Hp) : Prop := ∃ d o, x = .ref d ∧ ((∃ kvs, H d = some (.frz o (.dK kvs)) ∧ R (Itk d o kvs) H) ∨ ∃ kvs, H d = some (.frz o (.dT kvs)) ∧ R (Itkt d o kvs) H)
theorem rd_iKeys {R : It → Hp → Prop} (h : td σ H fun x H1 => KeysR R x H1) : iKeys td σ H R := h
theorem rd_keysR {R : It → Hp → Prop} {d : Addr} {o : Obj} {kvs : List (Key × V)} (e : H d = some (.frz o (.dK kvs))) (h : R (Itk d o kvs) H) : KeysR R (.ref d) H := ⟨d, o, rfl, .inl ⟨kvs, e, h⟩⟩
theorem rd_lock {d : Addr} {u : HO} (e : H d = some u) (m : Mut (some u)) (h : ∀ od, te σ (upd H d (.frz od u)) fun v H' => H' d = some (.frz od u) ∧ Q v (upd H' d u)) : tLockE te σ H Q := ⟨d, u, e, m, h⟩
theorem dcR_keys {d : Addr} {o : Obj} {kvs : List (Key × V)} (Pv : Addr → Nat → Hp → Prop) (hl : ∀ D i H', H D = none → Pv D i H' → H' d = some (.frz o (.dK kvs))) (h0 : ∀ D H', H D = none → Same H H' → H' D = some (.dK (dI [])) → H' = upd H D (.dK (dI [])) → Pv D 0 H')
    (hs : ∀ D i k z H', H D = none → kvs[i]? = some (k, z) → Pv D i H' → g (kV k) (wipe σ vs) H' fun σ2 H2 => wipe σ2 vs = wipe σ vs ∧ tt σ2 H2 fun b H3 => if b = true then tk σ2 H3 fun y H4 => tv σ2 H4 fun z H5 => DcE D (Pv D (i + 1)) y z H5 else Pv D (i + 1) H3)
    (hd : ∀ D H', H D = none → Pv D kvs.length H' → Q (.ref D) H') : DcR (Itk d o kvs) g tt tk tv vs σ H Q :=
  dcR_gen _ kvs.length Pv h0 (fun D i H' hD h p => ⟨hl D i H' hD p, h⟩) (fun D H' hD p => ⟨hl D _ H' hD p, Nat.le_refl _⟩)
    (fun D i H' x H2 hD hi p ⟨e1, k, v, e2, e3⟩ => by subst e1; subst e3; exact hs D i k v _ hD e2 p) hd
theorem lcR_keys {d : Addr} {o : Obj} {kvs : List (Key × V)} (Pv : Addr → Nat → Hp → Prop) (hl : ∀ D i H', H D = none → Pv D i H' → H' d = some (.frz o (.dK kvs))) (h0 : ∀ D H', H D = none → Same H H' → H' D = some (.lst []) → H' = upd H D (.lst []) → Pv D 0 H')
    (hs : ∀ D i k z H', H D = none → kvs[i]? = some (k, z) → Pv D i H' → g (kV k) (wipe σ vs) H' fun σ2 H2 => wipe σ2 vs = wipe σ vs ∧ tt σ2 H2 fun b H3 => if b = true then te σ2 H3 fun y H4 => LcE D (Pv D (i + 1)) y H4 else Pv D (i + 1) H3)
    (hd : ∀ D H', H D = none → Pv D kvs.length H' → Q (.ref D) H') : LcR (Itk d o kvs) g tt te vs σ H Q :=
  lcR_gen _ kvs.length Pv h0 (fun D i H' hD h p => ⟨hl D i H' hD p, h⟩) (fun D H' hD p => ⟨hl D _ H' hD p, Nat.le_refl _⟩)
    (fun D i H' x H2 hD hi p ⟨e1, k, v, e2, e3⟩ => by subst e1; subst e3; exact hs D i k v _ hD e2 p) hd
end
end Sl
set_option Elab.async false
set_option linter.all false
set_option maxRecDepth 100000
set_option maxHeartbeats 4000000
/-! ### t != u of tuples whose items are all equal, one of them a dict -/
namespace GQ
open PySem PySem.SeqAt
open AutoSeq1 (wpAny_loadPart')
open MeetsSeq MeetsSeq2 MeetsSeq3 SeqRoads2
section
variable {prog : Program} {w : World} {A : Around} {R : Result → Shared → Prop} {E : Value → Shared → Prop}
theorem tup_neT (t u : Addr) (xs ys : Array Value) (n m : Nat) (d1 d2 : Option Addr) (l1 l2 : Array (Option Value)) (len : xs.size = ys.size) {s : Shared}
    (each : ∀ i (h1 : i < xs.size) (h2 : i < ys.size) (E' : Value → Shared → Prop) (Q : Bool → Shared → Prop), Q true s → wpAny (model prog w) A.in1 (eqBool xs[i] ys[i]) Q E' s)
    (e1 : s.heap.get? t = some { cls := .type "tuple", dict := d1, data := .seq xs n, slots := l1 }) (e2 : s.heap.get? u = some { cls := .type "tuple", dict := d2, data := .seq ys m, slots := l2 }) (fin : R (.ok (.ret (.bool false))) s) :
    wpAny (model prog w) A.in1 (Builtin.«tuple.__ne__» ⟨[.ref t, .ref u], []⟩) (FinOf prog w A R) (fun e s' => R (.error e) s') s := by
  have f2 := AutoSeq1.sub_tuple_tuple
  have hz : (xs.toList.zip ys.toList).length = xs.size := by simp [len]
  obtain ⟨hp, gn, dr, tk, os⟩ := s
  wp_walk using wpAny_loadPart' e1, wpAny_loadPart' e2, wpAny_forIn_list _ (fun rest b s' => b.1 = none ∧ s' = (⟨hp, gn, dr, tk, os⟩ : Shared) ∧ ∃ i, rest = (xs.toList.zip ys.toList).drop i ∧ i ≤ xs.size) _
  case turn =>
    rintro ⟨y, x⟩ rest b s' ⟨hb, rfl, i, hr, hi⟩
    have lt : i < (xs.toList.zip ys.toList).length := by
      rcases Nat.lt_or_ge i (xs.toList.zip ys.toList).length with z | z
      · exact z
      · rw [List.drop_of_length_le z] at hr
        cases hr
    have h1 : i < xs.size := hz ▸ lt
    have h2 : i < ys.size := len ▸ h1
    rw [List.drop_eq_getElem_cons lt] at hr
    injection hr with q1 q2
    obtain rfl : y = xs[i] := by simpa using congrArg Prod.fst q1
    obtain rfl : x = ys[i] := by simpa using congrArg Prod.snd q1
    refine wpAny_bind (each i h1 h2 _ _ ?_)
    wp_walk
    exact ⟨rfl, rfl, i + 1, q2, h1⟩
  case fin =>
    rintro ⟨b1, b2⟩ s' ⟨hb, rfl, i, hr, hi⟩
    simp only at hb
    subst hb
    wp_walk
    simpa [Builtin.Tuple.tupleCompareSizes, len] using fin
  case h =>
    exact ⟨rfl, rfl, 0, rfl, Nat.zero_le _⟩
theorem rcne_tup {t u : Addr} {xs ys : Array Value} {Q : Value → Shared → Prop} {s : Shared} (len : xs.size = ys.size) (hu : A.units < cLine) (h1 : s.heap.IsTuple t xs) (h2 : s.heap.IsTuple u ys)
    (each : ∀ i (h1 : i < xs.size) (h2 : i < ys.size) (E' : Value → Shared → Prop) (Q : Bool → Shared → Prop), Q true s → wpAny (model prog w) A.in1 (eqBool xs[i] ys[i]) Q E' s) (fin : Q (.bool false) s) : wpAny (model prog w) A (richCompare .NotEq (.ref t) (.ref u)) Q E s := by
  obtain ⟨⟨c1, d1, k1, l1⟩, o1, z1, n, y1⟩ := id h1
  obtain ⟨⟨c2, d2, k2, l2⟩, o2, z2, m, y2⟩ := id h2
  simp only at z1 y1 z2 y2
  subst z1 y1 z2 y2
  refine wpAny_richCompare_same_room (op := .NotEq) ⟨_, o1, rfl⟩ ⟨_, o2, rfl⟩ F.slot_tuple_ne (call_here F.slot_tuple_ne ⟨_, o1, rfl⟩ F.entry_tuple_ne (F.args_tuple_ne_2 _ _) ?_) hu
  exact tup_neT (R := wants (fun v s' => v ≠ .notImplemented ∧ Q v s') E) t u xs ys n m d1 d2 l1 l2 len each o1 o2 ⟨(fun x => nomatch x), fin⟩
end
end GQ
namespace L2
open PySem PySem.Spec PyProof.Rows
section
variable {X : Cx}
/-- (i, d) != (i, e), d and e equal dicts -/
def rNePD (K : PySem.W.Frag) : R2 := fun x y H Q => ∃ t u i a b ls, x = .ref t ∧ y = .ref u ∧ H t = some (.tup [.int i, .ref a]) ∧ H u = some (.tup [.int i, .ref b]) ∧ H a = some (.dK (dI ls)) ∧ H b = some (.dK (dI ls)) ∧ (ls.map (·.1)).Nodup ∧ Q (.bl false) H
theorem op_nePD (hu : X.A.units + 64 < cLine) : OpR X (compareOp .NotEq) (rNePD X.K) := by
  intro pins s σ H x y v u' Q I rx ry h
  obtain ⟨t, u, i, a, b, ls, rfl, rfl, et, eu, ea, eb, nd, q⟩ := h
  obtain rfl : v = Value.ref t := rx
  obtain rfl : u' = Value.ref u := ry
  obtain ⟨xs, r1, p1, _⟩ := I.tuple (SqT.of et)
  obtain ⟨ys, r2, p2, _⟩ := I.tuple (SqT.of eu)
  obtain ⟨x1, x2, rfl, ⟨tx, rfl⟩, w2⟩ := vals2 r1
  obtain ⟨y1, y2, rfl, ⟨ty, rfl⟩, z2⟩ := vals2 r2
  obtain rfl : x2 = Value.ref a := w2
  obtain rfl : y2 = Value.ref b := z2
  obtain ⟨_, ya, va, ra, da⟩ := (show ObjOk X.prog X.w H s.heap a (.dK (dI ls)) from I.hok a _ ea)
  obtain ⟨_, yb, vb, rb, db⟩ := (show ObjOk X.prog X.w H s.heap b (.dK (dI ls)) from I.hok b _ eb)
  show wpAny (model X.prog X.w) X.A (richCompare .NotEq (.ref t) (.ref u)) (EP X pins σ Q) X.xe s
  refine GQ.rcne_tup (by simp) (by omega) p1 p2 (fun j h1 h2 E' Q' q' => ?_) ⟨.bl false, H, I, rfl, q⟩
  match j, h1, h2 with
  | 0, _, _ => exact (eqAt_same (A := X.A.in1) (s := s) (show RelV (V.int i) (Value.int i tx) from ⟨tx, rfl⟩) (show RelV (V.int i) (Value.int i ty) from ⟨ty, rfl⟩) rfl) X.prog X.w E' Q' q'
  | 1, _, _ =>
    show wpAny (model X.prog X.w) X.A.in1 (eqBool (Value.ref a) (Value.ref b)) Q' E' s
    by_cases c : a = b
    · subst c
      exact SeqAt.EqAt.same (A := X.A.in1) (s := s) (.ref a) X.prog X.w E' Q' q'
    · refine GQ.eqBool_refG c ?_
      show wpAny (model X.prog X.w) X.A.in1 (compareOp .Eq (.ref a) (.ref b)) _ E' s
      refine PySem.W.keq_eq (knd := mixKind X.prog X.w) (r := true) ya yb da db (by show X.A.units + 1 < cLine; omega) (fun e => (dI_hits nd (.inl rfl) ra rb e).2) ?_
      rw [dI_ans (.inl rfl) ra rb, decide_eq_true rfl]
      exact ⟨true, rfl, q'⟩
  | j + 2, h1, _ => exact absurd h1 (by simp)
end
end L2
namespace Sl
open PySem L2 C8 StX
theorem rd_nePD {K : PySem.W.Frag} {H : Hp} {Q : VK} {t u a b : Addr} {i : Int} {ls : List (Int × Int)} (et : H t = some (.tup [.int i, .ref a])) (eu : H u = some (.tup [.int i, .ref b])) (ea : H a = some (.dK (dI ls))) (eb : H b = some (.dK (dI ls))) (nd : (ls.map (·.1)).Nodup) (q : Q (.bl false) H) : rNePD K (.ref t) (.ref u) H Q :=
  ⟨t, u, i, a, b, ls, rfl, rfl, et, eu, ea, eb, nd, q⟩
end Sl
set_option Elab.async false
set_option linter.all false
set_option maxRecDepth 100000
set_option maxHeartbeats 4000000
namespace L2
open PySem PySem.Spec PyProof.Rows
/-! ### sum(d.values()) of a dict from ints to ints -/
def rSumV (x : V) (H : Hp) (Q : VK) : Prop := ∃ a ls, x = V.ref a ∧ H a = some (.dK (dI ls)) ∧ Q (.int ((ls.map (·.2)).sum)) H
def tSumV (td : TE) : TE := fun σ H Q => td σ H fun x H1 => rSumV x H1 Q
theorem dI_vals (ls : List (Int × Int)) : (dI ls).map (·.2) = (ls.map (·.2)).map V.int := by unfold dI; rw [List.map_map, List.map_map]; rfl
theorem preSum_list (l : List Int) : ∀ n : Nat, preSum (fun i => l.getD i 0) n = (l.take n).sum
  | 0 => by simp [preSum]
  | n + 1 => by
    rw [preSum, preSum_list l n, List.take_succ, List.sum_append]
    cases e : l[n]? with
    | none => simp [List.getD_eq_getElem?_getD, e]
    | some x => simp [List.getD_eq_getElem?_getD, e]
section
variable {X : Cx} {o : Expr} {p pos apos mpos : Pos} {td : TE}
theorem pe_sumVals (hc : X.calm = true) (hg : Gl X "sum") (hm : X.mg "sum" = none) (hd : PE X o td) (base : attributeBase o "values" X.env (eval o X.env) = eval o X.env := by rfl) (line : (apos.endLine == mpos.line) = true := by rfl)
    (each : starEach [Expr.Call (.Attribute o "values" apos) [] [] mpos] X.env = [(false, eval (Expr.Call (.Attribute o "values" apos) [] [] mpos) X.env)] := by rfl) : PE X (.Call (.Name "sum" p) [.Call (.Attribute o "values" apos) [] [] mpos] [] pos) (tSumV td) := by
  refine ⟨fun pins s σ H Q I h => wpAny_Call_Name_kw (ld_blt I hg hm (u := .builtin "sum") (by first | rfl | decide +kernel) ?_ (by first | decide +kernel | decide) (by first | decide +kernel | decide))⟩
  rw [each]
  refine PySem.callWith_builtin1 (wpAny_Call_method0_late base line (thn (hd.run pins s σ H _ I h) fun v s1 z => ?_))
  obtain ⟨x, H1, I1, rx, a, ls, rfl, ea, q⟩ := z
  obtain rfl : v = Value.ref a := rx
  obtain ⟨_, low, vs, rel, dof⟩ := dk_of I1.hok ea
  obtain ⟨ep, dat⟩ := dof.dictAt
  obtain ⟨ob, es, ho, ex, _⟩ := id dat
  refine ⟨"dict", "dict.values", F.plainAttrs_dict, F.slot_dict_values, F.type_dict_values, ⟨ob, ho, ex.1⟩, fun b e => (by cases e; exact ⟨ob, ho, ex.2.1⟩), Calls.callWith_builtin rfl (PySem.evalArgs_none (call_meetsIn F.slot_dict_values ⟨ob, ho, ex.1⟩ F.entry_dict_values (F.args_dict_values_1 _) (meets_dict_values (mixKind X.prog X.w) a low) ⟨⟨vs, dof⟩, ?_⟩))⟩
  have kept1 : ∀ b u, s1.heap.get? b = some u → (s1.heap.push { cls := .type "dict_values", data := .fields #[.ref a] }).get? b = some u := fun _ _ e => Heap.get?_push_of_some _ e
  have dat1 := dat.keep kept1
  have lt : a < s1.heap.objs.size := Heap.lt_size ho
  have sz : (s1.heap.push { cls := .type "dict_values", data := .fields #[.ref a] }).objs.size = s1.heap.objs.size + 1 := Heap.size_push _ _
  have lv : vs.length = ls.length := by rw [← rel.length, dI_len]
  have val : ∀ (i : Nat) (v : Value), (∃ k, vs[i]? = some (k, v)) → ∃ t, v = Value.int ((ls.map (·.2)).getD i 0) t := by
    rintro i v ⟨k, hk⟩
    obtain ⟨x, h1, h2⟩ := KV.at' rel hk
    have e : ((dI ls).map (·.2))[i]? = some x := by rw [List.getElem?_map, h1]; rfl
    rw [dI_vals, List.getElem?_map] at e
    cases w : (ls.map (·.2))[i]? with
    | none => rw [w] at e; cases e
    | some j =>
      rw [w] at e
      cases e
      obtain ⟨t, rfl⟩ := h2
      refine ⟨t, ?_⟩
      rw [List.getD_eq_getElem?_getD, w]; rfl
  refine call_sum_walkG (wpAny_pyIter_values (v := s1.heap.objs.size) (d := a) ⟨_, Heap.get?_push_size _ rfl, rfl, rfl⟩ dat1 ⟨_, _, _, _, _, _, fun i => (ls.map (·.2)).getD i 0, rfl,
    Walks.dictValues (knd := mixKind X.prog X.w) (A := X.A.in1) (I.ok.hd hc) _ a (by rw [sz]; exact Nat.ne_of_lt (Nat.lt_succ_of_lt lt)) vs ep, ⟨⟨_, Heap.get?_push_size _ rfl, rfl, rfl⟩, dat1.keep fun _ _ e => Heap.get?_push_of_some _ e⟩, fun b hb => ?_, val, fun h' tk t' kp => ?_⟩)
  · show b < ((s1.heap.push _).push _).objs.size
    rw [Heap.size_push, sz]
    rcases List.mem_cons.mp hb with e | hb
    · rw [e, sz]; exact Nat.lt_succ_self _
    · rw [List.mem_singleton.mp hb]; exact Nat.lt_succ_of_lt (Nat.lt_succ_of_lt lt)
  · have es : preSum (fun i => (ls.map (·.2)).getD i 0) vs.length = (ls.map (·.2)).sum := by
      rw [preSum_list, List.take_of_length_le (by rw [List.length_map, lv]; exact Nat.le_refl _)]
    rw [es]
    refine ⟨.int _, H1, I1.kept (t' := tk) fun b u e => kp b u (fun mem => ?_) (Heap.get?_push_of_some _ (kept1 b u e)), ⟨t', rfl⟩, q⟩
    have e2 := Heap.lt_size e
    rw [List.mem_singleton.mp mem, sz] at e2
    exact Nat.lt_irrefl _ (Nat.lt_of_succ_lt e2)
end
end L2
namespace Sl
open PySem L2 C8 StX
section
variable {σ : L2.St} {H : Hp} {Q : VK} {td ty tx : TE}
theorem rd_sumV0 (h : td σ H fun x H1 => rSumV x H1 Q) : tSumV td σ H Q := h
theorem rd_sumV {a : Addr} {ls : List (Int × Int)} (e : H a = some (.dK (dI ls))) (h : Q (.int ((ls.map (·.2)).sum)) H) : rSumV (.ref a) H Q := ⟨a, ls, rfl, e, h⟩
/-- d.get(k, z) -/
def rGetD (x : V) (ty tx : TE) (σ : L2.St) (H1 : Hp) (Q : VK) : Prop := ∃ a, x = .ref a ∧ IsD H1 a ∧ ty σ H1 fun y H2 => tx σ H2 fun z H3 => ∃ o, DGet H3 a y o ∧ Q (o.getD z) H3
theorem rd_getD0 (h : td σ H fun x H1 => rGetD x ty tx σ H1 Q) : tDGet2 td ty tx σ H Q := h
def rGetD2 (a : Addr) (y z : V) (H3 : Hp) (Q : VK) : Prop := ∃ o, DGet H3 a y o ∧ Q (o.getD z) H3
theorem rd_getD {a : Addr} {kvs : List (Key × V)} (e : Rd H a (.dK kvs)) (h : ty σ H fun y H2 => tx σ H2 fun z H3 => rGetD2 a y z H3 Q) : rGetD (.ref a) ty tx σ H Q := ⟨a, rfl, .inl ⟨kvs, e⟩, h⟩
theorem rd_getD2 {a : Addr} {ls : List (Int × Int)} {k w z : Int} (e : Rd H a (.dK (dI ls))) (l : (valV (dI ls) (Sum.inl k)).getD (.int z) = .int w) (h : Q (.int w) H) : rGetD2 a (.int k) (.int z) H Q := ⟨_, .inl ⟨_, Sum.inl k, e, rfl, rfl⟩, by rw [l]; exact h⟩
theorem rd_dinI {a : Addr} {ls : List (Int × Int)} {k : Int} (e : H a = some (.dK (dI ls))) (h : Q (.bl (valV (dI ls) (Sum.inl k)).isSome) H) : rDIn (.int k) (.ref a) H Q := ⟨a, _, rfl, DGet.k (k := Sum.inl k) e, h⟩
end
/-! ### truth of one of two classes of evidence -/
end Sl
namespace L2
open PySem PySem.Spec PyProof.Rows
section
variable {X : Cx} {k k2 j : Nat} {C D : Addr} {sp sp2 : Sp} {dvs dvs2 : List V} {a : Expr} {ta : TE}
def tTruO2 (C D : Addr) (sp sp2 : Sp) (dvs dvs2 : List V) (ta : TE) : TT := fun σ H Q => ta σ H fun x H1 => ∃ a dx fs, x = .ref a ∧ ((H1 a = some (.ins C dx fs) ∧ sp ([.ref a] ++ dvs) H1 (fun v H2 => ∃ b, v = .bl b ∧ Q b H2) C8.E0) ∨ (H1 a = some (.ins D dx fs) ∧ sp2 ([.ref a] ++ dvs2) H1 (fun v H2 => ∃ b, v = .bl b ∧ Q b H2) C8.E0))
theorem pt_own2 (c : C8.Met X.prog X.w X.K X.mg X.base k C "__bool__" sp dvs) (c2 : C8.Met X.prog X.w X.K X.mg X.base k2 D "__bool__" sp2 dvs2) (hr : Room j X.A) (hk : k ≤ j) (hk2 : k2 ≤ j) (ha : PE X a ta) (he : ∀ whole, isTrue a X.env whole = (do let v ← whole; standAt a.pos; holding [v] (truthy v)) := by intro _; rfl) : PT X a (tTruO2 C D sp sp2 dvs dvs2 ta) := by
  refine ⟨fun pins s σ H Q I h => isTrue_plain (thn (ha.run pins s σ H _ I h) fun v s1 z => ?_) (he _)⟩
  obtain ⟨x, H1, I1, rx, o, dx, fs, rfl, z⟩ := z
  obtain rfl : v = Value.ref o := rx
  obtain ⟨m, F0⟩ := I1.fr
  rcases z with ⟨e, q⟩ | ⟨e, q⟩
  · obtain ⟨f, fd, ps, ds, cl, hm, F, bd, d⟩ := c.ex
    obtain ⟨mA, O, _, _, _, _⟩ := ins_get I1.hok e
    obtain ⟨od, J, _⟩ := O.look
    refine PySem.W.truthy_K F0 I1.ok.mod.kin J hm.at_ hm.fn (wpAny_mono (run_fn (us := [.ref o]) (vs := [.ref o]) F (hr.mono hk) bd d C8.pass0 I1 (.cons rfl .nil) q) (fun v s2 y => ?_) fun _ _ y => y)
    obtain ⟨x2, H2, I2, rx2, b, rfl, q2⟩ := y
    obtain rfl : v = Value.bool b := rx2
    exact ⟨H2, I2, q2⟩
  · obtain ⟨f, fd, ps, ds, cl, hm, F, bd, d⟩ := c2.ex
    obtain ⟨mA, O, _, _, _, _⟩ := ins_get I1.hok e
    obtain ⟨od, J, _⟩ := O.look
    refine PySem.W.truthy_K F0 I1.ok.mod.kin J hm.at_ hm.fn (wpAny_mono (run_fn (us := [.ref o]) (vs := [.ref o]) F (hr.mono hk2) bd d C8.pass0 I1 (.cons rfl .nil) q) (fun v s2 y => ?_) fun _ _ y => y)
    obtain ⟨x2, H2, I2, rx2, b, rfl, q2⟩ := y
    obtain rfl : v = Value.bool b := rx2
    exact ⟨H2, I2, q2⟩
end
end L2
namespace Sl
open PySem L2 C8 StX
section
variable {σ : L2.St} {H : Hp} {QB : Bool → Hp → Prop} {C D : Addr} {sp sp2 : Sp} {dvs dvs2 : List V} {ta : TE}
def rTruO2 (C D : Addr) (sp sp2 : Sp) (dvs dvs2 : List V) (x : V) (H1 : Hp) (Q : Bool → Hp → Prop) : Prop := ∃ a dx fs, x = .ref a ∧ ((H1 a = some (.ins C dx fs) ∧ sp ([.ref a] ++ dvs) H1 (fun v H2 => ∃ b, v = .bl b ∧ Q b H2) C8.E0) ∨ (H1 a = some (.ins D dx fs) ∧ sp2 ([.ref a] ++ dvs2) H1 (fun v H2 => ∃ b, v = .bl b ∧ Q b H2) C8.E0))
theorem rd_truO20 (h : ta σ H fun x H1 => rTruO2 C D sp sp2 dvs dvs2 x H1 QB) : tTruO2 C D sp sp2 dvs dvs2 ta σ H QB := h
theorem rd_truO2a {a dx : Addr} {fs : List (Str × V)} (e : H a = some (.ins C dx fs)) (h : sp ([.ref a] ++ dvs) H (fun v H2 => ∃ b, v = .bl b ∧ QB b H2) C8.E0) : rTruO2 C D sp sp2 dvs dvs2 (.ref a) H QB := ⟨a, dx, fs, rfl, .inl ⟨e, h⟩⟩
theorem rd_truO2b {a dx : Addr} {fs : List (Str × V)} (e : H a = some (.ins D dx fs)) (h : sp2 ([.ref a] ++ dvs2) H (fun v H2 => ∃ b, v = .bl b ∧ QB b H2) C8.E0) : rTruO2 C D sp sp2 dvs dvs2 (.ref a) H QB := ⟨a, dx, fs, rfl, .inr ⟨e, h⟩⟩
end
end Sl
/-! ### walks over the keys of a dict as a statement; a list turned round -/
namespace Sl
open PySem L2 C8 StX
section
variable {σ : L2.St} {H : Hp} {g : TG} {tb : TS} {te : TE} {nx bk ct : L2.St → Hp → Prop} {rt : VK} {K : PySem.W.Frag} {Q : VK} {D : Ends} {t : TS}
theorem forR_keys {d : Addr} {o : Obj} {kvs : List (Key × V)} (Pv : Nat → L2.St → Hp → Prop) (hl : ∀ i σ H, Pv i σ H → H d = some (.frz o (.dK kvs))) (h0 : Pv 0 σ H) (hs : ∀ i k z σ H, kvs[i]? = some (k, z) → Pv i σ H → g (kV k) σ H fun σ2 H2 => tb ⟨Pv (i + 1), rt, nx, Pv (i + 1)⟩ σ2 H2) (hd : ∀ σ H, Pv kvs.length σ H → nx σ H) :
    ForR (Itk d o kvs) g tb ⟨nx, rt, bk, ct⟩ σ H := forR_gen _ kvs.length Pv h0 (fun i σ H hi p => ⟨hl i σ H p, hi⟩) (fun σ H p => ⟨hl _ σ H p, Nat.le_refl _⟩)
      (fun i σ H x H' hi p ⟨e1, k, v, e2, e3⟩ => by subst e1; subst e3; exact hs i k v σ _ e2 p) hd
theorem rd_lockS {d : Addr} {u : HO} (e : H d = some u) (m : Mut (some u)) (h : ∀ od HL, HL = upd H d (.frz od u) → HL d = some (.frz od u) → t ⟨fun σ' H' => H' d = some (.frz od u) ∧ nx σ' (upd H' d u), fun v H' => H' d = some (.frz od u) ∧ rt v (upd H' d u), fun σ' H' => H' d = some (.frz od u) ∧ bk σ' (upd H' d u), fun σ' H' => H' d = some (.frz od u) ∧ ct σ' (upd H' d u)⟩ σ HL) : tLock t ⟨nx, rt, bk, ct⟩ σ H :=
  ⟨d, u, e, m, fun od => h od _ rfl upd_same⟩
def rRevL (K : PySem.W.Frag) (x : V) (H : Hp) (Q : VK) : Prop := ∃ a xs, x = .ref a ∧ SqL K H a xs ∧ ∀ p, H p = none → Q (.ref p) (upd H p (.lst xs.reverse))
theorem rd_revL0 (h : te σ H fun x H1 => rRevL K x H1 Q) : tRevL K te σ H Q := h
theorem rd_revL {a : Addr} {xs : List V} (e : SqL K H a xs) (h : ∀ p H', H p = none → Same H H' → H' p = some (.lst xs.reverse) → Q (.ref p) H') : rRevL K (.ref a) H Q :=
  ⟨a, xs, rfl, e, fun p hp => h p _ hp (Same.new (Same.refl H) hp) upd_same⟩
end
end Sl
set_option Elab.async false
set_option linter.all false
set_option maxRecDepth 100000
set_option maxHeartbeats 4000000
set_option exponentiation.threshold 9000
namespace LamK
open PySem PySem.Spec PyProof.Rows L2 NdefX LamX
/-- a lambda: its words, the cells that it captured, its code object -/
structure LF where
  qual : Str
  params : Arguments
  body : Expr
  scope : Scope
  cl : List (Str × Addr)
  c : Addr
abbrev LF.obj (F : LF) (pm ctv : Value) : Obj := PySem.W.kla_obj "<lambda>" F.qual F.params F.body F.scope F.cl pm F.c ctv
/-- the object at f is the lambda F -/
def FnL (f : Addr) (F : LF) : HO := .ext fun h => ∃ (sl : Array (Option Value)) (pm ctv : Value), h.get? f = some ({ F.obj pm ctv with slots := sl } : Obj)
theorem fnL_ne {f : Addr} {F : LF} (ps : Array Value) : FnL f F ≠ .tbl ps := fun z => by
  unfold FnL at z
  cases z
theorem fnL_at {P : Program} {w : World} {H : Hp} {h : Heap} {f : Addr} {F : LF} (hok : HOk P w H h) (e : H f = some (FnL f F)) : ∃ (sl : Array (Option Value)) (pm ctv : Value), h.get? f = some ({ F.obj pm ctv with slots := sl } : Obj) := by
  obtain ⟨z, _, _⟩ := hok f _ e
  exact z
section
variable {X : Cx} {pins : List (Addr × Obj)} {σ : L2.St} {H : Hp} {s : Shared}
theorem inv_fnL {F : LF} {o : Obj} {t' : Nat} {pm ctv : Value} (I : Inv X pins σ H s) (ho : o = F.obj pm ctv) :
    Inv X pins σ (upd H s.heap.objs.size (FnL s.heap.objs.size F)) { s with heap := s.heap.push o, toks := t' } := by
  subst ho
  refine I.laid (a := s.heap.objs.size) (fun b u e => Heap.get?_push_of_some _ e) (Nat.le_refl _) ?_
  have e : (s.heap.push (F.obj pm ctv)).get? s.heap.objs.size = some (F.obj pm ctv) := Heap.get?_push_size _ rfl
  exact ⟨⟨_, pm, ctv, e⟩, ⟨_, e⟩, fun h1 h2 ⟨sl, p, t, z⟩ st => ⟨sl, p, t, st _ z⟩⟩
/-- the lambda's object is made: its code object is new, or found in the table -/
theorem lamL_make {T : List (Addr × Str)} {c P : Addr} {params : Arguments} {body : Expr} {scope : Scope} {pos : Pos} {E : Value → Shared → Prop} {Q : Value → Shared → Prop} (I : Inv X pins σ H s) (TB : TabB X.base X.mg c P) (hcode : X.env.code = .ref c)
    (hm : (P, X.env.qual ++ "<lambda>") ∈ T) (hu : ∀ p ∈ T, p.1 = P → p.2 = X.env.qual ++ "<lambda>") (hT : Tabs T H) (hdef : defaultsOf params X.env = ([], [])) (hfree : ∀ y ∈ scope.names, y.2 = .free → ∃ c, X.env.cells.lookup y.1 = some c)
    (h : ∀ (f c' : Addr) (H1 : Hp) (s' : Shared), Inv X pins σ H1 s' → ExtN H H1 → (∀ b, H1 b = Option.none → H b = Option.none) → Tabs T H1 → H f = none → H1 f = some (FnL f ⟨X.env.qual ++ "<lambda>", params, body, scope, cloFrom X.env.cells scope.names [], c'⟩) → H1 c' = some (CodeO c' (X.env.qual ++ "<lambda>")) → Q (.ref f) s') :
    wpAny (model X.prog X.w) X.A (eval (.Lambda params body scope pos) X.env) Q E s := by
  obtain ⟨ps, hP, ht, ha⟩ := hT _ hm
  refine PySem.W.kla_eval hdef ?_
  have bP : s.heap.BuiltinsAt X.mg P := TB.bm.keeps I.bk
  have hP' : s.heap.get? P = some { cls := .none, data := .fields ps } := I.hok P _ hP
  cases hc : codeAmong pos ps.toList with
  | none =>
    refine PySem.W.kla_makeFunction (mg := X.mg) (c := c) (P := P) (ps := ps) (closure_ok hfree) I.ok.glob (I.mod.glob.keeps I.bk) hcode (TB.code.keeps I.bk) hP' ht hc TB.gP bP fun c' ctv h' tk hx hge hlt hrec htb => ?_
    obtain ⟨c2, oc, vs, t, e2, hoc, hd, hv⟩ := hrec
    cases e2
    have nC : H c' = none := I.hok.fresh hge
    have I1 := inv_table (t' := tk) (more := #[rawInt pos.line, rawInt pos.col, .ref c']) (h' := h') I hP (fun b o hb e => hx b o hb e) htb hge ⟨oc, vs, t, hoc, hd, hv⟩
    have hE : ExtN H (upd (upd H P (.tbl (ps ++ #[rawInt pos.line, rawInt pos.col, .ref c']))) c' (CodeO c' (X.env.qual ++ "<lambda>"))) := fun b o e n => by
      rw [upd_ne (ne_of_none e nC), upd_ne (fun z => n ps (Option.some.inj (e.symm.trans (by rw [z]; exact hP))))]
      exact e
    have eL : (ps ++ #[rawInt pos.line, rawInt pos.col, .ref c']).toList = ps.toList ++ [rawInt pos.line, rawInt pos.col, .ref c'] := by simp
    have T1 : Tabs T (upd (upd H P (.tbl (ps ++ #[rawInt pos.line, rawInt pos.col, .ref c']))) c' (CodeO c' (X.env.qual ++ "<lambda>"))) := fun p hp => by
      by_cases hb : p.1 = P
      · rw [hu p hp hb, hb]
        refine ⟨_, by rw [upd_ne (ne_of_none hP nC), upd_same], by rw [eL]; exact PySem.TriplesOk_snoc _ _ _ _ ht, fun p' cv hcv => ?_⟩
        rw [eL] at hcv
        rcases among_app _ ht hcv with z | z
        · obtain ⟨c0, e1, e2⟩ := ha p' cv z
          exact ⟨c0, e1, hE _ _ e2 codeO_ne⟩
        · exact ⟨c', z, upd_same⟩
      · obtain ⟨ps', a1, a2, a3⟩ := hT p hp
        refine ⟨ps', by rw [upd_ne (ne_of_none a1 nC), upd_ne hb]; exact a1, a2, fun p' cv hcv => ?_⟩
        obtain ⟨c0, e1, e2⟩ := a3 p' cv hcv
        exact ⟨c0, e1, hE _ _ e2 codeO_ne⟩
    have nF := I1.hok.fresh (Nat.le_refl _)
    have I2 := inv_fnL (F := ⟨X.env.qual ++ "<lambda>", params, body, scope, cloFrom X.env.cells scope.names [], c'⟩) (t' := tk) (pm := (X.mg "__name__").getD .none) (ctv := ctv) I1 rfl
    refine h h'.objs.size c' _ _ I2 (fun b o e n => ?_) (fun b e => upd_none (upd_none (upd_none e))) (T1.ext fun b o e => ?_) (I.hok.fresh (Nat.le_trans hge (Nat.le_of_lt hlt))) upd_same ?_
    · have e1 := hE b o e n
      exact (upd_ne (ne_of_none e1 nF)).trans e1
    · exact (upd_ne (ne_of_none e nF)).trans e
    · exact (upd_ne (Nat.ne_of_lt hlt)).trans upd_same
  | some cv =>
    obtain ⟨c', e, hco⟩ := ha pos cv hc
    subst e
    refine PySem.W.kla_makeFunctionHit (mg := X.mg) (c := c) (P := P) (ps := ps) (closure_ok hfree) I.ok.glob (I.mod.glob.keeps I.bk) hcode (TB.code.keeps I.bk) hP' ht hc bP fun ctv h' tk hx hsz => ?_
    have I1 : Inv X pins σ H { s with heap := h', toks := tk } := I.kept hx
    have nF : H h'.objs.size = none := I1.hok.fresh (Nat.le_refl _)
    have I2 := inv_fnL (F := ⟨X.env.qual ++ "<lambda>", params, body, scope, cloFrom X.env.cells scope.names [], c'⟩) (t' := tk) (pm := (X.mg "__name__").getD .none) (ctv := ctv) I1 rfl
    refine h h'.objs.size c' _ _ I2 (fun b o e n => ?_) (fun b e => upd_none e) (hT.ext fun b o e => ?_) nF upd_same ?_
    · exact (upd_ne (ne_of_none e nF)).trans e
    · exact (upd_ne (ne_of_none e nF)).trans e
    · exact (upd_ne (ne_of_none hco nF)).trans hco
end
/-- the reading of a lambda: a new function -/
def tLamV (T : List (Addr × Str)) (mk : Addr → LF) : TE := fun σ H Q => Tabs T H ∧ ∀ (f c' : Addr) (H1 : Hp), ExtN H H1 → (∀ b, H1 b = Option.none → H b = Option.none) → Tabs T H1 → H f = none → H1 f = some (FnL f (mk c')) → H1 c' = some (CodeO c' (mk c').qual) → Q (.ref f) H1
theorem pe_lamV {X : Cx} {T : List (Addr × Str)} {c P : Addr} {params : Arguments} {body : Expr} {scope : Scope} {pos : Pos} (TB : TabB X.base X.mg c P) (hcode : X.env.code = .ref c) (hm : (P, X.env.qual ++ "<lambda>") ∈ T) (hu : ∀ p ∈ T, p.1 = P → p.2 = X.env.qual ++ "<lambda>")
    (hdef : defaultsOf params X.env = ([], [])) (hfree : ∀ y ∈ scope.names, y.2 = .free → X.env.scope.names.lookup y.1 = some .cell ∨ X.env.scope.names.lookup y.1 = some .free) :
    PE X (.Lambda params body scope pos) (tLamV T fun c' => ⟨X.env.qual ++ "<lambda>", params, body, scope, cloFrom X.env.cells scope.names [], c'⟩) := by
  refine ⟨fun pins s σ H Q I h => ?_⟩
  obtain ⟨hT, h⟩ := h
  have hfr : ∀ y ∈ scope.names, y.2 = .free → ∃ c, X.env.cells.lookup y.1 = some c := fun y hy e => (hfree y hy e).elim (fun z => I.ok.has _ (.inl z)) fun z => I.ok.has _ (.inr z)
  exact lamL_make I TB hcode hm hu hT hdef hfr fun f c' H1 s' I1 eN nn T1 f0 f1 c1 => ⟨.ref f, H1, I1, rfl, h f c' H1 eN nn T1 f0 f1 c1⟩
/-! ### sorted(xs, key=lambda x: (x[0], x[1])), the items lists of three ints -/
/-- what must be seen of the lambda -/
structure KeyF (F : LF) (x : Str) : Prop where
  body : ∃ p1 p2 p3 p4 p5 j1 j2 j3 p6 p7, F.body = .Tuple [.Subscript (.Name x p1) (.Constant (.int 0) j1 p2) p3, .Subscript (.Name x p4) (.Constant (.int 1) j2 p5) p6] j3 p7
  kind : F.scope.kind = .function
  co : F.scope.isCoroutine = false
  gen : F.scope.isGenerator = false
  loc : F.scope.names.lookup x = some .local
  nocell : ∀ y ∈ F.scope.names, y.2 ≠ .cell
  bind : ∀ (pm ctv u : Value), bindArgs (PySem.W.kla_fn "<lambda>" F.qual F.params F.body F.scope F.cl pm (.ref F.c) ctv) ⟨[u], []⟩ = pure [(x, u)]
  dbg : (x == ("__debug__" : Str)) = false
section
variable {prog : Program} {w : World} {A : Around} {s : Shared}
theorem key_call {F : LF} {x : Str} {f r : Addr} {sl : Array (Option Value)} {pm ctv : Value} {i j k : Int} {t1 t2 t3 : Tok} {n : Nat} {E : Value → Shared → Prop} (KF : KeyF F x) (hroom : A.depth < recursionLimit) (lim : s.heap.NoLimit)
    (ho : s.heap.get? f = some ({ F.obj pm ctv with slots := sl } : Obj)) (hcd : s.heap.CodeRec (.ref F.c) F.qual)
    (hr : s.heap.get? r = some { cls := .type "list", data := .seq #[.int i t1, .int j t2, .int k t3] n }) :
    wpAny (model prog w) A (call (.ref f) [.ref r]) (PySem.W.KeyPure (.tuple [.int i, .int j]) s) E s := by
  refine wpAny_call ?_
  refine PySem.W.kla_callFunE hroom ho rfl KF.co KF.gen rfl hcd ?_
  rw [KF.bind pm ctv (.ref r)]
  refine wpAny_pure (wpAny_newFunctionEnv KF.nocell (fun y hy => by rw [List.mem_singleton.mp hy]; exact KF.loc) (fun h₁ hns hsb => ⟨lim.fresh _ hsb, ?_⟩) KF.kind)
  have kp : ∀ b o, s.heap.get? b = some o → h₁.get? b = some o := fun b o e => hsb.extBut b o (Nat.ne_of_lt (Heap.lt_size e)) (Heap.get?_push_of_some _ e)
  have hr1 := kp _ _ hr
  refine PySem.W.kla_codeExpr ?_
  obtain ⟨p1, p2, p3, p4, p5, j1, j2, j3, p6, p7, eb⟩ := KF.body
  have eb : F.body = _ := eb
  show wpAny _ _ (eval F.body _) _ _ _
  rw [eb]
  refine wpAny_Tuple_spliced ?_
  have name : ∀ {A' : Around} {E' : Value → Shared → Prop} {Q' : Value → Shared → Prop} {tk : Nat} {pp : Pos}, Q' (.ref r) { s with heap := h₁, toks := tk } →
      wpAny (model prog w) A' (eval (.Name x pp) (PySem.W.envX F.qual F.scope s.heap.objs.size f (.ref F.c) F.cl)) Q' E' { s with heap := h₁, toks := tk } := fun hq =>
    wpAny_Name (wpAny_loadName_local KF.kind KF.loc hns (by simp) hq) KF.dbg
  have item : ∀ {A' : Around} {E' : Value → Shared → Prop} {Q' : Value → Shared → Prop} {tk : Nat} {pp pq pr : Pos} {jj : Nat} {m : Int} {v : Value}, 0 ≤ m → m < 2 ^ 63 → (#[.int i t1, .int j t2, .int k t3] : Array Value)[m.toNat]? = some v →
      (∀ tk', Q' v { s with heap := h₁, toks := tk' }) → wpAny (model prog w) A' (eval (.Subscript (.Name x pp) (.Constant (.int m) jj pq) pr) (PySem.W.envX F.qual F.scope s.heap.objs.size f (.ref F.c) F.cl)) Q' E' { s with heap := h₁, toks := tk } := fun h0 h1 hx hq =>
    Subscript_ (name (wpAny_Constant_int (item_listR (items := #[.int i t1, .int j t2, .int k t3]) ⟨_, hr1, rfl, n, rfl⟩ h0 h1 hx (hq _))))
  refine Calls.spliced_cons (item (by decide) (by decide) rfl fun tk1 => ?_)
  refine Calls.spliced_cons (item (by decide) (by decide) rfl fun tk2 => ?_)
  refine Calls.spliced_nil ⟨by show 2 ≤ sizeLine; decide, ?_⟩
  refine ⟨_, _, rfl, fun b o e => Heap.get?_push_of_some _ (kp b o e), ?_⟩
  refine .tuple (Heap.get?_push_size _ rfl) rfl rfl ?_
  exact .cons (.int _ _) (.cons (.int _ _) .nil)
end
/-- the order of the keys -/
abbrev leK (x y : Int × Int × Int) : Prop := x.1 < y.1 ∨ (x.1 = y.1 ∧ x.2.1 ≤ y.2.1)
def rSortL : List V → List V → Hp → VK → Prop := fun vs zs H Q => ∃ (a f : Addr) (F : LF) (x : Str) (rs : List Addr) (G : Addr → Int × Int × Int), vs = [.ref a] ∧ zs = [.ref f] ∧ KeyF F x ∧ H f = some (FnL f F) ∧ H F.c = some (CodeO F.c F.qual) ∧
  H a = some (.lst (rs.map V.ref)) ∧ (∀ r ∈ rs, H r = some (.lst [.int (G r).1, .int (G r).2.1, .int (G r).2.2])) ∧ rs.length ≤ 100000 ∧
  ∀ (p : Addr) (rs' : List Addr), rs'.Perm rs → rs'.Pairwise (fun x y => leK (G x) (G y)) → H p = none → Q (.ref p) (upd H p (.lst (rs'.map V.ref)))
theorem vals_refsB : ∀ {rs : List Addr} {us : List Value}, Vals (rs.map V.ref) us → us = rs.map Value.ref
  | [], _, .nil => rfl
  | _ :: rs, _, .cons h t => by
    have h : _ = Value.ref _ := h
    rw [h, vals_refsB t]
    rfl
theorem vals_refsF : ∀ bs : List Addr, Vals (bs.map V.ref) (bs.map Value.ref)
  | [] => .nil
  | _ :: r => .cons rfl (vals_refsF r)
theorem each_refs (rs : List Addr) : PySem.W.EachIs (fun (v : Value) (r : Addr) => v = .ref r) (rs.map Value.ref) rs := by
  induction rs with
  | nil => exact .nil
  | cons r rs ih => exact .cons rfl ih
theorem each_refs_eq : ∀ {vs : List Value} {rs : List Addr}, PySem.W.EachIs (fun (v : Value) (r : Addr) => v = .ref r) vs rs → vs = rs.map Value.ref
  | _, _, .nil => rfl
  | _, _, .cons h t => by rw [h, each_refs_eq t]; rfl
theorem cr_sortL {X : Cx} {k : Nat} (hr : Room (k + 1) X.A) : CallRK X (.builtin "sorted") [Str.ofString "key"] rSortL := by
  intro pins s σ H vs zs us ws Q I r rz h
  obtain ⟨a, f, F, x, rs, G, rfl, rfl, KF, hf, hc, ha, hrs, hlen, q⟩ := h
  obtain rfl := Vals.ref1 r
  obtain rfl := Vals.ref1 rz
  obtain ⟨hz, its, n, rv, hob⟩ := I.hok a _ ha
  have eits := vals_refsB rv
  subst eits
  obtain ⟨sl, pm, ctv, hfo⟩ := fnL_at I.hok hf
  have hcr := codeO_at I.hok hc
  have lim := I.nolimit
  have un := hr.units0
  have hl : s.heap.IsList a (rs.map Value.ref).toArray := ⟨_, hob, rfl, n, rfl⟩
  refine PySem.W.sorted_key_data (b := false) (β := Addr) (R := fun (v : Value) (r : Addr) => v = .ref r) (f := .ref f) (fun r => .tuple [.int (G r).1, .int (G r).2.1]) hl (each_refs rs) (PySem.W.AllAlike.of fun _ _ => by simp [PySem.W.alike, PySem.W.alikeAll]) (PySem.W.Sortable.tuples fun _ => ⟨_, _, rfl⟩)
    (by rw [sizeLine_eq]; omega) (fun r _ => ?_) (ksk_s1 _ _) (fun _ => ksk_l1 _ _) (fun _ => ksk_t1 _ _) (fun v r hv hm h tk kp => ?_) fun out c h' tk kp fr hD ho eo => ?_
  · have hd : (PyData.tuple [.int (G r).1, .int (G r).2.1]).depth = 1 := by simp [PyData.depth, PyData.depthAll]
    have := hr.units
    omega
  · subst hv
    obtain ⟨_, its2, n2, rv2, hr2⟩ := I.hok r _ (hrs r hm)
    cases rv2 with
    | cons h1 t1 =>
      cases t1 with
      | cons h2 t2 =>
        cases t2 with
        | cons h3 t3 =>
          cases t3
          obtain ⟨k1, rfl⟩ := h1
          obtain ⟨k2, rfl⟩ := h2
          obtain ⟨k3, rfl⟩ := h3
          obtain ⟨c2, oc, vs2, tq, g1, g2, g3, g4⟩ := hcr
          exact key_call (s := { s with heap := h, toks := tk }) KF hr.depth (lim.keeps kp) (kp _ _ hfo) ⟨c2, oc, vs2, tq, g1, kp _ _ g2, g3, g4⟩ (kp _ _ hr2)
  · rw [PySem.W.dataLe_ii (β := Addr) (fun r => (G r).1) (fun r => (G r).2.1)] at eo
    have e2 := each_refs_eq eo
    subst e2
    have hp : H (s.heap.objs.size + 1) = none := I.hok.fresh (Nat.le_succ _)
    generalize hrs' : rs.mergeSort (fun p q => decide ((G p).1 < (G q).1 ∨ (G p).1 = (G q).1 ∧ (G p).2.1 ≤ (G q).2.1)) = rs' at *
    have pm2 : rs'.Perm rs := by rw [← hrs']; exact List.mergeSort_perm _ _
    have pw : rs'.Pairwise (fun x y => leK (G x) (G y)) := by
      rw [← hrs']
      refine (List.pairwise_mergeSort (fun a b c h1 h2 => ?_) (fun a b => ?_) rs).imp fun h => of_decide_eq_true h
      · rw [decide_eq_true_iff] at h1 h2 ⊢
        omega
      · rw [Bool.or_eq_true, decide_eq_true_iff, decide_eq_true_iff]
        omega
    refine ⟨.ref (s.heap.objs.size + 1), upd H (s.heap.objs.size + 1) (.lst (rs'.map V.ref)), I.laid (t' := tk) (h' := h') kp (Nat.le_succ _) ⟨?_, rs'.map Value.ref, c, ?_, hD⟩, rfl, q _ rs' pm2 pw hp⟩
    · rw [List.length_map, pm2.length_eq, sizeLine_eq]
      omega
    · exact vals_refsF rs'
end LamK
set_option Elab.async false
set_option linter.all false
set_option maxRecDepth 100000
set_option maxHeartbeats 4000000
set_option exponentiation.threshold 9000
namespace BoolX
open PySem
open PySem.Sem (wp)
theorem bool_new_own {prog : Program} {w : World} (v : Value) : MeetsIn prog w (Builtin.«bool.__new__» ⟨[.type "bool", v], []⟩) (fun A R s => ∀ tk, wpAny (model prog w) A.in1 (truthy v) (fun b s1 => R (.ok (.ret (.bool b))) s1) (fun e s' => R (.error e) s') { s with toks := tk }) :=
  MeetsIn.of_wp fun A R s hs => by
    obtain ⟨hp, g, d, tk, os⟩ := s
    have f1 := F.conv_sub_bool
    repeat (any_goals (first | assumption | (with_reducible refine wpAny_bind (wpAny_mono (hs _) (fun b s1 hb => ?_) fun _ _ e => e)) | wp_step))
    all_goals first | exact ⟨_, rfl, hb⟩ | skip
end BoolX
namespace L2
open PySem PySem.Spec PyProof.Rows LamX
section
variable {X : Cx} {CX : CXT} {k j : Nat} {f C : Addr} {fd : FuncData} {ps : List Str} {sp : Sp} {dvs : List V} {ds : List Value} {E : XK}
theorem run_fn2 {pins : List (Addr × Obj)} {σ : St} {H : Hp} {s : Shared} {Q : VK} {us : List Value} {vs : List V} (F : FnOk X.prog X.w X.K X.mg X.base CX k f fd ps sp) (hr : Room (k + 2) X.A) (hb : Binds X.K fd ps ds) (hd : Vals dvs ds) (hx : Passes CX X E)
    (I : Inv X pins σ H s) (r : Vals vs us) (h : sp (vs ++ dvs) H Q E) : wpAny (model X.prog X.w) X.A.in1.in1 (call (.ref f) us) (EP X pins σ Q) X.xe s := by
  have r2 : Vals (vs ++ dvs) (us ++ ds) := r.append hd
  have hl : (us ++ ds).length = ps.length := by rw [← r2.length]; exact F.len _ _ _ _ h
  refine wpAny_call (codeAny_mono (F.run X.A.in1.in1 X.stack s H ⟨us, []⟩ (us ++ ds) (vs ++ dvs) Q E hr.in1.in1 I.env0.in1.in1 (hb s us I.kIn hl) r2 h) fun r s' hq => ?_)
  cases r with
  | error e => exact hx pins σ H s e s' I hq
  | ok fl =>
    cases fl with
    | ret u => exact I.after hq
    | next => exact False.elim hq
    | brk => exact False.elim hq
    | cont => exact False.elim hq
/-- bool(o), o of an own class with its own __bool__ -/
def rBoolO (C : Addr) (sp : Sp) (dvs : List V) : List V → Hp → VK → Prop := fun vs H Q => ∃ o dx fs, vs = [.ref o] ∧ H o = some (.ins C dx fs) ∧ sp ([.ref o] ++ dvs) H (fun v H' => ∃ b, v = .bl b ∧ Q (.bl b) H') C8.E0
theorem cr_boolO (c : C8.Met X.prog X.w X.K X.mg X.base k C "__bool__" sp dvs) (hr : Room j X.A) (hk : k + 2 ≤ j) : CallR X (.type "bool") (rBoolO C sp dvs) := by
  obtain ⟨f, fd, ps, ds, cl, hm, Fo, bd, d⟩ := c.ex
  intro pins s σ H vs us Q I r h
  obtain ⟨o, dx, fs, rfl, e, q⟩ := h
  obtain rfl := Vals.ref1 r
  obtain ⟨mA, O, _, _, _, _⟩ := ins_get I.hok e
  obtain ⟨od, J, _⟩ := O.look
  refine callType_newIn F.called_bool F.newNe_bool (F.typeCall_bool_1 _) (F.newCall_bool_1 _) (fun obj => F.args_object_init_2 obj _) F.entry_bool_new (BoolX.bool_new_own (.ref o)) fun tk => ?_
  have I1 : Inv X pins σ H { s with toks := tk } := I.tok _
  obtain ⟨m, F0⟩ := I1.fr
  refine PySem.W.truthy_K F0 I1.ok.mod.kin J hm.at_ hm.fn (wpAny_mono (run_fn2 (us := [.ref o]) (vs := [.ref o]) Fo (hr.mono hk) bd d C8.pass0 I1 (.cons rfl .nil) q) (fun v s2 y => ?_) fun _ _ y => y)
  obtain ⟨x2, H2, I2, rx2, b, rfl, q2⟩ := y
  obtain rfl : v = Value.bool b := rx2
  exact ⟨by first | rfl | trivial | (unfold Shared.TypeIs; rfl) | simp [Shared.TypeIs], ⟨.bl b, H2, I2, rfl, q2⟩⟩
/-- xs[i] of a list, for xs[i] op= e -/
def rGetL : V → V → Hp → VK → Prop := fun x y H Q => ∃ (p : Addr) (xs : List V) (i : Nat) (v : V), x = .ref p ∧ y = .int (i : Int) ∧ H p = some (.lst xs) ∧ i < 1000000 ∧ xs[i]? = some v ∧ Q v H
theorem get_listL : PGet X rGetL := by
  intro pins s σ H x y v u Q I rx ry h
  obtain ⟨p, xs, i, z, rfl, rfl, hp, hi, he, q⟩ := h
  cases rx
  obtain ⟨t, rfl⟩ := ry
  obtain ⟨its, n, r, ho, hz⟩ := I.lst hp
  obtain ⟨w, ew, rw'⟩ := r.get he
  exact wpAny_getItem_list (items := its.toArray) (x := w) ⟨_, ho, rfl, n, rfl⟩ (by omega) (by omega) (by simpa using ew) ⟨z, H, I, rw', q⟩
/-- one of two readings -/
theorem pe_alt {e : Expr} {t u : TE} (h1 : PE X e t) (h2 : PE X e u) : PE X e (fun σ H Q => t σ H Q ∨ u σ H Q) := ⟨fun pins s σ H Q I h => h.elim (h1.run pins s σ H Q I) (h2.run pins s σ H Q I)⟩
theorem cr_alt {f : Value} {r q : List V → Hp → VK → Prop} (h1 : CallR X f r) (h2 : CallR X f q) : CallR X f (fun vs H Q => r vs H Q ∨ q vs H Q) := fun pins s σ H vs us Q I rv h => h.elim (h1 pins s σ H vs us Q I rv) (h2 pins s σ H vs us Q I rv)
end
/-- a lambda's name -/
abbrev qL (x : Str) : Str := x ++ ".<locals>." ++ "<lambda>"
section
variable {P : Program} {w : World} {K : PySem.W.Frag} {mg : Str → Option Value} {base : Heap}
open C8
/-- a def that makes lambdas: its code object is known -/
theorem fnL0 {x qual : Str} {st : Stmt} {f c : Addr} {fd : FuncData} {N ps : List Str} {k : Nat} {sp : Sp} (F : C8.Fun K x qual st f fd) (hc : fd.code = .ref c) (S : FnScope N ps (C8.fnScope st)) (len : ∀ vs H Q E, sp vs H Q E → vs.length = ps.length)
    (hbody : ∀ (A : Around) (outer : List Env) (s : Shared) (H : Hp) (vs : List V) (Q : VK) (E : XK), Room k (A.deeper (envOfC qual (C8.fnScope st) s.heap.objs.size f (.ref c))) → sp vs H Q E →
      ∃ t, PSs (cxOf CX0 P w K mg base N qual (C8.fnScope st) f (.ref c) A outer s H E).nox (C8.fnBody st) t ∧ t { nx := fun _ H' => Q .non H', rt := Q } (start N vs) H) : FnOk P w K mg base CX0 (k + 1) f fd ps sp := by
  obtain ⟨oc, od, dV, kV, doc, pm, an, cdv, ct, osl, rfl, lk, hcd⟩ := F.ex
  have e : cdv = .ref c := hc
  subst e
  refine fn_of lk hcd S len fun A outer s H vs Q E hr hsp => ?_
  obtain ⟨t, h, q⟩ := hbody A outer s H vs Q E hr hsp
  exact ⟨t, h.nox, q⟩
theorem calL0 {x : Str} {st : Stmt} {f c : Addr} {fd : FuncData} {N ps : List Str} {ds : List Value} {dvs : List V} {k : Nat} {sp : Sp} (F : C8.Def K mg x st f fd) (hc : fd.code = .ref c) (b : Binds K fd ps ds) (d : Vals dvs ds) (S : FnScope N ps (C8.fnScope st)) (len : ∀ vs H Q E, sp vs H Q E → vs.length = ps.length)
    (hbody : ∀ (A : Around) (outer : List Env) (s : Shared) (H : Hp) (vs : List V) (Q : VK) (E : XK), Room k (A.deeper (envOfC x (C8.fnScope st) s.heap.objs.size f (.ref c))) → sp vs H Q E →
      ∃ t, PSs (cxOf CX0 P w K mg base N x (C8.fnScope st) f (.ref c) A outer s H E).nox (C8.fnBody st) t ∧ t { nx := fun _ H' => Q .non H', rt := Q } (start N vs) H) : Cal P w K mg base (k + 1) x sp dvs :=
  ⟨f, fd, ps, ds, fnL0 F.fn hc S len hbody, F.mgf, F.kp, b, d⟩
end
end L2
namespace Sl
open PySem L2 C8 LamX
/-- the facts of a def that makes lambdas -/
structure TabK (K : PySem.W.Frag) (x : Str) (Lc Lp : Addr) : Prop where
  tab : PySem.W.tabIn K x = some (Lc, Lp)
  nT : K.lookup Lp = none
theorem tabk {K : PySem.W.Frag} {x : Str} {Lc Lp : Addr} (h1 : PySem.W.tabIn K x = some (Lc, Lp)) (h2 : (K.lookup Lp).isNone = true) : TabK K x Lc Lp := ⟨h1, Option.isNone_iff_eq_none.mp h2⟩
theorem tab_get {o : Option (Addr × Addr)} (h : o.isSome = true) : o = some ((o.get h).1, (o.get h).2) := (Option.some_get h).symm
theorem tcmk {K : PySem.W.Frag} {h : Heap} {mg : Str → Option Value} {x : Str} {st : Stmt} {Lc Lp : Addr} (X : K.In h) (G : h.Ns mainGlobals mg) (t : TabK K x Lc Lp) : ∀ f fd, C8.Def K mg x st f fd → fd.code = .ref Lc := fun f fd D => by
  obtain ⟨oc, od, dV, kV, doc, pm, an, cdv, ct, osl, e, lk, hcd⟩ := D.fn.ex
  exact PySem.W.law_code X G t.tab D.mgf (X _ _ lk) rfl
end Sl
namespace LamX
open PySem PySem.Spec PyProof.Rows L2
/-- walk_ofTs, the top's facts handed on -/
theorem walk_ofTT {l : PySem.W.OpenLaw} {n k : Nat} {q : Program} {loose : List Str} {XP : (Str → Option Value) → Heap → Prop} {YP : World → Heap → Prop} {d : DefRec} {K : Params → PySem.W.Frag} {CX : World → CXT} {x : Str}
    (hn : l.most = some n) (hn2 : n ≤ sizeLine) (hdf : d.params.defaults = []) (hr : Room k callerA) (hY : ∀ (w : World) (h : Heap), YP w h → (K w.params).In h)
    (F : ∀ (w : World) (mg : Str → Option Value) (fa : Addr) (h : Heap) (tb : ∀ (x : Str) (c P : Addr), ((recsOf q).find? (fun e => e.name == x)).isSome = true → PySem.W.tabIn (K w.params) x = some (c, P) → PySem.W.CodeHd h c P ∧ h.get? P = some (PySem.W.tabObj #[])), (K w.params).In h → h.Ns mainGlobals mg → mg d.name = some (.ref fa) → LawAtS l w (K w.params) (CX w) k n x mg fa h)
    (hCX : ∀ (w : World) (H : Hp) (s : Shared) (e : Value) (s' : Shared), CX w [] H s (fun _ _ _ => False) e s' → False) :
    PySem.W.WalkO q loose XP YP l.row.toRowW d [] (fun f vs => PySem.call f vs) := by
  refine Att.attach_callB hn hdf fun w s₀ s₁ mg mb fa o pm cd doc a vs ns G Y ho hd hcd hmg hobj hints hlen hbits hg => ?_
  have KX := hY w _ Y
  obtain ⟨fd, cs, sp, hT, nT, C, hb, hsp, hF⟩ := F w mg fa _ (fun x c P hs ht => by
    obtain ⟨d', hd'⟩ := Option.isSome_iff_exists.mp hs
    exact PySem.W.tab_of G.T KX hd' ht) KX G.T.g hmg
  exact law_callTs KX G.T.g G.T.b G.T.builtins G.T.nolimit hg hT nT C G.T.bmain hobj hints (Nat.le_trans hlen hn2) hr hF hb (fun H hH hS => hsp H a ns hlen hbits hH hS) fun H e s' => hCX w H s₁ e s'
end LamX
namespace Sl
open PySem L2 C8 StX LamX LamK
section
variable {σ : L2.St} {H H' : Hp} {Q : VK} {te ta tb : TE} {t tk : TA} {K : PySem.W.Frag} {QS : L2.St → Hp → Prop} {x y v : V}
theorem rd_cKw {r : List V → List V → Hp → VK → Prop} (h : t σ H fun vs H1 => tk σ H1 fun zs H2 => r vs zs H2 Q) : tCKw r t tk σ H Q := h
theorem rd_lamV {T : List (Addr × Str)} {mk : Addr → LF} (hT : Tabs T H) (h : ∀ (f c' : Addr) (H1 : Hp), ExtN H H1 → (∀ b, H1 b = Option.none → H b = Option.none) → Tabs T H1 → H f = none → H1 f = some (FnL f (mk c')) → H1 c' = some (CodeO c' (mk c').qual) → Q (.ref f) H1) : tLamV T mk σ H Q := ⟨hT, h⟩
theorem rd_gunl {n : Nat} {tg : TGs} {a : Addr} {xs : List V} (e : H a = some (.lst xs)) (l : xs.length = n) (h : tg xs σ H QS) : gUnl K n tg (.ref a) σ H QS := ⟨a, xs, rfl, SqL.of e, l, h⟩
theorem rd_getL {p : Addr} {xs : List V} {i : Nat} (e : H p = some (.lst xs)) (hi : i < 1000000) (n : xs[i]? = some v) (h : Q v H) : rGetL (.ref p) (.int (i : Int)) H Q := ⟨p, xs, i, v, rfl, rfl, e, hi, n, h⟩
theorem rd_setL {p : Addr} {xs : List V} {i : Int} {j : Nat} {QH : Hp → Prop} (e : H p = some (.lst xs)) (hj : ixN xs.length i = some j) (h : ∀ H', H' = upd H p (.lst (xs.set j v)) → H' p = some (.lst (xs.set j v)) → QH H') : rSetL (.ref p) (.int i) v H QH := ⟨p, xs, i, j, rfl, rfl, e, hj, h _ rfl upd_same⟩
theorem rd_boolO {C o dx : Addr} {fs : List (Str × V)} {sp : Sp} {dvs : List V} (e : H o = some (.ins C dx fs)) (h : sp ([.ref o] ++ dvs) H (fun v H' => ∃ b, v = .bl b ∧ Q (.bl b) H') C8.E0) : rBoolO C sp dvs [.ref o] H Q := ⟨o, dx, fs, rfl, e, h⟩
theorem rd_sortLK {a f : Addr} {F : LF} {x : Str} {rs : List Addr} {G : Addr → Int × Int × Int} (KF : KeyF F x) (hf : H f = some (FnL f F)) (hc : H F.c = some (CodeO F.c F.qual)) (ha : H a = some (.lst (rs.map V.ref))) (hr : ∀ r ∈ rs, H r = some (.lst [.int (G r).1, .int (G r).2.1, .int (G r).2.2])) (hl : rs.length ≤ 100000)
    (h : ∀ (p : Addr) (rs' : List Addr) H', rs'.Perm rs → rs'.Pairwise (fun x y => leK (G x) (G y)) → H p = none → Same H H' → H' p = some (.lst (rs'.map V.ref)) → Q (.ref p) H') : rSortL [.ref a] [.ref f] H Q :=
  ⟨a, f, F, x, rs, G, rfl, rfl, KF, hf, hc, ha, hr, hl, fun p rs' p1 p2 hp => h p rs' _ p1 p2 hp (Same.new (Same.refl H) hp) upd_same⟩
end
/-! ### heaps without their tables -/
def nT (H : Hp) : Hp := fun a => match H a with
  | some (.tbl _) => none
  | o => o
theorem nT_of {H : Hp} {a : Addr} {o : HO} (e : H a = some o) (n : ∀ ps, o ≠ .tbl ps) : nT H a = some o := by
  unfold nT
  rw [e]
  cases o <;> first | rfl | exact absurd rfl (n _)
theorem nT_in {H : Hp} {a : Addr} {o : HO} (e : nT H a = some o) : H a = some o ∧ ∀ ps, o ≠ .tbl ps := by
  unfold nT at e
  cases q : H a with
  | none => rw [q] at e; cases e
  | some u =>
    rw [q] at e
    cases u <;> first | (cases e; exact ⟨rfl, fun ps z => by cases z⟩) | cases e
theorem nT_none {H : Hp} {a : Addr} (e : H a = none) : nT H a = none := by
  unfold nT
  rw [e]
theorem extN_same {H H' : Hp} (e : ExtN H H') : Same (nT H) H' := fun a o h => e a o (nT_in h).1 (nT_in h).2
theorem same_extN {H H' : Hp} (s : Same (nT H) H') : ExtN H H' := fun a o h n => s a o (nT_of h n)
mutual
theorem Dt.nT {H : Hp} : ∀ {v : V} {d : PyData}, Dt H v d → Dt (nT H) v d
  | _, _, .non => .non
  | _, _, .bl b => .bl b
  | _, _, .int i => .int i
  | _, _, .str x => .str x
  | _, _, .lst e h => .lst (nT_of e (fun _ z => by cases z)) (DtAll.nT h)
  | _, _, .tup e h => .tup (nT_of e (fun _ z => by cases z)) (DtAll.nT h)
theorem DtAll.nT {H : Hp} : ∀ {vs : List V} {ds : List PyData}, DtAll H vs ds → DtAll (nT H) vs ds
  | _, _, .nil => .nil
  | _, _, .cons h t => .cons (Dt.nT h) (DtAll.nT t)
end
theorem SqL.nT {K : PySem.W.Frag} {H : Hp} {a : Addr} {xs : List V} (h : SqL K H a xs) : SqL K (nT H) a xs := by
  rcases h with h | h
  · left
    rcases h with h | ⟨o, h⟩
    · exact .inl (nT_of h (fun _ z => by cases z))
    · exact .inr ⟨o, nT_of h (fun _ z => by cases z)⟩
  · exact .inr h
end Sl
set_option Elab.async false
set_option linter.all false
set_option maxRecDepth 100000
set_option maxHeartbeats 2000000
namespace L2
open PySem PySem.Spec PyProof.Rows
/-! ### enumerate(t) of a tuple -/
abbrev enO (it : Addr) : Obj := { cls := .type "enumerate", data := .fields #[.none, .bool false, .ref it, rawInt 0, .none, .none] }
theorem enum_new1 {v : Value} {o ob : Obj} {a : Addr} {I : Heap → Prop} (B : Begins v o I) (hv : v = .ref a) (hc : ob.cls = .type "tuple") : Meets (Builtin.«enumerate.__new__» ⟨[.type "enumerate", v], []⟩) (fun _ R s => (s.heap.get? a = some ob ∧ I s.heap) ∧
    R (.ok (.ret (.ref (s.heap.push o).objs.size))) { s with heap := (s.heap.push o).push (enO s.heap.objs.size) }) :=
  .of_wp fun prog w A R s h => by
    obtain ⟨hp, g, d, tk, os⟩ := s
    obtain ⟨⟨hl, h1⟩, h2⟩ := h
    subst hv
    have hs := PySem.sub_enumerate
    have it0 : ∀ {A' : Around} {E Q : Value → Shared → Prop}, Q (.ref hp.objs.size) ⟨hp.push o, g, d, tk, os⟩ → wpAny (model prog w) A' (pyIter (.ref a)) Q E ⟨hp, g, d, tk, os⟩ := fun q => B.iter prog w _ _ ⟨hp, g, d, tk, os⟩ _ h1 q
    wp_walk using wpAny_loadPart' hl, it0
    refine (wpAny_stack_any fun st => (wpAny_pure ?_))
    split
    · rename_i c _ _ _ _ _
      cases (c == Value.type "enumerate") <;> (wp_walk using wpAny_loadPart' hl, it0; exact ⟨_, rfl, h2⟩)
    · wp_walk using wpAny_loadPart' hl, it0
      exact ⟨_, rfl, h2⟩
section
variable {prog : Program} {w : World} {A : Around} {E : Value → Shared → Prop} {s : Shared}
theorem call_enumT {a : Addr} {items : Array Value} {Q : Value → Shared → Prop} (ht : s.heap.IsTuple a items)
    (h : ∀ h', IsEnum h' (s.heap.objs.size + 1) s.heap.objs.size 0 .none → h'.IsTupleIter s.heap.objs.size a 0 → (∀ b o, s.heap.get? b = some o → h'.get? b = some o) → Q (.ref (s.heap.objs.size + 1)) { s with heap := h' }) :
    wpAny (model prog w) A (call (.type "enumerate") [.ref a]) Q E s := by
  obtain ⟨ob, ho, hc, hd⟩ := id ht
  have two : (s.heap.push { cls := .type "tuple_iterator", data := .fields #[.ref a, .int 0 0] }).objs.size = s.heap.objs.size + 1 := Heap.size_push ..
  have M := enum_new1 (begins_tuple a items) rfl hc
  refine callType_new PySem.F.called_enumerate (by decide) (PySem.F.typeCall_enumerate_1 _) (PySem.F.newCall_enumerate_1 _) (fun obj => PySem.F.args_object_init_2 obj _) PySem.F.entry_enumerate_new M ⟨⟨ho, ht⟩, ?_⟩
  show _ ∧ _
  rw [two]
  have he : IsEnum ((s.heap.push { cls := .type "tuple_iterator", data := .fields #[.ref a, .int 0 0] }).push (enO s.heap.objs.size)) (s.heap.objs.size + 1) s.heap.objs.size 0 .none := by
    have q := Heap.get?_push_size (s.heap.push { cls := .type "tuple_iterator", data := .fields #[.ref a, .int 0 0] }) (o := enO s.heap.objs.size) rfl
    rw [two] at q
    exact q
  exact ⟨⟨_, he, rfl⟩, h _ he ⟨_, Heap.get?_push_of_some _ (Heap.get?_push_size _ rfl), rfl, rfl⟩ fun b o x => Heap.get?_push_of_some _ (Heap.get?_push_of_some _ x)⟩
end
theorem next_enumT_end {prog : Program} {w : World} {A : Around} {E : Value → Shared → Prop} {s : Shared} {e it a : Addr} {i : Nat} {c : Int} {items : Array Value} {old : Value} {Q : Option Value → Shared → Prop} (hh : A.handled = none)
    (he : IsEnum s.heap e it c old) (hit : s.heap.IsTupleIter it a i) (ht : s.heap.IsTuple a items) (hi : items.size ≤ i)
    (hQ : ∀ h', Heap.ExtBut it s.heap h' → Q none { s with heap := h' }) : wpAny (model prog w) A (pyNext (.ref e)) Q E s := by
  have hT : s.TypeIs (.ref e) "enumerate" := ⟨_, he, rfl⟩
  unfold pyNext
  refine wpAny_bind (wpAny_attempt (wpAny_callSpecial?_slot (name := Str.ofString "__next__") hT F.slot_enumerate_next
    (wpAny_call_entry F.slot_enumerate_next hT F.entry_enumerate_next ?_ (F.args_enumerate_next_1 _))))
  show wpAny _ _ (field (.ref e) 2 >>= _) _ _ _
  refine wpAny_bind (wpAny_field he rfl (x := .ref it) rfl ?_)
  refine wpAny_bind (wpAny_nextOf_tuple_end (A := A.in1) hh hit ht (by simp [hi]) fun h' x he' hx' => ?_)
  obtain ⟨o, ho, hc⟩ := hx'
  refine wpAny_bind (wpAny_isInstance (T := "StopIteration") (b := true) ⟨o, ho, hc⟩ isSubtype_stop ?_)
  exact wpAny_pure (hQ _ he')
/-- the tuple at a as it stands at each turn, each item in a new pair -/
def IteT (K : PySem.W.Frag) (a : Addr) : It :=
  ⟨fun i H => ∃ (xs : List V) (x : V), SqT K H a xs ∧ xs[i]? = some x, fun i H v H' => ∃ T x, v = .ref T ∧ H T = none ∧ H' = upd H T (.tup [.int (i : Nat), x]) ∧ ∀ xs, SqT K H a xs → xs[i]? = some x, fun i H => ∃ xs : List V, SqT K H a xs ∧ xs.length ≤ i⟩
theorem apart_cls {h : Heap} {a b : Addr} {o u : Obj} (ha : h.get? a = some o) (hb : h.get? b = some u) (hn : o.cls ≠ u.cls) : a ≠ b := fun z => by
  rw [z, hb] at ha
  exact hn (by rw [Option.some.inj ha])
theorem turn_enumT {P : Program} {w : World} {K : PySem.W.Frag} {elts : List Expr} {kk : Nat} {tpos : Pos} (a e it : Addr) :
    Turn P w K (.Tuple elts kk tpos) (IteT K a) [e, it] e (fun i h => (∃ old, IsEnum h e it ((i : Nat) : Int) old) ∧ h.IsTupleIter it a i ∧ e ≠ it) where
  mem := by simp
  obj := fun i h st b hb => by
    obtain ⟨⟨old, he⟩, ⟨o, ho, hc, hd⟩, _⟩ := st
    rcases (show b = e ∨ b = it by simpa using hb) with rfl | rfl
    · exact ⟨_, he, fun v q => nomatch q⟩
    · exact ⟨o, ho, fun v q => by rw [hd] at q; cases q⟩
  keep := fun i h h' st k => let ⟨⟨old, he⟩, hi, hne⟩ := st; ⟨⟨old, k e (by simp) _ he⟩, hi.at fun o q => k it (by simp) o q, hne⟩
  item := by
    intro X hP hw hK hc i pins s σ H E I hf st hg
    subst hP hw hK
    obtain ⟨⟨old, he⟩, hit, hne⟩ := st
    obtain ⟨xs, x, hq, hx⟩ := hg
    obtain ⟨its, rv, p, hz⟩ := I.tuple hq
    obtain ⟨u, hu, ru⟩ := rv.get hx
    have hp : s.heap.IsTuple a its.toArray := p
    obtain ⟨op, gp, cp, _⟩ := id hp
    obtain ⟨oi, gi, ci, _⟩ := id hit
    have hai : a ≠ it := apart_cls gp gi (by rw [cp, ci]; decide)
    have hea : e ≠ a := apart_cls he gp (by rw [cp]; show Value.type "enumerate" ≠ Value.type "tuple"; decide)
    have hlt : i < its.toArray.size := by
      have := (List.getElem?_eq_some_iff.mp hu).1
      simpa using this
    have hel : e < s.heap.objs.size := Heap.lt_size he
    refine wpAny_pyNext_enum_itemD (Draws.tuple (A := X.A.in1) (I.ok.hd hc) it a hai its.toArray) he ⟨hit, hp⟩ hlt hne (by simp [hne, hea]) fun u2 h' tk hu2 ho st2 hT hsz hk => ?_
    have hu2' : u2 = u := by
      have q : its.toArray[i]? = some u := by simpa using hu
      rw [q] at hu2
      exact (Option.some.inj hu2).symm
    subst hu2'
    refine ⟨_, rfl, (wpAny_letOwnedTupleGo_enum (s := { s with heap := h', toks := tk + 1 }) ho fun h'' he' sb => ?_)⟩
    have hT2 : h''.get? s.heap.objs.size = some { cls := .type "tuple", data := .seq #[.int i tk, u2] } := (sb.2 _ (Nat.ne_of_gt hel)).trans hT
    have new : ObjOk X.prog X.w (upd H s.heap.objs.size (.tup [.int (i : Nat), x])) h'' s.heap.objs.size (.tup [.int (i : Nat), x]) :=
      ⟨(show 2 ≤ sizeLine by decide), [.int i tk, u2], .cons ⟨tk, rfl⟩ (.cons ru .nil), ⟨_, hT2, rfl, _, rfl⟩⟩
    have I1 : Inv X pins σ (upd H s.heap.objs.size (.tup [.int (i : Nat), x])) { s with heap := h'', toks := tk + 1 } :=
      I.turnedNew (ch := [e, it]) (fun b ob hb q => (sb.2 b fun z => hb (by simp [z])).trans (hk b ob (fun z => hb (by simp [z])) (fun z => hb (by simp [z])) q)) hf (Nat.le_refl _) new
    refine ⟨.ref s.heap.objs.size, _, I1, rfl, ⟨_, x, rfl, I.hok.fresh (Nat.le_refl _), rfl, fun ys hy => by rw [I.tuple_inj hy hq]; exact hx⟩, ⟨⟨u2, ?_⟩, st2.1.at fun o q => (sb.2 it hne.symm).trans q, hne⟩, fun b hb => ?_⟩
    · rw [show ((i + 1 : Nat) : Int) = (i : Int) + 1 by omega]
      exact he'
    · have hb' : b < s.heap.objs.size := by
        rcases (show b = e ∨ b = it by simpa using hb) with z | z
        · rw [z]; exact hel
        · rw [z]; exact Heap.lt_size gi
      rw [upd_ne (Nat.ne_of_lt hb')]
      exact (hf b hb).1
  done := by
    intro X hP hw hK hc i pins s σ H E I hf st hg
    subst hP hw hK
    obtain ⟨⟨old, he⟩, hit, hne⟩ := st
    obtain ⟨xs, hq, hx⟩ := hg
    obtain ⟨its, rv, p, hz⟩ := I.tuple hq
    obtain ⟨f0, f1, f2, f3, f4, f5⟩ := hf it (by simp)
    have hl := rv.length
    have hp : s.heap.IsTuple a its.toArray := p
    refine next_enumT_end (I.ok.hd hc) he hit hp (by simp; omega) fun h' eb => ⟨rfl, I.turned (t' := s.toks) (fun b o hb q => eb b o hb q) f0 f1 f3 f4 f5⟩
  self := fun A i s Q E st h => let ⟨⟨_, he⟩, _⟩ := st; wpAny_pyIter_enum he h
def iEnumT (K : PySem.W.Frag) (ta : TA) : TI := fun σ H R => ta σ H fun vs H1 => ∃ a xs, vs = [.ref a] ∧ SqT K H1 a xs ∧ R (IteT K a) H1
theorem pi_enumT {X : Cx} {e : Expr} {ta : TA} {p pos tpos : Pos} {elts : List Expr} {kk : Nat} (hg : Gl X "enumerate") (hm : X.mg "enumerate" = none) (ha : PA X [e] ta) (hs : starEach [e] X.env = [(false, eval e X.env)] := by rfl) :
    PI X (.Tuple elts kk tpos) (.Call (.Name "enumerate" p) [e] [] pos) (iEnumT X.K ta) := by
  refine ⟨fun pins s σ H R I h => ?_⟩
  refine Call_ (ld_blt I hg hm boot_enumerate (PyProof.Rows.callWith_type1 (thn (ha.run pos pins s σ H _ I h) fun us s1 ⟨vs, H1, I1, r1, q1⟩ => ?_) hs rfl))
  obtain ⟨a, xs, ex, hq, q⟩ := q1
  subst ex
  cases r1 with
  | cons r rr =>
    cases rr
    cases r
    obtain ⟨its, rv, p', hz⟩ := I1.tuple hq
    refine call_enumT (show s1.heap.IsTuple a its.toArray from p') fun h' he hit hk => wpAny_pyIter_enum he ?_
    have I2 : Inv X pins σ H1 { s1 with heap := h' } := I1.kept (t' := s1.toks) hk
    refine ⟨s1.heap.objs.size + 1, [s1.heap.objs.size + 1, s1.heap.objs.size], _, _, H1, rfl, I2, turn_enumT a (s1.heap.objs.size + 1) s1.heap.objs.size, ⟨⟨.none, he⟩, hit, Nat.succ_ne_self _⟩, fun b hb => ?_, q⟩
    have hle : s1.heap.objs.size ≤ b := by
      rcases (show b = s1.heap.objs.size + 1 ∨ b = s1.heap.objs.size by simpa using hb) with z | z
      · rw [z]; exact Nat.le_add_right _ _
      · rw [z]; exact Nat.le_refl _
    exact I1.fpOk hle (I1.hok.fresh hle)
end L2

namespace Sl
open PySem L2 C8 StX
section
variable {σ : L2.St} {H H1 : Hp} {g : TG} {tb : TS} {ta : TA} {te : TE} {tt : TT} {nx bk ct : L2.St → Hp → Prop} {rt : VK} {R : It → Hp → Prop} {K : PySem.W.Frag} {Q : VK} {vs : List Nat}
def enRT (K : PySem.W.Frag) (R : It → Hp → Prop) (vs : List V) (H : Hp) : Prop := ∃ a xs, vs = [.ref a] ∧ SqT K H a xs ∧ R (IteT K a) H
theorem rd_iEnumT (h : ta σ H fun vs H1 => enRT K R vs H1) : iEnumT K ta σ H R := h
theorem rd_enRT {a : Addr} {xs : List V} (e : SqT K H a xs) (h : R (IteT K a) H) : enRT K R [.ref a] H := ⟨a, xs, rfl, e, h⟩
theorem forR_enumT {a : Addr} {xs : List V} (Pv : Nat → L2.St → Hp → Prop) (hl : ∀ i σ H, Pv i σ H → SqT K H a xs) (h0 : Pv 0 σ H)
    (hs : ∀ (i : Nat) x σ H t H', xs[i]? = some x → Pv i σ H → H t = none → Same H H' → H' t = some (.tup [.int (i : Nat), x]) → H' = upd H t (.tup [.int (i : Nat), x]) → g (.ref t) σ H' fun σ2 H2 => tb ⟨Pv (i + 1), rt, nx, Pv (i + 1)⟩ σ2 H2) (hd : ∀ σ H, Pv xs.length σ H → nx σ H) :
    ForR (IteT K a) g tb ⟨nx, rt, bk, ct⟩ σ H := forR_gen _ xs.length Pv h0 (fun i σ H h p => ⟨xs, xs[i], hl i σ H p, by simp [h]⟩) (fun σ H p => ⟨xs, hl _ σ H p, Nat.le_refl _⟩)
      (fun i σ H x H' hi p ⟨t, y, e1, e2, e3, e4⟩ => by subst e1; subst e3; exact hs i y σ H t _ (e4 xs (hl i σ _ p)) p e2 (Same.new (Same.refl H) e2) upd_same rfl) hd
theorem lcR_enumT {a : Addr} {xs : List V} (Pv : Addr → Nat → Hp → Prop) (hl : ∀ D i H', H D = none → Pv D i H' → SqT K H' a xs) (h0 : ∀ D H', H D = none → Same H H' → H' D = some (.lst []) → H' = upd H D (.lst []) → Pv D 0 H')
    (hs : ∀ D (i : Nat) x H' t H2, H D = none → xs[i]? = some x → Pv D i H' → H' t = none → Same H' H2 → H2 t = some (.tup [.int (i : Nat), x]) → H2 = upd H' t (.tup [.int (i : Nat), x]) → g (.ref t) (wipe σ vs) H2 fun σ2 H2 => wipe σ2 vs = wipe σ vs ∧ tt σ2 H2 fun b H3 => if b = true then te σ2 H3 fun y H4 => LcE D (Pv D (i + 1)) y H4 else Pv D (i + 1) H3)
    (hd : ∀ D H', H D = none → Pv D xs.length H' → Q (.ref D) H') : LcR (IteT K a) g tt te vs σ H Q :=
  lcR_gen _ xs.length Pv h0 (fun D i H' hD h p => ⟨xs, xs[i], hl D i H' hD p, by simp [h]⟩) (fun D H' hD p => ⟨xs, hl D _ H' hD p, Nat.le_refl _⟩)
    (fun D i H' x H2 hD hi p ⟨t, y, e1, e2, e3, e4⟩ => by subst e1; subst e3; exact hs D i y H' t _ hD (e4 xs (hl D i _ hD p)) p e2 (Same.new (Same.refl H') e2) upd_same rfl) hd
theorem lcR_tup {a : Addr} {xs : List V} (Pv : Addr → Nat → Hp → Prop) (hl : ∀ D i H', H D = none → Pv D i H' → SqT K H' a xs) (h0 : ∀ D H', H D = none → Same H H' → H' D = some (.lst []) → H' = upd H D (.lst []) → Pv D 0 H')
    (hs : ∀ D i x H', H D = none → xs[i]? = some x → Pv D i H' → g x (wipe σ vs) H' fun σ2 H2 => wipe σ2 vs = wipe σ vs ∧ tt σ2 H2 fun b H3 => if b = true then te σ2 H3 fun y H4 => LcE D (Pv D (i + 1)) y H4 else Pv D (i + 1) H3)
    (hd : ∀ D H', H D = none → Pv D xs.length H' → Q (.ref D) H') : LcR (Itt K a) g tt te vs σ H Q :=
  lcR_gen _ xs.length Pv h0 (fun D i H' hD h p => ⟨xs, xs[i], hl D i H' hD p, by simp [h]⟩) (fun D H' hD p => ⟨xs, hl D _ H' hD p, Nat.le_refl _⟩)
    (fun D i H' x H2 hD hi p ⟨e1, e2⟩ => by subst e1; exact hs D i x _ hD (e2 xs (hl D i _ hD p)) p) hd
end
end Sl
set_option Elab.async false
set_option linter.all false
set_option maxRecDepth 100000
set_option maxHeartbeats 4000000
/-! ### x != y by the own __eq__ of the class of both (object.__ne__) -/
namespace HNe
open PySem PySem.Spec PyProof.Rows PySem.SeqAt
section
variable {M : Model} {prog : Program} {w : World} {A : Around} {E : Value → Shared → Prop} {s : Shared} {K : PySem.W.Frag} {x y C f : Addr} {ox : Obj} {od : Option Obj}
theorem ifBound_objNe {args : List Value} {Q : Option Value → Shared → Prop} (X : K.In s.heap) (I : PySem.W.InstAt s.heap x ox C od) (hs : PySem.W.findIn K (.ref C) "__ne__" = some (some (.builtin "object.__ne__")))
    (h : wpAny M A (call (.builtin "object.__ne__") (.ref x :: args)) (fun v => Q (some v)) E s) : wpAny M A (callSpecialIfBound? (.ref x) "__ne__" args) Q E s := by
  simp only [callSpecialIfBound?, bindSpecialIfBound?]
  refine wpAny_holding (wpAny_bind (wpAny_bind (wpAny_bind (I.type.here ((PySem.W.looks_findIn X hs).here ?_)))))
  refine wpAny_bind (wpAny_askSetting (wpAny_ite ?_))
  have fin : wpAny M A (call (.builtin "object.__ne__") ([.ref x] ++ args) >>= fun v => pure (some v)) Q E s := wpAny_bind (wpAny_mono h (fun v s' h' => wpAny_pure h') fun _ _ h' => h')
  split
  · exact wpAny_bind (wpAny_of_eq (F.cmp_object.ne.bind _) (wpAny_pure (by exact fin)))
  · exact wpAny_tryCatch (wpAny_bind (wpAny_of_eq (F.cmp_object.ne.bind _) (wpAny_pure (by exact fin))))
theorem entry_ne (X : K.In s.heap) (I : PySem.W.InstAt s.heap x ox C od) (hs : PySem.W.findIn K (.ref C) "__eq__" = some (some (.ref f))) (hf : PySem.W.isFn K (.ref f) = true) (hu : A.units < cLine) {Q : Fin → Shared → Prop}
    (hcall : wpAny M A (call (.ref f) [.ref x, .ref y]) (fun v s' => ∃ b, v = .bool b ∧ Q (.done (.ret (.bool (!b)))) s') E s) : wpAny M A (Builtin.«object.__ne__» ⟨[.ref x, .ref y], []⟩) Q E s := by
  unfold Builtin.«object.__ne__»
  repeat (first
    | with_reducible refine wpAny_cRoomFor hu ?_
    | (refine wpAny_bind (m := callSpecialIfBound? (.ref x) (Str.ofString "__eq__") [.ref y])
        (PySem.W.ifBound_K X I hs hf (wpAny_mono hcall (fun r s' hr => by
          obtain ⟨b, rfl, hq⟩ := hr
          repeat (first | exact hq | exact wpAny_pure hq | exact wpAny_truthy_bool hq | (refine wpAny_bind (m := truthy (.bool _)) (wpAny_truthy_bool ?_)) | wp_step)) fun _ _ e => e)))
    | wp_step)
theorem call_objNe {Q : Value → Shared → Prop} (X : K.In s.heap) (I : PySem.W.InstAt s.heap x ox C od) (hm : PySem.W.mroIn K C (.type "object") = some true) (hs : PySem.W.findIn K (.ref C) "__eq__" = some (some (.ref f))) (hf : PySem.W.isFn K (.ref f) = true) (hu : A.units + 1 < cLine)
    (hcall : wpAny (model prog w) A.in1 (call (.ref f) [.ref x, .ref y]) (fun v s' => ∃ b, v = .bool b ∧ Q (.bool (!b)) s') E s) :
    wpAny (model prog w) A (call (.builtin "object.__ne__") [.ref x, .ref y]) Q E s :=
  wpAny_call (codeAny_call_builtin F.cmp_object.ne.plain F.cmpEntry_ne (PySem.W.check_slot F.cmpKind_ne F.cmpSplit_ne (I.type.andThen (PySem.W.looks_mroIn X hm)) (F.cmpArgs_ne _ _)
    (entry_ne (A := A.in1) X I hs hf hu (wpAny_mono hcall (fun v s' hv => by
      obtain ⟨b, rfl, hq⟩ := hv
      exact ⟨b, rfl, hq⟩) fun _ _ e => e))))
theorem cmp_neK {Q : Value → Shared → Prop} (X : K.In s.heap) (I : PySem.W.InstAt s.heap x ox C od) {oy : Obj} {od2 : Option Obj} (J : PySem.W.InstAt s.heap y oy C od2) (hm : PySem.W.mroIn K C (.type "object") = some true)
    (hn : PySem.W.findIn K (.ref C) "__ne__" = some (some (.builtin "object.__ne__"))) (hs : PySem.W.findIn K (.ref C) "__eq__" = some (some (.ref f))) (hf : PySem.W.isFn K (.ref f) = true) (hu : A.units + 1 < cLine)
    (hcall : wpAny (model prog w) A.in1 (call (.ref f) [.ref x, .ref y]) (fun v s' => ∃ b, v = .bool b ∧ Q (.bool (!b)) s') E s) : wpAny (model prog w) A (compareOp .NotEq (.ref x) (.ref y)) Q E s := by
  show wpAny (model prog w) A (richCompare .NotEq (.ref x) (.ref y)) Q E s
  have one : wpAny (model prog w) A (tryCompare (.ref x) "__ne__" (.ref y)) (fun r s' => ∃ v, r = some v ∧ Q v s') E s := by
    unfold tryCompare
    refine wpAny_bind (ifBound_objNe X I hn (call_objNe X I hm hs hf hu (wpAny_mono hcall (fun v s' hv => ?_) fun _ _ e => e)))
    obtain ⟨b, rfl, hq⟩ := hv
    exact ⟨b, rfl, wpAny_pure ⟨_, rfl, hq⟩⟩
  unfold richCompare
  simp only [oneThing_ref]
  refine wpAny_holding (wpAny_bind (wpAny_cRoomFor (Nat.lt_of_succ_lt hu) ?_))
  rw [cmpInfo_NotEq]
  dsimp only
  refine wpAny_bind (I.type.here (wpAny_bind (J.type.here ?_)))
  rw [show (Value.ref C != Value.ref C) = false from by simp]
  simp only [Bool.false_eq_true, if_false]
  refine wpAny_bind (wpAny_pure ?_)
  simp only [Bool.false_eq_true, if_false]
  refine wpAny_bind (wpAny_mono one (fun r s' z => ?_) fun _ _ e => e)
  obtain ⟨v, rfl, hq⟩ := z
  exact wpAny_pure hq
end
end HNe
namespace L2
open PySem PySem.Spec PyProof.Rows
section
variable {X : Cx} {k j : Nat} {C D : Addr} {sp : Sp} {dvs : List V} {a : Expr} {ta : TE}
/-- x != y by the own __eq__ of the class of both -/
def rNeO (C : Addr) (sp : Sp) (dvs : List V) : R2 := fun x y H Q => ∃ a b dx dy fs gs, x = .ref a ∧ y = .ref b ∧ H a = some (.ins C dx fs) ∧ H b = some (.ins C dy gs) ∧ sp ([.ref a, .ref b] ++ dvs) H (fun v H' => ∃ k, v = .bl k ∧ Q (.bl (!k)) H') C8.E0
theorem op_neO (c : C8.Met X.prog X.w X.K X.mg X.base k C "__eq__" sp dvs) (hr : Room j X.A) (hk : k + 1 ≤ j) (hm : PySem.W.mroIn X.K C (.type "object") = some true) (hn : PySem.W.findIn X.K (.ref C) "__ne__" = some (some (.builtin "object.__ne__"))) : OpR X (compareOp .NotEq) (rNeO C sp dvs) := by
  obtain ⟨f, fd, ps, ds, cl, hme, F, bd, d⟩ := c.ex
  intro pins s σ H x y v u Q I rx ry h
  obtain ⟨o, o2, dx, dy, fs, gs, rfl, rfl, e, e2, q⟩ := h
  obtain rfl : v = Value.ref o := rx
  obtain rfl : u = Value.ref o2 := ry
  obtain ⟨mA, O, _, _, _, _⟩ := ins_get I.hok e
  obtain ⟨mB, O2, _, _, _, _⟩ := ins_get I.hok e2
  obtain ⟨od, J, _⟩ := O.look
  obtain ⟨od2, J2, _⟩ := O2.look
  refine HNe.cmp_neK I.kIn J J2 hm hn hme.at_ hme.fn (by have := hr.units; omega) (wpAny_mono (run_fn1 (us := [.ref o, .ref o2]) (vs := [.ref o, .ref o2]) F (hr.mono hk) bd d C8.pass0 I (.cons rfl (.cons rfl .nil)) q) (fun v s2 y => ?_) fun _ _ y => y)
  obtain ⟨x2, H2, I2, rx2, b, rfl, q2⟩ := y
  obtain rfl : v = Value.bool b := rx2
  exact ⟨b, rfl, .bl (!b), H2, I2, rfl, q2⟩
/-- (i, d) == (i, e), d and e equal dicts -/
def rEqPD (K : PySem.W.Frag) : R2 := fun x y H Q => ∃ t u i a b ls, x = .ref t ∧ y = .ref u ∧ H t = some (.tup [.int i, .ref a]) ∧ H u = some (.tup [.int i, .ref b]) ∧ H a = some (.dK (dI ls)) ∧ H b = some (.dK (dI ls)) ∧ (ls.map (·.1)).Nodup ∧ Q (.bl true) H
theorem op_eqPD (hu : X.A.units + 64 < cLine) : OpR X (compareOp .Eq) (rEqPD X.K) := by
  intro pins s σ H x y v u' Q I rx ry h
  obtain ⟨t, u, i, a, b, ls, rfl, rfl, et, eu, ea, eb, nd, q⟩ := h
  obtain rfl : v = Value.ref t := rx
  obtain rfl : u' = Value.ref u := ry
  obtain ⟨xs, r1, p1, _⟩ := I.tuple (SqT.of et)
  obtain ⟨ys, r2, p2, _⟩ := I.tuple (SqT.of eu)
  obtain ⟨x1, x2, rfl, ⟨tx, rfl⟩, w2⟩ := vals2 r1
  obtain ⟨y1, y2, rfl, ⟨ty, rfl⟩, z2⟩ := vals2 r2
  obtain rfl : x2 = Value.ref a := w2
  obtain rfl : y2 = Value.ref b := z2
  obtain ⟨_, ya, va, ra, da⟩ := (show ObjOk X.prog X.w H s.heap a (.dK (dI ls)) from I.hok a _ ea)
  obtain ⟨_, yb, vb, rb, db⟩ := (show ObjOk X.prog X.w H s.heap b (.dK (dI ls)) from I.hok b _ eb)
  show wpAny (model X.prog X.w) X.A (richCompare .Eq (.ref t) (.ref u)) (EP X pins σ Q) X.xe s
  refine GQ.rc_tupG (by simp) (by omega) (fun _ s' => s' = s) p1 p2 (fun j h1 h2 s' es => ?_) (fun s' es => ?_) rfl
  · subst es
    match j, h1, h2 with
    | 0, _, _ => exact (eqAt_same (A := X.A.in1) (s := s') (show RelV (V.int i) (Value.int i tx) from ⟨tx, rfl⟩) (show RelV (V.int i) (Value.int i ty) from ⟨ty, rfl⟩) rfl) X.prog X.w _ _ ⟨rfl, rfl⟩
    | 1, _, _ =>
      show wpAny (model X.prog X.w) X.A.in1 (eqBool (Value.ref a) (Value.ref b)) _ _ s'
      by_cases c : a = b
      · subst c
        exact SeqAt.EqAt.same (A := X.A.in1) (s := s') (.ref a) X.prog X.w _ _ ⟨rfl, rfl⟩
      · refine GQ.eqBool_refG c ?_
        show wpAny (model X.prog X.w) X.A.in1 (compareOp .Eq (.ref a) (.ref b)) _ _ s'
        refine PySem.W.keq_eq (knd := mixKind X.prog X.w) (r := true) ya yb da db (by show X.A.units + 1 < cLine; omega) (fun e => (dI_hits nd (.inl rfl) ra rb e).2) ?_
        rw [dI_ans (.inl rfl) ra rb, decide_eq_true rfl]
        exact ⟨true, rfl, rfl, rfl⟩
    | j + 2, h1, _ => exact absurd h1 (by simp)
  · subst es
    exact ⟨.bl true, H, I, rfl, q⟩
end
end L2
namespace Sl
open PySem L2 C8 StX
section
variable {σ : L2.St} {H : Hp} {Q : VK} {K : PySem.W.Frag} {C : Addr} {sp : Sp} {dvs : List V}
theorem rd_neO {a b dx dy : Addr} {fs gs : List (Str × V)} (e : H a = some (.ins C dx fs)) (e2 : H b = some (.ins C dy gs)) (h : sp ([.ref a, .ref b] ++ dvs) H (fun v H' => ∃ k, v = .bl k ∧ Q (.bl (!k)) H') C8.E0) : rNeO C sp dvs (.ref a) (.ref b) H Q := ⟨a, b, dx, dy, fs, gs, rfl, rfl, e, e2, h⟩
theorem rd_eqPD {t u a b : Addr} {i : Int} {ls : List (Int × Int)} (et : H t = some (.tup [.int i, .ref a])) (eu : H u = some (.tup [.int i, .ref b])) (ea : H a = some (.dK (dI ls))) (eb : H b = some (.dK (dI ls))) (nd : (ls.map (·.1)).Nodup) (q : Q (.bl true) H) : rEqPD K (.ref t) (.ref u) H Q :=
  ⟨t, u, i, a, b, ls, rfl, rfl, et, eu, ea, eb, nd, q⟩
/-- isinstance(x, C) of an int, or None: no -/
theorem sub_int {K : PySem.W.Frag} {C : Addr} : PySem.W.subIn K (.type "int") (.ref C) = some false := by
  have e : fastBuiltinMro "int" = some [.type "int", .type "object"] := by decide +kernel
  show (fastBuiltinMro "int").map (·.contains (.ref C)) = some false
  rw [e]
  first
    | rfl
    | simp
theorem kit_not {K : PySem.W.Frag} {C : Addr} {n : String} (h1 : PySem.W.isClsIn K C = true) (h2 : PySem.W.typeIn K (.ref C) = some (.type "type")) (h3 : PySem.W.subIn K (.type n) (.ref C) = some false) : PySem.W.kitOne K (.type n) (.ref C) = some false := by
  have e2 : ((PySem.W.clsIn K C).isSome && PySem.W.typeIn K (.ref C) == some (.type "type")) = true := by
    have h1' : (PySem.W.clsIn K C).isSome = true := h1
    rw [h1', h2] <;> rfl
  unfold PySem.W.kitOne
  rw [if_neg (by simp)]
  show (if ((PySem.W.clsIn K C).isSome && PySem.W.typeIn K (.ref C) == some (.type "type")) = true then PySem.W.subIn K (.type n) (.ref C) else none) = some false
  rw [if_pos e2]
  exact h3
theorem rd_isiCi {C : Addr} {i : Int} (k : PySem.W.kitOne K (.type "int") (.ref C) = some false) (h : Q (.bl false) H) : rIsi K [.int i, .ref C] H Q := ⟨_, _, _, _, false, rfl, .own C, .base (.int i), k, h⟩
theorem rd_isiCn {C : Addr} (k : PySem.W.kitOne K (.type "NoneType") (.ref C) = some false) (h : Q (.bl false) H) : rIsi K [.non, .ref C] H Q := ⟨_, _, _, _, false, rfl, .own C, .base .non, k, h⟩
theorem rd_isiC {C a dx : Addr} {fs : List (Str × V)} (c : InsC K C) (e : H a = some (.ins C dx fs)) (h : Q (.bl true) H) : rIsi K [.ref a, .ref C] H Q := ⟨_, _, _, _, true, rfl, .own C, .base (TyOf.ins e c.cl c.ha c.hn c.htk c.hm), c.me, h⟩
/-- dict([(k, v), ..]) -/
def rDictP (K : PySem.W.Frag) : List V → Hp → VK → Prop := fun xs H Q => ∃ (a : Addr) (ps : List Addr) (kvs : List (Key × V)), xs = [.ref a] ∧ SqL K H a (ps.map V.ref) ∧ Paired (fun p kv => SqT K H p [kV kv.1, kv.2]) ps kvs ∧ ∀ p, H p = none → Q (.ref p) (upd H p (.dK (mergeK [] kvs)))
theorem cr_dictP {X : Cx} (hc : X.calm = true) : CallR X (.type "dict") (rDictP X.K) := call_dictP hc
end
end Sl
set_option Elab.async false
set_option linter.all false
set_option maxRecDepth 100000
set_option maxHeartbeats 4000000
set_option exponentiation.threshold 9000
namespace L2
open PySem PySem.Spec PyProof.Rows
theorem hu65 {k : Nat} {A : Around} (r : Room k A) : A.units + 65 < cLine := by have := r.un; omega
/-- one of two walks -/
theorem pi_alt {X : Cx} {tg e : Expr} {t u : TI} (h1 : PI X tg e t) (h2 : PI X tg e u) : PI X tg e (fun σ H R => t σ H R ∨ u σ H R) := ⟨fun pins s σ H R I h => h.elim (h1.run pins s σ H R I) (h2.run pins s σ H R I)⟩
section
variable {X : Cx} {CX : CXT} {k j : Nat} {f C : Addr} {fd : FuncData} {ps : List Str} {sp : Sp} {dvs : List V} {ds : List Value} {E : XK}
theorem run_fnL {pins : List (Addr × Obj)} {σ : St} {H : Hp} {s : Shared} {Q : VK} {us : List Value} {vs : List V} (F : FnOk X.prog X.w X.K X.mg X.base CX k f fd ps sp) (hr : Room (k + 1) X.A) (hb : Binds X.K fd ps ds) (hd : Vals dvs ds) (hx : Passes CX X E)
    (I : Inv X pins σ H s) (r : Vals vs us) (h : sp (vs ++ dvs) H Q E) : wpAny (model X.prog X.w) X.A.in1 (call (.ref f) us) (EP X pins σ Q) X.xe s := by
  have r2 : Vals (vs ++ dvs) (us ++ ds) := r.append hd
  have hl : (us ++ ds).length = ps.length := by rw [← r2.length]; exact F.len _ _ _ _ h
  refine wpAny_call (codeAny_mono (F.run X.A.in1 X.stack s H ⟨us, []⟩ (us ++ ds) (vs ++ dvs) Q E hr.in1 I.env0.in1 (hb s us I.kIn hl) r2 h) fun r s' hq => ?_)
  cases r with
  | error e => exact hx pins σ H s e s' I hq
  | ok fl =>
    cases fl with
    | ret u => exact I.after hq
    | next => exact False.elim hq
    | brk => exact False.elim hq
    | cont => exact False.elim hq
/-- len(o), o of an own class with its own __len__ -/
def rLenO (C : Addr) (sp : Sp) (dvs : List V) : List V → Hp → VK → Prop := fun vs H Q => ∃ o dx fs, vs = [.ref o] ∧ H o = some (.ins C dx fs) ∧ sp ([.ref o] ++ dvs) H (fun v H' => ∃ i : Nat, v = .int i ∧ i < 2 ^ 62 ∧ Q (.int i) H') C8.E0
theorem cr_lenO (c : C8.Met X.prog X.w X.K X.mg X.base k C "__len__" sp dvs) (hr : Room j X.A) (hk : k + 1 ≤ j) : CallR X (.builtin "len") (rLenO C sp dvs) := by
  obtain ⟨f, fd, ps, ds, cl, hm, Fo, bd, d⟩ := c.ex
  intro pins s σ H vs us Q I r h
  obtain ⟨o, dx, fs, rfl, e, q⟩ := h
  obtain rfl := Vals.ref1 r
  obtain ⟨mA, O, _, _, _, _⟩ := ins_get I.hok e
  obtain ⟨od, J, _⟩ := O.look
  obtain ⟨m, F0⟩ := I.fr
  refine PySem.W.len_K F0 I.ok.mod.kin J hm.at_ hm.fn (wpAny_mono (run_fnL (us := [.ref o]) (vs := [.ref o]) Fo (hr.mono hk) bd d C8.pass0 I (.cons rfl .nil) q) (fun v s2 y => ?_) fun _ _ y => y)
  obtain ⟨x2, H2, I2, rx2, i, rfl, hi, q2⟩ := y
  obtain ⟨t, rfl⟩ : ∃ t, v = Value.int i t := rx2
  exact ⟨⟨by omega, by omega⟩, ⟨.int i, H2, I2.tok _, ⟨_, rfl⟩, q2⟩⟩
/-- x in o, o of an own class with its own __contains__ -/
def rInO (C : Addr) (sp : Sp) (dvs : List V) : R2 := fun x y H Q => ∃ o dx fs, y = .ref o ∧ H o = some (.ins C dx fs) ∧ sp ([.ref o, x] ++ dvs) H (fun v H' => ∃ b, v = .bl b ∧ Q (.bl b) H') C8.E0
theorem op_inO (c : C8.Met X.prog X.w X.K X.mg X.base k C "__contains__" sp dvs) (hr : Room j X.A) (hk : k ≤ j) : OpR X (compareOp .In) (rInO C sp dvs) := by
  obtain ⟨f, fd, ps, ds, cl, hm, Fo, bd, d⟩ := c.ex
  intro pins s σ H x y v u Q I rx ry h
  obtain ⟨o, dx, fs, rfl, e, q⟩ := h
  obtain rfl : u = Value.ref o := ry
  obtain ⟨mA, O, _, _, _, _⟩ := ins_get I.hok e
  obtain ⟨od, J, _⟩ := O.look
  obtain ⟨m, F0⟩ := I.fr
  refine PySem.W.in_K F0 I.ok.mod.kin J hm.at_ hm.fn (wpAny_mono (run_fn (us := [.ref o, v]) (vs := [.ref o, x]) Fo (hr.mono hk) bd d C8.pass0 I (.cons rfl (.cons rx .nil)) q) (fun v s2 y => ?_) fun _ _ y => y)
  obtain ⟨x2, H2, I2, rx2, b, rfl, q2⟩ := y
  obtain rfl : v = Value.bool b := rx2
  exact wpAny_truthy_bool ⟨.bl b, H2, I2, rfl, q2⟩
/-- (d, g) == (e, h): d and e dicts of the same entries, g and h data -/
def rEqDG (K : PySem.W.Frag) : R2 := fun x y H Q => ∃ t u a b g h ks d e, x = .ref t ∧ y = .ref u ∧ H t = some (.tup [.ref a, .ref g]) ∧ H u = some (.tup [.ref b, .ref h]) ∧ H a = some (.dK ks) ∧ H b = some (.dK ks) ∧ (∀ p ∈ ks, valV ks p.1 = some p.2 ∧ flatB p.2 = true) ∧
  Dp K H (.ref g) d ∧ Dp K H (.ref h) e ∧ SeqAt.shaped d = true ∧ SeqAt.shaped e = true ∧ Q (.bl (PyData.eqv d e)) H
theorem op_eqDG (hu : X.A.units + 65 < cLine) : OpR X (compareOp .Eq) (rEqDG X.K) := by
  intro pins s σ H x y v u' Q I rx ry h
  obtain ⟨t, u, a, b, g, h', ks, d, e, rfl, rfl, et, eu, ea, eb, fl, hd, he, sd, se, q⟩ := h
  obtain rfl : v = Value.ref t := rx
  obtain rfl : u' = Value.ref u := ry
  obtain ⟨xs, r1, p1, _⟩ := I.tuple (SqT.of et)
  obtain ⟨ys, r2, p2, _⟩ := I.tuple (SqT.of eu)
  obtain ⟨x1, x2, rfl, w1, w2⟩ := vals2 r1
  obtain ⟨y1, y2, rfl, z1, z2⟩ := vals2 r2
  obtain rfl : x1 = Value.ref a := w1
  obtain rfl : y1 = Value.ref b := z1
  obtain ⟨as, q1⟩ := Dp.reads I d _ x2 hd w2
  obtain ⟨bs, q2⟩ := Dp.reads I e _ y2 he z2
  obtain ⟨_, ya, va, ra, da⟩ := (show ObjOk X.prog X.w H s.heap a (.dK ks) from I.hok a _ ea)
  obtain ⟨_, yb, vb, rb, db⟩ := (show ObjOk X.prog X.w H s.heap b (.dK ks) from I.hok b _ eb)
  have hl : va.length = vb.length := by rw [← ra.length, ← rb.length]
  show wpAny (model X.prog X.w) X.A (richCompare .Eq (.ref t) (.ref u)) (EP X pins σ Q) X.xe s
  refine SeqAt.rcIn_tuples (e := fun j => if j = 0 then true else PyData.eqv d e) p1 p2 (by omega) (fun j h1 h2 => ?_) ⟨.bl (PyData.eqv d e), H, I, ?_, q⟩
  · match j, h1, h2 with
    | 0, _, _ =>
      show SeqAt.EqIn X.prog X.w X.A.in1 s (Value.ref a) (Value.ref b) true
      by_cases c : a = b
      · subst c
        exact (SeqAt.EqAt.same (A := X.A.in1) (s := s) (.ref a)).inModel X.prog X.w
      · refine SeqAt.EqIn.of_refs c fun E' Q' q' => ?_
        show wpAny (model X.prog X.w) X.A.in1 (compareOp .Eq (.ref a) (.ref b)) _ E' s
        refine PySem.W.keq_eq (knd := mixKind X.prog X.w) (r := true) ya yb da db (by show X.A.units + 1 < cLine; omega) (fun _ => hits_all rb ra fl) ?_
        simpa [hl] using q'
    | 1, _, _ => exact (SeqAt.eqAt_reads d e X.A.in1 s x2 y2 as bs q1 q2 (SeqAt.canLay_of_shaped sd) (SeqAt.canLay_of_shaped se) (SeqAt.room_of_shaped sd (by show X.A.units + 1 + 64 < cLine; omega))).inModel X.prog X.w
    | j + 2, h1, _ => exact absurd h1 (by simp)
  · show RelV (V.bl (PyData.eqv d e)) _
    simp [List.range_succ, RelV]
end
end L2
namespace Sl
open PySem L2 C8 StX
section
variable {σ : L2.St} {H H' : Hp} {Q : VK} {te ta tb : TE} {t tk : TA} {K : PySem.W.Frag} {QS : L2.St → Hp → Prop} {x y v : V} {R : It → Hp → Prop} {g : TG} {tt : TT} {vs : List Nat}
theorem rd_gSub {to ti : TE} {st : TSet} (h : to σ H fun o H1 => ti σ H1 fun i H2 => st o i v H2 fun H3 => QS σ H3) : gSub to ti st v σ H QS := h
/-! ### texts walked -/
def stR (R : It → Hp → Prop) (v : V) (H1 : Hp) : Prop := ∃ x, v = .str x ∧ R (Its x) H1
theorem rd_iStr (h : te σ H fun v H1 => stR R v H1) : iStr te σ H R := h
theorem rd_stR {x : Str} (h : R (Its x) H) : stR R (.str x) H := ⟨x, rfl, h⟩
theorem lcR_str {x : Str} (Pv : Addr → Nat → Hp → Prop) (h0 : ∀ D H', H D = none → Same H H' → H' D = some (.lst []) → H' = upd H D (.lst []) → Pv D 0 H')
    (hs : ∀ D i c H', H D = none → x.cps[i]? = some c → Pv D i H' → g (.str ⟨#[c]⟩) (wipe σ vs) H' fun σ2 H2 => wipe σ2 vs = wipe σ vs ∧ tt σ2 H2 fun b H3 => if b = true then te σ2 H3 fun y H4 => LcE D (Pv D (i + 1)) y H4 else Pv D (i + 1) H3)
    (hd : ∀ D H', H D = none → Pv D x.cps.size H' → Q (.ref D) H') : LcR (Its x) g tt te vs σ H Q :=
  lcR_gen _ x.cps.size Pv h0 (fun _ i _ _ h _ => h) (fun _ _ _ _ => Nat.le_refl _) (fun D i H x2 H' hD hi p ⟨e1, c, e2, e3⟩ => by subst e1; subst e3; exact hs D i c _ hD e2 p) hd
/-! ### order of texts -/
def rLeS : R2 := fun x y H Q => ∃ i j, x = .str i ∧ y = .str j ∧ Q (.bl (!decide (j.cps.toList < i.cps.toList))) H
theorem op_leS {X : Cx} : OpR X (compareOp .LtE) rLeS := op_le_str
theorem rd_leS {i j : Str} (h : Q (.bl (!decide (j.cps.toList < i.cps.toList))) H) : rLeS (.str i) (.str j) H Q := ⟨i, j, rfl, rfl, h⟩
def rIxS (x y : V) (H : Hp) (Q : VK) : Prop := ∃ (z : Str) (i : Int) (c : Nat), x = .str z ∧ y = .int i ∧ 0 ≤ i ∧ i < 2 ^ 63 ∧ i < z.length ∧ z.cps[i.toNat]? = some c ∧ Q (.str ⟨#[c]⟩) H
theorem pe_ixS {X : Cx} {a b : Expr} {pos : Pos} {ta tb : TE} (ha : PE X a ta) (hb : PE X b tb) (hs : PlainIxT b) : PE X (.Subscript a b pos) (tOp rIxS ta tb) := pe_item_str ha hb hs
theorem rd_ixS {z : Str} {i : Int} {c : Nat} (h0 : 0 ≤ i) (h1 : i < 2 ^ 62) (h2 : i < z.length) (h3 : z.cps[i.toNat]? = some c) (h : Q (.str ⟨#[c]⟩) H) : rIxS (.str z) (.int i) H Q := ⟨z, i, c, rfl, rfl, h0, by omega, h2, h3, h⟩
/-! ### lengths, texts of ints -/
def rLenTx : List V → Hp → VK → Prop := fun xs H Q => ∃ z, xs = [.str z] ∧ z.length ≤ sizeLine ∧ Q (.int z.length) H
theorem cr_lenTx {X : Cx} : CallR X (.builtin "len") rLenTx := call_len_str
theorem rd_lenTx {z : Str} (hz : z.length ≤ sizeLine) (h : Q (.int z.length) H) : rLenTx [.str z] H Q := ⟨z, rfl, hz, h⟩
def rLenDk : List V → Hp → VK → Prop := fun xs H Q => ∃ a kvs, xs = [V.ref a] ∧ H a = some (.dK kvs) ∧ Q (.int kvs.length) H
theorem cr_lenDk {X : Cx} : CallR X (.builtin "len") rLenDk := call_lenD
theorem rd_lenDk {a : Addr} {kvs : List (Key × V)} (e : H a = some (.dK kvs)) (h : Q (.int kvs.length) H) : rLenDk [.ref a] H Q := ⟨a, kvs, rfl, e, h⟩
def rStrI : List V → Hp → VK → Prop := fun xs H Q => ∃ i, xs = [.int i] ∧ i.natAbs.log2 < 1920 ∧ Q (.str (toString i)) H
theorem cr_strI {X : Cx} : CallR X (.type "str") rStrI := call_str_int
theorem rd_strI {i : Int} (hi : i.natAbs.log2 < 1920) (h : Q (.str (toString i)) H) : rStrI [.int i] H Q := ⟨i, rfl, hi, h⟩
theorem rd_lenO {C o dx : Addr} {fs : List (Str × V)} {sp : Sp} {dvs : List V} (e : H o = some (.ins C dx fs)) (h : sp ([.ref o] ++ dvs) H (fun v H' => ∃ i : Nat, v = .int i ∧ i < 2 ^ 62 ∧ Q (.int i) H') C8.E0) : rLenO C sp dvs [.ref o] H Q := ⟨o, dx, fs, rfl, e, h⟩
theorem rd_inO {C o dx : Addr} {fs : List (Str × V)} {sp : Sp} {dvs : List V} (e : H o = some (.ins C dx fs)) (h : sp ([.ref o, x] ++ dvs) H (fun v H' => ∃ b, v = .bl b ∧ Q (.bl b) H') C8.E0) : rInO C sp dvs x (.ref o) H Q := ⟨o, dx, fs, rfl, e, h⟩
def rAddS : R2 := fun x y H Q => ∃ i j, x = .str i ∧ y = .str j ∧ i.length + j.length ≤ sizeLine ∧ Q (.str (i ++ j)) H
theorem op_addS {X : Cx} : OpR X (binaryOp .Add) rAddS := op_add_str
theorem rd_addS {i j : Str} (l : i.length + j.length ≤ 100000) (h : Q (.str (i ++ j)) H) : rAddS (.str i) (.str j) H Q := ⟨i, j, rfl, rfl, Nat.le_trans l (by decide), h⟩
/-! ### isinstance of plain values -/
def tyS : V → Option String
  | .int _ => some "int"
  | .bl _ => some "bool"
  | .str _ => some "str"
  | .non => some "NoneType"
  | _ => none
theorem tyS_of {v : V} {a : String} (h : tyS v = some a) : TyOf K H v (.type a) := by
  cases v <;> first | (cases h; first | exact .int _ | exact .bl _ | exact .str _ | exact .non) | cases h
theorem rd_isiS {v : V} {a b : String} {r : Bool} (h1 : tyS v = some a) (h2 : kitB a b = some r) (h : Q (.bl r) H) : rIsi K [v, .ty b] H Q := ⟨_, _, _, _, r, rfl, .ty _, .base (tyS_of h1), kit_ty h2, h⟩
theorem rd_isiTup {a : Addr} {xs : List V} {b : String} {r : Bool} (e : H a = some (.tup xs)) (h2 : kitB "tuple" b = some r) (h : Q (.bl r) H) : rIsi K [.ref a, .ty b] H Q := ⟨_, _, _, _, r, rfl, .ty _, .base (.tup e), kit_ty h2, h⟩
theorem rd_isiLst {a : Addr} {xs : List V} {b : String} {r : Bool} (e : H a = some (.lst xs)) (h2 : kitB "list" b = some r) (h : Q (.bl r) H) : rIsi K [.ref a, .ty b] H Q := ⟨_, _, _, _, r, rfl, .ty _, .base (.lst e), kit_ty h2, h⟩
theorem rd_isiD {a : Addr} {kvs : List (Key × V)} {b : String} {r : Bool} (e : H a = some (.dK kvs)) (h2 : kitB "dict" b = some r) (h : Q (.bl r) H) : rIsi K [.ref a, .ty b] H Q := ⟨_, _, _, _, r, rfl, .ty _, .base (.dK e), kit_ty h2, h⟩
theorem rd_eqDG {t u a b g h' : Addr} {ks : List (Key × V)} {d e : PyData} (et : H t = some (.tup [.ref a, .ref g])) (eu : H u = some (.tup [.ref b, .ref h'])) (ea : H a = some (.dK ks)) (eb : H b = some (.dK ks)) (fl : ∀ p ∈ ks, valV ks p.1 = some p.2 ∧ flatB p.2 = true)
    (hd : Dt H (.ref g) d) (he : Dt H (.ref h') e) (sd : SeqAt.shaped d = true) (se : SeqAt.shaped e = true) (q : Q (.bl (PyData.eqv d e)) H) : rEqDG K (.ref t) (.ref u) H Q := ⟨t, u, a, b, g, h', ks, d, e, rfl, rfl, et, eu, ea, eb, fl, hd.dp, he.dp, sd, se, q⟩
/-! ### sorted pairs -/
theorem rd_sortPO {a : Addr} {xs : List V} {k : V → Int × Int} (e : SqL K H a xs) (hx : ∀ x ∈ xs, ∃ t, x = V.ref t ∧ H t = some (.tup [.int (k x).1, .int (k x).2]))
    (h : ∀ ys p H', SrtO.Srtd (ltP k) ys → SrtO.Stb (ltP k) ys xs → H p = none → Same H H' → H' p = some (.lst ys) → Q (.ref p) H') : rSortedPO K [.ref a] H Q :=
  ⟨a, xs, k, rfl, e, hx, fun ys p h1 h2 hp => h ys p _ h1 h2 hp (Same.new (Same.refl H) hp) upd_same⟩
/-! ### dicts with any values, keys ints -/
def dV (ls : List (Int × V)) : List (Key × V) := ls.map fun q => (Sum.inl q.1, q.2)
theorem dV_len (ls : List (Int × V)) : (dV ls).length = ls.length := by unfold dV; rw [List.length_map]
theorem dV_keys (ls : List (Int × V)) : (dV ls).map (·.1) = (ls.map (·.1)).map Sum.inl := by unfold dV; rw [List.map_map, List.map_map]; rfl
end
end Sl
set_option Elab.async false
set_option linter.all false
set_option maxRecDepth 100000
set_option maxHeartbeats 4000000
set_option exponentiation.threshold 9000
/-! ### dict(reversed(a list of pairs)) -/
namespace PySem
open Sem (wp)
namespace F
theorem slot_lri_getattribute : Slot "list_reverseiterator" "__getattribute__" "object.__getattribute__" :=
  .of (owner := "object") (n := "__getattribute__") (by rw [typeLookup_type, builtinLookup_eq_fast]; kernel_rfl) (by decide +kernel) (by decide +kernel) (by decide +kernel)
    (by first | exact .inl (by decide +kernel) | exact .inr (by decide +kernel)) (by rw [isSubtype_type]; kernel_rfl)
end F
theorem lri_no_keys : typeLookup (.type "list_reverseiterator") "keys" = pure none := am_miss_of_fast (by decide +kernel)
theorem lri_getattr_none : typeLookup (.type "list_reverseiterator") "__getattr__" = pure none := am_miss_of_fast (by decide +kernel)
theorem meets_getattribute_miss_lri (a : Addr) (fs : Array Value) (sl : Array (Option Value)) (name : Str) (u : Tok) (hmiss : typeLookup (.type "list_reverseiterator") name = pure none) (hname : (["__module__", "__name__", "__qualname__", "__doc__", "__annotations__"] : List Str).contains name = false) (hsz : name.length + 100 ≤ sizeLine := by size_fits) :
    Meets (Builtin.«object.__getattribute__» ⟨[.ref a, .str name u], []⟩) (fun A R s => s.heap.get? a = some { cls := .type "list_reverseiterator", dict := none, data := .fields fs, slots := sl } ∧ raisesAttr (.ref a) name A R s) :=
  Meets.of_wp fun prog w A R s hs => by
    obtain ⟨hp, g, d, tk, os⟩ := s
    obtain ⟨hx, hs⟩ := hs
    have hT : (⟨hp, g, d, tk, os⟩ : Shared).TypeIs (.ref a) "list_reverseiterator" := ⟨_, hx, rfl⟩
    unfold Builtin.«object.__getattribute__»
    repeat (any_goals (first | assumption | wp_step))
    simp only [hname, Bool.false_eq_true, if_false]
    repeat (any_goals (first | assumption | wp_step))
    exact wpAny_raiseAttrError hs.1 hs.2 (attrMsg_fits (by decide +kernel) hsz)
theorem getAttrOr_miss_lri {prog : Program} {w : World} {A : Around} {E : Value → Shared → Prop} {s : Shared} {a : Addr} {o : Obj} {fs : Array Value} {name : Str} {Q : Option Value → Shared → Prop} (hx : s.heap.get? a = some o) (hc : o.cls = .type "list_reverseiterator") (hdat : o.data = .fields fs) (hd : o.dict = none) (hmiss : typeLookup (.type "list_reverseiterator") name = pure none)
    (hname : (["__module__", "__name__", "__qualname__", "__doc__", "__annotations__"] : List Str).contains name = false) (hA : A.handled = none)
    (h : ∀ h' tk, (∀ b o, s.heap.get? b = some o → h'.get? b = some o) → Q none { s with heap := h', toks := tk }) (hsz : name.length + 100 ≤ sizeLine := by size_fits) :
    wpAny (model prog w) A (getAttr? (.ref a) name) Q E s := by
  obtain ⟨c, dct, dat, sl⟩ := o
  simp only at hc hdat hd
  subst hc hdat hd
  obtain ⟨hp, g, d, tk, os⟩ := s
  have hT : ∀ tk', (⟨hp, g, d, tk', os⟩ : Shared).TypeIs (.ref a) "list_reverseiterator" := fun _ => ⟨_, hx, rfl⟩
  have f1 := sub_AttributeError
  have f3 := F.slot_lri_getattribute.lookup
  have f4 := F.slot_lri_getattribute.bind (.ref a)
  have f5 := lri_getattr_none
  unfold getAttr? getAttrBy?
  repeat (any_goals (first | assumption | exact hT _ | ((with_reducible show wpAny _ _ (call (Value.builtin "object.__getattribute__") _ _) _ _ _); refine call_meets F.slot_lri_getattribute (hT _) F.entry_object_getattribute (F.args_object_getattribute_2 _ _) (meets_getattribute_miss_lri a fs sl name _ hmiss hname hsz) ⟨hx, hA, fun h' tk' e hx' => ?_⟩) | wp_step))
  obtain ⟨t', u', he⟩ := hx'.there
  show wpAny _ _ (getattributeRaised _ _ _ _ _ _ _) _ _ _
  unfold getattributeRaised
  repeat (any_goals (first | assumption | wp_step))
  exact h _ _ hx'.keeps
theorem PairArg.rev {prog : Program} {w : World} (it l : Addr) (hli : l ≠ it) (items : Array Value) (Ts : Nat → Addr) (ps : List (Value × Value)) (hT : ∀ j, j < ps.length → Ts j ≠ it) :
    PairArg prog w "list_reverseiterator" it (it :: l :: (List.range ps.length).map Ts) [it] ps.length (fun i k v => i < ps.length ∧ ps[ps.length - 1 - i]? = some (k, v))
      (fun h => h.get? it = some (revObj l ((items.size : Int) - 1)) ∧ h.IsList l items ∧ PairItems h items Ts ps) where
  type := fun s ok => ⟨_, ok.1, rfl⟩
  notDict := by decide
  keep := fun h h' ok hk => ⟨hk _ _ ok.1, ok.2.1.at fun o x => hk _ o x, ok.2.2.at fun j _ o e => hk _ o e⟩
  there := fun h ok b hb => by
    obtain ⟨h1, ⟨o2, h2, _⟩, hp⟩ := ok
    rcases List.mem_cons.mp hb with rfl | hb
    · exact ⟨_, h1⟩
    · rcases List.mem_cons.mp hb with rfl | hb
      · exact ⟨_, h2⟩
      · obtain ⟨j, hj, rfl⟩ := List.mem_map.mp hb
        exact hp.there (List.mem_range.mp hj)
  sub := fun b hb => by rw [List.mem_singleton.mp hb]; exact List.mem_cons_self
  noKeys := fun A s Q E hA ok h => getAttrOr_miss_lri ok.1 rfl rfl rfl lri_no_keys (by decide +kernel) hA h
  iter := fun A s d Q E hA ok hd hdf h => by
    obtain ⟨h1, hl, hp⟩ := ok
    have hdi : it ≠ d := fun e => hdf (e ▸ List.mem_cons_self)
    have hdl : l ≠ d := fun e => hdf (e ▸ List.mem_cons_of_mem _ List.mem_cons_self)
    have hdT : ∀ j, j < ps.length → Ts j ≠ d := fun j hj e => hdf (List.mem_cons_of_mem _ (List.mem_cons_of_mem _ (List.mem_map.mpr ⟨j, List.mem_range.mpr hj, e⟩)))
    have hsz : items.size = ps.length := hp.1
    refine wpAny_pyIter_revIter (l := l) (i := (items.size : Int) - 1) ⟨_, h1, rfl, rfl⟩ (h it [it] (fun i h => i ≤ ps.length ∧ h.IsRevIter it l ((ps.length : Int) - 1 - i) ∧ h.IsList l items ∧ PairItems h items Ts ps) s.heap s.toks ?_ ⟨Nat.zero_le _, ⟨_, h1, rfl, by rw [hsz]; simp [revObj]⟩, hl, hp⟩ (fun _ _ e => e) fun b hb => .inl hb)
    exact {
      off := fun hm => hdi (List.mem_singleton.mp hm).symm
      frame := fun i h₁ h₂ st hk => ⟨st.1, st.2.1.at fun o e => hk _ o hdi e, st.2.2.1.at fun o e => hk _ o hdl e, st.2.2.2.at fun j hj o e => hk _ o (hdT j hj) e⟩
      item := fun i s₁ Q₁ E₁ hi st _ hQ => by
        have hkv' : ps[ps.length - 1 - i]? = some ps[ps.length - 1 - i] := List.getElem?_eq_getElem (by omega)
        obtain ⟨⟨k, v⟩, hkv⟩ : ∃ p, ps[ps.length - 1 - i]? = some p := ⟨_, hkv'⟩
        have hit : s₁.heap.IsRevIter it l ((ps.length - 1 - i : Nat) : Int) := by
          have := st.2.1
          rw [show (ps.length : Int) - 1 - (i : Int) = ((ps.length - 1 - i : Nat) : Int) by omega] at this
          exact this
        refine wpAny_pyNext_rev_item hit st.2.2.1 (x := .ref (Ts (ps.length - 1 - i))) (st.2.2.2.2 _ k v hkv).1 fun h' hit' hs' => ?_
        have pi : PairItems h' items Ts ps := st.2.2.2.at fun j hj o e => (hs'.2 (Ts j) (hT j hj)).trans e
        refine hQ (Ts (ps.length - 1 - i)) k v h' s₁.toks ⟨hi, hkv⟩ (pi.2 _ k v hkv).2 ⟨hi, ?_, st.2.2.1.at fun o' e => (hs'.2 l hli).trans e, pi⟩ fun b o hb e => (hs'.2 b (fun h => hb (by simp [h]))).trans e
        rw [show (ps.length : Int) - 1 - ((i + 1 : Nat) : Int) = ((ps.length - 1 - i : Nat) : Int) - 1 by omega]
        exact hit'
      done := fun s₁ Q₁ E₁ st hQ => by
        have hit := st.2.1
        rw [show (ps.length : Int) - 1 - (ps.length : Int) = -1 by omega] at hit
        exact wpAny_pyNext_rev_end hA hit fun h' he' => hQ h' s₁.toks fun b o hb e => he' b o (fun h => hb (by simp [h])) e }
end PySem

namespace L2
open PySem PySem.Spec PyProof.Rows
theorem pair_vals {h : Heap} : ∀ {ps : List Addr} {prs : List (Key × Value)}, prs.length = ps.length → (∀ (j : Nat) (q : Key × Value), prs[j]? = some q → ∃ (b : Addr) (u : Value), ps[j]? = some b ∧ IsTup h b #[u, q.2] ∧ keyIs q.1 u = true) →
    ∃ vps : List (Value × Value), vps.length = prs.length ∧ ∀ (j : Nat) (q : Key × Value), prs[j]? = some q → ∃ (b : Addr) (u : Value), ps[j]? = some b ∧ vps[j]? = some (u, q.2) ∧ IsTup h b #[u, q.2] ∧ keyIs q.1 u = true
  | [], [], _, _ => ⟨[], rfl, fun j q e => by simp at e⟩
  | [], _ :: _, l, _ => by simp at l
  | _ :: _, [], l, _ => by simp at l
  | p :: ps, q :: prs, l, hp => by
    obtain ⟨b, u, e1, e2, e3⟩ := hp 0 q rfl
    obtain ⟨vps, l2, h2⟩ := pair_vals (ps := ps) (prs := prs) (by simpa using l) fun j q' e => by
      obtain ⟨b, u, f1, f2, f3⟩ := hp (j + 1) q' (by simpa using e)
      exact ⟨b, u, by simpa using f1, f2, f3⟩
    refine ⟨(u, q.2) :: vps, by simp [l2], fun j q' e => ?_⟩
    match j, e with
    | 0, e =>
      have e : q = q' := by simpa using e
      subst e
      exact ⟨b, u, e1, rfl, e2, e3⟩
    | j + 1, e =>
      obtain ⟨b, u, f1, f2, f3, f4⟩ := h2 j q' (by simpa using e)
      exact ⟨b, u, by simpa using f1, by simpa using f2, f3, f4⟩
theorem paired_app {α β : Type} {R : α → β → Prop} : ∀ {a c : List α} {b d : List β}, Paired R a b → Paired R c d → Paired R (a ++ c) (b ++ d)
  | _, _, _, _, .nil, h => h
  | _, _, _, _, .cons h t, k => .cons h (paired_app t k)
theorem paired_rev {α β : Type} {R : α → β → Prop} : ∀ {a : List α} {b : List β}, Paired R a b → Paired R a.reverse b.reverse
  | _, _, .nil => .nil
  | _, _, .cons h t => by
    rw [List.reverse_cons, List.reverse_cons]
    exact paired_app (paired_rev t) (.cons h .nil)
/-- dict(reversed(x)), x a list of pairs -/
def tDictRev (K : PySem.W.Frag) (te : TE) : TE := fun σ H Q => te σ H fun v H1 => ∃ (a : Addr) (ps : List Addr) (kvs : List (Key × V)), v = .ref a ∧ SqL K H1 a (ps.map V.ref) ∧ Paired (fun p kv => SqT K H1 p [kV kv.1, kv.2]) ps kvs ∧ ∀ p, H1 p = none → Q (.ref p) (upd H1 p (.dK (mergeK [] kvs.reverse)))
section
variable {X : Cx}
theorem pe_dictRev {e : Expr} {te : TE} {p p2 pos pos2 : Pos} (hc : X.calm = true) (hg : Gl X "dict") (hm : X.mg "dict" = none) (hg2 : Gl X "reversed") (hm2 : X.mg "reversed" = none) (he : PE X e te)
    (hs : starEach [e] X.env = (false, eval e X.env) :: starEach [] X.env := by rfl)
    (hs2 : starEach [.Call (.Name "reversed" p2) [e] [] pos2] X.env = (false, eval (.Call (.Name "reversed" p2) [e] [] pos2) X.env) :: starEach [] X.env := by rfl) :
    PE X (.Call (.Name "dict" p) [.Call (.Name "reversed" p2) [e] [] pos2] [] pos) (tDictRev X.K te) := by
  refine ⟨fun pins s σ H Q I h => ?_⟩
  refine Call_ (ld_blt I hg hm (show bootBuiltins "dict" = some (.type "dict") from by decide +kernel) (PyProof.Rows.callWith_type1 (args_cons (Call_ (ld_blt I hg2 hm2 PyProof.Rows.boot_reversed (PyProof.Rows.callWith_type1 (args_cons (thn (he.run pins s σ H _ I h) fun u s1 ⟨v, H1, I1, r1, q1⟩ => args_nil ?_) hs) hs rfl))) hs2) hs2 rfl))
  obtain ⟨a, ps, kvs, ev, hq, hp, q⟩ := q1
  subst ev
  obtain rfl : u = Value.ref a := r1
  obtain ⟨its, rv, p', hz⟩ := I1.list hq
  have ei := refs_at rv
  subst ei
  rw [List.length_map] at hz
  obtain ⟨prs, rel, hl, hpr⟩ := pairs_of I1 hp
  obtain ⟨vps, lv, hv⟩ := pair_vals hl hpr
  refine call_reversed_list p'.isList (args_nil ?_)
  have hlist := p'.isList
  obtain ⟨ol, hol, _⟩ := id hlist
  have hne : a ≠ s1.heap.objs.size := Nat.ne_of_lt (Heap.lt_size hol)
  have hat : ∀ j, j < vps.length → ∃ b u qv, ps[j]? = some b ∧ vps[j]? = some (u, qv) ∧ IsTup s1.heap b #[u, qv] := fun j hj => by
    obtain ⟨b, u, e1, e2, e3, e4⟩ := hv j _ (List.getElem?_eq_getElem (by omega : j < prs.length))
    exact ⟨b, u, _, e1, e2, e3⟩
  have hT : ∀ j, j < vps.length → ps.getD j 0 ≠ s1.heap.objs.size := fun j hj => by
    obtain ⟨b, u, qv, e1, e2, ⟨o, ho, _⟩⟩ := hat j hj
    rw [List.getD_eq_getElem?_getD, e1]
    exact Nat.ne_of_lt (Heap.lt_size ho)
  have hitems : ((ps.map Value.ref).toArray).size = vps.length := by simp; omega
  refine PySem.call_dict_pairs (knd := mixKind X.prog X.w) (kvs := prs.reverse) (s := { s1 with heap := s1.heap.push (revObj a (((ps.map Value.ref).toArray.size : Int) - 1)) }) (PairArg.rev s1.heap.objs.size a hne (ps.map Value.ref).toArray (fun j => ps.getD j 0) vps hT) (I1.ok.hd hc) ⟨Heap.get?_push_size _ rfl, hlist.push _, hitems, fun j k v e => ?_⟩ ⟨by rw [List.length_reverse, lv], fun i key v hr => ?_⟩ (by omega) fun h' tk hd' hk => ?_
  · have hj := (List.getElem?_eq_some_iff.mp e).1
    obtain ⟨b, u, qv, e1, e2, e3⟩ := hat j hj
    rw [e] at e2
    cases e2
    have eb : ps.getD j 0 = b := by rw [List.getD_eq_getElem?_getD, e1]; rfl
    refine ⟨by simp [e1], .inl ?_⟩
    show IsTup _ (ps.getD j 0) _
    rw [eb]
    exact e3.keeps fun b o z => Heap.get?_push_of_some _ z
  · obtain ⟨hi, e⟩ := hr
    obtain ⟨b, u, e1, e2, e3, e4⟩ := hv (vps.length - 1 - i) _ (List.getElem?_eq_getElem (by omega : vps.length - 1 - i < prs.length))
    rw [e] at e2
    have e2 := Option.some.inj e2
    have f1 : key = u := congrArg Prod.fst e2
    have f2 : v = (prs[vps.length - 1 - i]'(by omega)).2 := congrArg Prod.snd e2
    subst f1 f2
    refine ⟨_, ?_, e4⟩
    rw [List.getElem?_reverse (by omega), show prs.length - 1 - i = vps.length - 1 - i by omega]
    exact List.getElem?_eq_getElem (by omega)
  · have k1 : ∀ b o, s1.heap.get? b = some o → h'.get? b = some o := fun b o e => hk b o (fun z => by rw [List.mem_singleton.mp z] at e; exact absurd (Heap.lt_size e) (Nat.lt_irrefl _)) (Heap.get?_push_of_some _ e)
    have hm' : (((s1.heap.push (revObj a (((ps.map Value.ref).toArray.size : Int) - 1))).objs.size) == sysModules) = false := by
      have := I1.big
      exact beq_eq_false_iff_ne.mpr (Nat.ne_of_gt (Nat.lt_of_lt_of_le this (by simp [Heap.push])))
    have hlen : (mergeK [] kvs.reverse).length ≤ sizeLine := by
      refine Nat.le_trans (length_mergeK kvs.reverse []) ?_
      rw [List.length_nil, Nat.zero_add, List.length_reverse, rel.length, hl]
      exact hz
    have hge : s1.heap.objs.size ≤ (s1.heap.push (revObj a (((ps.map Value.ref).toArray.size : Int) - 1))).objs.size := by simp [Heap.push]
    exact ⟨.ref _, upd H1 _ (.dK (mergeK [] kvs.reverse)), I1.laid (t' := tk) k1 hge (show ObjOk X.prog X.w _ _ _ (.dK (mergeK [] kvs.reverse)) from ⟨hlen, hm', merged [] prs.reverse, KV.merge (paired_rev rel) .nil, hd'⟩), rfl, q _ (I1.hok.fresh hge)⟩
end
end L2
set_option Elab.async false
set_option linter.all false
set_option maxRecDepth 100000
set_option maxHeartbeats 4000000
set_option exponentiation.threshold 9000
/-! readings for the stores' laws: items of a dict, dicts of lists, displays of one pair, get, text * int -/
namespace Sl
open PySem L2 C8 StX PySem.Spec PyProof.Rows LiI RT
section
variable {σ : L2.St} {H H' : Hp} {Q : VK} {te td ty tv : TE} {K : PySem.W.Frag} {R : It → Hp → Prop} {g : TG} {tt : TT} {vs : List Nat} {x y v : V}
def itR (R : It → Hp → Prop) (x : V) (H1 : Hp) : Prop := ∃ d o kvs, x = .ref d ∧ H1 d = some (.frz o (.dK kvs)) ∧ R (Iti d o kvs) H1
theorem rd_iItems (h : td σ H fun x H1 => itR R x H1) : iItems td σ H R := h
theorem rd_itR {d : Addr} {o : Obj} {kvs : List (Key × V)} (e : H d = some (.frz o (.dK kvs))) (h : R (Iti d o kvs) H) : itR R (.ref d) H := ⟨d, o, kvs, rfl, e, h⟩
theorem lcR_items {d : Addr} {o : Obj} {kvs : List (Key × V)} (Pv : Addr → Nat → Hp → Prop) (hl : ∀ D i H', H D = none → Pv D i H' → H' d = some (.frz o (.dK kvs))) (h0 : ∀ D H', H D = none → Same H H' → H' D = some (.lst []) → H' = upd H D (.lst []) → Pv D 0 H')
    (hs : ∀ D i k z t H' H2, H D = none → kvs[i]? = some (k, z) → Pv D i H' → Same H' H2 → H2 t = some (.tup [kV k, z]) → g (.ref t) (wipe σ vs) H2 fun σ2 H2 => wipe σ2 vs = wipe σ vs ∧ tt σ2 H2 fun b H3 => if b = true then te σ2 H3 fun y H4 => LcE D (Pv D (i + 1)) y H4 else Pv D (i + 1) H3)
    (hd : ∀ D H', H D = none → Pv D kvs.length H' → Q (.ref D) H') : LcR (Iti d o kvs) g tt te vs σ H Q :=
  lcR_gen _ kvs.length Pv h0 (fun D i H' hD h p => ⟨hl D i H' hD p, h⟩) (fun D H' hD p => ⟨hl D _ H' hD p, Nat.le_refl _⟩)
    (fun D i H' x H2 hD hi p ⟨t, k, v, e1, e2, e3, e4⟩ => by subst e2; subst e4; exact hs D i k v t H' _ hD e1 p (Same.new (Same.refl H') e3) upd_same) hd
theorem rd_listIt0 (h : te σ H fun x H1 => rItemsL x H1 Q) : tListItems te σ H Q := h
theorem rd_listIt {d : Addr} {kvs : List (Key × V)} (e : H d = some (.dK kvs)) (h : ∀ H' p (ts : List Addr), Same H H' → H p = none → H' p = some (.lst (ts.map V.ref)) → Paired (fun (t : Addr) (q : Key × V) => H' t = some (.tup [kV q.1, q.2])) ts kvs → Q (.ref p) H') : rItemsL (.ref d) H Q :=
  ⟨d, kvs, rfl, e, fun H' p ts s hp _ _ ep pr => h H' p ts s hp ep pr⟩
def rDictRev (K : PySem.W.Frag) (v : V) (H1 : Hp) (Q : VK) : Prop := ∃ (a : Addr) (ps : List Addr) (kvs : List (Key × V)), v = .ref a ∧ SqL K H1 a (ps.map V.ref) ∧ Paired (fun p kv => SqT K H1 p [kV kv.1, kv.2]) ps kvs ∧ ∀ p, H1 p = none → Q (.ref p) (upd H1 p (.dK (mergeK [] kvs.reverse)))
theorem rd_dictRev0 (h : te σ H fun v H1 => rDictRev K v H1 Q) : tDictRev K te σ H Q := h
def rTupRev (K : PySem.W.Frag) (v : V) (H1 : Hp) (Q : VK) : Prop := ∃ (a : Addr) (xs : List V), v = .ref a ∧ SqL K H1 a xs ∧ ∀ q, H1 q = none → Q (.ref q) (upd H1 q (.tup xs.reverse))
theorem rd_tupRev0 (h : te σ H fun v H1 => rTupRev K v H1 Q) : tTupRev K te σ H Q := h
theorem rd_tupRev {a : Addr} {xs : List V} (e : SqL K H a xs) (h : ∀ q H', H q = none → Same H H' → H' q = some (.tup xs.reverse) → Q (.ref q) H') : rTupRev K (.ref a) H Q := ⟨a, xs, rfl, e, fun q hq => h q _ hq (Same.new (Same.refl H) hq) upd_same⟩
def rDGet1 (ty : TE) (x : V) (σ : L2.St) (H1 : Hp) (Q : VK) : Prop := ∃ a, x = .ref a ∧ IsD H1 a ∧ ty σ H1 fun y H2 => ∃ o, DGet H2 a y o ∧ Q (o.getD .non) H2
theorem rd_dget10 (h : td σ H fun x H1 => rDGet1 ty x σ H1 Q) : tDGet1 td ty σ H Q := h
/-- text * int -/
def rMulS : R2 := fun x y H Q => ∃ z n, x = .str z ∧ y = .int n ∧ 2 ≤ n ∧ n ≤ 100 ∧ 1 ≤ z.length ∧ z.length ≤ 100 ∧ ((⟨(List.replicate n.toNat z.cps).foldl (· ++ ·) #[]⟩ : Str).length ≤ 100000) ∧ Q (.str ⟨(List.replicate n.toNat z.cps).foldl (· ++ ·) #[]⟩) H
theorem op_mulS {X : Cx} : OpR X (binaryOp .Mult) rMulS := by
  intro pins s σ H x y v u Q I rx ry h
  obtain ⟨z, n, rfl, rfl, n0, n1, z0, z1, lz, q⟩ := h
  obtain ⟨t, rfl⟩ := rx
  obtain ⟨t', rfl⟩ := ry
  have e1 : (n == 1 || z.length == 0) = false := by
    rw [Bool.or_eq_false_iff]
    exact ⟨beq_eq_false_iff_ne.mpr (by omega), beq_eq_false_iff_ne.mpr (by omega)⟩
  refine PySem.P.mul_str (by rw [decide_eq_false (by omega), decide_eq_false (by omega)]; rfl) (fun _ _ => ?_) (fun _ _ => ?_) ?_
  · have h1 : (z.length : Int) * n ≤ 100 * 100 := Int.mul_le_mul (by omega) n1 (by omega) (by omega)
    have h2 : (z.length : Int) ≤ (2 ^ 63 - 1) / n := (Int.le_ediv_iff_mul_le (by omega)).mpr (Int.le_trans h1 (by decide))
    omega
  · refine decide_eq_false (Nat.not_lt.mpr (Nat.le_trans (m := 10000) ?_ (by decide)))
    have : n.toNat ≤ 100 := by omega
    exact Nat.mul_le_mul z1 this
  · rw [if_neg (by omega), e1, if_neg (by decide)]
    exact ⟨Nat.le_trans lz (by decide), ⟨.str _, H, I.tok _, ⟨_, rfl⟩, q⟩⟩
end
end Sl
set_option Elab.async false
set_option linter.all false
set_option maxRecDepth 100000
set_option maxHeartbeats 4000000
set_option exponentiation.threshold 9000
/-! {True: x}: a dict whose one key is a truth value -/
namespace L2
open PySem PySem.Spec PyProof.Rows PpSet
/-- the object at p is o -/
def BkO (p : Addr) (o : Obj) : HO := .ext fun h => h.get? p = some o
/-- o is a dict with the one key b -/
structure BkOk (P : Program) (w : World) (p : Addr) (o : Obj) (b : Bool) : Prop where
  sys : (p == sysModules) = false
  ex : o.ExactDict
  dt : ∃ es ep en, o.data = .dict es ep ∧ es.size = 1 ∧ es[0]? = some en ∧ en.key = Value.bool b
  of : ∃ u, ∀ h : Heap, h.get? p = some o → h.DictOf (boolK P w) p [(b, u)]
section
variable {X : Cx} {pins : List (Addr × Obj)} {σ : L2.St} {H : Hp} {s : Shared}
theorem bk_at {p : Addr} {o : Obj} (I : Inv X pins σ H s) (e : H p = some (BkO p o)) : s.heap.get? p = some o := (I.hok p _ e).1
/-- the display -/
def tDispB (P : Program) (w : World) (b : Bool) (tv : TE) : TE := fun σ H Q => ∀ p, H p = none → tv σ (upd H p (.dK [])) fun y H2 => H2 p = some (.dK []) ∧ ∀ o, BkOk P w p o b → Q (.ref p) (upd H2 p (BkO p o))
theorem pairs_nil {P : Program} {w : World} {h : Heap} {a : Addr} (d : h.DictOf (mixKind P w) a []) : h.DictOf (boolK P w) a [] := by
  obtain ⟨o, es, ep, h1, h2, h3, h4, h5, h6⟩ := d
  have e : es = #[] := by
    cases es with
    | mk l => cases l with
      | nil => rfl
      | cons x l => cases h5
  subst e
  exact ⟨o, #[], ep, h1, h2, h3, fun x hx => by simp at hx, .nil, List.nodup_nil⟩
theorem pe_dispB {b : Bool} {j : Nat} {pos pos' : Pos} {v : Expr} {tv : TE} (hv : PE X v tv) (hk : PE X (.Constant (.bool b) j pos') (tC (.bl b))) : PE X (.Dict [some (.Constant (.bool b) j pos')] [v] pos) (tDispB X.prog X.w b tv) := by
  refine ⟨fun pins s σ H Q I q => ?_⟩
  have hn := I.hok.fresh (Nat.le_refl s.heap.objs.size)
  have I1 := I.laid (a := s.heap.objs.size) (o := .dK []) (h' := s.heap.push { cls := .type "dict", data := .dict #[] }) (t' := s.toks) (fun _ _ q => Heap.get?_push_of_some _ q) (Nat.le_refl _) (dk_empty s.heap I.big)
  have q1 := q s.heap.objs.size hn
  refine wpAny_Dict_walk (knd := boolK X.prog X.w) rfl rfl (by simp) (by simp) ?_
  refine pairTrees_cons_walk (Constant_bool (thn (hv.run pins _ σ _ _ I1 q1) fun w2 s2 ⟨y, H2, I2, ry, e, q2⟩ => pairTrees_nil_walk ?_))
  obtain ⟨z, hd, vs0, r0, dd⟩ := dk_of I2.hok e
  cases r0
  refine ⟨[(b, w2)], ⟨boolK_is _ _ b, rfl, True.intro⟩, pairs_nil dd, fun h' dd' hs => ?_⟩
  obtain ⟨o, es, ep, h1, h2, h3, h4, h5, h6⟩ := dd'
  have hz : es.size = 1 ∧ ∃ en : DictEntry, es[0]? = some en ∧ en.key = Value.bool b := by
    have h5 : Pairs (boolK X.prog X.w) es.toList [(b, w2)] := h5
    cases hl : es.toList with
    | nil => rw [hl] at h5; cases h5
    | cons x l =>
      rw [hl] at h5
      cases h5 with
      | cons a c d =>
        cases d
        refine ⟨by rw [← Array.length_toList, hl]; rfl, x, by rw [← Array.getElem?_toList, hl]; rfl, isB_shape a⟩
  obtain ⟨hz, en, hen, hk⟩ := hz
  have ok : BkOk X.prog X.w s.heap.objs.size o b := ⟨hd, h2, ⟨es, ep, en, h3, hz, hen, hk⟩, w2, fun h e => ⟨o, es, ep, e, h2, h3, h4, h5, h6⟩⟩
  have new : ObjOk X.prog X.w (upd H2 s.heap.objs.size (BkO s.heap.objs.size o)) h' s.heap.objs.size (BkO s.heap.objs.size o) := ⟨h1, ⟨o, h1⟩, fun g1 g2 e1 k => k _ e1⟩
  exact ⟨.ref s.heap.objs.size, _, d_write I2 (by rw [e]; exact True.intro) hs ⟨o, h1⟩ new, rfl, q2 o ok⟩
/-- isinstance(x, dict) of such a dict -/
def rIsiB (P : Program) (w : World) : List V → Hp → VK → Prop := fun xs H Q => ∃ (p : Addr) (o : Obj) (b : Bool), xs = [.ref p, .ty "dict"] ∧ H p = some (BkO p o) ∧ BkOk P w p o b ∧ Q (.bl true) H
theorem cr_isiB : CallR X (.builtin "isinstance") (rIsiB X.prog X.w) := by
  intro pins s σ H xs us Q I r h
  obtain ⟨p, o, b, rfl, e, ok, q⟩ := h
  obtain ⟨u1, u2, rfl, r1, r2⟩ := vals2 r
  cases (show u1 = Value.ref p from r1)
  cases (show u2 = Value.type "dict" from r2)
  exact PySem.W.kia_one PySem.W.kitx_dict I.kIn ⟨o, bk_at I e, ok.ex.1⟩ (kit_ty (show kitB "dict" "dict" = some true by decide +kernel)) (fun z => nomatch z) fun tk => ⟨.bl true, H, I.tok tk, rfl, q⟩
/-- len of such a dict -/
def rLenB (P : Program) (w : World) : List V → Hp → VK → Prop := fun xs H Q => ∃ (p : Addr) (o : Obj) (b : Bool), xs = [.ref p] ∧ H p = some (BkO p o) ∧ BkOk P w p o b ∧ Q (.int 1) H
theorem cr_lenB : CallR X (.builtin "len") (rLenB X.prog X.w) := by
  intro pins s σ H xs us Q I r h
  obtain ⟨p, o, b, rfl, e, ok, q⟩ := h
  obtain ⟨u1, rfl, r1⟩ := vals1 r
  cases (show u1 = Value.ref p from r1)
  obtain ⟨u, d⟩ := ok.of
  exact PySem.call_len_dict ok.sys (d _ (bk_at I e)) (show (((1 : Nat) : Int)) < 2 ^ 63 by decide) ⟨.int 1, H, I.tok _, ⟨_, rfl⟩, q⟩
/-- the keys of such a dict -/
def Itb (d : Addr) (o : Obj) (b : Bool) : It :=
  ⟨fun i H => H d = some (BkO d o) ∧ i < 1, fun i H x H' => H' = H ∧ x = .bl b, fun i H => H d = some (BkO d o) ∧ 1 ≤ i⟩
theorem turn_keysB {P : Program} {w : World} {K : PySem.W.Frag} {tg : Expr} {d : Addr} {o : Obj} {b : Bool} {es : Array DictEntry} {ep : Nat} {en : DictEntry} (it : Addr) (hd : o.data = .dict es ep) (hz : es.size = 1) (hen : es[0]? = some en) (hk : en.key = Value.bool b) :
    Turn P w K tg (Itb d o b) [it] it (fun i h => h.IsKeyIter it d i 1 ep) where
  mem := by simp
  obj := fun i h st b hb => by
    have e : b = it := by simpa using hb
    subst e
    obtain ⟨oi, e, c, dd⟩ := st
    exact ⟨oi, e, fun v z => by rw [dd] at z; cases z⟩
  keep := fun i h h' st k => st.at fun oi e => k it (by simp) oi e
  item := by
    intro X hP hw hK hc i pins s σ H E I hf st hg
    subst hP hw hK
    obtain ⟨hdd, hi⟩ := hg
    obtain ⟨f0, f1, f2, f3, f4, f5⟩ := hf it (by simp)
    obtain rfl : i = 0 := by omega
    refine next_key_item st (bk_at I hdd) hd hz hen fun h' st' sb => ?_
    have I1 : Inv X pins σ H { s with heap := h' } := I.turned (t' := s.toks) (fun b ob hb e => (sb.2 b hb).trans e) f0 f1 f3 f4 f5
    obtain ⟨oi, e, c, dd⟩ := id st'
    exact ⟨en.key, rfl, go_of (s := { s with heap := h' }) e c dd (by decide) ⟨.bl b, H, I1, hk, ⟨rfl, rfl⟩, st', fun b hb => (hf b hb).1⟩⟩
  done := by
    intro X hP hw hK hc i pins s σ H E I hf st hg
    subst hP hw hK
    obtain ⟨hdd, hi⟩ := hg
    obtain ⟨f0, f1, f2, f3, f4, f5⟩ := hf it (by simp)
    exact next_key_end (I.ok.hd hc) st (bk_at I hdd) hd hz hi fun h' eb => ⟨rfl, I.turned (t' := s.toks) (fun b ob hb e => eb b ob hb e) f0 f1 f3 f4 f5⟩
  self := fun A i s Q E st h => wpAny_pyIter_keyiter st h
def iKeysB (P : Program) (w : World) (td : TE) : TI := fun σ H R => td σ H fun x H1 => ∃ d o b, x = .ref d ∧ H1 d = some (BkO d o) ∧ BkOk P w d o b ∧ R (Itb d o b) H1
theorem pi_keysB {tg e : Expr} {td : TE} (he : PE X e td) : PI X tg e (iKeysB X.prog X.w td) := by
  refine ⟨fun pins s σ H R I h => ?_⟩
  refine thn (he.run pins s σ H _ I h) fun u s1 ⟨x, H1, I1, rx, d, o, b, ex, hd, ok, q⟩ => ?_
  subst ex
  obtain rfl : u = Value.ref d := rx
  obtain ⟨es, ep, en, h3, hz, hen, hk⟩ := ok.dt
  refine iter_keys ok.sys (bk_at I1 hd) ok.ex h3 (pi_one (tk := s1.toks) I1 _ (turn_keysB _ h3 hz hen hk) ⟨_, Heap.get?_push_size _ rfl, rfl, ?_⟩ q)
  rw [hz] <;> rfl
end
end L2
namespace Sl
open PySem L2 C8 StX
section
variable {σ : L2.St} {H H1 : Hp} {Q : VK} {K : PySem.W.Frag} {P : Program} {w : World} {te td : TE} {R : It → Hp → Prop} {g : TG} {tt : TT} {vs : List Nat}
theorem rd_isiB {p : Addr} {o : Obj} {b : Bool} (e : H p = some (BkO p o)) (ok : BkOk P w p o b) (h : Q (.bl true) H) : rIsiB P w [.ref p, .ty "dict"] H Q := ⟨p, o, b, rfl, e, ok, h⟩
theorem rd_lenB {p : Addr} {o : Obj} {b : Bool} (e : H p = some (BkO p o)) (ok : BkOk P w p o b) (h : Q (.int 1) H) : rLenB P w [.ref p] H Q := ⟨p, o, b, rfl, e, ok, h⟩
def rKeysB (P : Program) (w : World) (R : It → Hp → Prop) (x : V) (H1 : Hp) : Prop := ∃ d o b, x = .ref d ∧ H1 d = some (BkO d o) ∧ BkOk P w d o b ∧ R (Itb d o b) H1
theorem rd_iKeysB (h : td σ H fun x H1 => rKeysB P w R x H1) : iKeysB P w td σ H R := h
theorem rd_keysB {d : Addr} {o : Obj} {b : Bool} (e : H d = some (BkO d o)) (ok : BkOk P w d o b) (h : R (Itb d o b) H) : rKeysB P w R (.ref d) H := ⟨d, o, b, rfl, e, ok, h⟩
end
end Sl
set_option Elab.async false
set_option linter.all false
set_option maxRecDepth 100000
set_option maxHeartbeats 4000000
/-! an own instance == an int, by the own __eq__ -/
namespace L2
open PySem PySem.Spec PyProof.Rows
section
variable {X : Cx} {k j : Nat} {C : Addr} {sp : Sp} {dvs : List V}
def rEqOI (C : Addr) (sp : Sp) (dvs : List V) : R2 := fun x y H Q => ∃ (a dx : Addr) (fs : List (Str × V)) (i : Int), x = .ref a ∧ y = .int i ∧ H a = some (.ins C dx fs) ∧ sp ([.ref a, .int i] ++ dvs) H (fun v H' => ∃ k, v = .bl k ∧ Q v H') C8.E0
theorem op_eqOI (c : C8.Met X.prog X.w X.K X.mg X.base k C "__eq__" sp dvs) (hr : Room j X.A) (hk : k ≤ j) (hn : PySem.W.subIn X.K (.type "int") (.ref C) = some false) : OpR X (compareOp .Eq) (rEqOI C sp dvs) := by
  obtain ⟨f, fd, ps, ds, cl, hm, F, bd, d⟩ := c.ex
  intro pins s σ H x y v u Q I rx ry h
  obtain ⟨o, dx, fs, i, rfl, rfl, e, q⟩ := h
  obtain rfl : v = Value.ref o := rx
  obtain ⟨t, rfl⟩ := ry
  obtain ⟨mA, O, _, _, _, _⟩ := ins_get I.hok e
  obtain ⟨od, J, _⟩ := O.look
  obtain ⟨m, F0⟩ := I.fr
  refine PySem.W.cmp_K (op := .Eq) (tb := .type "int") hr.units0 F0 I.ok.mod.kin J (fun _ _ _ _ _ q => wpAny_pure q) (by unfold PySem.W.notFirst; rw [hn]; simp) hm.at_ hm.fn (wpAny_mono (run_fn (us := [.ref o, .int i t]) (vs := [.ref o, .int i]) F (hr.mono hk) bd d C8.pass0 I (.cons rfl (.cons ⟨t, rfl⟩ .nil)) q) (fun v s2 y => ?_) fun _ _ y => y)
  obtain ⟨x2, H2, I2, rx2, b, rfl, q2⟩ := y
  obtain rfl : v = Value.bool b := rx2
  exact ⟨.bl b, H2, I2, rfl, q2⟩
end
end L2
namespace Sl
open PySem L2 C8 StX
theorem rd_eqOI {H : Hp} {Q : VK} {C a dx : Addr} {sp : Sp} {dvs : List V} {fs : List (Str × V)} {i : Int} (e : H a = some (.ins C dx fs)) (h : sp ([.ref a, .int i] ++ dvs) H (fun v H' => ∃ k, v = .bl k ∧ Q v H') C8.E0) : rEqOI C sp dvs (.ref a) (.int i) H Q := ⟨a, dx, fs, i, rfl, rfl, e, h⟩
end Sl
set_option Elab.async false
set_option linter.all false
set_option maxRecDepth 100000
set_option maxHeartbeats 4000000
set_option exponentiation.threshold 9000
/-! readings: displays of one pair, tuple + tuple, list(range), dict of pairs -/
namespace Sl
open PySem L2 C8 StX PySem.Spec PyProof.Rows
section
variable {σ : L2.St} {H H' : Hp} {Q : VK} {te tk tv : TE} {K : PySem.W.Frag} {x y v : V} {P : Program} {w : World}
def rDisp1 (p : Addr) (Q : VK) (x y : V) (H2 : Hp) : Prop := H2 p = some (.dK []) ∧ ∃ kvs : List (Key × V), [(x, y)] = kvs.map (fun kv => (kV kv.1, kv.2)) ∧ kvs.length ≤ 15 ∧ Q (.ref p) (upd H2 p (.dK (mergeK [] kvs)))
theorem rd_disp1 (h : ∀ p H1, H p = none → Same H H1 → H1 p = some (.dK []) → tk σ H1 fun x H2 => tv σ H2 fun y H3 => rDisp1 p Q x y H3) : tDisp [(tk, tv)] σ H Q :=
  fun p hp => h p _ hp (Same.new (Same.refl H) hp) upd_same
theorem rd_d1 {p : Addr} {i : Int} {H2 : Hp} (e : H2 p = some (.dK [])) (h : ∀ H3, H3 = upd H2 p (.dK [(Sum.inl i, y)]) → H3 p = some (.dK [(Sum.inl i, y)]) → Q (.ref p) H3) : rDisp1 p Q (.int i) y H2 := ⟨e, [(Sum.inl i, y)], rfl, Nat.le_of_lt_succ (by decide : 1 < 16), h _ rfl upd_same⟩
def rDispB (P : Program) (w : World) (b : Bool) (p : Addr) (Q : VK) (y : V) (H2 : Hp) : Prop := H2 p = some (.dK []) ∧ ∀ o, BkOk P w p o b → Q (.ref p) (upd H2 p (BkO p o))
theorem rd_dispB {b : Bool} (h : ∀ p H1, H p = none → Same H H1 → H1 p = some (.dK []) → tv σ H1 fun y H2 => rDispB P w b p Q y H2) : tDispB P w b tv σ H Q :=
  fun p hp => h p _ hp (Same.new (Same.refl H) hp) upd_same
theorem rd_dB {b : Bool} {p : Addr} {H2 : Hp} (e : H2 p = some (.dK [])) (h : ∀ o H3, BkOk P w p o b → H3 = upd H2 p (BkO p o) → H3 p = some (BkO p o) → Q (.ref p) H3) : rDispB P w b p Q y H2 := ⟨e, fun o ok => h o _ ok rfl upd_same⟩
theorem rd_catA {a b : Addr} {xs ys : List V} (e1 : H a = some (.tup xs)) (e2 : H b = some (.tup ys)) (l : xs.length + ys.length ≤ 100000) (h : ∀ p H', Same H H' → H' p = some (.tup (xs ++ ys)) → Q (.ref p) H') : rCatA K (.ref a) (.ref b) H Q := by
  refine ⟨a, b, xs, ys, rfl, rfl, SqT.of e1, SqT.of e2, Nat.le_trans l (by decide), fun z => ?_, fun _ z => ?_, fun _ _ p hp => h p _ (Same.new (Same.refl H) hp) upd_same⟩
  · subst z; exact h b H (Same.refl H) e2
  · subst z; exact h a H (Same.refl H) (by rw [List.append_nil]; exact e1)
def rLstRg (Q : VK) (a b : Int) (H1 : Hp) : Prop := RgOk a b ∧ ∀ q, H1 q = none → Q (.ref q) (upd H1 q (.lst (rgV a b)))
theorem rd_listRg0 {tr : L2.St → Hp → (Int → Int → Hp → Prop) → Prop} (h : tr σ H fun a b H1 => rLstRg Q a b H1) : tLstRg tr σ H Q := h
end
end Sl
set_option Elab.async false
set_option linter.all false
set_option maxRecDepth 100000
set_option maxHeartbeats 4000000
set_option exponentiation.threshold 9000
/-! ### list(reversed(a list)) -/
namespace LiR
open PySem PySem.Spec PyProof.Rows RT
section
variable {prog : Program} {w : World} {A : Around} {s : Shared} {R : Result → Shared → Prop}
theorem extend_rev (hh : A.handled = none) {it l S : Addr} {items : Array Value} (res : Value) (c0 : Nat) (hit : s.heap.IsRevIter it l ((items.size : Int) - 1)) (hl : s.heap.IsList l items) (hne : l ≠ it) (hn : items.size ≤ sizeLine) (hS : s.heap.get? S = some { cls := Value.type "list", data := Data.seq #[] c0 }) (hSi : S ≠ it) (hSl : S ≠ l)
    (hR : ∀ (h' : Heap) (tk : Nat) (acc' : Array Value) (c' : Nat), (∀ (b : Addr) (o : Obj), b ≠ S → b ≠ it → s.heap.get? b = some o → h'.get? b = some o) → h'.get? S = some { cls := Value.type "list", data := Data.seq acc' c' } →
      ItemsOf (fun i v => items[items.size - 1 - i]? = some v) acc' items.size → R (.ok (.ret res)) { heap := h', gens := s.gens, drawn := s.drawn, toks := tk, os := s.os }) :
    wpAny (model prog w) A.in1 (Builtin.List.listExtendWith (.ref S) (.ref it) res) (fun fin s' => match fin with | .done f => R (.ok f) s' | .again c' => c'.quiet = true ∧ codeAny (model prog w) A c' R s') (fun e s' => R (.error e) s') s := by
  have W := Walks.toS (Walks.listRev (prog := prog) (w := w) (A := A.in1) hh it l hne items)
  have hT := hit.typeIs
  have h1 : Builtin.List.listSameRef (.ref S) (.ref it) = false := by simp [Builtin.List.listSameRef, hSi]
  unfold Builtin.List.listExtendWith
  refine wpAny_bind (wpAny_typeOf hT ?_)
  rw [if_neg (by rw [h1]; decide)]
  refine wpAny_bind (wpAny_pyIter_revIter hit (wpAny_bind (wpAny_holding ?_)))
  unfold Builtin.List.listLengthHint
  refine wpAny_bind (wpAny_specialOf hT nolen_lri ?_)
  refine wpAny_bind (wpAny_specialOf hT hint_lri ?_)
  have e1 : splitId "list_reverseiterator.__length_hint__" = some ("list_reverseiterator", "__length_hint__") := by decide +kernel
  simp only [e1]
  have f5 : isSubtype (.type "list_reverseiterator") (.type "list_reverseiterator") = pure true := by rw [isSubtype_type]; kernel_rfl
  refine wpAny_bind ?_
  iterate 6 (any_goals (first | assumption | wp_step))
  refine wpAny_pure ⟨plainId_quiet F.plain_extend_loop _, codeAny_extend_loopS W hn S (by simp [hSi, hSl]) res items.size 0 s #[] c0 (Nat.sub_zero _) (Nat.zero_le _) ⟨Nat.zero_le _, by simpa using hit, hl⟩ hS ?_ fun s' acc' c' mv hS' hacc => ?_⟩
  · exact ⟨rfl, fun j v h => by simp at h⟩
  · obtain ⟨hp, g, d, tk, os⟩ := s'
    obtain ⟨m1, m2, m3, m4, m5⟩ := mv
    have m2 : g = s.gens := m2
    have m3 : d = s.drawn := m3
    have m4 : os = s.os := m4
    subst m2 m3 m4
    exact hR hp tk acc' c' (fun b o h1 h2 => m1 b o (by simp [h1, h2])) hS' hacc
theorem list_init_rev (hh : A.handled = none) {it l S : Addr} {items : Array Value} (hit : s.heap.IsRevIter it l ((items.size : Int) - 1)) (hl : s.heap.IsList l items) (hne : l ≠ it) (hn : items.size ≤ sizeLine) (hS : s.heap.get? S = some { cls := Value.type "list", data := Data.seq #[] }) (hSi : S ≠ it) (hSl : S ≠ l)
    (hR : ∀ (h' : Heap) (tk : Nat) (acc' : Array Value) (c' : Nat), (∀ (b : Addr) (o : Obj), b ≠ S → b ≠ it → s.heap.get? b = some o → h'.get? b = some o) → h'.get? S = some { cls := Value.type "list", data := Data.seq acc' c' } →
      ItemsOf (fun i v => items[items.size - 1 - i]? = some v) acc' items.size → R (.ok (.ret .none)) { heap := h', gens := s.gens, drawn := s.drawn, toks := tk, os := s.os }) :
    wpAny (model prog w) A.in1 (Builtin.«list.__init__» { pos := [.ref S, .ref it] }) (fun fin s' => match fin with | .done f => R (.ok f) s' | .again c' => c'.quiet = true ∧ codeAny (model prog w) A c' R s') (fun e s' => R (.error e) s') s := by
  refine wpAny_bind ?_
  refine wpAny_bind (wpAny_seqItems hS rfl (wpAny_pure ?_))
  refine wpAny_bind (wpAny_updateSeq hS rfl ?_ (by rw [sizeLine_eq]; simp) (by rw [sizeLine_eq]; simp))
  have hS₂ := Heap.get?_update_self (Obj.mapSeq fun x => #[]) hS rfl
  have oth : ∀ b o, b ≠ S → s.heap.get? b = some o → (s.heap.update S (Obj.mapSeq fun x => #[])).get? b = some o := fun b o hb e => (Heap.get?_update_other s.heap (Obj.mapSeq fun x => #[]) (Ne.symm hb)).trans e
  refine wpAny_bind (wpAny_letGo ?_)
  obtain ⟨oi, hoi, r1⟩ := id hit
  obtain ⟨ol, hol, r2⟩ := id hl
  refine extend_rev (s := { s with heap := s.heap.update S (Obj.mapSeq fun x => #[]) }) hh (it := it) (l := l) .none _ ⟨oi, oth _ _ hSi.symm hoi, r1⟩ ⟨ol, oth _ _ hSl.symm hol, r2⟩ hne hn hS₂ hSi hSl fun h' tk acc' c' k1 k2 k3 => ?_
  exact hR h' tk acc' c' (fun b o h1 h2 e => k1 b o h1 h2 (oth b o h1 e)) k2 k3
theorem call_list_rev {E : Value → Shared → Prop} {Q : Value → Shared → Prop} (hh : A.handled = none) {it l : Addr} {items : Array Value} (hit : s.heap.IsRevIter it l ((items.size : Int) - 1)) (hl : s.heap.IsList l items) (hne : l ≠ it) (hn : items.size ≤ sizeLine)
    (hQ : ∀ (h' : Heap) (tk : Nat) (acc' : Array Value) (c' : Nat), (∀ (b : Addr) (o : Obj), b ≠ it → s.heap.get? b = some o → h'.get? b = some o) → h'.get? s.heap.objs.size = some { cls := Value.type "list", data := Data.seq acc' c' } →
      ItemsOf (fun i v => items[items.size - 1 - i]? = some v) acc' items.size → Q (.ref s.heap.objs.size) { heap := h', gens := s.gens, drawn := s.drawn, toks := tk, os := s.os }) :
    wpAny (model prog w) A (call (.type "list") [.ref it]) Q E s := by
  refine callType_codes (Q₁ := fun obj s₁ => obj = .ref s.heap.objs.size ∧ s₁ = { s with heap := s.heap.push { cls := Value.type "list", data := Data.seq #[] } }) F.called_list (F.typeCall_list_1 (.ref it)) F.entry_list_init (code_list_new (.ref it) ⟨rfl, rfl⟩) fun obj s₁ h₁ => ?_
  obtain ⟨e1, e2⟩ := h₁
  subst e1 e2
  obtain ⟨oi, hoi, r1⟩ := id hit
  obtain ⟨ol, hol, r2⟩ := id hl
  have hS : (s.heap.push { cls := Value.type "list", data := Data.seq #[] }).get? s.heap.objs.size = some { cls := Value.type "list", data := Data.seq #[] } := Heap.get?_push_size s.heap rfl
  have kp : ∀ b o, s.heap.get? b = some o → (s.heap.push { cls := Value.type "list", data := Data.seq #[] }).get? b = some o := fun b o e => Heap.get?_push_of_some _ e
  refine ⟨⟨_, hS, rfl⟩, F.args_list_init_2 _ _, list_init_rev (A := A.in1) (R := wants (fun r s₂ => r = Value.none ∧ Q (.ref s.heap.objs.size) s₂) E) (s := { s with heap := s.heap.push { cls := Value.type "list", data := Data.seq #[] } }) hh (it := it) (l := l) ⟨oi, kp _ _ hoi, r1⟩ ⟨ol, kp _ _ hol, r2⟩ hne hn hS (Nat.ne_of_gt (Heap.lt_size hoi)) (Nat.ne_of_gt (Heap.lt_size hol)) fun h' tk acc' c' k1 k2 k3 => ⟨rfl, hQ h' tk acc' c' (fun b o h1 e => k1 b o (Nat.ne_of_lt (Heap.lt_size e)) h1 (kp b o e)) k2 k3⟩⟩
end
end LiR
namespace L2
open PySem PySem.Spec PyProof.Rows RT
def rLstRev (K : PySem.W.Frag) (v : V) (H1 : Hp) (Q : VK) : Prop := ∃ (a : Addr) (xs : List V), v = .ref a ∧ SqL K H1 a xs ∧ ∀ q, H1 q = none → Q (.ref q) (upd H1 q (.lst xs.reverse))
/-- list(reversed(x)), x a list -/
def tLstRev (K : PySem.W.Frag) (te : TE) : TE := fun σ H Q => te σ H fun v H1 => ∃ (a : Addr) (xs : List V), v = .ref a ∧ SqL K H1 a xs ∧ ∀ q, H1 q = none → Q (.ref q) (upd H1 q (.lst xs.reverse))
theorem pe_lstRev {X : Cx} {e : Expr} {te : TE} {p p2 pos pos2 : Pos} (hc : X.calm = true) (hg : Gl X "list") (hm : X.mg "list" = none) (hg2 : Gl X "reversed") (hm2 : X.mg "reversed" = none) (he : PE X e te)
    (hs : starEach [e] X.env = (false, eval e X.env) :: starEach [] X.env := by rfl)
    (hs2 : starEach [.Call (.Name "reversed" p2) [e] [] pos2] X.env = (false, eval (.Call (.Name "reversed" p2) [e] [] pos2) X.env) :: starEach [] X.env := by rfl) :
    PE X (.Call (.Name "list" p) [.Call (.Name "reversed" p2) [e] [] pos2] [] pos) (tLstRev X.K te) := by
  refine ⟨fun pins s σ H Q I h => ?_⟩
  refine Call_ (ld_blt I hg hm (show bootBuiltins "list" = some (.type "list") from by decide +kernel) (PyProof.Rows.callWith_type1 (args_cons (Call_ (ld_blt I hg2 hm2 PyProof.Rows.boot_reversed (PyProof.Rows.callWith_type1 (args_cons (thn (he.run pins s σ H _ I h) fun u s1 ⟨v, H1, I1, r1, q1⟩ => args_nil ?_) hs) hs rfl))) hs2) hs2 rfl))
  obtain ⟨a, xs, ev, hq, q⟩ := q1
  subst ev
  obtain rfl : u = Value.ref a := r1
  obtain ⟨its, rv, p', hz⟩ := I1.list hq
  refine call_reversed_list p'.isList (args_nil ?_)
  have hlist := p'.isList
  obtain ⟨ol, hol, hl2⟩ := id hlist
  have hne : a ≠ s1.heap.objs.size := Nat.ne_of_lt (Heap.lt_size hol)
  have lz : its.length = xs.length := rv.length.symm
  refine LiR.call_list_rev (s := { s1 with heap := s1.heap.push (revObj a ((its.toArray.size : Int) - 1)) }) (I1.ok.hd hc) (it := s1.heap.objs.size) (l := a) (items := its.toArray) ⟨_, Heap.get?_push_size _ rfl, rfl, ?_⟩ (hlist.push _) hne (by rw [List.size_toArray, lz]; exact hz) fun h' tk acc' c' k1 k2 k3 => ?_
  · rfl
  · have k0 : ∀ b o, s1.heap.get? b = some o → h'.get? b = some o := fun b o e => k1 b o (Nat.ne_of_lt (Heap.lt_size e)) (Heap.get?_push_of_some _ e)
    have hge : s1.heap.objs.size ≤ (s1.heap.push (revObj a ((its.toArray.size : Int) - 1))).objs.size := by simp [Heap.push]
    have eacc : acc'.toList = its.reverse := by
      obtain ⟨z1, z2⟩ := k3
      have z1 : acc'.size = its.length := z1
      refine List.ext_getElem? fun j => ?_
      by_cases c : j < its.length
      · have hj : j < acc'.size := by omega
        have := z2 j acc'[j] (by simp [hj])
        have e1 : its[its.length - 1 - j]? = some acc'[j] := by simpa using this
        rw [Array.getElem?_toList, List.getElem?_reverse c, e1]
        simp [hj]
      · rw [List.getElem?_eq_none (by rw [Array.length_toList]; omega), List.getElem?_eq_none (by rw [List.length_reverse]; omega)]
    refine ⟨.ref _, upd H1 _ (.lst xs.reverse), I1.laid (t' := tk) k0 hge (show ObjOk X.prog X.w _ _ _ (.lst xs.reverse) from ⟨by rw [List.length_reverse]; exact hz, its.reverse, c', rv.reverse, ?_⟩), rfl, q _ (I1.hok.fresh hge)⟩
    rw [← eacc]
    exact k2
end L2
namespace Sl
open PySem L2 C8 StX
theorem rd_lstRev0 {te : TE} {σ : L2.St} {H : Hp} {Q : VK} {K : PySem.W.Frag} (h : te σ H fun v H1 => rLstRev K v H1 Q) : tLstRev K te σ H Q := h
theorem rd_lstRev {H : Hp} {Q : VK} {K : PySem.W.Frag} {a : Addr} {xs : List V} (e : SqL K H a xs) (h : ∀ q H', H q = none → Same H H' → H' q = some (.lst xs.reverse) → Q (.ref q) H') : rLstRev K (.ref a) H Q := ⟨a, xs, rfl, e, fun q hq => h q _ hq (Same.new (Same.refl H) hq) upd_same⟩
end Sl
set_option Elab.async false
set_option linter.all false
set_option maxRecDepth 100000
set_option maxHeartbeats 4000000
/-! max of a tuple of ints -/
namespace L2
open PySem PySem.Spec PyProof.Rows RT
def rMaxT (K : PySem.W.Frag) : List V → Hp → VK → Prop := fun vs H Q => ∃ (a : Addr) (ns : List Int), vs = [V.ref a] ∧ SqT K H a (ns.map V.int) ∧ 0 < ns.length ∧ ∀ m, m ∈ ns → (∀ y, y ∈ ns → y ≤ m) → Q (.int m) H
theorem cmp_gt_ints {prog : Program} {w : World} {A : Around} {its : List Value} {ns : List Int} (h : Vals (ns.map V.int) its) : CmpOf prog w A CmpOp.Gt (fun i v => its.toArray[i]? = some v) (fun i j => decide (ns.getD i 0 > ns.getD j 0)) := by
  have key : ∀ i v, its.toArray[i]? = some v → ∃ t, v = Value.int (ns.getD i 0) t := by
    intro i v hv
    have hv : its[i]? = some v := by simpa using hv
    have hi := (List.getElem?_eq_some_iff.mp hv).1
    have hl := h.length
    rw [List.length_map] at hl
    cases e : ns[i]? with
    | none =>
      have := List.getElem?_eq_none_iff.mp e
      omega
    | some n =>
      obtain ⟨u, hu, rx⟩ := Vals.get h (i := i) (x := V.int n) (by rw [List.getElem?_map, e]; rfl)
      rw [hv] at hu
      cases hu
      obtain ⟨t, rfl⟩ := rx
      refine ⟨t, ?_⟩
      rw [List.getD_eq_getElem?_getD, e]
      rfl
  intro i j vi vj s Q E h1 h2 hq
  obtain ⟨t1, rfl⟩ := key i vi h1
  obtain ⟨t2, rfl⟩ := key j vj h2
  have ht : ∀ bb, (Made.val (Value.bool bb)).takes := fun bb => by cases bb <;> (unfold Made.takes; simp)
  exact richCompare_gives (T := "int") rfl rfl F.slot_int_gt F.entry_int_gt (F.args_int_gt_2 _ _) (gives_int_gt _ _ _ _) (ht _) hq
theorem cr_maxT {X : Cx} (hc : X.calm = true) : CallR X (.builtin "max") (rMaxT X.K) := by
  intro pins s σ H xs us Q I r h
  obtain ⟨a, ns, rfl, hs, hne, q⟩ := h
  have e1 := Vals.ref1 r
  subst e1
  obtain ⟨its, rv, hl, hz⟩ := I.tuple hs
  have lz : its.length = ns.length := by have := rv.length; rw [List.length_map] at this; exact this.symm
  obtain ⟨o, ho, hc2, n, hd⟩ := id hl
  refine call_max_walk (wpAny_pyIter_tuple ⟨o, ho, hc2, n, hd⟩ ?_)
  have hne2 : a ≠ s.heap.objs.size := Nat.ne_of_lt (Heap.lt_size ho)
  refine ⟨s.heap.objs.size, _, _, _, _, _, _, rfl, Walks.tuple (A := X.A.in1) (I.ok.hd hc) s.heap.objs.size a hne2 its.toArray, ⟨⟨_, Heap.get?_push_size _ rfl, rfl, rfl⟩, ⟨o, Heap.get?_push_of_some _ ho, hc2, n, hd⟩⟩, fun b hb => ?_, by rw [List.size_toArray, lz]; exact hne, cmp_gt_ints rv, fun v h' tk hP hk => ?_⟩
  · rcases List.mem_cons.mp hb with rfl | hb
    · simp [Heap.push]
    · rw [List.mem_singleton.mp hb]
      exact Nat.lt_of_lt_of_le (Heap.lt_size ho) (by simp [Heap.push])
  · have kp : ∀ b o, s.heap.get? b = some o → h'.get? b = some o := fun b o e => hk b o (fun z => by rw [List.mem_singleton.mp z] at e; exact absurd (Heap.lt_size e) (Nat.lt_irrefl _)) (Heap.get?_push_of_some _ e)
    obtain ⟨g1, g2⟩ := argBest_gt (fun i => ns.getD i 0) (its.toArray.size - 1)
    rw [List.size_toArray, lz] at g1 g2 hP
    generalize argBest (fun i j => decide (ns.getD i 0 > ns.getD j 0)) (ns.length - 1) = b at *
    have hb : b < ns.length := by omega
    obtain ⟨u, hu, t, rfl⟩ := Vals.get rv (i := b) (x := V.int ns[b]) (by rw [List.getElem?_map, List.getElem?_eq_getElem hb]; rfl)
    have hP : its[b]? = some v := by simpa using hP
    rw [hu] at hP
    cases hP
    refine ⟨.int ns[b], H, I.kept kp, ⟨t, rfl⟩, q ns[b] (List.getElem_mem hb) fun y hy => ?_⟩
    obtain ⟨j, hj, rfl⟩ := List.getElem_of_mem hy
    have := g2 j (by omega)
    have e1 : ns.getD j 0 = ns[j] := by rw [List.getD_eq_getElem?_getD, List.getElem?_eq_getElem hj]; rfl
    have e2 : ns.getD b 0 = ns[b] := by rw [List.getD_eq_getElem?_getD, List.getElem?_eq_getElem hb]; rfl
    rw [e1, e2] at this
    exact this
end L2
namespace Sl
open PySem L2 C8 StX
theorem rd_maxT {K : PySem.W.Frag} {H : Hp} {Q : VK} {a : Addr} {ns : List Int} (e : SqT K H a (ns.map V.int)) (l : 0 < ns.length) (h : ∀ m, m ∈ ns → (∀ y, y ∈ ns → y ≤ m) → Q (.int m) H) : rMaxT K [.ref a] H Q := ⟨a, ns, rfl, e, l, h⟩
end Sl
set_option linter.all false
namespace Silt
/-! ### stretches of keys -/
abbrev Iv := Int × Int
def inR (rs : List Iv) (k : Int) : Prop := ∃ r ∈ rs, r.1 ≤ k ∧ k ≤ r.2
def Canon (rs : List Iv) : Prop := (∀ r ∈ rs, r.1 ≤ r.2) ∧ rs.Pairwise (fun a b => a.2 + 1 < b.1)
theorem inR_nil (k : Int) : ¬ inR [] k := fun ⟨_, h, _⟩ => by cases h
theorem inR_cons {r : Iv} {rs : List Iv} {k : Int} : inR (r :: rs) k ↔ (r.1 ≤ k ∧ k ≤ r.2) ∨ inR rs k := by
  constructor
  · rintro ⟨x, hx, h⟩
    rcases List.mem_cons.mp hx with rfl | y
    · exact .inl h
    · exact .inr ⟨x, y, h⟩
  · rintro (h | ⟨x, hx, h⟩)
    · exact ⟨r, List.mem_cons_self, h⟩
    · exact ⟨x, List.mem_cons_of_mem _ hx, h⟩
theorem inR_app {rs ts : List Iv} {k : Int} : inR (rs ++ ts) k ↔ inR rs k ∨ inR ts k := by
  constructor
  · rintro ⟨x, hx, h⟩
    rcases List.mem_append.mp hx with y | y
    · exact .inl ⟨x, y, h⟩
    · exact .inr ⟨x, y, h⟩
  · rintro (⟨x, hx, h⟩ | ⟨x, hx, h⟩)
    · exact ⟨x, List.mem_append_left _ hx, h⟩
    · exact ⟨x, List.mem_append_right _ hx, h⟩
theorem inR_perm {rs ts : List Iv} (p : rs.Perm ts) (k : Int) : inR rs k ↔ inR ts k :=
  ⟨fun ⟨x, hx, h⟩ => ⟨x, p.mem_iff.mp hx, h⟩, fun ⟨x, hx, h⟩ => ⟨x, p.mem_iff.mpr hx, h⟩⟩
theorem Canon.nil : Canon [] := ⟨(fun r h => by cases h), List.Pairwise.nil⟩
theorem Canon.tail {r : Iv} {rs : List Iv} (h : Canon (r :: rs)) : Canon rs := ⟨fun x hx => h.1 x (List.mem_cons_of_mem _ hx), (List.pairwise_cons.mp h.2).2⟩
theorem Canon.head {r : Iv} {rs : List Iv} (h : Canon (r :: rs)) : r.1 ≤ r.2 ∧ ∀ x ∈ rs, r.2 + 1 < x.1 := ⟨h.1 r List.mem_cons_self, (List.pairwise_cons.mp h.2).1⟩
theorem Canon.above {r : Iv} {rs : List Iv} (h : Canon (r :: rs)) {k : Int} (hk : inR rs k) : r.2 + 1 < k := by
  obtain ⟨x, hx, h1, _⟩ := hk
  have := h.head.2 x hx
  omega
theorem canon_uniq : ∀ {a b : List Iv}, Canon a → Canon b → (∀ k, inR a k ↔ inR b k) → a = b
  | [], [], _, _, _ => rfl
  | [], r :: b, _, hb, h => by
    have := (h r.1).mpr ⟨r, List.mem_cons_self, Int.le_refl _, hb.head.1⟩
    exact absurd this (inR_nil _)
  | r :: a, [], ha, _, h => by
    have := (h r.1).mp ⟨r, List.mem_cons_self, Int.le_refl _, ha.head.1⟩
    exact absurd this (inR_nil _)
  | r :: a, t :: b, ha, hb, h => by
    have h1 := ha.head.1
    have h2 := hb.head.1
    have e1 : r.1 = t.1 := by
      have x := (h r.1).mp (inR_cons.mpr (.inl ⟨Int.le_refl _, h1⟩))
      have y := (h t.1).mpr (inR_cons.mpr (.inl ⟨Int.le_refl _, h2⟩))
      rcases inR_cons.mp x with x | x
      · rcases inR_cons.mp y with y | y
        · omega
        · have := ha.above y; omega
      · have := hb.above x
        rcases inR_cons.mp y with y | y
        · omega
        · have := ha.above y; omega
    have e2 : r.2 = t.2 := by
      rcases Int.lt_trichotomy r.2 t.2 with c | c | c
      · have x := (h (r.2 + 1)).mpr (inR_cons.mpr (.inl ⟨by omega, by omega⟩))
        rcases inR_cons.mp x with x | x
        · omega
        · have := ha.above x; omega
      · exact c
      · have x := (h (t.2 + 1)).mp (inR_cons.mpr (.inl ⟨by omega, by omega⟩))
        rcases inR_cons.mp x with x | x
        · omega
        · have := hb.above x; omega
    have e : r = t := Prod.ext e1 e2
    subst e
    rw [canon_uniq ha.tail hb.tail fun k => ?_]
    constructor
    · intro x
      have := ha.above x
      rcases inR_cons.mp ((h k).mp (inR_cons.mpr (.inr x))) with y | y
      · omega
      · exact y
    · intro x
      have := hb.above x
      rcases inR_cons.mp ((h k).mpr (inR_cons.mpr (.inr x))) with y | y
      · omega
      · exact y
theorem Canon.snoc {rs : List Iv} {r : Iv} (h : Canon rs) (h1 : r.1 ≤ r.2) (h2 : ∀ x ∈ rs, x.2 + 1 < r.1) : Canon (rs ++ [r]) := by
  refine ⟨fun x hx => ?_, ?_⟩
  · rcases List.mem_append.mp hx with y | y
    · exact h.1 x y
    · rw [List.mem_singleton.mp y]; exact h1
  · rw [List.pairwise_append]
    refine ⟨h.2, List.pairwise_singleton _ _, fun x hx y hy => ?_⟩
    rw [List.mem_singleton.mp hy]
    exact h2 x hx
theorem Canon.init {rs : List Iv} {r : Iv} (h : Canon (rs ++ [r])) : Canon rs ∧ r.1 ≤ r.2 ∧ ∀ x ∈ rs, x.2 + 1 < r.1 := by
  have h2 := List.pairwise_append.mp h.2
  exact ⟨⟨fun x hx => h.1 x (List.mem_append_left _ hx), h2.1⟩, h.1 r (by simp), fun x hx => h2.2.2 x hx r (by simp)⟩
/-- what is known when the next stretch does not touch -/
theorem join_new {f : List Iv} {r : Iv} (h : Canon f) (hr : r.1 ≤ r.2) (hl : ∀ t ∈ f, t.1 ≤ r.1) (hn : ∀ t ∈ f, t.2 + 1 < r.1) : Canon (f ++ [r]) ∧ (∀ k, inR (f ++ [r]) k ↔ inR f k ∨ (r.1 ≤ k ∧ k ≤ r.2)) ∧ ∀ t ∈ f ++ [r], t.1 ≤ r.1 := by
  refine ⟨h.snoc hr hn, fun k => ?_, fun t ht => ?_⟩
  · rw [inR_app, inR_cons]
    exact ⟨fun x => x.elim .inl fun y => y.elim .inr fun z => absurd z (inR_nil k), fun x => x.elim .inl fun y => .inr (.inl y)⟩
  · rcases List.mem_append.mp ht with y | y
    · exact hl t y
    · rw [List.mem_singleton.mp y]; exact Int.le_refl _
/-- .. and when it touches the last one -/
theorem join_last {f : List Iv} {t r : Iv} (h : Canon (f ++ [t])) (hr : r.1 ≤ r.2) (hl : ∀ x ∈ f ++ [t], x.1 ≤ r.1) (c : r.1 ≤ t.2 + 1) : Canon (f ++ [(t.1, max t.2 r.2)]) ∧ (∀ k, inR (f ++ [(t.1, max t.2 r.2)]) k ↔ inR (f ++ [t]) k ∨ (r.1 ≤ k ∧ k ≤ r.2)) ∧ ∀ x ∈ f ++ [(t.1, max t.2 r.2)], x.1 ≤ r.1 := by
  obtain ⟨h1, h2, h3⟩ := h.init
  have ht := hl t (by simp)
  refine ⟨h1.snoc (by show t.1 ≤ max t.2 r.2; omega) (fun x hx => h3 x hx), fun k => ?_, fun x hx => ?_⟩
  · rw [inR_app, inR_app, inR_cons, inR_cons]
    have := inR_nil k
    constructor
    · rintro (x | x | x)
      · exact .inl (.inl x)
      · have x : t.1 ≤ k ∧ k ≤ max t.2 r.2 := x
        by_cases z : k ≤ t.2
        · exact .inl (.inr (.inl ⟨x.1, z⟩))
        · exact .inr ⟨by omega, by omega⟩
      · exact absurd x this
    · rintro ((x | x | x) | x)
      · exact .inl x
      · exact .inr (.inl ⟨x.1, by show k ≤ max t.2 r.2; omega⟩)
      · exact absurd x this
      · exact .inr (.inl ⟨by show t.1 ≤ k; omega, by show k ≤ max t.2 r.2; omega⟩)
  · rcases List.mem_append.mp hx with y | y
    · exact hl x (List.mem_append_left _ y)
    · rw [List.mem_singleton.mp y]; exact ht
/-- within a stretch: what stands ahead of first, without the keys -/
structure Cut (base : List Iv) (keys : Int → Prop) (lo first : Int) (f : List Iv) : Prop where
  can : Canon f
  gap : ∀ t ∈ f, t.2 + 1 < first
  mem : ∀ k, inR f k ↔ inR base k ∨ (lo ≤ k ∧ k < first ∧ ¬ keys k)
theorem Cut.start {base : List Iv} {keys : Int → Prop} {lo : Int} (h : Canon base) (g : ∀ t ∈ base, t.2 + 1 < lo) : Cut base keys lo lo base :=
  ⟨h, g, fun k => ⟨.inl, fun x => x.elim id fun ⟨a, b, _⟩ => by omega⟩⟩
/-- the next key lies right there -/
theorem Cut.skip {base f : List Iv} {keys : Int → Prop} {lo first : Int} (h : Cut base keys lo first f) (hk : keys first) : Cut base keys lo (first + 1) f := by
  refine ⟨h.can, fun t ht => by have := h.gap t ht; omega, fun k => (h.mem k).trans ⟨fun x => x.elim .inl fun ⟨a, b, c⟩ => .inr ⟨a, by omega, c⟩, fun x => x.elim .inl fun ⟨a, b, c⟩ => ?_⟩⟩
  by_cases z : k = first
  · rw [z] at c; exact absurd hk c
  · exact .inr ⟨a, by omega, c⟩
/-- .. or further up -/
theorem Cut.piece {base f : List Iv} {keys : Int → Prop} {lo first key : Int} (h : Cut base keys lo first f) (hl : lo ≤ first) (c : first < key) (hn : ∀ k, first ≤ k → k < key → ¬ keys k) (hk : keys key) : Cut base keys lo (key + 1) (f ++ [(first, key - 1)]) := by
  refine ⟨h.can.snoc (by show first ≤ key - 1; omega) (fun x hx => h.gap x hx), fun t ht => ?_, fun k => ?_⟩
  · rcases List.mem_append.mp ht with y | y
    · have := h.gap t y; omega
    · rw [List.mem_singleton.mp y]; show key - 1 + 1 < key + 1; omega
  · rw [inR_app, inR_cons, h.mem k]
    have := inR_nil k
    constructor
    · rintro ((x | ⟨a, b, d⟩) | x | x)
      · exact .inl x
      · exact .inr ⟨a, by omega, d⟩
      · have x : first ≤ k ∧ k ≤ key - 1 := x
        exact .inr ⟨by omega, by omega, hn k x.1 (by omega)⟩
      · exact absurd x this
    · rintro (x | ⟨a, b, d⟩)
      · exact .inl (.inl x)
      · by_cases z : k < first
        · exact .inl (.inr ⟨a, z, d⟩)
        · by_cases y : k = key
          · rw [y] at d; exact absurd hk d
          · exact .inr (.inl ⟨by show first ≤ k; omega, by show k ≤ key - 1; omega⟩)
/-- behind the last key -/
theorem Cut.done {base f : List Iv} {keys : Int → Prop} {lo first hi : Int} (h : Cut base keys lo first f) (hl : lo ≤ first) (hf : first ≤ hi + 1) (hn : ∀ k, first ≤ k → k ≤ hi → ¬ keys k) :
    ∃ f', f' = (if first ≤ hi then f ++ [(first, hi)] else f) ∧ Canon f' ∧ (∀ t ∈ f', t.2 ≤ hi) ∧ ∀ k, inR f' k ↔ inR base k ∨ (lo ≤ k ∧ k ≤ hi ∧ ¬ keys k) := by
  refine ⟨_, rfl, ?_⟩
  by_cases c : first ≤ hi
  · rw [if_pos c]
    refine ⟨h.can.snoc c (fun x hx => h.gap x hx), fun t ht => ?_, fun k => ?_⟩
    · rcases List.mem_append.mp ht with y | y
      · have := h.gap t y; omega
      · rw [List.mem_singleton.mp y]; exact Int.le_refl _
    · rw [inR_app, inR_cons, h.mem k]
      have := inR_nil k
      constructor
      · rintro ((x | ⟨a, b, d⟩) | x | x)
        · exact .inl x
        · exact .inr ⟨a, by omega, d⟩
        · have x : first ≤ k ∧ k ≤ hi := x
          exact .inr ⟨by omega, x.2, hn k x.1 x.2⟩
        · exact absurd x this
      · rintro (x | ⟨a, b, d⟩)
        · exact .inl (.inl x)
        · by_cases z : k < first
          · exact .inl (.inr ⟨a, z, d⟩)
          · exact .inr (.inl ⟨by show first ≤ k; omega, b⟩)
  · rw [if_neg c]
    refine ⟨h.can, fun t ht => by have := h.gap t ht; omega, fun k => (h.mem k).trans ⟨fun x => x.elim .inl fun ⟨a, b, d⟩ => .inr ⟨a, by omega, d⟩, fun x => x.elim .inl fun ⟨a, b, d⟩ => .inr ⟨a, by omega, d⟩⟩⟩
/-- keys within stretches that do not touch: not more than there are keys -/
def within (keys : List Int) (r : Iv) : List Int := keys.filter fun k => decide (r.1 ≤ k ∧ k ≤ r.2)
theorem within_sum : ∀ {rs : List Iv}, Canon rs → ∀ keys : List Int, (rs.map fun r => (within keys r).length).sum ≤ (keys.filter fun k => rs.any fun r => decide (r.1 ≤ k ∧ k ≤ r.2)).length
  | [], _, keys => by simp
  | r :: rs, h, keys => by
    have ih := within_sum h.tail keys
    rw [List.map_cons, List.sum_cons]
    have : (within keys r).length + (keys.filter fun k => rs.any fun r => decide (r.1 ≤ k ∧ k ≤ r.2)).length ≤ (keys.filter fun k => (r :: rs).any fun r => decide (r.1 ≤ k ∧ k ≤ r.2)).length := by
      clear ih
      unfold within
      induction keys with
      | nil => simp
      | cons k ks ih2 =>
        by_cases c : r.1 ≤ k ∧ k ≤ r.2
        · have hn : (rs.any fun r => decide (r.1 ≤ k ∧ k ≤ r.2)) = false := by
            rw [List.any_eq_false]
            intro x hx
            have := h.head.2 x hx
            rw [decide_eq_true_iff]
            omega
          rw [List.filter_cons, List.filter_cons, List.filter_cons, if_pos (decide_eq_true c), if_neg (by rw [hn]; decide), if_pos (by rw [List.any_cons, decide_eq_true c]; rfl), List.length_cons, List.length_cons]
          omega
        · have e : ((r :: rs).any fun r => decide (r.1 ≤ k ∧ k ≤ r.2)) = (rs.any fun r => decide (r.1 ≤ k ∧ k ≤ r.2)) := by rw [List.any_cons, decide_eq_false c]; rfl
          rw [List.filter_cons, List.filter_cons, List.filter_cons, if_neg (by rw [decide_eq_false c]; decide), e]
          cases (rs.any fun r => decide (r.1 ≤ k ∧ k ≤ r.2))
          · exact ih2
          · rw [if_pos rfl, if_pos rfl, List.length_cons, List.length_cons]
            omega
    omega
theorem within_le {rs : List Iv} (h : Canon rs) (keys : List Int) : (rs.map fun r => (within keys r).length).sum ≤ keys.length := Nat.le_trans (within_sum h keys) (List.length_filter_le _ _)
end Silt
set_option Elab.async false
set_option linter.all false
set_option maxRecDepth 100000
set_option maxHeartbeats 4000000
set_option exponentiation.threshold 9000
namespace StarRg
open PySem PyProof.Rows PyProof L2
/-! ### f(.., *range(a, b), ..) and [.., *range(a, b), ..] -/
theorem code_collect_range {prog : Program} {w : World} {A : Around} {R : Result → Shared → Prop} {s : Shared} {r : Addr} {a b c : Int} {t u v : Tok} {n : Nat} (hh : A.handled = none) (hr : IsRange s.heap r a b c t u v) (hs : Builtin.Range.small a b c = true) (hz : Builtin.Range.rangeSize a b c = ↑n) (hn : n ≤ 2^24)
    (h : ∀ (h' : Heap) (tk : Nat) (L : Addr) (acc : Array Value) (c' : Nat), (∀ b o, s.heap.get? b = some o → h'.get? b = some o) → h'.get? L = some { cls := .type "list", data := .seq acc c' } → ItemsOf (fun i v => ∃ t, v = .int (a + (i : Int) * c) t) acc n → R (.ok (.ret (.ref L))) { s with heap := h', toks := tk }) :
    codeAny (model prog w) A (.builtin "proto.collect" { pos := [.ref r] }) R s := by
  refine codeAny_builtin entry_proto_collect' ?_
  refine wpAny_bind (wpAny_newList ?_)
  refine wpAny_pure ?_
  refine ⟨plainId_quiet (by decide +kernel) _, codeAny_builtin entry_list_iadd' ?_⟩
  have e : A.under (Code.builtin "list.__iadd__" { pos := [Value.ref s.heap.objs.size, Value.ref r] }) = A.in1 := by rfl
  rw [e]
  unfold Builtin.«list.__iadd__»
  refine wpAny_bind ?_
  unfold slotArgs
  refine wpAny_pure ?_
  have hS : ({ s with heap := s.heap.push { cls := Value.type "list", data := Data.seq (List.toArray []) } } : Shared).heap.get? s.heap.objs.size = some { cls := Value.type "list", data := Data.seq #[] 0 } := Heap.get?_push_size _ rfl
  show wpAny _ _ (Builtin.List.listExtendWith (.ref s.heap.objs.size) (.ref r) (.ref s.heap.objs.size)) _ _ _
  refine wpAny_extend_range (R := R) (s := { s with heap := s.heap.push { cls := Value.type "list", data := Data.seq (List.toArray []) } }) hh (Heap.get?_push_of_some _ hr) hs hz hn s.heap.objs.size _ 0 hS fun h' tk acc' c' kp hS' it => ?_
  exact h h' tk s.heap.objs.size acc' c' (fun b o e => kp b o (Nat.ne_of_lt (Heap.lt_size e)) (Heap.get?_push_of_some _ e)) hS' it
theorem collect_range {prog : Program} {w : World} {A : Around} {E : Value → Shared → Prop} {s : Shared} {r : Addr} {a b c : Int} {t u v : Tok} {n : Nat} {Q : List Value → Shared → Prop} (hh : A.handled = none) (hr : IsRange s.heap r a b c t u v) (hs : Builtin.Range.small a b c = true) (hz : Builtin.Range.rangeSize a b c = ↑n) (hn : n ≤ 2^24)
    (h : ∀ (h' : Heap) (tk : Nat) (acc : Array Value), (∀ b o, s.heap.get? b = some o → h'.get? b = some o) → ItemsOf (fun i v => ∃ t, v = .int (a + (i : Int) * c) t) acc n → Q acc.toList { s with heap := h', toks := tk }) : wpAny (model prog w) A (collect (.ref r)) Q E s := by
  unfold collect
  refine wpAny_bind (wpAny_runValue (code_collect_range hh hr hs hz hn fun h' tk L acc c' kp hL it => ?_))
  exact wpAny_bind (wpAny_load hL (wpAny_pure (h h' tk acc kp it)))
theorem notIter_range {prog : Program} {w : World} {A : Around} {E : Value → Shared → Prop} {s : Shared} {r : Addr} {a b c : Int} {t u v : Tok} {Q : Bool → Shared → Prop} (hr : IsRange s.heap r a b c t u v) (h : Q false s) : wpAny (model prog w) A (notIterableAtAll (.ref r)) Q E s := by
  unfold notIterableAtAll
  refine wpAny_bind (wpAny_specialOf (T := "range") ⟨_, hr, rfl⟩ (r := some (.builtin "range.__iter__")) (by rfl) ?_)
  exact wpAny_pure h
theorem rg_fits {a b : Int} (h : RgOk a b) : Builtin.Range.small a b 1 = true ∧ Builtin.Range.rangeSize a b 1 = (((b - a).toNat : Nat) : Int) := by
  obtain ⟨h1, h2, h3, h4, h5⟩ := h
  have e : Builtin.Range.rangeSize a b 1 = (((b - a).toNat : Nat) : Int) := by
    unfold Builtin.Range.rangeSize
    rw [if_pos (by decide)]
    split <;> omega
  refine ⟨?_, e⟩
  unfold Builtin.Range.small
  rw [e]
  simp only [Builtin.Range.rangeFitsLong, Bool.and_eq_true, Bool.or_eq_true, decide_eq_true_eq, beq_iff_eq]
  rw [if_pos (by decide)]
  simp only [decide_eq_true_eq, Bool.and_eq_true]
  omega
theorem rg_vals {a : Int} : ∀ (l : List Value) (k : Nat), (∀ (j : Nat) v, l[j]? = some v → ∃ t, v = .int (a + ((k + j : Nat) : Int)) t) → Vals ((List.range' k l.length).map fun (i : Nat) => V.int (a + (i : Int))) l
  | [], _, _ => .nil
  | v :: l, k, h => by
    obtain ⟨t, rfl⟩ := h 0 v rfl
    refine .cons ⟨t, rfl⟩ ?_
    refine rg_vals l (k + 1) fun j v hv => ?_
    obtain ⟨t2, e⟩ := h (j + 1) v (by simpa using hv)
    exact ⟨t2, by rw [e, show k + (j + 1) = k + 1 + j by omega]⟩
section
variable {X : Cx}
def tStarRg (te : L2.St → Hp → (Int → Int → Hp → Prop) → Prop) (t : TA) : TA := fun σ H Q => te σ H fun a b H1 => RgOk a b ∧ t σ H1 fun ys H2 => Q (rgV a b ++ ys) H2
theorem pa_starRg (hc : X.calm = true) {e : Expr} {es : List Expr} {te : L2.St → Hp → (Int → Int → Hp → Prop) → Prop} {t : TA} {p : Pos} (he : PRg X e te) (h : PA X es t) (hs : starEach (e.Starred p :: es) X.env = (true, eval e X.env) :: starEach es X.env := by rfl) : PA X (e.Starred p :: es) (tStarRg te t) := by
  refine ⟨fun pos pins s σ H Q I k => ?_⟩
  rw [hs]
  show wpAny _ _ (spliced ((true, do let v ← eval e X.env; standAt pos; pure v) :: backTo pos (starEach es X.env))) _ _ _
  rw [spliced]
  refine wpAny_bind (wpAny_bind (wpAny_mono (he pins s σ H _ I k) (fun v s1 z => ?_) (fun _ _ z => z)))
  obtain ⟨r, a, b, t1, u, v1, H', rfl, hr, I1, ok, k1⟩ := z
  refine wpAny_bind (wpAny_standAt (wpAny_pure ?_))
  dsimp only
  rw [if_pos rfl]
  refine wpAny_bind (notIter_range hr ?_)
  rw [if_neg Bool.false_ne_true]
  have hh := I.ok.hd hc
  have fit := rg_fits ok
  refine wpAny_bind (collect_range hh hr fit.1 fit.2 ok.2.2.2.2 fun h' tk acc kp it => ?_)
  have hv : Vals (rgV a b) acc.toList := by
    have := rg_vals (a := a) acc.toList 0 fun j v hv => by
      obtain ⟨t, e⟩ := it.2 j v (by rw [← hv]; simp)
      exact ⟨t, by rw [e, Int.mul_one, Nat.zero_add]⟩
    rw [Array.length_toList, it.1, ← List.range_eq_range'] at this
    exact this
  refine wpAny_bind (wpAny_holding (wpAny_mono (h.run pos pins _ σ H' _ (I1.kept kp) k1) (fun ws s2 z => ?_) (fun _ _ z => z)))
  obtain ⟨vs, H2, I2, r2, q⟩ := z
  exact wpAny_pure ⟨rgV a b ++ vs, H2, I2, hv.append r2, q⟩
theorem rd_starRg {te : L2.St → Hp → (Int → Int → Hp → Prop) → Prop} {t : TA} {σ : L2.St} {H : Hp} {Q : List V → Hp → Prop} (h : te σ H fun a b H1 => RgOk a b ∧ t σ H1 fun ys H2 => Q (rgV a b ++ ys) H2) : tStarRg te t σ H Q := h
end
end StarRg
set_option Elab.async false
set_option linter.all false
set_option maxRecDepth 100000
set_option maxHeartbeats 4000000
set_option exponentiation.threshold 9000
namespace SortD
open PySem PyProof.Rows PyProof L2 C8
/-! ### sorted(xs, key=f), f a def of the program whose answers hold lists that the sort leaves alone -/
/-- what is told of a key: as long as all but the store of keys stands -/
def KeyR (kS : Addr) (h : Heap) (u : Value) (k : PyData) : Prop := ∀ h'' : Heap, (∀ b o, b ≠ kS → h.get? b = some o → h''.get? b = some o) → ∃ as, Reads h'' u k as
theorem each_take_read {kS : Addr} {h : Heap} {ks : List Value} {kz : List PyData} (e : W.EachIs (KeyR kS h) ks kz) : W.EachIs (fun v k => ∃ as, Reads h v k as) ks kz := by
  induction e with
  | nil => exact .nil
  | cons r _ ih => exact .cons (r h fun _ _ _ z => z) ih
theorem each_mono {kS : Addr} {h h' : Heap} {ks : List Value} {kz : List PyData} (kp : ∀ b o, b ≠ kS → h.get? b = some o → h'.get? b = some o) (e : W.EachIs (KeyR kS h) ks kz) : W.EachIs (KeyR kS h') ks kz := by
  induction e with
  | nil => exact .nil
  | cons r _ ih => exact .cons (fun h'' k2 => r h'' fun b o n z => k2 b o n (kp b o n z)) ih
section
variable {prog : Program} {w : World} {A : Around} {E : Value → Shared → Prop} {s : Shared}
theorem rest {a kS : Addr} {b : Bool} {vs : List Value} {e1 : Nat} {P : Fin → Shared → Prop} {kz : List PyData} {f : Value} {h₁ : Heap} (KB : W.KeepsBut a h₁ s.heap) (hk : h₁.get? kS = none) (ek : s.heap.get? kS = some (seqObj "list" #[] 0)) (ea : s.heap.get? a = some (seqObj "list" #[] e1)) (ne : kS ≠ a) (hl : kz.length = vs.length) (sz : vs.length ≤ sizeLine)
    (AA : W.AllAlike kz) (SS : W.Sortable kz) (dp : ∀ d ∈ kz, A.units + d.depth < cLine)
    (key : ∀ (i : Nat) v k, vs[i]? = some v → kz[i]? = some k → ∀ (h : Heap) (tk : Nat), W.KeepsBut a h₁ h → (∃ o, h.get? kS = some o) → wpAny (model prog w) A (call f [v]) (fun u s₂ => ∃ h' tk', s₂ = { s with heap := h', toks := tk' } ∧ (∀ b o, h.get? b = some o → h'.get? b = some o) ∧ KeyR kS h' u k) (fun _ _ => False) { s with heap := h, toks := tk })
    (fin : ∀ (h' : Heap) (tk : Nat) (out : List Value) (c : Nat), W.KeepsBut a h₁ h' → h'.get? a = some (seqObj "list" out.toArray c) → W.KeyedOut b kz vs out → P (Fin.done (Flow.ret Value.none)) { s with heap := h', toks := tk }) :
    wpAny (model prog w) A (ksk_rest a f b vs.toArray e1 (.ref kS)) P E s := by
  unfold ksk_rest
  refine wpAny_bind (wpAny_rule ?_)
  rw [List.forIn_toArray]
  refine wpAny_bind (ksk_fold (I := fun j s' => ∃ (h : Heap) (tk : Nat) (ks : List Value) (e : Nat), s' = { s with heap := h, toks := tk } ∧ W.KeepsBut a h₁ h ∧ h.get? kS = some (seqObj "list" ks.toArray e) ∧ h.get? a = some (seqObj "list" #[] e1) ∧ ks.length = j ∧ W.EachIs (KeyR kS h) ks (kz.take j)) vs 0 s ⟨s.heap, s.toks, [], 0, rfl, KB, ek, ea, rfl, .nil⟩ ?_ ?_)
  · rintro j x s' hx ⟨h, tk, ks, e, rfl, kb, ek', ea', hlen, each⟩
    have hj := (List.getElem?_eq_some_iff.mp hx).1
    have hk' : kz[j]? = some (kz[j]'(by omega)) := List.getElem?_eq_getElem (by omega)
    refine wpAny_bind (wpAny_attempt (wpAny_mono (key j x _ hx hk' h tk kb ⟨_, ek'⟩) (fun u s2 z => ?_) (fun _ _ z => z.elim)))
    obtain ⟨h', tk', rfl, kp, kr⟩ := z
    have hs : ks.toArray.size ≤ sizeLine := by
      rw [List.size_toArray]
      omega
    have hs2 : (ks.toArray.push u).size ≤ sizeLine + 1 := by
      rw [Array.size_push, List.size_toArray]
      omega
    refine wpAny_bind (listUpdate_at (kp _ _ ek') rfl ?_ hs hs2)
    have kU : ∀ b o, b ≠ kS → h'.get? b = some o → (h'.update kS (Obj.mapSeq fun x => x.push u)).get? b = some o := fun b o n z => by rw [Heap.get?_update_ne _ _ _ _ n]; exact z
    refine wpAny_pure ⟨rfl, _, tk', ks ++ [u], e + 1, rfl, fun b o n z => ?_, ?_, ?_, by rw [List.length_append, hlen]; rfl, ?_⟩
    · have n2 : b ≠ kS := fun q => by rw [q, hk] at z; cases z
      exact kU b o n2 (kp b o (kb b o n z))
    · rw [Heap.get?_update_self _ (kp _ _ ek') rfl]
      unfold Obj.mapSeq
      have n : ((ks.toArray.push u).size == ks.toArray.size) = false := by simp
      simp only [n]
      simp
    · exact kU _ _ (Ne.symm ne) (kp _ _ ea')
    · rw [show 0 + j + 1 = j + 1 by omega, List.take_add_one, hk']
      refine W.each_snoc ?_ ?_
      · exact fun h'' k2 => kr h'' fun b o n z => k2 b o n (kU b o n z)
      · rw [Nat.zero_add] at each
        exact each_mono kU (each_mono (fun b o _ z => kp b o z) each)
  · rintro s' ⟨h, tk, ks, e, rfl, kb, ek', ea', hlen, each⟩
    rw [Nat.zero_add, ← hl, List.take_length] at each
    rw [Nat.zero_add] at hlen
    refine wpAny_bind (listItems_at ek' rfl ?_)
    refine W.keyH_end (κ := W.dataKind h kz) (s := { s with heap := h, toks := tk }) kb hk ek' ea' ne (W.SortsAt.data (each_take_read each) AA SS dp) (by rw [List.size_toArray]; exact hlen) sz fun h2 tk2 c kb2 ea2 => ?_
    exact fin h2 tk2 _ c kb2 ea2 ⟨h, ks, AA, rfl, each_take_read each⟩
theorem tree {a : Addr} {b : Bool} {vs : List Value} {P : Fin → Shared → Prop} {kz : List PyData} {f : Value} {n : Nat} (ea : s.heap.get? a = some (seqObj "list" vs.toArray n)) (hl : kz.length = vs.length) (sz : vs.length ≤ sizeLine) (AA : W.AllAlike kz) (SS : W.Sortable kz) (dp : ∀ d ∈ kz, A.units + d.depth < cLine)
    (key : ∀ (kS : Addr), s.heap.get? kS = none → ∀ (i : Nat) v k, vs[i]? = some v → kz[i]? = some k → ∀ (h : Heap) (tk : Nat), W.KeepsBut a s.heap h → (∃ o, h.get? kS = some o) → wpAny (model prog w) A (call f [v]) (fun u s₂ => ∃ h' tk', s₂ = { s with heap := h', toks := tk' } ∧ (∀ b o, h.get? b = some o → h'.get? b = some o) ∧ KeyR kS h' u k) (fun _ _ => False) { s with heap := h, toks := tk })
    (fin : ∀ (h' : Heap) (tk : Nat) (out : List Value) (c : Nat), W.KeepsBut a s.heap h' → h'.get? a = some (seqObj "list" out.toArray c) → W.KeyedOut b kz vs out → P (Fin.done (Flow.ret Value.none)) { s with heap := h', toks := tk }) :
    wpAny (model prog w) A (ksk_tree a f b) P E s := by
  unfold ksk_tree
  refine wpAny_bind (listItems_at ea rfl ?_)
  refine wpAny_bind (listUpdate_at ea rfl ?_ (by rw [List.size_toArray]; exact sz) (Nat.zero_le _))
  obtain ⟨e1, hea⟩ : ∃ e1, (s.heap.update a (Obj.mapSeq fun x => #[])).get? a = some (seqObj "list" #[] e1) := ⟨_, by rw [Heap.get?_update_self _ ea rfl]; unfold Obj.mapSeq; rfl⟩
  refine wpAny_bind (seqEpoch_at hea rfl ?_)
  refine wpAny_bind (wpAny_newTuple ?_ (by show vs.length ≤ sizeLine; exact sz))
  refine wpAny_bind (wpAny_newList ?_)
  refine wpAny_holding ?_
  have kU : W.KeepsBut a s.heap (s.heap.update a (Obj.mapSeq fun x => #[])) := fun b o nb z => by rw [Heap.get?_update_ne _ _ _ _ nb]; exact z
  obtain ⟨h0, e0⟩ : ∃ h0, h0 = s.heap.update a (Obj.mapSeq fun x => #[]) := ⟨_, rfl⟩
  have sz0 : h0.objs.size = s.heap.objs.size := by rw [e0]; exact Heap.size_update _ _ _
  rw [← e0] at kU hea
  obtain ⟨o1, eo1⟩ : ∃ o1 : Obj, o1 = { cls := .type "tuple", data := .seq vs.toArray } := ⟨_, rfl⟩
  have key2 := key (h0.push o1).objs.size (Heap.get?_none_of_le (by rw [Heap.size_push, sz0]; omega))
  have kP : ∀ b o, h0.get? b = some o → ((h0.push o1).push (seqObj "list" #[] 0)).get? b = some o := fun b o z => Heap.get?_push_of_some _ (Heap.get?_push_of_some _ z)
  have hne : (h0.push o1).objs.size ≠ a := by
    rw [Heap.size_push, sz0]
    exact Nat.ne_of_gt (Nat.lt_succ_of_lt (Heap.lt_size ea))
  have := rest (prog := prog) (w := w) (A := A) (E := E) (P := P) (f := f) (b := b) (s := { s with heap := (h0.push o1).push (seqObj "list" #[] 0) }) (kS := (h0.push o1).objs.size) (h₁ := s.heap) (fun b o nb z => kP b o (kU b o nb z)) (Heap.get?_none_of_le (by rw [Heap.size_push, sz0]; omega)) (Heap.get?_push_size _ rfl) (kP _ _ hea) hne hl sz AA SS dp key2 fin
  rw [eo1, e0] at this
  exact this
theorem sorted {l : Addr} {vs : List Value} {kz : List PyData} {f : Addr} {Q : Value → Shared → Prop} (hL : s.heap.IsList l vs.toArray) (hl : kz.length = vs.length) (sz : vs.length ≤ sizeLine) (AA : W.AllAlike kz) (SS : W.Sortable kz) (dp : ∀ d ∈ kz, A.units + 2 + d.depth < cLine)
    (key : ∀ (kS : Addr), s.heap.get? kS = none → ∀ (i : Nat) v k, vs[i]? = some v → kz[i]? = some k → ∀ (h : Heap) (tk : Nat), (∀ b o, s.heap.get? b = some o → h.get? b = some o) → (∃ o, h.get? kS = some o) → wpAny (model prog w) A.in1.in1 (call (.ref f) [v]) (fun u s₂ => ∃ h' tk', s₂ = { s with heap := h', toks := tk' } ∧ (∀ b o, h.get? b = some o → h'.get? b = some o) ∧ KeyR kS h' u k) (fun _ _ => False) { s with heap := h, toks := tk })
    (fin : ∀ (h' : Heap) (tk : Nat) (out : List Value) (c : Nat), (∀ b o, s.heap.get? b = some o → h'.get? b = some o) → h'.get? (s.heap.objs.size + 1) = some (seqObj "list" out.toArray c) → W.KeyedOut false kz vs out → Q (.ref (s.heap.objs.size + 1)) { s with heap := h', toks := tk }) :
    wpAny (model prog w) A (call (.builtin "sorted") [.ref l] [("key", .ref f)]) Q E s := by
  refine W.sorted_of_sort hL sz (ksk_s1 _ _) (fun _ => ksk_l1 _ _) fun E' => ?_
  rw [ksk_t1]
  have old : ∀ b o, s.heap.get? b = some o → (W.copyHeap s.heap vs).get? b = some o := fun b o z => W.copyHeap_old z
  have csz : ∀ b o, s.heap.get? b = some o → b ≠ s.heap.objs.size + 1 := fun b o z => Nat.ne_of_lt (Nat.lt_succ_of_lt (Heap.lt_size z))
  refine tree (s := { s with heap := W.copyHeap s.heap vs }) (W.copyHeap_at _ _) hl sz AA SS (fun d hd => by have := dp d hd; show A.units + 1 + 1 + d.depth < cLine; omega) (fun kS hk i v k hv hz h tk kb ho => key kS ?_ i v k hv hz h tk (fun b o z => kb b o (csz b o z) (old b o z)) ho) fun h' tk out c kb e KO => ⟨rfl, fin h' tk out c (fun b o z => kb b o (csz b o z) (old b o z)) e KO⟩
  · cases q : s.heap.get? kS with
    | none => rfl
    | some o => rw [old kS o q] at hk; cases hk
/-- a def that tells (len(x[0]), x[1], x[0]) -/
structure KeyT (st : Stmt) (x : Str) : Prop where
  body : ∃ p1 p2 p3 p4 p5 p6 p7 p8 p9 p10 p11 p12 p13 j1 j2 j3 j4, fnBody st = [.Return (some (.Tuple [.Call (.Name "len" p1) [.Subscript (.Name x p2) (.Constant (.int 0) j1 p3) p4] [] p5, .Subscript (.Name x p6) (.Constant (.int 1) j2 p7) p8, .Subscript (.Name x p9) (.Constant (.int 0) j3 p10) p11] j4 p12)) p13]
  kind : (fnScope st).kind = .function
  co : (fnScope st).isCoroutine = false
  gen : (fnScope st).isGenerator = false
  loc : (fnScope st).names.lookup x = some .local
  glb : (fnScope st).names.lookup (Str.ofString "len") = some .globalImplicit
  nocell : ∀ y ∈ (fnScope st).names, y.2 ≠ .cell
  dbg : (x == ("__debug__" : Str)) = false
theorem key_size {K : W.Frag} {mg : Str → Option Value} {base : Heap} {q qual x : Str} {st : Stmt} {f : Addr} {fd : FuncData} (M : L2.Mod K mg base) (F : C8.Fun K q qual st f fd) (hb : L2.Binds K fd [x] []) (KT : KeyT st x) (hm : mg "len" = none) (bs : ∀ b o, base.get? b = some o → s.heap.get? b = some o) (room : A.depth < recursionLimit) (lim : s.heap.NoLimit)
    {r l kS : Addr} {vs : Array Value} {n2 : Nat} {d : Int} {t : Tok} {ds : List PyData} (hr : PyProof.Rows.IsTup s.heap r #[.ref l, .int d t]) (hl : s.heap.get? l = some { cls := .type "list", data := .seq vs n2 }) (hv : ∀ h, ReadsAll h vs.toList ds []) (sz : (vs.size : Int) < 2 ^ 63) (hk : ∃ o, s.heap.get? kS = some o) (hlk : l ≠ kS) :
    wpAny (model prog w) A (call (.ref f) [.ref r]) (fun u s₂ => ∃ h' tk', s₂ = { s with heap := h', toks := tk' } ∧ (∀ b o, s.heap.get? b = some o → h'.get? b = some o) ∧ KeyR kS h' u (.tuple [.int vs.size, .int d, .list ds])) E s := by
  obtain ⟨otp, etp1, etp2, ntp, etp3⟩ := hr
  have bt := hb s [.ref r] (M.kin.keeps bs) rfl
  obtain ⟨oc, od, dV, kV, doc, pm, an, cdv, ct, osl, rfl, hf, hc⟩ := F.ex
  refine wpAny_call (codeAny_call_def (a := f) (body := fnBody st) room (bs _ _ (M.kin _ _ hf)) rfl lim (W.codeRec_of (M.kin.keeps bs) hc) rfl bt KT.nocell (fun y hy => by rw [List.mem_singleton.mp hy]; exact KT.loc) (fun h0 ns kp => ?_) KT.co KT.gen KT.kind)
  obtain ⟨env, he⟩ : ∃ env, env = callEnv (W.fnOf q qual (fnArgs st) (fnBody st) (fnScope st) dV kV doc pm an cdv ct) s.heap.objs.size f := ⟨_, rfl⟩
  have hs : env.scope = fnScope st := by rw [he]; rfl
  have hl0 : env.locals = s.heap.objs.size := by rw [he]; rfl
  have hg : env.globals = mainGlobals := by rw [he]; rfl
  have hbn : env.builtins = builtinsNs := by rw [he]; rfl
  rw [← he]
  obtain ⟨p1, p2, p3, p4, p5, p6, p7, p8, p9, p10, p11, p12, p13, j1, j2, j3, j4, eb⟩ := KT.body
  rw [eb]
  refine wpAny_execs_cons (wpAny_Return_some ?_)
  refine wpAny_Tuple_spliced ?_
  have hkind : env.scope.kind = .function := by rw [hs]; exact KT.kind
  have name : ∀ {A' : Around} {E' : Value → Shared → Prop} {Q' : Value → Shared → Prop} {tk : Nat} {pp : Pos}, Q' (.ref r) { s with heap := h0, toks := tk } →
      wpAny (model prog w) A' (eval (.Name x pp) env) Q' E' { s with heap := h0, toks := tk } := fun hq =>
    wpAny_Name (wpAny_loadName_local hkind (by show env.scope.names.lookup x = _; rw [hs]; exact KT.loc) (hl0 ▸ ns) (by simp) hq) KT.dbg
  have item : ∀ {A' : Around} {E' : Value → Shared → Prop} {Q' : Value → Shared → Prop} {tk : Nat} {pp pq pr : Pos} {jj : Nat} {m : Int} {j : Nat} {v : Value}, -2 ^ 63 ≤ m → m < 2 ^ 63 → seqIndex? m ([.ref l, .int d t] : List Value).length = some j → ([.ref l, .int d t] : List Value)[j]? = some v →
      (∀ tk', Q' v { s with heap := h0, toks := tk' }) → wpAny (model prog w) A' (eval (.Subscript (.Name x pp) (.Constant (.int m) jj pq) pr) env) Q' E' { s with heap := h0, toks := tk } := fun h1 h2 h3 h4 hq =>
    Subscript_ (name (wpAny_Constant_int (item_tupleT (l := [.ref l, .int d t]) ⟨_, kp _ _ etp1, etp2, ntp, etp3⟩ h1 h2 h3 h4 (hq _))))
  have len : ∀ {A' : Around} {E' : Value → Shared → Prop} {Q' : Value → Shared → Prop} {tk : Nat} {pp : Pos}, Q' (.builtin "len") { s with heap := h0, toks := tk } →
      wpAny (model prog w) A' (eval (.Name "len" pp) env) Q' E' { s with heap := h0, toks := tk } := fun hq => by
    refine wpAny_Name ?_ (by decide +kernel)
    rw [loadName_read hkind (by show env.scope.names.lookup _ = _; rw [hs]; exact KT.glb)]
    unfold loadGlobal
    rw [hg, hbn]
    refine wpAny_bind (wpAny_nsGet (M.glob.keeps fun b o z => kp b o (bs b o z)) ?_)
    rw [hm]
    obtain ⟨mb, hmb, hmv⟩ := M.blt
    refine wpAny_bind (wpAny_nsGet (hmb.keeps fun b o z => kp b o (bs b o z)) ?_)
    rw [hmv _ (by decide +kernel), show bootBuiltins "len" = some (.builtin "len") by decide +kernel]
    exact wpAny_pure hq
  refine Calls.spliced_cons ?_
  refine wpAny_Call_NameR (len ?_)
  refine PyProof.Rows.callWith_builtin1 (Calls.spliced_cons (item (m := 0) (j := 0) (by decide) (by decide) rfl rfl fun tk1 => Calls.spliced_nil ?_))
  refine len_list (items := vs) ⟨_, kp _ _ hl, rfl, n2, rfl⟩ sz ?_
  refine Calls.spliced_cons (item (m := 1) (j := 1) (by decide) (by decide) rfl rfl fun tk2 => ?_)
  refine Calls.spliced_cons (item (m := 0) (j := 0) (by decide) (by decide) rfl rfl fun tk3 => ?_)
  refine Calls.spliced_nil ⟨by show 3 ≤ sizeLine; decide, ?_⟩
  refine ⟨_, _, rfl, fun b o e => Heap.get?_push_of_some _ (kp b o e), fun h'' k2 => ?_⟩
  obtain ⟨ok, hok⟩ := hk
  exact ⟨_, .tuple (k2 _ _ (Nat.ne_of_gt (Heap.lt_size (kp _ _ hok))) (Heap.get?_push_size _ rfl)) rfl rfl (.cons (.int _ _) (.cons (.int _ _) (.cons (.list (k2 _ _ hlk (Heap.get?_push_of_some _ (kp _ _ hl))) rfl rfl (hv _)) .nil)))⟩
end
/-- pairs of a list of ints and an int are sorted: some arrangement of them -/
def rSortH (f : Addr) : List V → List V → Hp → VK → Prop := fun vs zs H Q => ∃ (a : Addr) (rs : List Addr) (G : Addr → Addr × List Int × Int), vs = [.ref a] ∧ zs = [.ref f] ∧ H a = some (.lst (rs.map V.ref)) ∧ (∀ r ∈ rs, H r = some (.tup [.ref (G r).1, .int (G r).2.2]) ∧ H (G r).1 = some (.lst ((G r).2.1.map V.int)) ∧ (G r).2.1.length ≤ 100000) ∧ rs.length ≤ 100000 ∧
  ∀ (p : Addr) (rs' : List Addr), rs'.Perm rs → H p = none → Q (.ref p) (upd H p (.lst (rs'.map V.ref)))
theorem vals_refs : ∀ {rs : List Addr} {us : List Value}, Vals (rs.map V.ref) us → us = rs.map Value.ref
  | [], _, .nil => rfl
  | _ :: rs, _, .cons h t => by
    have h : _ = Value.ref _ := h
    rw [h, vals_refs t]
    rfl
theorem vals_refsF : ∀ bs : List Addr, Vals (bs.map V.ref) (bs.map Value.ref)
  | [] => .nil
  | _ :: r => .cons rfl (vals_refsF r)
theorem each_refs (rs : List Addr) : W.EachIs (fun (v : Value) (r : Addr) => v = .ref r) (rs.map Value.ref) rs := by
  induction rs with
  | nil => exact .nil
  | cons r rs ih => exact .cons rfl ih
theorem each_refs_eq : ∀ {vs : List Value} {rs : List Addr}, W.EachIs (fun (v : Value) (r : Addr) => v = .ref r) vs rs → vs = rs.map Value.ref
  | _, _, .nil => rfl
  | _, _, .cons h t => by rw [h, each_refs_eq t]; rfl
theorem vals_ints : ∀ {ns : List Int} {us : List Value}, Vals (ns.map V.int) us → us.length = ns.length ∧ ∀ h, ReadsAll h us (ns.map PyData.int) []
  | [], _, .nil => ⟨rfl, fun _ => .nil⟩
  | n :: ns, _, .cons h t => by
    obtain ⟨tk, rfl⟩ : ∃ t, _ = Value.int n t := h
    obtain ⟨e, r⟩ := vals_ints t
    exact ⟨by rw [List.length_cons, List.length_cons, e], fun h => .cons (.int _ _) (r h)⟩
theorem depth_ints : ∀ l : List Int, PyData.depthAll (l.map PyData.int) = 0
  | [] => by simp [PyData.depthAll]
  | a :: l => by simp [PyData.depthAll, PyData.depth, depth_ints l]
theorem alike_ints : ∀ (l m : List Int), W.alikeAll (l.map PyData.int) (m.map PyData.int) = true
  | [], _ => by simp [W.alikeAll]
  | _ :: _, [] => by simp [W.alikeAll]
  | a :: l, b :: m => by simp [W.alike, W.alikeAll, alike_ints l m]
theorem cr_sortD {X : Cx} {k : Nat} {q qual x : Str} {st : Stmt} {f : Addr} {fd : FuncData} (F : C8.Fun X.K q qual st f fd) (hd : L2.Binds X.K fd [x] []) (KT : KeyT st x) (hm : X.mg "len" = none) (hr : Room (k + 1) X.A) : CallRK X (.builtin "sorted") [Str.ofString "key"] (rSortH f) := by
  intro pins s σ H vs zs us ws Q I r rz h
  obtain ⟨a, rs, G, rfl, rfl, ha, hrs, hlen, q⟩ := h
  obtain rfl := Vals.ref1 r
  obtain rfl := Vals.ref1 rz
  obtain ⟨hz, its, n, rv, hob⟩ := I.hok a _ ha
  have eits := vals_refs rv
  subst eits
  have lim := I.nolimit
  have hl : s.heap.IsList a (rs.map Value.ref).toArray := ⟨_, hob, rfl, n, rfl⟩
  refine sorted (kz := rs.map fun r => .tuple [.int ((G r).2.1.length : Nat), .int (G r).2.2, .list ((G r).2.1.map PyData.int)]) hl (by rw [List.length_map, List.length_map]) (by rw [List.length_map, sizeLine_eq]; omega) (W.AllAlike.of fun b b' => ?_) (W.Sortable.tuples fun _ => ⟨_, _, rfl⟩) (fun d hd2 => ?_) (fun kS hk i v k2 hv hz2 h tk kp ho => ?_) fun h' tk out c fr hD KO => ?_
  · simp [W.alike, W.alikeAll, alike_ints]
  · obtain ⟨r, _, rfl⟩ := List.mem_map.mp hd2
    have h1 := depth_ints (G r).2.1
    have h2 : (PyData.tuple [.int ((G r).2.1.length : Nat), .int (G r).2.2, .list ((G r).2.1.map PyData.int)]).depth ≤ 2 := by
      simp [PyData.depth, PyData.depthAll, h1]
    have := hr.units
    omega
  · rw [List.getElem?_map] at hv hz2
    cases hi : rs[i]? with
    | none => rw [hi] at hv; cases hv
    | some r =>
      rw [hi] at hv hz2
      cases hv
      cases hz2
      obtain ⟨h1, h2, h3⟩ := hrs r (List.mem_of_getElem? hi)
      obtain ⟨_, its2, rv2, hr2⟩ := I.hok r _ h1
      obtain ⟨_, its3, n3, rv3, hl3⟩ := I.hok _ _ h2
      cases rv2 with
      | cons g1 t1 =>
        cases t1 with
        | cons g2 t2 =>
          cases t2
          obtain rfl : _ = Value.ref (G r).1 := g1
          obtain ⟨tk2, rfl⟩ : ∃ t, _ = Value.int (G r).2.2 t := g2
          obtain ⟨e3, rd3⟩ := vals_ints rv3
          have hlk : (G r).1 ≠ kS := fun z => by rw [z, hk] at hl3; cases hl3
          have := key_size (prog := X.prog) (w := X.w) (A := X.A.in1.in1) (E := fun _ _ => False) (s := { s with heap := h, toks := tk }) I.ok.mod F hd KT hm (fun b o z => kp b o (I.bk b o z)) hr.depth (lim.keeps kp) (by obtain ⟨o, q1, q2, n, q3⟩ := hr2; exact ⟨o, kp _ _ q1, q2, n, q3⟩) (kp _ _ hl3) rd3 (by rw [List.size_toArray, e3]; omega) ho hlk
          rw [List.size_toArray, e3] at this
          exact this
  · have e1 := W.keyedOut_each (R := fun (v : Value) (r : Addr) => v = .ref r) (bs := rs) (fun r => PyData.tuple [.int ((G r).2.1.length : Nat), .int (G r).2.2, .list ((G r).2.1.map PyData.int)]) KO (each_refs rs)
    have e2 := each_refs_eq e1
    subst e2
    have hp : H (s.heap.objs.size + 1) = none := I.hok.fresh (Nat.le_succ _)
    generalize hrs' : rs.mergeSort (W.dataLe false fun r => PyData.tuple [.int ((G r).2.1.length : Nat), .int (G r).2.2, .list ((G r).2.1.map PyData.int)]) = rs' at *
    have pm2 : rs'.Perm rs := by rw [← hrs']; exact List.mergeSort_perm _ _
    refine ⟨.ref (s.heap.objs.size + 1), upd H (s.heap.objs.size + 1) (.lst (rs'.map V.ref)), I.laid (t' := tk) (h' := h') fr (Nat.le_succ _) ⟨?_, rs'.map Value.ref, c, ?_, hD⟩, rfl, q _ rs' pm2 hp⟩
    · rw [List.length_map, pm2.length_eq, sizeLine_eq]
      omega
    · exact vals_refsF rs'
end SortD
set_option Elab.async false
set_option linter.all false
set_option maxRecDepth 100000
set_option maxHeartbeats 4000000
set_option exponentiation.threshold 9000
/-! calls with keywords (keyword-only parameters), o.f += e, list.pop(), several except clauses, sorted(xs, key=f) where f tells x[0] -/
namespace C8
open PySem PySem.Spec PyProof.Rows L2
/-- a def called with n positional values and keywords ks -/
structure CalN (P : Program) (w : World) (K : PySem.W.Frag) (mg : Str → Option Value) (base : Heap) (k : Nat) (x : Str) (sp : Sp) (n : Nat) (ks : List Str) (gV : List V → List V → List V) : Prop where
  ex : ∃ (f : Addr) (fd : FuncData) (ps : List Str) (g : List Value → List Value → List Value), FnOk P w K mg base CX0 k f fd ps sp ∧ mg x = some (.ref f) ∧ PySem.W.keepIn K (.ref f) = true ∧ KBn K fd ps n ks g gV
section
variable {X : Cx} {k j n : Nat} {x : Str} {sp : Sp} {ks : List Str} {gV : List V → List V → List V} {p pos : Pos} {e : Expr} {es : List Expr} {kws : List Keyword} {t tk : TA}
theorem pe_cN (c : CalN X.prog X.w X.K X.mg X.base k x sp n ks gV) (hr : Room j X.A) (hk : k ≤ j) (hg : Gl X x) (ha : PA X (e :: es) t) (hkw : PK X kws tk)
    (hall : (backToKw pos (keywordEach kws X.env)).all (·.1.isSome) = true := by rfl) (hks : (backToKw pos (keywordEach kws X.env)).filterMap (·.1) = ks := by rfl)
    (hdb : (x == ("__debug__" : Str)) = false := by decide) (he : starEach (e :: es) X.env = (false, eval e X.env) :: starEach es X.env := by rfl)
    (hpl : ((backTo pos (starEach (e :: es) X.env)).any (·.1) || (backToKw pos (keywordEach kws X.env)).any (·.1.isNone)) = false := by rfl) :
    PE X (.Call (.Name x p) (e :: es) kws pos) (tCallN n ks.length sp gV E0 t tk) := by
  obtain ⟨f, fd, ps, g, F, hm, kp, hb⟩ := c.ex
  exact pe_callN F (hr.mono hk) hg hm kp hb pass0 ha hkw hall hks hdb he hpl
end
end C8
namespace SortD
open PySem PyProof.Rows PyProof L2 C8
/-- a def that tells x[0] -/
structure KeyT0 (st : Stmt) (x : Str) : Prop where
  body : ∃ p1 p2 p3 p4 j1, fnBody st = [.Return (some (.Subscript (.Name x p1) (.Constant (.int 0) j1 p2) p3)) p4]
  kind : (fnScope st).kind = .function
  co : (fnScope st).isCoroutine = false
  gen : (fnScope st).isGenerator = false
  loc : (fnScope st).names.lookup x = some .local
  nocell : ∀ y ∈ (fnScope st).names, y.2 ≠ .cell
  dbg : (x == ("__debug__" : Str)) = false
section
variable {prog : Program} {w : World} {A : Around} {E : Value → Shared → Prop} {s : Shared}
theorem key_first {K : W.Frag} {mg : Str → Option Value} {base : Heap} {q qual x : Str} {st : Stmt} {f : Addr} {fd : FuncData} (M : L2.Mod K mg base) (F : C8.Fun K q qual st f fd) (hb : L2.Binds K fd [x] []) (KT : KeyT0 st x) (bs : ∀ b o, base.get? b = some o → s.heap.get? b = some o) (room : A.depth < recursionLimit) (lim : s.heap.NoLimit)
    {r kS : Addr} {d : Int} {t : Tok} {us : List Value} (hr : PyProof.Rows.IsTup s.heap r (Value.int d t :: us).toArray) (hk : ∃ o, s.heap.get? kS = some o) :
    wpAny (model prog w) A (call (.ref f) [.ref r]) (fun u s₂ => ∃ h' tk', s₂ = { s with heap := h', toks := tk' } ∧ (∀ b o, s.heap.get? b = some o → h'.get? b = some o) ∧ KeyR kS h' u (.int d)) E s := by
  obtain ⟨otp, etp1, etp2, ntp, etp3⟩ := hr
  have bt := hb s [.ref r] (M.kin.keeps bs) rfl
  obtain ⟨oc, od, dV, kV, doc, pm, an, cdv, ct, osl, rfl, hf, hc⟩ := F.ex
  refine wpAny_call (codeAny_call_def (a := f) (body := fnBody st) room (bs _ _ (M.kin _ _ hf)) rfl lim (W.codeRec_of (M.kin.keeps bs) hc) rfl bt KT.nocell (fun y hy => by rw [List.mem_singleton.mp hy]; exact KT.loc) (fun h0 ns kp => ?_) KT.co KT.gen KT.kind)
  obtain ⟨env, he⟩ : ∃ env, env = callEnv (W.fnOf q qual (fnArgs st) (fnBody st) (fnScope st) dV kV doc pm an cdv ct) s.heap.objs.size f := ⟨_, rfl⟩
  have hs : env.scope = fnScope st := by rw [he]; rfl
  have hl0 : env.locals = s.heap.objs.size := by rw [he]; rfl
  rw [← he]
  obtain ⟨p1, p2, p3, p4, j1, eb⟩ := KT.body
  rw [eb]
  refine wpAny_execs_cons (wpAny_Return_some ?_)
  have hkind : env.scope.kind = .function := by rw [hs]; exact KT.kind
  have name : ∀ {A' : Around} {E' : Value → Shared → Prop} {Q' : Value → Shared → Prop} {tk : Nat} {pp : Pos}, Q' (.ref r) { s with heap := h0, toks := tk } →
      wpAny (model prog w) A' (eval (.Name x pp) env) Q' E' { s with heap := h0, toks := tk } := fun hq =>
    wpAny_Name (wpAny_loadName_local hkind (by show env.scope.names.lookup x = _; rw [hs]; exact KT.loc) (hl0 ▸ ns) (by simp) hq) KT.dbg
  have item : ∀ {A' : Around} {E' : Value → Shared → Prop} {Q' : Value → Shared → Prop} {tk : Nat} {pp pq pr : Pos} {jj : Nat} {m : Int} {j : Nat} {v : Value}, -2 ^ 63 ≤ m → m < 2 ^ 63 → seqIndex? m (Value.int d t :: us).length = some j → (Value.int d t :: us)[j]? = some v →
      (∀ tk', Q' v { s with heap := h0, toks := tk' }) → wpAny (model prog w) A' (eval (.Subscript (.Name x pp) (.Constant (.int m) jj pq) pr) env) Q' E' { s with heap := h0, toks := tk } := fun h1 h2 h3 h4 hq =>
    Subscript_ (name (wpAny_Constant_int (item_tupleT (l := Value.int d t :: us) ⟨_, kp _ _ etp1, etp2, ntp, etp3⟩ h1 h2 h3 h4 (hq _))))
  refine item (m := 0) (j := 0) (by decide) (by decide) ?_ rfl fun tk' => ?_
  · show seqIndex? 0 (us.length + 1) = some 0
    unfold seqIndex?
    simp
  · exact ⟨_, _, rfl, fun b o e => kp b o e, fun h'' k2 => ⟨_, .int _ _⟩⟩
end
/-- rows whose first is an int, sorted by it -/
def rSortI (f : Addr) : List V → List V → Hp → VK → Prop := fun vs zs H Q => ∃ (a : Addr) (rs : List Addr) (G : Addr → Int), vs = [.ref a] ∧ zs = [.ref f] ∧ H a = some (.lst (rs.map V.ref)) ∧ (∀ r ∈ rs, ∃ ws, H r = some (.tup (.int (G r) :: ws))) ∧ rs.length ≤ 100000 ∧
  ∀ (p : Addr) (rs' : List Addr), rs'.Perm rs → rs'.Pairwise (fun x y => G x ≤ G y) → H p = none → Q (.ref p) (upd H p (.lst (rs'.map V.ref)))
theorem cr_sortI {X : Cx} {k : Nat} {q qual x : Str} {st : Stmt} {f : Addr} {fd : FuncData} (F : C8.Fun X.K q qual st f fd) (hd : L2.Binds X.K fd [x] []) (KT : KeyT0 st x) (hr : Room (k + 1) X.A) : CallRK X (.builtin "sorted") [Str.ofString "key"] (rSortI f) := by
  intro pins s σ H vs zs us ws Q I r rz h
  obtain ⟨a, rs, G, rfl, rfl, ha, hrs, hlen, q⟩ := h
  obtain rfl := Vals.ref1 r
  obtain rfl := Vals.ref1 rz
  obtain ⟨hz, its, n, rv, hob⟩ := I.hok a _ ha
  have eits := vals_refs rv
  subst eits
  have lim := I.nolimit
  have hl : s.heap.IsList a (rs.map Value.ref).toArray := ⟨_, hob, rfl, n, rfl⟩
  refine sorted (kz := rs.map fun r => .int (G r)) hl (by rw [List.length_map, List.length_map]) (by rw [List.length_map, sizeLine_eq]; omega) (W.AllAlike.of fun b b' => by simp [W.alike]) (W.Sortable.others fun _ => ⟨by simp, fun _ => by simp⟩) (fun d hd2 => ?_) (fun kS hk i v k2 hv hz2 h tk kp ho => ?_) fun h' tk out c fr hD KO => ?_
  · obtain ⟨r, _, rfl⟩ := List.mem_map.mp hd2
    have := hr.units
    show X.A.units + 2 + 0 < cLine
    omega
  · rw [List.getElem?_map] at hv hz2
    cases hi : rs[i]? with
    | none => rw [hi] at hv; cases hv
    | some r =>
      rw [hi] at hv hz2
      cases hv
      cases hz2
      obtain ⟨ws, h1⟩ := hrs r (List.mem_of_getElem? hi)
      obtain ⟨_, its2, rv2, hr2⟩ := I.hok r _ h1
      cases rv2 with
      | cons g1 t1 =>
        obtain ⟨tk2, rfl⟩ : ∃ t, _ = Value.int (G r) t := g1
        exact key_first (prog := X.prog) (w := X.w) (A := X.A.in1.in1) (E := fun _ _ => False) (s := { s with heap := h, toks := tk }) I.ok.mod F hd KT (fun b o z => kp b o (I.bk b o z)) hr.depth (lim.keeps kp) (by obtain ⟨o, q1, q2, n, q3⟩ := hr2; exact ⟨o, kp _ _ q1, q2, n, q3⟩) ho
  · have e1 := W.keyedOut_each (R := fun (v : Value) (r : Addr) => v = .ref r) (bs := rs) (fun r => PyData.int (G r)) KO (each_refs rs)
    rw [W.dataLe_int] at e1
    have e2 := each_refs_eq e1
    subst e2
    have hp : H (s.heap.objs.size + 1) = none := I.hok.fresh (Nat.le_succ _)
    generalize hrs' : rs.mergeSort (fun a b => decide (G a ≤ G b)) = rs' at *
    have pm2 : rs'.Perm rs := by rw [← hrs']; exact List.mergeSort_perm _ _
    have pw : rs'.Pairwise (fun x y => G x ≤ G y) := by
      rw [← hrs']
      refine (List.pairwise_mergeSort (fun a b c h1 h2 => ?_) (fun a b => ?_) rs).imp fun h => of_decide_eq_true h
      · have h1 := of_decide_eq_true h1
        have h2 := of_decide_eq_true h2
        exact decide_eq_true (by omega)
      · rw [Bool.or_eq_true, decide_eq_true_iff, decide_eq_true_iff]
        omega
    refine ⟨.ref (s.heap.objs.size + 1), upd H (s.heap.objs.size + 1) (.lst (rs'.map V.ref)), I.laid (t' := tk) (h' := h') fr (Nat.le_succ _) ⟨?_, rs'.map Value.ref, c, ?_, hD⟩, rfl, q _ rs' pm2 pw hp⟩
    · rw [List.length_map, pm2.length_eq, sizeLine_eq]
      omega
    · exact vals_refsF rs'
end SortD
namespace Sl
open PySem L2 C8 StX
section
variable {σ : L2.St} {H : Hp} {Q : VK} {K : PySem.W.Frag} {C a : Addr} {n m : Nat} {sp : Sp} {gV : List V → List V → List V} {E : XK} {t tk : TA} {ta tv : TE} {rd : V → V → Hp → VK → Prop} {f : Str} {D : Ends} {v x : V} {vs zs : List V} {fs : List (Str × V)} {dx : Addr}
def rCN2 (n m : Nat) (sp : Sp) (gV : List V → List V → List V) (E : XK) (Q : VK) (vs zs : List V) (H : Hp) : Prop := vs.length = n ∧ zs.length = m ∧ sp (gV vs zs) H Q E
def rCN1 (n m : Nat) (sp : Sp) (gV : List V → List V → List V) (E : XK) (tk : TA) (σ : L2.St) (Q : VK) (vs : List V) (H : Hp) : Prop := tk σ H fun zs H2 => rCN2 n m sp gV E Q vs zs H2
theorem rd_callN (h : t σ H fun vs H1 => rCN1 n m sp gV E tk σ Q vs H1) : tCallN n m sp gV E t tk σ H Q := h
theorem rd_callN1 (h : tk σ H fun zs H2 => rCN2 n m sp gV E Q vs zs H2) : rCN1 n m sp gV E tk σ Q vs H := h
theorem rd_callN2 (h1 : vs.length = n) (h2 : zs.length = m) (h : sp (gV vs zs) H Q E) : rCN2 n m sp gV E Q vs zs H := ⟨h1, h2, h⟩
def rFA (K : PySem.W.Frag) (tv : TE) (rd : V → V → Hp → VK → Prop) (f : Str) (D : Ends) (σ : L2.St) (x : V) (H1 : Hp) : Prop := ∃ a C dx fs v, x = .ref a ∧ H1 a = some (.ins C dx fs) ∧ Cls K C ∧ NoAttr K C f ∧ fs.lookup f = some v ∧
  tv σ H1 fun y H2 => rd v y H2 fun z H3 => ∃ dx' fs', H3 a = some (.ins C dx' fs') ∧ fs'.length < 1000 ∧ D.nx σ (upd H3 a (.ins C dx' (putF f z fs')))
theorem rd_fldaug0 (h : ta σ H fun x H1 => rFA K tv rd f D σ x H1) : sFldAug K ta tv rd f D σ H := h
/-- o.f += an int -/
theorem rd_fldaugI {i j : Int} (e : H a = some (.ins C dx fs)) (c : Cls K C) (na : NoAttr K C f) (l : fs.lookup f = some (.int i)) (lf : fs.length < 1000) (hv : tv = fun _ H Q => Q (.int j) H) (h : D.nx σ (upd H a (.ins C dx (putF f (.int (i + j)) fs)))) : rFA K tv rAdd f D σ (.ref a) H := by
  subst hv
  exact ⟨a, C, dx, fs, _, rfl, e, c, na, l, i, j, rfl, rfl, dx, fs, e, lf, h⟩
theorem rd_pop {xs : List V} {y : V} (e : H a = some (.lst (xs ++ [y]))) (h : ∀ H', H' = upd H a (.lst xs) → H' a = some (.lst xs) → Q y H') : rPop (.ref a) [] H Q := by
  refine ⟨a, xs ++ [y], y, rfl, rfl, e, by simp, ?_⟩
  have := h _ rfl upd_same
  simpa using this
end
section
variable {σ : L2.St} {H : Hp} {K : PySem.W.Frag} {Wout : WX} {tb : WX → TS} {c cls : Value} {d : Option Addr} {D : Ends} {l : List (Value × (Addr → Value → Option Addr → TS))} {ts : Addr → Value → Option Addr → TS}
def tMany (K : PySem.W.Frag) (l : List (Value × (Addr → Value → Option Addr → TS))) (tb : WX → TS) (Wout : WX) : TS := fun D σ H => tb (wMany K Wout D l) D σ H
theorem rd_many (h : tb (wMany K Wout D l) D σ H) : tMany K l tb Wout D σ H := h
theorem rd_manyY (he : PySem.W.exmOne K cls c = some true) (h : ∀ a, H a = none → ts a cls d D σ H) : WE (wMany K Wout D ((c, ts) :: l)) σ cls d H := ⟨true, he, fun _ => h, (fun q => nomatch q)⟩
theorem rd_manyN (he : PySem.W.exmOne K cls c = some false) (h : WE (wMany K Wout D l) σ cls d H) : WE (wMany K Wout D ((c, ts) :: l)) σ cls d H := ⟨false, he, (fun q => nomatch q), fun _ => h⟩
end
end Sl
namespace L2
open PySem PySem.Spec PyProof.Rows Sl
section
variable {X : Cx} {body : List Stmt} {h₀ : ExceptHandler} {hds : List ExceptHandler} {l : List (Value × (Addr → Value → Option Addr → TS))} {pos : Pos} {tb : WX → TS} {Wout : WX}
theorem ps_manyO (hs : X.stack = X.env :: X.outer) (hf : X.env.frame = some X.env.locals) (tk : Takes X Wout)
    (hb : ∀ (W : WX) (pn : List (Addr × Obj)) (xe : Value → Shared → Prop), Takes (X.tr pn xe) W → PSs (X.tr pn xe) body (tb W))
    (hh : HdsOk X (h₀ :: hds) l) : PS X (.Try body (h₀ :: hds) [] [] pos) (tMany X.K l tb Wout) := ps_try_many hs hf tk (fun W pn xe k _ => hb W pn xe k) hh
theorem hds_cons {x : Str} {c : Value} {ts : Addr → Value → Option Addr → TS} {b₀ : Stmt} {suite : List Stmt} {np pos' : Pos} {hds : List ExceptHandler} {l : List (Value × (Addr → Value → Option Addr → TS))} (hc : Names X x c)
    (hsu : ∀ (a : Addr) (oe : Obj) (cls : Value) (d : Option Addr) (pn : List (Addr × Obj)), PSs (X.suite a ((a, oe) :: pn)) (b₀ :: suite) (ts a cls d)) (r : HdsOk X hds l) : HdsOk X (.ExceptHandler (some (.Name x np)) none (b₀ :: suite) pos' :: hds) ((c, ts) :: l) := .cons hc (fun a oe cls d pn _ _ => hsu a oe cls d pn) r
end
end L2
set_option Elab.async false
set_option linter.all false
set_option maxRecDepth 100000
set_option maxHeartbeats 4000000
/-! enumerate(list, c) with a start -/
namespace L2
open PySem PySem.Spec PyProof.Rows
def IteS (K : PySem.W.Frag) (c : Int) (a : Addr) : It :=
  ⟨fun i H => ∃ (xs : List V) (x : V), SqL K H a xs ∧ xs[i]? = some x, fun i H v H' => ∃ T x, v = .ref T ∧ H T = none ∧ H' = upd H T (.tup [.int (c + (i : Nat)), x]) ∧ ∀ xs, SqL K H a xs → xs[i]? = some x, fun i H => ∃ xs : List V, SqL K H a xs ∧ xs.length ≤ i⟩
theorem turn_enumS {P : Program} {w : World} {K : PySem.W.Frag} {elts : List Expr} {kk : Nat} {tpos : Pos} (c : Int) (a e it : Addr) :
    Turn P w K (.Tuple elts kk tpos) (IteS K c a) [e, it] e (fun i h => (∃ old, IsEnum h e it (c + ((i : Nat) : Int)) old) ∧ h.IsListIter it a i ∧ e ≠ it) where
  mem := by simp
  obj := fun i h st b hb => by
    obtain ⟨⟨old, he⟩, ⟨o, ho, hc, hd⟩, _⟩ := st
    rcases (show b = e ∨ b = it by simpa using hb) with rfl | rfl
    · exact ⟨_, he, fun v q => nomatch q⟩
    · exact ⟨o, ho, fun v q => by rw [hd] at q; cases q⟩
  keep := fun i h h' st k => let ⟨⟨old, he⟩, hi, hne⟩ := st; ⟨⟨old, k e (by simp) _ he⟩, hi.at fun o q => k it (by simp) o q, hne⟩
  item := by
    intro X hP hw hK hc i pins s σ H E I hf st hg
    subst hP hw hK
    obtain ⟨⟨old, he⟩, hit, hne⟩ := st
    obtain ⟨xs, x, hq, hx⟩ := hg
    obtain ⟨its, rv, p, hz⟩ := I.list hq
    obtain ⟨u, hu, ru⟩ := rv.get hx
    have hp : s.heap.IsList a its.toArray := p.isList
    obtain ⟨op, gp, cp, _⟩ := id hp
    obtain ⟨oi, gi, ci, _⟩ := id hit
    have hai : a ≠ it := apart_cls gp gi (by rw [cp, ci]; decide)
    have hea : e ≠ a := apart_cls he gp (by rw [cp]; show Value.type "enumerate" ≠ Value.type "list"; decide)
    have hlt : i < its.toArray.size := by
      have := (List.getElem?_eq_some_iff.mp hu).1
      simpa using this
    have hel : e < s.heap.objs.size := Heap.lt_size he
    refine wpAny_pyNext_enum_itemC (Draws.list (A := X.A.in1) (I.ok.hd hc) it a hai its.toArray) he ⟨hit, hp⟩ hlt hne (by simp [hne, hea]) fun u2 h' tk hu2 ho st2 hT hsz hk => ?_
    have hu2' : u2 = u := by
      have q : its.toArray[i]? = some u := by simpa using hu
      rw [q] at hu2
      exact (Option.some.inj hu2).symm
    subst hu2'
    refine ⟨_, rfl, (wpAny_letOwnedTupleGo_enum (s := { s with heap := h', toks := tk + 1 }) ho fun h'' he' sb => ?_)⟩
    have hT2 : h''.get? s.heap.objs.size = some { cls := .type "tuple", data := .seq #[.int (c + (i : Nat)) tk, u2] } := (sb.2 _ (Nat.ne_of_gt hel)).trans hT
    have new : ObjOk X.prog X.w (upd H s.heap.objs.size (.tup [.int (c + (i : Nat)), x])) h'' s.heap.objs.size (.tup [.int (c + (i : Nat)), x]) :=
      ⟨(show 2 ≤ sizeLine by decide), [.int (c + (i : Nat)) tk, u2], .cons ⟨tk, rfl⟩ (.cons ru .nil), ⟨_, hT2, rfl, _, rfl⟩⟩
    have I1 : Inv X pins σ (upd H s.heap.objs.size (.tup [.int (c + (i : Nat)), x])) { s with heap := h'', toks := tk + 1 } :=
      I.turnedNew (ch := [e, it]) (fun b ob hb q => (sb.2 b fun z => hb (by simp [z])).trans (hk b ob (fun z => hb (by simp [z])) (fun z => hb (by simp [z])) q)) hf (Nat.le_refl _) new
    refine ⟨.ref s.heap.objs.size, _, I1, rfl, ⟨_, x, rfl, I.hok.fresh (Nat.le_refl _), rfl, fun ys hy => by rw [I.list_inj hy hq]; exact hx⟩, ⟨⟨u2, ?_⟩, st2.1.at fun o q => (sb.2 it hne.symm).trans q, hne⟩, fun b hb => ?_⟩
    · rw [show c + ((i + 1 : Nat) : Int) = c + (i : Int) + 1 by omega]
      exact he'
    · have hb' : b < s.heap.objs.size := by
        rcases (show b = e ∨ b = it by simpa using hb) with z | z
        · rw [z]; exact hel
        · rw [z]; exact Heap.lt_size gi
      rw [upd_ne (Nat.ne_of_lt hb')]
      exact (hf b hb).1
  done := by
    intro X hP hw hK hc i pins s σ H E I hf st hg
    subst hP hw hK
    obtain ⟨⟨old, he⟩, hit, hne⟩ := st
    obtain ⟨xs, hq, hx⟩ := hg
    obtain ⟨its, rv, p, hz⟩ := I.list hq
    obtain ⟨f0, f1, f2, f3, f4, f5⟩ := hf it (by simp)
    have hl := rv.length
    have hp : s.heap.IsList a its.toArray := p.isList
    have hT : s.TypeIs (.ref e) "enumerate" := ⟨_, he, rfl⟩
    unfold pyNext
    refine wpAny_bind (wpAny_attempt (wpAny_callSpecial?_slot (name := Str.ofString "__next__") hT F.slot_enumerate_next
      (wpAny_call_entry F.slot_enumerate_next hT F.entry_enumerate_next ?_ (F.args_enumerate_next_1 _))))
    show wpAny _ _ (field (.ref e) 2 >>= _) _ _ _
    refine wpAny_bind (wpAny_field he rfl (x := .ref it) rfl ?_)
    refine wpAny_bind (wpAny_nextOf_list_end (A := X.A.in1) (I.ok.hd hc) hit hp (by simp; omega) fun h' x he' hx' => ?_)
    obtain ⟨o, ho, hc⟩ := hx'
    refine wpAny_bind (wpAny_isInstance (T := "StopIteration") (b := true) ⟨o, ho, hc⟩ isSubtype_stop ?_)
    exact wpAny_pure ⟨rfl, I.turned (t' := s.toks) (fun b o hb q => he' b o hb q) f0 f1 f3 f4 f5⟩
  self := fun A i s Q E st h => let ⟨⟨_, he⟩, _⟩ := st; wpAny_pyIter_enum he h
def iEnumS (K : PySem.W.Frag) (ta : TA) : TI := fun σ H R => ta σ H fun vs H1 => ∃ a xs c, vs = [.ref a, .int c] ∧ (-(2 ^ 63) ≤ c ∧ c < 2 ^ 63) ∧ SqL K H1 a xs ∧ R (IteS K c a) H1
theorem pi_enumS {X : Cx} {e e2 : Expr} {ta : TA} {p pos tpos : Pos} {elts : List Expr} {kk : Nat} (hg : Gl X "enumerate") (hm : X.mg "enumerate" = none) (ha : PA X [e, e2] ta)
    (hs : starEach [e, e2] X.env = (false, eval e X.env) :: starEach [e2] X.env := by rfl) (hpl : (backTo pos (starEach [e2] X.env)).any (·.1) = false := by rfl) :
    PI X (.Tuple elts kk tpos) (.Call (.Name "enumerate" p) [e, e2] [] pos) (iEnumS X.K ta) := by
  refine ⟨fun pins s σ H R I h => ?_⟩
  refine Call_ (ld_blt I hg hm boot_enumerate (PyProof.Rows.callWith_type1 (thn (ha.run pos pins s σ H _ I h) fun us s1 ⟨vs, H1, I1, r1, q1⟩ => ?_) hs hpl))
  obtain ⟨a, xs, c, ex, ⟨c0, c1⟩, hq, q⟩ := q1
  subst ex
  cases r1 with
  | cons r rr =>
    cases rr with
    | cons r2 rr =>
      cases rr
      cases r
      obtain ⟨tk, rfl⟩ : ∃ t, _ = Value.int c t := r2
      obtain ⟨its, rv, p', hz⟩ := I1.list hq
      refine enum_begins (begins_list a its.toArray) p'.isList c0 c1 fun h' he hit _ hk => wpAny_pyIter_enum he ?_
      have I2 : Inv X pins σ H1 { s1 with heap := h' } := I1.kept (t' := s1.toks) hk
      refine ⟨s1.heap.objs.size + 1, [s1.heap.objs.size + 1, s1.heap.objs.size], _, _, H1, rfl, I2, turn_enumS c a (s1.heap.objs.size + 1) s1.heap.objs.size, ⟨⟨.none, by rw [show c + ((0 : Nat) : Int) = c by omega]; exact he⟩, ⟨_, hit, rfl, rfl⟩, Nat.succ_ne_self _⟩, fun b hb => ?_, q⟩
      have hle : s1.heap.objs.size ≤ b := by
        rcases (show b = s1.heap.objs.size + 1 ∨ b = s1.heap.objs.size by simpa using hb) with z | z
        · rw [z]; exact Nat.le_add_right _ _
        · rw [z]; exact Nat.le_refl _
      exact I1.fpOk hle (I1.hok.fresh hle)
end L2
namespace Sl
open PySem L2 C8 StX
section
variable {σ : L2.St} {H H1 : Hp} {g : TG} {tb : TS} {ta : TA} {nx bk ct : L2.St → Hp → Prop} {rt : VK} {R : It → Hp → Prop} {K : PySem.W.Frag}
def enRS (K : PySem.W.Frag) (R : It → Hp → Prop) (vs : List V) (H : Hp) : Prop := ∃ a xs c, vs = [.ref a, .int c] ∧ (-(2 ^ 63) ≤ c ∧ c < 2 ^ 63) ∧ SqL K H a xs ∧ R (IteS K c a) H
theorem rd_iEnumS (h : ta σ H fun vs H1 => enRS K R vs H1) : iEnumS K ta σ H R := h
theorem rd_enRS {a : Addr} {xs : List V} {c : Int} (e : SqL K H a xs) (hc : -(2 ^ 63) ≤ c ∧ c < 2 ^ 63) (h : R (IteS K c a) H) : enRS K R [.ref a, .int c] H := ⟨a, xs, c, rfl, hc, e, h⟩
theorem forR_enumS {a : Addr} {xs : List V} {c : Int} (Pv : Nat → L2.St → Hp → Prop) (hl : ∀ i σ H, Pv i σ H → SqL K H a xs) (h0 : Pv 0 σ H)
    (hs : ∀ (i : Nat) x σ H t H', xs[i]? = some x → Pv i σ H → H t = none → Same H H' → H' t = some (.tup [.int (c + (i : Nat)), x]) → H' = upd H t (.tup [.int (c + (i : Nat)), x]) → g (.ref t) σ H' fun σ2 H2 => tb ⟨Pv (i + 1), rt, nx, Pv (i + 1)⟩ σ2 H2) (hd : ∀ σ H, Pv xs.length σ H → nx σ H) :
    ForR (IteS K c a) g tb ⟨nx, rt, bk, ct⟩ σ H := forR_gen _ xs.length Pv h0 (fun i σ H h p => ⟨xs, xs[i], hl i σ H p, by simp [h]⟩) (fun σ H p => ⟨xs, hl _ σ H p, Nat.le_refl _⟩)
      (fun i σ H x H' hi p ⟨t, y, e1, e2, e3, e4⟩ => by subst e1; subst e3; exact hs i y σ H t _ (e4 xs (hl i σ _ p)) p e2 (Same.new (Same.refl H) e2) upd_same rfl) hd
end
end Sl
set_option Elab.async false
set_option linter.all false
set_option maxRecDepth 100000
set_option maxHeartbeats 4000000
/-! list != list: unlike lengths, or the same things (by identity) -/
namespace L2
open PySem PySem.Spec PyProof.Rows
def rNeRL (K : PySem.W.Frag) : R2 := fun x y H Q => ∃ a b xs ys, x = .ref a ∧ y = .ref b ∧ SqL K H a xs ∧ SqL K H b ys ∧ ((xs.length ≠ ys.length ∧ Q (.bl true) H) ∨ (xs = ys ∧ (∀ x ∈ xs, ∃ r, x = .ref r) ∧ Q (.bl false) H))
theorem vals_same : ∀ {xs : List V} {us ws : List Value}, (∀ x ∈ xs, ∃ r, x = V.ref r) → Vals xs us → Vals xs ws → us = ws
  | [], _, _, _, .nil, .nil => rfl
  | x :: xs, _, _, h, .cons a1 b1, .cons a2 b2 => by
    obtain ⟨r, rfl⟩ := h x List.mem_cons_self
    have a1 : _ = Value.ref r := a1
    have a2 : _ = Value.ref r := a2
    rw [a1, a2, vals_same (fun y hy => h y (List.mem_cons_of_mem _ hy)) b1 b2]
theorem op_neRL {X : Cx} (hu : X.A.units + 64 < cLine) : OpR X (compareOp .NotEq) (rNeRL X.K) := by
  intro pins s σ H x y v u Q I rx ry h
  obtain ⟨a, b, xs, ys, rfl, rfl, ha, hb, h⟩ := h
  cases (show v = Value.ref a from rx)
  cases (show u = Value.ref b from ry)
  obtain ⟨us, r1, p1, _⟩ := I.list ha
  obtain ⟨ws, r2, p2, _⟩ := I.list hb
  have l1 := r1.length
  have l2 := r2.length
  rcases h with ⟨hn, q⟩ | ⟨rfl, hr, q⟩
  · exact SeqAt.RcNeAt.lists_lengths p1.isList p2.isList (by simp; omega) (by omega) X.prog X.w _ _ ⟨.bl true, H, I, rfl, q⟩
  · have e := vals_same hr r1 r2
    subst e
    have hsz : us.toArray.size = us.toArray.size := rfl
    refine SeqAt.RcNeAt.lists (e := fun _ => true) p1.isList p2.isList hsz (by omega) (fun j h1 h2 => SeqAt.EqAt.same _) X.prog X.w _ _ ?_
    rw [show ((List.range us.toArray.size).all fun _ => true) = true from List.all_eq_true.mpr fun _ _ => rfl]
    exact ⟨.bl false, H, I, rfl, q⟩
end L2
namespace Sl
open PySem L2 C8 StX
section
variable {H : Hp} {Q : VK} {K : PySem.W.Frag} {a b : Addr} {xs ys : List V}
theorem rd_neRL1 (e1 : SqL K H a xs) (e2 : SqL K H b ys) (n : xs.length ≠ ys.length) (h : Q (.bl true) H) : rNeRL K (.ref a) (.ref b) H Q := ⟨a, b, xs, ys, rfl, rfl, e1, e2, .inl ⟨n, h⟩⟩
theorem rd_neRL0 (e1 : SqL K H a xs) (e2 : SqL K H b xs) (r : ∀ x ∈ xs, ∃ r, x = .ref r) (h : Q (.bl false) H) : rNeRL K (.ref a) (.ref b) H Q := ⟨a, b, xs, xs, rfl, rfl, e1, e2, .inr ⟨rfl, r, h⟩⟩
end
end Sl
set_option Elab.async false
set_option linter.all false
set_option maxRecDepth 100000
set_option maxHeartbeats 4000000
/-! [a, 3] != [a, b], b an own instance with its own __eq__ -/
namespace NeM
open PySem PySem.SeqAt AutoSeq1 MeetsSeq MeetsSeq2 MeetsSeq3
section
variable {prog : Program} {w : World}
/-- the loop at the last of two -/
theorem loop1 (l b : Addr) (items items2 : Array Value) (v1 w1 : Value) (i1 : items[1]? = some v1) (i2 : items2[1]? = some w1) (n n2 : Nat) (dd dd2 : Option Addr) (sl sl2 : Array (Option Value)) : MeetsIn prog w (Builtin.«list.__eq__.loop» ⟨[.ref l, .ref b, rawInt ((1 : Nat) : Int), rawInt 3], []⟩)
    (fun A R s => s.heap.get? l = some { cls := .type "list", dict := dd, data := .seq items n, slots := sl } ∧ s.heap.get? b = some { cls := .type "list", dict := dd2, data := .seq items2 n2, slots := sl2 } ∧
      wpAny (model prog w) A.in1 (eqBool v1 w1) (fun r s' => r = false ∧ (∃ xs ys x1 y1 m m2 d d2 z z2, s'.heap.get? l = some { cls := .type "list", dict := d, data := .seq xs m, slots := z } ∧ s'.heap.get? b = some { cls := .type "list", dict := d2, data := .seq ys m2, slots := z2 } ∧ xs[1]? = some x1 ∧ ys[1]? = some y1) ∧ R (.ok (.ret (.bool true))) s') (fun e s' => R (.error e) s') s) := by
  intro A R s h
  obtain ⟨hp, g, d, tk, os⟩ := s
  obtain ⟨hl, hb, he⟩ := h
  wp_walk using wpAny_loadPart' hl, wpAny_loadPart' hb
  have j1 : items[((1 : Nat) : Int).toNat]? = some v1 := i1
  have j2 : items2[((1 : Nat) : Int).toNat]? = some w1 := i2
  rw [j1, j2]
  refine wpAny_bind (wpAny_mono he (fun r s' h' => ?_) fun _ _ e => e)
  obtain ⟨rfl, ⟨xs, ys, x1, y1, m, m2, d1, d2, z, z2, hl2, hb2, k1, k2⟩, q⟩ := h'
  obtain ⟨hp2, g2, dr2, tk2, os2⟩ := s'
  wp_walk using wpAny_loadPart' hl2, wpAny_loadPart' hb2
  have j3 : xs[((1 : Nat) : Int).toNat]? = some x1 := k1
  have j4 : ys[((1 : Nat) : Int).toNat]? = some y1 := k2
  rw [j3, j4]
  wp_walk
  exact q
theorem loop0 (l b : Addr) (items items2 : Array Value) (v0 v1 w1 : Value) (i0 : items[0]? = some v0) (e0 : items2[0]? = some v0) (i1 : items[1]? = some v1) (i2 : items2[1]? = some w1) (n n2 : Nat) (dd dd2 : Option Addr) (sl sl2 : Array (Option Value)) : MeetsIn prog w (Builtin.«list.__eq__.loop» ⟨[.ref l, .ref b, rawInt ((0 : Nat) : Int), rawInt 3], []⟩)
    (fun A R s => s.heap.get? l = some { cls := .type "list", dict := dd, data := .seq items n, slots := sl } ∧ s.heap.get? b = some { cls := .type "list", dict := dd2, data := .seq items2 n2, slots := sl2 } ∧
      wpAny (model prog w) A.in1 (eqBool v1 w1) (fun r s' => r = false ∧ (∃ xs ys x1 y1 m m2 d d2 z z2, s'.heap.get? l = some { cls := .type "list", dict := d, data := .seq xs m, slots := z } ∧ s'.heap.get? b = some { cls := .type "list", dict := d2, data := .seq ys m2, slots := z2 } ∧ xs[1]? = some x1 ∧ ys[1]? = some y1) ∧ R (.ok (.ret (.bool true))) s') (fun e s' => R (.error e) s') s) := by
  intro A R s h
  obtain ⟨hp, g, d, tk, os⟩ := s
  obtain ⟨hl, hb, he⟩ := h
  wp_walk using wpAny_loadPart' hl, wpAny_loadPart' hb
  have j1 : items[((0 : Nat) : Int).toNat]? = some v0 := i0
  have j2 : items2[((0 : Nat) : Int).toNat]? = some v0 := e0
  rw [j1, j2]
  refine wpAny_bind (EqAt.same v0 prog w _ _ ?_)
  have hc : (((0 : Nat) : Int) + 1) = ((0 + 1 : Nat) : Int) := rfl
  wp_walk
  rw [hc]
  exact ⟨plainId_quiet plain_eq_loop _, codeAny_builtin entry_eq_loop (by
    rw [Around.under_plainId plain_eq_loop _]
    exact loop1 l b items items2 v1 w1 i1 i2 n n2 dd dd2 sl sl2 A R _ ⟨hl, hb, he⟩)⟩
theorem ne2 (l b : Addr) (items items2 : Array Value) (v0 v1 w1 : Value) (i0 : items[0]? = some v0) (e0 : items2[0]? = some v0) (i1 : items[1]? = some v1) (i2 : items2[1]? = some w1) (hsz : items.size = items2.size) (n n2 : Nat) (dd dd2 : Option Addr) (sl sl2 : Array (Option Value)) : MeetsIn prog w (Builtin.«list.__ne__» ⟨[.ref l, .ref b], []⟩)
    (fun A R s => s.heap.get? l = some { cls := .type "list", dict := dd, data := .seq items n, slots := sl } ∧ s.heap.get? b = some { cls := .type "list", dict := dd2, data := .seq items2 n2, slots := sl2 } ∧
      wpAny (model prog w) A.in1 (eqBool v1 w1) (fun r s' => r = false ∧ (∃ xs ys x1 y1 m m2 d d2 z z2, s'.heap.get? l = some { cls := .type "list", dict := d, data := .seq xs m, slots := z } ∧ s'.heap.get? b = some { cls := .type "list", dict := d2, data := .seq ys m2, slots := z2 } ∧ xs[1]? = some x1 ∧ ys[1]? = some y1) ∧ R (.ok (.ret (.bool true))) s') (fun e s' => R (.error e) s') s) := by
  intro A R s h
  obtain ⟨hp, g, d, tk, os⟩ := s
  obtain ⟨hl, hb, he⟩ := h
  have f3 := AutoSeq1.sub_list_list
  have hne : ¬ (items.size != items2.size) = true := by simp [hsz]
  wp_walk using wpAny_loadPart' hl, wpAny_loadPart' hb
  exact ⟨plainId_quiet plain_eq_loop _, codeAny_builtin entry_eq_loop (by
    rw [Around.under_plainId plain_eq_loop _]
    exact loop0 l b items items2 v0 v1 w1 i0 e0 i1 i2 n n2 dd dd2 sl sl2 A R _ ⟨hl, hb, he⟩)⟩
theorem rc2 {A : Around} {E : Value → Shared → Prop} {s : Shared} {Q : Value → Shared → Prop} {l b : Addr} {v0 v1 w1 : Value} (hl : s.heap.IsList l #[v0, v1]) (hb : s.heap.IsList b #[v0, w1]) (hu : A.units < cLine)
    (he : wpAny (model prog w) A.in1 (eqBool v1 w1) (fun r s' => r = false ∧ (∃ x0 x1 y0 y1, s'.heap.IsList l #[x0, x1] ∧ s'.heap.IsList b #[y0, y1]) ∧ Q (.bool true) s') E s) : wpAny (model prog w) A (richCompare .NotEq (.ref l) (.ref b)) Q E s := by
  obtain ⟨⟨cls, dd, data, sl⟩, ho, hc, n, hd⟩ := id hl
  obtain ⟨⟨cls2, dd2, data2, sl2⟩, ho2, hc2, n2, hd2⟩ := id hb
  simp only at hc hd hc2 hd2
  subst hc hd hc2 hd2
  refine wpAny_richCompare_same_room ⟨_, ho, rfl⟩ ⟨_, ho2, rfl⟩ F.slot_list_ne (call_meetsIn F.slot_list_ne ⟨_, ho, rfl⟩ F.entry_list_ne (F.args_list_ne_2 _ _) (ne2 l b #[v0, v1] #[v0, w1] v0 v1 w1 rfl rfl rfl rfl rfl n n2 dd dd2 sl sl2) ⟨ho, ho2, wpAny_mono he (fun r s' h' => ?_) fun _ _ e => e⟩) hu
  obtain ⟨rfl, ⟨x0, x1, y0, y1, h1, h2⟩, q⟩ := h'
  obtain ⟨⟨c3, d3, data3, z3⟩, o3, e3, n3, g3⟩ := id h1
  obtain ⟨⟨c4, d4, data4, z4⟩, o4, e4, n4, g4⟩ := id h2
  simp only at e3 g3 e4 g4
  subst e3 g3 e4 g4
  exact ⟨rfl, ⟨#[x0, x1], #[y0, y1], x1, y1, n3, n4, d3, d4, z3, z4, o3, o4, rfl, rfl⟩, (fun x => nomatch x), q⟩
end
theorem int_eq_ins (b : Int) (u : Tok) (l C dx : Addr) :
    Meets (Builtin.«int.__eq__» ⟨[.int b u, .ref l], []⟩) (fun _ R s => s.heap.get? l = some (PySem.W.instObj C dx) ∧ R (.ok (.ret .notImplemented)) s) :=
  .of_wp fun prog w A R s h => by
    obtain ⟨hp, g, d, tk, os⟩ := s
    obtain ⟨hl, h⟩ := h
    unfold PySem.W.instObj at hl
    wp_walk using wpAny_loadPart' hl, wpAny_load hl
    exact ⟨_, rfl, h⟩
end NeM
namespace L2
open PySem PySem.Spec PyProof.Rows
section
variable {X : Cx} {k j : Nat} {C : Addr} {sp : Sp} {dvs : List V} {pins : List (Addr × Obj)} {σ : St} {H : Hp} {s : Shared}
theorem eq_int_ins (c : C8.Met X.prog X.w X.K X.mg X.base k C "__eq__" sp dvs) (hr : Room j X.A) (hk : k + 1 ≤ j) (hu : X.A.in1.units < cLine) (hn : PySem.W.subIn X.K (.ref C) (.type "int") = some false) (I : Inv X pins σ H s) {o dx : Addr} {fs : List (Str × V)} (e : H o = some (.ins C dx fs)) (i : Int) (t : Tok) {Q : Hp → Prop}
    (h : sp ([.ref o, .int i] ++ dvs) H (fun v H' => v = .bl false ∧ Q H') C8.E0) : wpAny (model X.prog X.w) X.A.in1 (eqBool (.int i t) (.ref o)) (fun r s' => r = false ∧ ∃ H', Inv X pins σ H' s' ∧ Q H') X.xe s := by
  obtain ⟨f, fd, ps, ds, cl, hm, FF, bd, d⟩ := c.ex
  obtain ⟨mA, O, _, _, _, _⟩ := ins_get I.hok e
  obtain ⟨od, J, _⟩ := O.look
  have KI := I.kIn
  unfold eqBool
  refine wpAny_holding ?_
  rw [if_neg (show ¬ ((Value.int i t == Value.ref o) = true) from by simp)]
  have back : wpAny (model X.prog X.w) X.A.in1 (tryCompare (.ref o) "__eq__" (.int i t)) (fun r s' => r = some (.bool false) ∧ ∃ H', Inv X pins σ H' s' ∧ Q H') X.xe s := by
    unfold tryCompare
    refine wpAny_bind (PySem.W.ifBound_K KI J hm.at_ hm.fn (wpAny_mono (run_fn1 (us := [.ref o, .int i t]) (vs := [.ref o, .int i]) FF (hr.mono hk) bd d C8.pass0 I (.cons rfl (.cons ⟨t, rfl⟩ .nil)) h) (fun v s2 y => ?_) fun _ _ y => y))
    obtain ⟨x2, H2, I2, rx2, rfl, q2⟩ := y
    obtain rfl : v = Value.bool false := rx2
    exact wpAny_pure ⟨rfl, H2, I2, q2⟩
  have rc : wpAny (model X.prog X.w) X.A.in1 (richCompare .Eq (.int i t) (.ref o)) (fun r s' => r = .bool false ∧ ∃ H', Inv X pins σ H' s' ∧ Q H') X.xe s := by
    have ci : cmpInfo .Eq = (("==", "__eq__", "__eq__") : String × Str × Str) := rfl
    simp only [richCompare, ci, (typeIs_int s i t).oneThing_none]
    refine wpAny_holding (wpAny_bind (wpAny_cRoomFor hu ?_))
    refine wpAny_bind (wpAny_typeOf (typeIs_int s i t) (wpAny_bind (J.type.here ?_)))
    rw [if_pos (show (Value.type "int" != Value.ref C) = true from by simp)]
    refine wpAny_bind ((PySem.W.looks_subIn KI hn).here ?_)
    simp only [Bool.false_eq_true, if_false, Bool.not_false, if_true]
    refine wpAny_bind (m := tryCompare (.int i t) _ (.ref o)) (wpAny_tryCompare_declines (typeIs_int s i t) F.slot_int_eq (call_meets F.slot_int_eq (typeIs_int s i t) F.entry_int_eq (F.args_int_eq_2 _ _) (NeM.int_eq_ins i t o C dx) ⟨O.obj, rfl, ?_⟩))
    refine wpAny_bind (wpAny_mono back (fun r s' y => ?_) fun _ _ y => y)
    obtain ⟨rfl, y⟩ := y
    exact wpAny_pure ⟨rfl, y⟩
  refine wpAny_bind (wpAny_mono rc (fun r s' y => ?_) fun _ _ y => y)
  obtain ⟨rfl, y⟩ := y
  exact wpAny_truthy_bool ⟨rfl, y⟩
/-- list != list: as rNeRL tells, or [a, i] against [a, b] -/
def rNeRM (K : PySem.W.Frag) (C : Addr) (sp : Sp) (dvs : List V) : R2 := fun x y H Q => rNeRL K x y H Q ∨ ∃ a b r i o dx fs, x = .ref a ∧ y = .ref b ∧ H a = some (.lst [.ref r, .int i]) ∧ H b = some (.lst [.ref r, .ref o]) ∧ H o = some (.ins C dx fs) ∧
  sp ([.ref o, .int i] ++ dvs) H (fun v H' => v = .bl false ∧ (H' a = some (.lst [.ref r, .int i]) ∧ H' b = some (.lst [.ref r, .ref o])) ∧ Q (.bl true) H') C8.E0
theorem op_neRM (c : C8.Met X.prog X.w X.K X.mg X.base k C "__eq__" sp dvs) (hr : Room j X.A) (hk : k + 1 ≤ j) (hu : X.A.units + 64 < cLine) (hn : PySem.W.subIn X.K (.ref C) (.type "int") = some false) : OpR X (compareOp .NotEq) (rNeRM X.K C sp dvs) := by
  intro pins s σ H x y v u Q I rx ry h
  rcases h with h | ⟨a, b, r, i, o, dx, fs, rfl, rfl, ha, hb, ho, h⟩
  · exact op_neRL hu pins s σ H x y v u Q I rx ry h
  · cases (show v = Value.ref a from rx)
    cases (show u = Value.ref b from ry)
    obtain ⟨us, r1, p1, _⟩ := I.list (SqL.of ha)
    obtain ⟨ws, r2, p2, _⟩ := I.list (SqL.of hb)
    obtain ⟨v0, v1, rfl, q0, q1⟩ := vals2 r1
    obtain ⟨w0, w1, rfl, q2, q3⟩ := vals2 r2
    obtain rfl : v0 = Value.ref r := q0
    obtain ⟨t, rfl⟩ : ∃ t, v1 = Value.int i t := q1
    obtain rfl : w0 = Value.ref r := q2
    obtain rfl : w1 = Value.ref o := q3
    have hl : s.heap.IsList a #[.ref r, .int i t] := p1.isList
    have hb2 : s.heap.IsList b #[.ref r, .ref o] := p2.isList
    refine NeM.rc2 hl hb2 (by omega) (wpAny_mono (eq_int_ins c hr hk (show X.A.units + 1 < cLine by omega) hn I ho i t (Q := fun H' => (H' a = some (.lst [.ref r, .int i]) ∧ H' b = some (.lst [.ref r, .ref o])) ∧ Q (.bl true) H') h) (fun r' s' y => ?_) fun _ _ y => y)
    obtain ⟨rfl, H', I', ⟨ha', hb'⟩, q⟩ := y
    obtain ⟨us', r1', p1', _⟩ := I'.list (SqL.of ha')
    obtain ⟨ws', r2', p2', _⟩ := I'.list (SqL.of hb')
    obtain ⟨a0, a1, rfl, _, _⟩ := vals2 r1'
    obtain ⟨b0, b1, rfl, _, _⟩ := vals2 r2'
    exact ⟨rfl, ⟨a0, a1, b0, b1, p1'.isList, p2'.isList⟩, .bl true, H', I', rfl, q⟩
end
end L2
namespace Sl
open PySem L2 C8 StX
section
variable {H : Hp} {Q : VK} {K : PySem.W.Frag} {C : Addr} {sp : Sp} {dvs : List V} {a b r o dx : Addr} {i : Int} {fs : List (Str × V)} {x y : V}
theorem rd_neRM1 (h : rNeRL K x y H Q) : rNeRM K C sp dvs x y H Q := .inl h
theorem rd_neRM2 (ha : H a = some (.lst [.ref r, .int i])) (hb : H b = some (.lst [.ref r, .ref o])) (ho : H o = some (.ins C dx fs)) (h : sp ([.ref o, .int i] ++ dvs) H (fun v H' => v = .bl false ∧ (H' a = some (.lst [.ref r, .int i]) ∧ H' b = some (.lst [.ref r, .ref o])) ∧ Q (.bl true) H') C8.E0) :
    rNeRM K C sp dvs (.ref a) (.ref b) H Q := .inr ⟨a, b, r, i, o, dx, fs, rfl, rfl, ha, hb, ho, h⟩
end
end Sl
set_option Elab.async false
set_option linter.all false
set_option maxRecDepth 100000
set_option maxHeartbeats 4000000
/-! what baking does: versions of a key, rows of stretches, one tidy row of them for what is told -/
namespace Silt
open PySem
abbrev Tx := { z : Str // PyData.strOk z = true }
abbrev Ver := Int × Option Tx
abbrev Vs := List Ver
abbrev Rw := Int × Int × Vs
instance : DecidableEq Tx := fun a b => decidable_of_iff (a.1 = b.1) ⟨Subtype.ext, congrArg Subtype.val⟩
instance : DecidableEq Ver := inferInstanceAs (DecidableEq (Int × Option Tx))
instance : DecidableEq Vs := inferInstanceAs (DecidableEq (List Ver))
instance : DecidableEq Rw := inferInstanceAs (DecidableEq (Int × Int × Vs))
instance : DecidableEq (List Rw) := inferInstance
def goneV (t : Vs) : Bool := t.all fun v => v.2.isNone
def hasK (r : Rw) (k : Int) : Prop := r.1 ≤ k ∧ k ≤ r.2.1
instance (r : Rw) (k : Int) : Decidable (hasK r k) := inferInstanceAs (Decidable (_ ∧ _))
def atR : List Rw → Int → Vs
  | [], _ => []
  | r :: rs, k => if hasK r k then r.2.2 else atR rs k
def RowOk (r : Rw) : Prop := r.1 ≤ r.2.1 ∧ r.2.2 ≠ [] ∧ (goneV r.2.2 = false → r.1 = r.2.1)
def Apart (a b : Rw) : Prop := a.2.1 < b.1 ∧ ¬ (a.2.1 + 1 = b.1 ∧ a.2.2 = b.2.2 ∧ goneV a.2.2 = true)
def Asc (rs : List Rw) : Prop := rs.Pairwise fun a b => a.2.1 < b.1
def Tidy (rs : List Rw) : Prop := (∀ r ∈ rs, RowOk r) ∧ rs.Pairwise Apart
theorem Tidy.asc {rs : List Rw} (h : Tidy rs) : Asc rs := h.2.imp fun z => z.1
theorem Tidy.nil : Tidy [] := ⟨fun r h => (by cases h), List.Pairwise.nil⟩
theorem at_no {rs : List Rw} {k : Int} (h : ∀ r ∈ rs, ¬ hasK r k) : atR rs k = [] := by
  induction rs with
  | nil => rfl
  | cons r rs ih =>
    unfold atR
    rw [if_neg (h r List.mem_cons_self)]
    exact ih fun x hx => h x (List.mem_cons_of_mem _ hx)
theorem at_mem {rs : List Rw} (a : Asc rs) (l : ∀ r ∈ rs, r.1 ≤ r.2.1) {r : Rw} {k : Int} (h : r ∈ rs) (hk : hasK r k) : atR rs k = r.2.2 := by
  induction rs with
  | nil => cases h
  | cons x rs ih =>
    unfold atR
    have pw := List.pairwise_cons.mp a
    rcases List.mem_cons.mp h with rfl | h
    · rw [if_pos hk]
    · have := pw.1 r h
      rw [if_neg (fun z => by unfold hasK at z hk; omega)]
      exact ih pw.2 (fun y hy => l y (List.mem_cons_of_mem _ hy)) h
theorem at_some {rs : List Rw} {k : Int} (h : atR rs k ≠ []) : ∃ r ∈ rs, hasK r k ∧ atR rs k = r.2.2 := by
  induction rs with
  | nil => exact absurd rfl h
  | cons r rs ih =>
    unfold atR at h ⊢
    by_cases c : hasK r k
    · rw [if_pos c]
      exact ⟨r, List.mem_cons_self, c, rfl⟩
    · rw [if_neg c] at h ⊢
      obtain ⟨x, hx, e⟩ := ih h
      exact ⟨x, List.mem_cons_of_mem _ hx, e⟩
theorem Asc.lo {r : Rw} {rs : List Rw} (h : Asc (r :: rs)) (l : ∀ x ∈ r :: rs, x.1 ≤ x.2.1) {k : Int} (hk : k ≤ r.2.1) : atR rs k = [] :=
  at_no fun x hx z => by
    have := (List.pairwise_cons.mp h).1 x hx
    unfold hasK at z
    omega
theorem tidy_uniq : ∀ {a b : List Rw}, Tidy a → Tidy b → (∀ k, atR a k = atR b k) → a = b
  | [], [], _, _, _ => rfl
  | [], r :: b, _, hb, h => by
    have ok := hb.1 r List.mem_cons_self
    have := h r.1
    rw [at_mem (rs := r :: b) hb.asc (fun x hx => (hb.1 x hx).1) List.mem_cons_self ⟨Int.le_refl _, ok.1⟩] at this
    exact absurd this.symm ok.2.1
  | r :: a, [], ha, _, h => by
    have ok := ha.1 r List.mem_cons_self
    have := h r.1
    rw [at_mem (rs := r :: a) ha.asc (fun x hx => (ha.1 x hx).1) List.mem_cons_self ⟨Int.le_refl _, ok.1⟩] at this
    exact absurd this ok.2.1
  | r :: a, s :: b, ha, hb, h => by
    have la : ∀ x ∈ r :: a, x.1 ≤ x.2.1 := fun x hx => (ha.1 x hx).1
    have lb : ∀ x ∈ s :: b, x.1 ≤ x.2.1 := fun x hx => (hb.1 x hx).1
    have okr := ha.1 r List.mem_cons_self
    have oks := hb.1 s List.mem_cons_self
    have low : ∀ {x : Rw} {l : List Rw}, Tidy (x :: l) → ∀ {k}, atR (x :: l) k ≠ [] → x.1 ≤ k := by
      intro x l hx k hk
      obtain ⟨y, hy, e, _⟩ := at_some hk
      unfold hasK at e
      rcases List.mem_cons.mp hy with rfl | hy
      · exact e.1
      · have := (List.pairwise_cons.mp hx.2).1 y hy
        have := (hx.1 x List.mem_cons_self).1
        unfold Apart at *
        omega
    have ar : atR (r :: a) r.1 = r.2.2 := at_mem ha.asc la List.mem_cons_self ⟨Int.le_refl _, okr.1⟩
    have as : atR (s :: b) s.1 = s.2.2 := at_mem hb.asc lb List.mem_cons_self ⟨Int.le_refl _, oks.1⟩
    have e1 : r.1 = s.1 := by
      have h1 := low hb (k := r.1) (by rw [← h, ar]; exact okr.2.1)
      have h2 := low ha (k := s.1) (by rw [h, as]; exact oks.2.1)
      omega
    have e2 : r.2.2 = s.2.2 := by rw [← ar, ← as, h, e1]
    have up : ∀ {x y : Rw} {l m : List Rw}, Tidy (x :: l) → Tidy (y :: m) → (∀ k, atR (x :: l) k = atR (y :: m) k) → x.1 = y.1 → x.2.2 = y.2.2 → x.2.1 < y.2.1 → False := by
      intro x y l m hx hy hk e1 e2 c
      have okx := hx.1 x List.mem_cons_self
      have oky := hy.1 y List.mem_cons_self
      have g : goneV y.2.2 = true := by
        cases q : goneV y.2.2 with
        | true => rfl
        | false =>
          have := oky.2.2 q
          have := okx.1
          omega
      have z1 : atR (y :: m) (x.2.1 + 1) = y.2.2 := at_mem hy.asc (fun z hz => (hy.1 z hz).1) List.mem_cons_self ⟨by have := okx.1; omega, by omega⟩
      have z2 := (hk (x.2.1 + 1)).trans z1
      obtain ⟨w, hw, hh, e⟩ := at_some (by rw [z2]; exact oky.2.1)
      rw [z2] at e
      unfold hasK at hh
      rcases List.mem_cons.mp hw with rfl | hw
      · omega
      · have := (List.pairwise_cons.mp hx.2).1 w hw
        exact this.2 ⟨by have := this.1; omega, by rw [e2, e], by rw [e2]; exact g⟩
    have e3 : r.2.1 = s.2.1 := by
      rcases Int.lt_trichotomy r.2.1 s.2.1 with c | c | c
      · exact (up ha hb h e1 e2 c).elim
      · exact c
      · exact (up hb ha (fun k => (h k).symm) e1.symm e2.symm c).elim
    have e : r = s := Prod.ext e1 (Prod.ext e3 e2)
    subst e
    congr 1
    refine tidy_uniq ⟨fun x hx => ha.1 x (List.mem_cons_of_mem _ hx), (List.pairwise_cons.mp ha.2).2⟩ ⟨fun x hx => hb.1 x (List.mem_cons_of_mem _ hx), (List.pairwise_cons.mp hb.2).2⟩ fun k => ?_
    have := h k
    unfold atR at this
    by_cases c : hasK r k
    · rw [ha.asc.lo la c.2, hb.asc.lo lb c.2]
    · rwa [if_neg c, if_neg c] at this
theorem at_snoc {f : List Rw} {r : Rw} (a : Asc (f ++ [r])) (l : ∀ x ∈ f ++ [r], x.1 ≤ x.2.1) (k : Int) : atR (f ++ [r]) k = if hasK r k then r.2.2 else atR f k := by
  by_cases c : hasK r k
  · rw [if_pos c, at_mem a l (by simp) c]
  · rw [if_neg c]
    induction f with
    | nil =>
      show (if hasK r k then r.2.2 else atR [] k) = atR [] k
      rw [if_neg c]
    | cons x f ih =>
      show (if hasK x k then x.2.2 else atR (f ++ [r]) k) = if hasK x k then x.2.2 else atR f k
      rw [ih (List.pairwise_cons.mp a).2 (fun y hy => l y (List.mem_cons_of_mem _ hy))]
theorem asc_snoc {f : List Rw} {r : Rw} (a : Asc f) (h : ∀ x ∈ f, x.2.1 < r.1) : Asc (f ++ [r]) := by
  unfold Asc
  rw [List.pairwise_append]
  exact ⟨a, List.pairwise_singleton _ _, fun x hx y hy => by rw [List.mem_singleton.mp hy]; exact h x hx⟩
/-- a row put behind -/
theorem tidy_new {f : List Rw} {r : Rw} (t : Tidy f) (ok : RowOk r) (h : ∀ x ∈ f, x.2.1 < r.1) (hl : ∀ g l, f = g ++ [l] → ¬ (l.2.1 + 1 = r.1 ∧ l.2.2 = r.2.2 ∧ goneV r.2.2 = true)) :
    Tidy (f ++ [r]) ∧ ∀ k, atR (f ++ [r]) k = if hasK r k then r.2.2 else atR f k := by
  have T : Tidy (f ++ [r]) := by
    refine ⟨fun x hx => ?_, ?_⟩
    · rcases List.mem_append.mp hx with z | z
      · exact t.1 x z
      · rw [List.mem_singleton.mp z]
        exact ok
    · rw [List.pairwise_append]
      refine ⟨t.2, List.pairwise_singleton _ _, fun x hx y hy => ?_⟩
      rw [List.mem_singleton.mp hy]
      refine ⟨h x hx, fun ⟨z1, z2, z3⟩ => ?_⟩
      rcases List.eq_nil_or_concat f with rfl | ⟨g, l, rfl⟩
      · cases hx
      · rw [List.concat_eq_append] at hx h t hl
        rcases List.mem_append.mp hx with q | q
        · have p := (List.pairwise_append.mp t.2).2.2 x q l (by simp)
          have o := (t.1 l (by simp)).1
          have := h l (by simp)
          unfold Apart at p
          omega
        · obtain rfl := List.mem_singleton.mp q
          exact hl g x rfl ⟨z1, z2, by rw [← z2]; exact z3⟩
  exact ⟨T, at_snoc T.asc fun x hx => (T.1 x hx).1⟩
/-- the last row goes on -/
theorem tidy_ext {g : List Rw} {l r : Rw} (t : Tidy (g ++ [l])) (hr : r.1 ≤ r.2.1) (h1 : l.2.1 + 1 = r.1) (h2 : l.2.2 = r.2.2) (h3 : goneV r.2.2 = true) :
    Tidy (g ++ [(l.1, r.2.1, r.2.2)]) ∧ ∀ k, atR (g ++ [(l.1, r.2.1, r.2.2)]) k = if hasK r k then r.2.2 else atR (g ++ [l]) k := by
  have ol := t.1 l (by simp)
  have T : Tidy (g ++ [(l.1, r.2.1, r.2.2)]) := by
    refine ⟨fun x hx => ?_, ?_⟩
    · rcases List.mem_append.mp hx with z | z
      · exact t.1 x (List.mem_append_left _ z)
      · rw [List.mem_singleton.mp z]
        exact ⟨by have := ol.1; show l.1 ≤ r.2.1; omega, by rw [← h2]; exact ol.2.1, fun z => by rw [h3] at z; cases z⟩
    · have p := List.pairwise_append.mp t.2
      rw [List.pairwise_append]
      refine ⟨p.1, List.pairwise_singleton _ _, fun x hx y hy => ?_⟩
      rw [List.mem_singleton.mp hy]
      have q := p.2.2 x hx l (by simp)
      exact ⟨q.1, fun ⟨z1, z2, z3⟩ => q.2 ⟨z1, by rw [h2]; exact z2, z3⟩⟩
  refine ⟨T, fun k => ?_⟩
  rw [at_snoc T.asc (fun x hx => (T.1 x hx).1) k, at_snoc t.asc (fun x hx => (t.1 x hx).1) k]
  have := ol.1
  by_cases c : hasK r k
  · have c' : r.1 ≤ k ∧ k ≤ r.2.1 := c
    rw [if_pos c, if_pos (show hasK (l.1, r.2.1, r.2.2) k from ⟨by show l.1 ≤ k; omega, by show k ≤ r.2.1; omega⟩)]
  · have c' : ¬ (r.1 ≤ k ∧ k ≤ r.2.1) := c
    rw [if_neg c]
    by_cases c2 : hasK l k
    · have c3 : l.1 ≤ k ∧ k ≤ l.2.1 := c2
      rw [if_pos c2, if_pos (show hasK (l.1, r.2.1, r.2.2) k from ⟨by show l.1 ≤ k; omega, by show k ≤ r.2.1; omega⟩), h2]
    · have c3 : ¬ (l.1 ≤ k ∧ k ≤ l.2.1) := c2
      rw [if_neg c2, if_neg (fun z : hasK (l.1, r.2.1, r.2.2) k => by have z : l.1 ≤ k ∧ k ≤ r.2.1 := z; omega)]
/-! ### cuts and stretches -/
def catAt (LL : List (List Rw)) (k : Int) : Vs := LL.flatMap fun rs => atR rs k
def strL (LL : List (List Rw)) (cs : List Int) : List Rw := (cs.zip cs.tail).map fun p => (p.1, p.2 - 1, catAt LL p.1)
structure Cuts (LL : List (List Rw)) (cs : List Int) : Prop where
  asc : cs.Pairwise (· < ·)
  lo : ∀ rs ∈ LL, ∀ r ∈ rs, r.1 ∈ cs ∧ r.2.1 + 1 ∈ cs
theorem strL_cons {LL : List (List Rw)} {a b : Int} {t : List Int} : strL LL (a :: b :: t) = (a, b - 1, catAt LL a) :: strL LL (b :: t) := rfl
theorem strL_lo {LL : List (List Rw)} : ∀ {cs : List Int}, cs.Pairwise (· < ·) → ∀ r ∈ strL LL cs, r.1 ≤ r.2.1 ∧ r.1 ∈ cs ∧ r.2.1 + 1 ∈ cs
  | [], _, r, h => by cases h
  | [a], _, r, h => by cases h
  | a :: b :: t, hp, r, h => by
    rw [strL_cons] at h
    have p := List.pairwise_cons.mp hp
    rcases List.mem_cons.mp h with rfl | h
    · have := p.1 b (by simp)
      refine ⟨by show a ≤ b - 1; omega, by simp, ?_⟩
      show b - 1 + 1 ∈ _
      rw [show b - 1 + 1 = b by omega]
      simp
    · obtain ⟨h1, h2, h3⟩ := strL_lo p.2 r h
      exact ⟨h1, List.mem_cons_of_mem _ h2, List.mem_cons_of_mem _ h3⟩
theorem strL_asc {LL : List (List Rw)} : ∀ {cs : List Int}, cs.Pairwise (· < ·) → Asc (strL LL cs)
  | [], _ => List.Pairwise.nil
  | [a], _ => List.Pairwise.nil
  | a :: b :: t, hp => by
    rw [strL_cons]
    have p := List.pairwise_cons.mp hp
    refine List.pairwise_cons.mpr ⟨fun r hr => ?_, strL_asc p.2⟩
    have := (strL_lo p.2 r hr).2.1
    have q := List.pairwise_cons.mp p.2
    show b - 1 < r.1
    rcases List.mem_cons.mp this with z | z
    · omega
    · have := q.1 r.1 z
      omega
theorem strL_one {LL : List (List Rw)} (ok : ∀ rs ∈ LL, ∀ r ∈ rs, RowOk r) : ∀ {pre cs : List Int}, Cuts LL (pre ++ cs) → ∀ r ∈ strL LL cs, goneV r.2.2 = false → r.1 = r.2.1
  | _, [], _, r, h, _ => by cases h
  | _, [a], _, r, h, _ => by cases h
  | pre, a :: b :: t, C, r, h, g => by
    rw [strL_cons] at h
    rcases List.mem_cons.mp h with rfl | h
    · have g : goneV (catAt LL a) = false := g
      unfold goneV catAt at g
      rw [List.all_eq_false] at g
      obtain ⟨v, hv, hn⟩ := g
      obtain ⟨rs, hrs, hv⟩ := List.mem_flatMap.mp hv
      have ne : atR rs a ≠ [] := fun z => by rw [z] at hv; cases hv
      obtain ⟨x, hx, hk, e⟩ := at_some ne
      have gx : goneV x.2.2 = false := by
        unfold goneV
        rw [List.all_eq_false]
        exact ⟨v, by rw [← e]; exact hv, hn⟩
      have e1 := (ok rs hrs x hx).2.2 gx
      have e2 := (C.lo rs hrs x hx).2
      unfold hasK at hk
      have e3 : x.2.1 + 1 = a + 1 := by omega
      rw [e3] at e2
      have pw := C.asc
      rw [List.pairwise_append] at pw
      have p := List.pairwise_cons.mp pw.2.1
      have p2 := List.pairwise_cons.mp p.2
      have hab := p.1 b (by simp)
      show a = b - 1
      rcases List.mem_append.mp e2 with z | z
      · have := pw.2.2 _ z a (by simp)
        omega
      · rcases List.mem_cons.mp z with z | z
        · omega
        · rcases List.mem_cons.mp z with z | z
          · omega
          · have := p2.1 _ z
            omega
    · exact strL_one ok (pre := pre ++ [a]) (cs := b :: t) (by rw [List.append_assoc]; exact C) r h g
theorem cat_nil {LL : List (List Rw)} {k : Int} (h : ∀ rs ∈ LL, ∀ r ∈ rs, ¬ hasK r k) : catAt LL k = [] := by
  unfold catAt
  rw [List.flatMap_eq_nil_iff]
  exact fun rs hrs => at_no (h rs hrs)
theorem at_congr {rs : List Rw} {j k : Int} (h : ∀ r ∈ rs, (hasK r j ↔ hasK r k)) : atR rs j = atR rs k := by
  induction rs with
  | nil => rfl
  | cons r rs ih =>
    unfold atR
    rw [ih fun x hx => h x (List.mem_cons_of_mem _ hx)]
    by_cases c : hasK r j
    · rw [if_pos c, if_pos ((h r List.mem_cons_self).mp c)]
    · rw [if_neg c, if_neg (fun z => c ((h r List.mem_cons_self).mpr z))]
theorem cat_congr {LL : List (List Rw)} {j k : Int} (h : ∀ rs ∈ LL, ∀ r ∈ rs, (hasK r j ↔ hasK r k)) : catAt LL j = catAt LL k := by
  induction LL with
  | nil => rfl
  | cons rs LL ih =>
    show atR rs j ++ catAt LL j = atR rs k ++ catAt LL k
    rw [ih fun x hx => h x (List.mem_cons_of_mem _ hx), at_congr (h rs List.mem_cons_self)]
theorem strL_at {LL : List (List Rw)} : ∀ {pre cs : List Int} {a : Int}, Cuts LL (pre ++ (a :: cs)) → ∀ k, a ≤ k → atR (strL LL (a :: cs)) k = catAt LL k
  | pre, [], a, C, k, hk => by
    have pw := C.asc
    rw [List.pairwise_append] at pw
    show [] = _
    refine (cat_nil fun rs hrs r hr z => ?_).symm
    have e := (C.lo rs hrs r hr).2
    unfold hasK at z
    rcases List.mem_append.mp e with q | q
    · have := pw.2.2 _ q a (by simp)
      omega
    · have := List.mem_singleton.mp q
      omega
  | pre, b :: t, a, C, k, hk => by
    have pw := C.asc
    rw [List.pairwise_append] at pw
    have p := List.pairwise_cons.mp pw.2.1
    have p2 := List.pairwise_cons.mp p.2
    rw [strL_cons]
    show (if hasK (a, b - 1, catAt LL a) k then catAt LL a else atR (strL LL (b :: t)) k) = _
    by_cases c : hasK (a, b - 1, catAt LL a) k
    · rw [if_pos c]
      have c : a ≤ k ∧ k ≤ b - 1 := c
      refine cat_congr fun rs hrs r hr => ?_
      have h1 := (C.lo rs hrs r hr).1
      have h2 := (C.lo rs hrs r hr).2
      have side : ∀ x ∈ pre ++ a :: b :: t, x ≤ a ∨ b ≤ x := by
        intro x hx
        rcases List.mem_append.mp hx with z | z
        · have := pw.2.2 _ z a (by simp)
          exact .inl (by omega)
        · rcases List.mem_cons.mp z with z | z
          · exact .inl (by omega)
          · rcases List.mem_cons.mp z with z | z
            · exact .inr (by omega)
            · have := p2.1 _ z
              exact .inr (by omega)
      have s1 := side _ h1
      have s2 := side _ h2
      unfold hasK
      omega
    · rw [if_neg c]
      have c : ¬ (a ≤ k ∧ k ≤ b - 1) := c
      exact strL_at (pre := pre ++ [a]) (cs := t) (a := b) (by rw [List.append_assoc]; exact C) k (by omega)
theorem strL_all {LL : List (List Rw)} {cs : List Int} (C : Cuts LL cs) (k : Int) : atR (strL LL cs) k = catAt LL k := by
  cases cs with
  | nil =>
    refine (cat_nil fun rs hrs r hr z => ?_).symm
    exact absurd (C.lo rs hrs r hr).1 (List.not_mem_nil)
  | cons a cs =>
    by_cases c : a ≤ k
    · exact strL_at (pre := []) C k c
    · have p := List.pairwise_cons.mp C.asc
      have lo : ∀ x ∈ a :: cs, a ≤ x := by
        intro x hx
        rcases List.mem_cons.mp hx with z | z
        · omega
        · have := p.1 x z
          omega
      rw [at_no fun r hr z => by
        have := lo _ (strL_lo C.asc r hr).2.1
        unfold hasK at z
        omega]
      refine (cat_nil fun rs hrs r hr z => ?_).symm
      have := lo _ (C.lo rs hrs r hr).1
      unfold hasK at z
      omega
theorem at_map {rs : List Rw} {f : Vs → Vs} (h0 : f [] = []) (k : Int) : atR (rs.map fun r => (r.1, r.2.1, f r.2.2)) k = f (atR rs k) := by
  induction rs with
  | nil => exact h0.symm
  | cons r rs ih =>
    show (if hasK r k then f r.2.2 else _) = f (if hasK r k then r.2.2 else _)
    by_cases c : hasK r k
    · rw [if_pos c, if_pos c]
    · rw [if_neg c, if_neg c]
      exact ih
/-! ### which versions stay -/
def ndP (P : List Int) (d l : Int) : Bool := P.any fun p => decide (d ≤ p ∧ p < l)
def needP (P : List Int) : Option Int → Int → Bool
  | none, _ => true
  | some l, d => ndP P d l
def kp (P : List Int) : Option Int → Vs → Vs
  | _, [] => []
  | l, v :: r => if needP P l v.1 = true then v :: kp P (some v.1) r else kp P (some v.1) r
def upto : Option Int → Vs → Option Int
  | l, [] => l
  | _, v :: r => upto (some v.1) r
def Desc (vs : Vs) : Prop := vs.Pairwise fun a b => b.1 < a.1
def above : Option Int → Int → Prop
  | none, _ => True
  | some l, d => d < l
theorem ndP_iff {P : List Int} {d l : Int} : ndP P d l = true ↔ ∃ p ∈ P, d ≤ p ∧ p < l := by
  unfold ndP
  rw [List.any_eq_true]
  exact ⟨fun ⟨p, h1, h2⟩ => ⟨p, h1, of_decide_eq_true h2⟩, fun ⟨p, h1, h2⟩ => ⟨p, h1, decide_eq_true h2⟩⟩
theorem need_eq {P : List Int} {l : Option Int} {v d : Int} (h : needP P l v = false) (ha : above l v) (hd : d < v) : needP P l d = needP P (some v) d := by
  cases l with
  | none => cases h
  | some l =>
    have ha : v < l := ha
    have h : ndP P v l = false := h
    show ndP P d l = ndP P d v
    rw [Bool.eq_iff_iff, ndP_iff, ndP_iff]
    constructor
    · rintro ⟨p, hp, h1, h2⟩
      refine ⟨p, hp, h1, ?_⟩
      by_cases c : p < v
      · exact c
      · have : ndP P v l = true := ndP_iff.mpr ⟨p, hp, by omega, h2⟩
        rw [h] at this
        cases this
    · rintro ⟨p, hp, h1, h2⟩
      exact ⟨p, hp, h1, by omega⟩
theorem kp_sub {P : List Int} : ∀ {vs : Vs} {l : Option Int}, (kp P l vs).Sublist vs
  | [], _ => List.Sublist.slnil
  | v :: r, l => by
    unfold kp
    split
    · exact kp_sub.cons₂ v
    · exact kp_sub.cons v
theorem Desc.sub {a b : Vs} (s : a.Sublist b) (h : Desc b) : Desc a := List.Pairwise.sublist s h
theorem kp_head {P : List Int} {l m : Option Int} {vs : Vs} (h : ∀ v r, vs = v :: r → needP P l v.1 = needP P m v.1) : kp P l vs = kp P m vs := by
  cases vs with
  | nil => rfl
  | cons v r =>
    unfold kp
    rw [h v r rfl]
theorem kp_kp {P : List Int} : ∀ {vs : Vs} {l m : Option Int}, Desc vs → (∀ v ∈ vs, above l v.1) → (∀ v ∈ vs, needP P l v.1 = true → needP P m v.1 = true) → kp P l (kp P m vs) = kp P l vs
  | [], _, _, _, _, _ => rfl
  | v :: r, l, m, hd, ha, hi => by
    have p := List.pairwise_cons.mp hd
    have ih : kp P (some v.1) (kp P (some v.1) r) = kp P (some v.1) r := kp_kp p.2 (fun x hx => p.1 x hx) (fun _ _ h => h)
    by_cases c : needP P m v.1 = true
    · have e : kp P m (v :: r) = v :: kp P (some v.1) r := by
        show (if needP P m v.1 = true then _ else _) = _
        rw [if_pos c]
      rw [e]
      show (if needP P l v.1 = true then v :: kp P (some v.1) (kp P (some v.1) r) else kp P (some v.1) (kp P (some v.1) r)) = if needP P l v.1 = true then v :: kp P (some v.1) r else kp P (some v.1) r
      rw [ih]
    · have c2 : needP P l v.1 = false := by
        cases q : needP P l v.1 with
        | false => rfl
        | true => exact absurd (hi v List.mem_cons_self q) c
      have e : kp P m (v :: r) = kp P (some v.1) r := by
        show (if needP P m v.1 = true then _ else _) = _
        rw [if_neg c]
      rw [e]
      show _ = if needP P l v.1 = true then v :: kp P (some v.1) r else kp P (some v.1) r
      rw [if_neg (by rw [c2]; decide)]
      refine (kp_head fun w t e => ?_).trans ih
      have : w ∈ r := kp_sub.subset (by rw [e]; exact List.mem_cons_self)
      exact need_eq c2 (ha v List.mem_cons_self) (p.1 w this)
theorem kp_append {P : List Int} : ∀ {a b : Vs} {l : Option Int}, kp P l (a ++ b) = kp P l a ++ kp P (upto l a) b
  | [], _, _ => rfl
  | v :: a, b, l => by
    show (if needP P l v.1 = true then v :: kp P (some v.1) (a ++ b) else kp P (some v.1) (a ++ b)) = (if needP P l v.1 = true then v :: kp P (some v.1) a else kp P (some v.1) a) ++ kp P (upto (some v.1) a) b
    rw [kp_append (a := a) (b := b) (l := some v.1)]
    split <;> rfl
theorem upto_ne {a : Vs} (h : a ≠ []) (l m : Option Int) : upto l a = upto m a := by
  cases a with
  | nil => exact absurd rfl h
  | cons v r => rfl
theorem upto_kp {P : List Int} : ∀ {a : Vs} {l : Option Int} {d : Int}, Desc a → (∀ v ∈ a, above l v.1) → (∀ v ∈ a, d < v.1) → needP P (upto l (kp P l a)) d = needP P (upto l a) d
  | [], _, _, _, _, _ => rfl
  | v :: r, l, d, hd, ha, hb => by
    have p := List.pairwise_cons.mp hd
    have ih := upto_kp (P := P) (a := r) (l := some v.1) (d := d) p.2 (fun x hx => p.1 x hx) (fun x hx => hb x (List.mem_cons_of_mem _ hx))
    by_cases c : needP P l v.1 = true
    · have e : kp P l (v :: r) = v :: kp P (some v.1) r := by
        show (if needP P l v.1 = true then _ else _) = _
        rw [if_pos c]
      rw [e]
      exact ih
    · have e : kp P l (v :: r) = kp P (some v.1) r := by
        show (if needP P l v.1 = true then _ else _) = _
        rw [if_neg c]
      rw [e]
      show _ = needP P (upto (some v.1) r) d
      rw [← ih]
      by_cases z : kp P (some v.1) r = []
      · rw [z]
        exact need_eq (Bool.eq_false_iff.mpr c) (ha v List.mem_cons_self) (hb v List.mem_cons_self)
      · rw [upto_ne z l (some v.1)]
/-- what stays of what stayed of two parts is what stays of both -/
theorem kp_join {P : List Int} {a b : Vs} (h : Desc (a ++ b)) : kp P none (kp P none a ++ kp P none b) = kp P none (a ++ b) := by
  have pw := List.pairwise_append.mp h
  have ab : ∀ v ∈ b, ∀ x ∈ a, v.1 < x.1 := fun v hv x hx => pw.2.2 x hx v hv
  have up : ∀ {c : Vs} {l : Option Int}, (∀ x ∈ c, x ∈ a) → ∀ v ∈ b, above l v.1 → above (upto l c) v.1 := by
    intro c
    induction c with
    | nil => exact fun _ v hv h => h
    | cons x c ih => exact fun hc v hv h => ih (fun y hy => hc y (List.mem_cons_of_mem _ hy)) v hv (ab v hv x (hc x List.mem_cons_self))
  rw [kp_append, kp_append, kp_kp (l := none) (m := none) pw.1 (fun _ _ => trivial) (fun _ _ h => h)]
  congr 1
  refine (kp_kp (l := upto none (kp P none a)) (m := none) pw.2.1 (fun v hv => up (l := none) (fun x hx => kp_sub.subset hx) v hv trivial) (fun _ _ _ => rfl)).trans ?_
  exact kp_head fun v r e => upto_kp pw.1 (fun _ _ => trivial) (fun x hx => ab v (by rw [e]; exact List.mem_cons_self) x hx)
theorem kp_idem {P : List Int} {a : Vs} (h : Desc a) : kp P none (kp P none a) = kp P none a := kp_kp (l := none) (m := none) h (fun _ _ => trivial) (fun _ _ h => h)
theorem kp_pre {P : List Int} {l : Option Int} {a b : Vs} (h : kp P l (a ++ b) = a ++ b) : kp P l a = a := by
  rw [kp_append] at h
  have l1 := (kp_sub (P := P) (vs := a) (l := l)).length_le
  have l2 := (kp_sub (P := P) (vs := b) (l := upto l a)).length_le
  have l3 := congrArg List.length h
  rw [List.length_append, List.length_append] at l3
  exact (List.append_inj h (by omega)).1
/-! ### marks at the end -/
def popN (vs : Vs) : Vs := (vs.reverse.dropWhile fun v => v.2.isNone).reverse
theorem popN_nil : popN [] = [] := rfl
theorem popN_snoc (a : Vs) (v : Ver) : popN (a ++ [v]) = if v.2.isNone = true then popN a else a ++ [v] := by
  unfold popN
  rw [List.reverse_append]
  show (List.dropWhile _ (v :: a.reverse)).reverse = _
  rw [List.dropWhile_cons]
  split
  · rfl
  · show (v :: a.reverse).reverse = _
    rw [List.reverse_cons, List.reverse_reverse]
theorem popN_pre (a : Vs) : ∃ b, a = popN a ++ b := by
  obtain ⟨t, ht⟩ := List.dropWhile_suffix (l := a.reverse) fun v : Ver => v.2.isNone
  refine ⟨t.reverse, ?_⟩
  unfold popN
  rw [← List.reverse_append, ht, List.reverse_reverse]
theorem dw_dw {p : Ver → Bool} : ∀ l : Vs, (l.dropWhile p).dropWhile p = l.dropWhile p
  | [] => rfl
  | v :: l => by
    by_cases c : p v = true
    · rw [List.dropWhile_cons_of_pos c]
      exact dw_dw l
    · rw [List.dropWhile_cons_of_neg c, List.dropWhile_cons_of_neg c]
theorem popN_popN (a : Vs) : popN (popN a) = popN a := by
  unfold popN
  rw [List.reverse_reverse, dw_dw]
def popB (b : Bool) (vs : Vs) : Vs := if b then popN vs else vs
def keptF (P : List Int) (b : Bool) (vs : Vs) : Vs := popB b (kp P none vs)
theorem popB_sub {b : Bool} {vs : Vs} : (popB b vs).Sublist vs := by
  unfold popB
  split
  · obtain ⟨c, e⟩ := popN_pre vs
    have := List.sublist_append_left (popN vs) c
    rw [← e] at this
    exact this
  · exact List.Sublist.refl _
theorem keptF_sub {P : List Int} {b : Bool} {vs : Vs} : (keptF P b vs).Sublist vs := popB_sub.trans kp_sub
theorem keptF_nil {P : List Int} {b : Bool} : keptF P b [] = [] := by cases b <;> rfl
theorem kept_again {P : List Int} {b : Bool} {vs : Vs} (h : Desc vs) : keptF P b (keptF P b vs) = keptF P b vs := by
  have e := kp_idem (P := P) h
  unfold keptF popB
  cases b
  · exact e
  · show popN (kp P none (popN (kp P none vs))) = popN (kp P none vs)
    obtain ⟨c, z⟩ := popN_pre (kp P none vs)
    rw [kp_pre (b := c) (by rw [← z]; exact e), popN_popN]
theorem goneV_sub {a b : Vs} (s : a.Sublist b) (h : goneV a = false) : goneV b = false := by
  unfold goneV at *
  rw [List.all_eq_false] at *
  obtain ⟨v, hv, e⟩ := h
  exact ⟨v, s.subset hv, e⟩
end Silt
set_option Elab.async false
set_option linter.all false
set_option maxRecDepth 100000
set_option maxHeartbeats 4000000
namespace Sl
open PySem L2 C8 StX
def topS (i : Nat) : Stmt := PySem.Challenge.pw_siltstore_k02_whole_baking.main.body.getD i (.Pass ⟨0, 0, 0, 0⟩)
abbrev s_is_whole : Stmt := topS 12
abbrev N_is_whole : List Str := ["thing"]
abbrev P_is_whole : List Str := ["thing"]
theorem sc_is_whole : FnScope N_is_whole P_is_whole (fnScope s_is_whole) := fnScope_by (by decide +kernel)
abbrev s_is_key : Stmt := topS 13
abbrev N_is_key : List Str := ["thing"]
abbrev P_is_key : List Str := ["thing"]
theorem sc_is_key : FnScope N_is_key P_is_key (fnScope s_is_key) := fnScope_by (by decide +kernel)
abbrev s_check_key : Stmt := topS 14
abbrev N_check_key : List Str := ["thing"]
abbrev P_check_key : List Str := ["thing"]
theorem sc_check_key : FnScope N_check_key P_check_key (fnScope s_check_key) := fnScope_by (by decide +kernel)
abbrev s_is_value : Stmt := topS 15
abbrev N_is_value : List Str := ["thing", "sign"]
abbrev P_is_value : List Str := ["thing"]
theorem sc_is_value : FnScope N_is_value P_is_value (fnScope s_is_value) := fnScope_by (by decide +kernel)
abbrev s_is_range : Stmt := topS 16
abbrev N_is_range : List Str := ["thing", "one"]
abbrev P_is_range : List Str := ["thing"]
theorem sc_is_range : FnScope N_is_range P_is_range (fnScope s_is_range) := fnScope_by (by decide +kernel)
abbrev s_joined_ranges : Stmt := topS 17
abbrev N_joined_ranges : List Str := ["ranges", "found", "low", "high"]
abbrev P_joined_ranges : List Str := ["ranges"]
theorem sc_joined_ranges : FnScope N_joined_ranges P_joined_ranges (fnScope s_joined_ranges) := fnScope_by (by decide +kernel)
abbrev s_without_keys : Stmt := topS 18
abbrev N_without_keys : List Str := ["ranges", "keys", "found", "low", "high", "first", "key"]
abbrev P_without_keys : List Str := ["ranges", "keys"]
theorem sc_without_keys : FnScope N_without_keys P_without_keys (fnScope s_without_keys) := fnScope_by (by decide +kernel)
abbrev s_Sheet_init : Stmt := inClass (topS 19) 0
abbrev N_Sheet_init : List Str := ["self", "leaves", "marks", "ranges", "one", "key", "told"]
abbrev P_Sheet_init : List Str := ["self", "leaves", "marks", "ranges"]
theorem sc_Sheet_init : FnScope N_Sheet_init P_Sheet_init (fnScope s_Sheet_init) := fnScope_by (by decide +kernel)
def emT : Option Obj → Bool
  | some o => (match o.cls with | .type s => s == "tuple" | _ => false) && (match o.data with | .seq a _ => a.size == 0 | _ => false)
  | none => false
theorem emT_sq {K : PySem.W.Frag} {D : Addr} (h : emT (K.lookup D) = true) (H : Hp) : SqT K H D [] := by
  cases e : K.lookup D with
  | none => rw [e] at h; cases h
  | some o =>
    rw [e] at h
    obtain ⟨c, d, dt, sl⟩ := o
    unfold emT at h
    rw [Bool.and_eq_true] at h
    obtain ⟨h1, h2⟩ := h
    cases c <;> first | (cases h1; done) | skip
    cases dt <;> first | (cases h2; done) | skip
    rename_i s its n
    have e1 : s = "tuple" := beq_iff_eq.mp h1
    have e2 : its.size = 0 := beq_iff_eq.mp h2
    subst e1
    have e3 : its = #[] := Array.eq_empty_of_size_eq_zero e2
    subst e3
    exact .inr ⟨_, #[], n, e, rfl, rfl, Nat.zero_le _, .nil⟩
abbrev s_Sheet_eq : Stmt := inClass (topS 19) 1
abbrev N_Sheet_eq : List Str := ["self", "other"]
abbrev P_Sheet_eq : List Str := ["self", "other"]
theorem sc_Sheet_eq : FnScope N_Sheet_eq P_Sheet_eq (fnScope s_Sheet_eq) := fnScope_by (by decide +kernel)
abbrev s_Sheet_len : Stmt := inClass (topS 19) 2
abbrev N_Sheet_len : List Str := ["self"]
abbrev P_Sheet_len : List Str := ["self"]
theorem sc_Sheet_len : FnScope N_Sheet_len P_Sheet_len (fnScope s_Sheet_len) := fnScope_by (by decide +kernel)
abbrev s_Sheet_contains : Stmt := inClass (topS 19) 3
abbrev N_Sheet_contains : List Str := ["self", "key"]
abbrev P_Sheet_contains : List Str := ["self", "key"]
theorem sc_Sheet_contains : FnScope N_Sheet_contains P_Sheet_contains (fnScope s_Sheet_contains) := fnScope_by (by decide +kernel)
abbrev s_Sheet_segments : Stmt := inClass (topS 19) 5
abbrev N_Sheet_segments : List Str := ["self", "found", "key", "value", "low", "high"]
abbrev P_Sheet_segments : List Str := ["self"]
theorem sc_Sheet_segments : FnScope N_Sheet_segments P_Sheet_segments (fnScope s_Sheet_segments) := fnScope_by (by decide +kernel)
abbrev s_first_of : Stmt := topS 20
abbrev N_first_of : List Str := ["row"]
abbrev P_first_of : List Str := ["row"]
theorem sc_first_of : FnScope N_first_of P_first_of (fnScope s_first_of) := fnScope_by (by decide +kernel)
abbrev s_check_sheet : Stmt := topS 21
abbrev N_check_sheet : List Str := ["thing"]
abbrev P_check_sheet : List Str := ["thing"]
theorem sc_check_sheet : FnScope N_check_sheet P_check_sheet (fnScope s_check_sheet) := fnScope_by (by decide +kernel)
abbrev s_Layer_init : Stmt := inClass (topS 23) 0
abbrev N_Layer_init : List Str := ["self", "first", "last", "rows"]
abbrev P_Layer_init : List Str := ["self", "first", "last", "rows"]
theorem sc_Layer_init : FnScope N_Layer_init P_Layer_init (fnScope s_Layer_init) := fnScope_by (by decide +kernel)
abbrev s_Layer_eq : Stmt := inClass (topS 23) 1
abbrev N_Layer_eq : List Str := ["self", "other"]
abbrev P_Layer_eq : List Str := ["self", "other"]
theorem sc_Layer_eq : FnScope N_Layer_eq P_Layer_eq (fnScope s_Layer_eq) := fnScope_by (by decide +kernel)
abbrev s_Layer_len : Stmt := inClass (topS 23) 2
abbrev N_Layer_len : List Str := ["self"]
abbrev P_Layer_len : List Str := ["self"]
theorem sc_Layer_len : FnScope N_Layer_len P_Layer_len (fnScope s_Layer_len) := fnScope_by (by decide +kernel)
abbrev s_Layer_versions : Stmt := inClass (topS 23) 3
abbrev N_Layer_versions : List Str := ["self", "key", "low", "high", "told"]
abbrev P_Layer_versions : List Str := ["self", "key"]
theorem sc_Layer_versions : FnScope N_Layer_versions P_Layer_versions (fnScope s_Layer_versions) := fnScope_by (by decide +kernel)
abbrev s_Layer_has : Stmt := inClass (topS 23) 4
abbrev N_Layer_has : List Str := ["self", "key"]
abbrev P_Layer_has : List Str := ["self", "key"]
theorem sc_Layer_has : FnScope N_Layer_has P_Layer_has (fnScope s_Layer_has) := fnScope_by (by decide +kernel)
abbrev s_layer_of : Stmt := topS 24
abbrev N_layer_of : List Str := ["day", "sheet", "low", "high", "value"]
abbrev P_layer_of : List Str := ["day", "sheet"]
theorem sc_layer_of : FnScope N_layer_of P_layer_of (fnScope s_layer_of) := fnScope_by (by decide +kernel)
abbrev s_cuts_of : Stmt := topS 25
abbrev N_cuts_of : List Str := ["lists", "found", "rows", "low", "high", "told"]
abbrev P_cuts_of : List Str := ["lists"]
theorem sc_cuts_of : FnScope N_cuts_of P_cuts_of (fnScope s_cuts_of) := fnScope_by (by decide +kernel)
abbrev s_Pointer_init : Stmt := inClass (topS 26) 0
abbrev N_Pointer_init : List Str := ["self", "rows"]
abbrev P_Pointer_init : List Str := ["self", "rows"]
theorem sc_Pointer_init : FnScope N_Pointer_init P_Pointer_init (fnScope s_Pointer_init) := fnScope_by (by decide +kernel)
abbrev s_Pointer_told : Stmt := inClass (topS 26) 1
abbrev N_Pointer_told : List Str := ["self", "key"]
abbrev P_Pointer_told : List Str := ["self", "key"]
theorem sc_Pointer_told : FnScope N_Pointer_told P_Pointer_told (fnScope s_Pointer_told) := fnScope_by (by decide +kernel)
abbrev s_stretches : Stmt := topS 27
abbrev N_stretches : List Str := ["layers", "lists", "layer", "cuts", "pointers", "rows", "found", "low", "late", "told", "pointer"]
abbrev P_stretches : List Str := ["layers"]
theorem sc_stretches : FnScope N_stretches P_stretches (fnScope s_stretches) := fnScope_by (by decide +kernel)
abbrev s_tidied : Stmt := topS 28
abbrev N_tidied : List Str := ["rows", "found", "low", "high", "told"]
abbrev P_tidied : List Str := ["rows"]
theorem sc_tidied : FnScope N_tidied P_tidied (fnScope s_tidied) := fnScope_by (by decide +kernel)
abbrev s_is_gone : Stmt := topS 29
abbrev N_is_gone : List Str := ["told", "day", "value"]
abbrev P_is_gone : List Str := ["told"]
theorem sc_is_gone : FnScope N_is_gone P_is_gone (fnScope s_is_gone) := fnScope_by (by decide +kernel)
abbrev s_check_layers : Stmt := topS 30
abbrev N_check_layers : List Str := ["layers", "place", "layer"]
abbrev P_check_layers : List Str := ["layers"]
theorem sc_check_layers : FnScope N_check_layers P_check_layers (fnScope s_check_layers) := fnScope_by (by decide +kernel)
abbrev s_check_pins : Stmt := topS 32
abbrev N_check_pins : List Str := ["pins", "one"]
abbrev P_check_pins : List Str := ["pins"]
theorem sc_check_pins : FnScope N_check_pins P_check_pins (fnScope s_check_pins) := fnScope_by (by decide +kernel)
abbrev s_is_needed : Stmt := topS 33
abbrev N_is_needed : List Str := ["day", "later", "pins", "pin"]
abbrev P_is_needed : List Str := ["day", "later", "pins"]
theorem sc_is_needed : FnScope N_is_needed P_is_needed (fnScope s_is_needed) := fnScope_by (by decide +kernel)
abbrev s_kept : Stmt := topS 34
abbrev N_kept : List Str := ["told", "pins", "is_bottom", "found", "place", "day", "value"]
abbrev P_kept : List Str := ["told", "pins", "is_bottom"]
theorem sc_kept : FnScope N_kept P_kept (fnScope s_kept) := fnScope_by (by decide +kernel)
abbrev s_bake : Stmt := topS 35
abbrev N_bake : List Str := ["layers", "pins", "is_bottom", "rows", "low", "high", "told"]
abbrev P_bake : List Str := ["layers", "pins", "is_bottom"]
theorem sc_bake : FnScope N_bake P_bake (fnScope s_bake) := fnScope_by (by decide +kernel)
abbrev s__law_draw : Stmt := topS 37
abbrev N__law_draw : List Str := ["_law_script", "_law_at", "_law_many", "_law_row", "_law_cell", "_law_turn", "_law_step", "_law_mixed"]
abbrev P__law_draw : List Str := ["_law_script", "_law_at", "_law_many"]
theorem sc__law_draw : FnScope N__law_draw P__law_draw (fnScope s__law_draw) := fnScope_by (by decide +kernel)
abbrev s__law_sheet : Stmt := topS 38
abbrev N__law_sheet : List Str := ["_law_script", "_law_at", "_law_most", "_law_leaves", "_law_marks", "_law_ranges", "_law_turn", "_law_key", "_law_low"]
abbrev P__law_sheet : List Str := ["_law_script", "_law_at", "_law_most"]
theorem sc__law_sheet : FnScope N__law_sheet P__law_sheet (fnScope s__law_sheet) := fnScope_by (by decide +kernel)
abbrev s__law_tells : Stmt := topS 39
abbrev N__law_tells : List Str := ["_law_told", "_law_key", "_law_leaves", "_law_marks", "_law_ranges", "_law_low", "_law_high"]
abbrev P__law_tells : List Str := ["_law_told", "_law_key"]
theorem sc__law_tells : FnScope N__law_tells P__law_tells (fnScope s__law_tells) := fnScope_by (by decide +kernel)
abbrev s__law_versions : Stmt := topS 40
abbrev N__law_versions : List Str := ["_law_sheets", "_law_key", "_law_found", "_law_day", "_law_told", "_law_value"]
abbrev P__law_versions : List Str := ["_law_sheets", "_law_key"]
theorem sc__law_versions : FnScope N__law_versions P__law_versions (fnScope s__law_versions) := fnScope_by (by decide +kernel)
abbrev s__law_kept : Stmt := topS 41
abbrev N__law_kept : List Str := ["_law_versions_here", "_law_pins", "_law_is_bottom", "_law_found", "_law_place", "_law_day", "_law_value", "_law_pin"]
abbrev P__law_kept : List Str := ["_law_versions_here", "_law_pins", "_law_is_bottom"]
theorem sc__law_kept : FnScope N__law_kept P__law_kept (fnScope s__law_kept) := fnScope_by (by decide +kernel)
abbrev s__law_is_tidy : Stmt := topS 42
abbrev N__law_is_tidy : List Str := ["_law_rows", "_law_low", "_law_high", "_law_told", "_law_day", "_law_value", "_law_one", "_law_other"]
abbrev P__law_is_tidy : List Str := ["_law_rows"]
theorem sc__law_is_tidy : FnScope N__law_is_tidy P__law_is_tidy (fnScope s__law_is_tidy) := fnScope_by (by decide +kernel)
abbrev s__law_refused : Stmt := topS 43
abbrev N__law_refused : List Str := ["_law_layers", "_law_many", "_law_found", "_law_bad", "_law_place", "error", "_law_number"]
abbrev P__law_refused : List Str := ["_law_layers", "_law_many", "_law_found"]
theorem sc__law_refused : FnScope N__law_refused P__law_refused (fnScope s__law_refused) := fnScope_by (by decide +kernel)
abbrev s_law : Stmt := topS 44
abbrev N_law : List Str := ["_law_script", "_law_many", "_law_first", "_law_sheets", "_law_turn", "_law_layers", "_law_at", "_law_told", "_law_pins", "_law_is_bottom", "_law_found", "_law_key", "_law_versions_here", "_law_day", "_law_value", "_law_one", "_law_stack"]
abbrev P_law : List Str := ["_law_script"]
theorem sc_law : FnScope N_law P_law (fnScope s_law) := fnScope_by (by decide +kernel)
abbrev s_BadLayers_init : Stmt := inClass (topS 5) 0
theorem ss_BadLayers : SupSt s_BadLayers_init ["self", "place", "__class__"] := ⟨NdefX.nscope_by (by decide +kernel), rfl, rfl, ⟨_, rfl, rfl⟩, by decide +kernel, ⟨_, _, _, _, _, _, _, _, _, _, _, _, rfl, fun env => ⟨_, rfl⟩⟩⟩
theorem bd_BadLayers : ∀ (kV doc pm : Value) (an : Option Addr) (cc cda : Addr) (ct : Value) (us : List Value), us.length = 2 → bindArgs (PySem.W.fnX "__init__" "BadLayers.__init__" (C8.fnArgs s_BadLayers_init) (C8.fnBody s_BadLayers_init) (C8.fnScope s_BadLayers_init) [("__class__", cc)] .none kV doc pm an (.ref cda) ct) ⟨us, []⟩ = pure ((["self", "place"] : List Str).zip us) := fun _ _ _ _ _ _ _ us hl => match us, hl with | [_, _], _ => rfl
/-- what isinstance asks of an own class, without the class itself -/
structure InsF (K : PySem.W.Frag) (C : Addr) : Prop where
  ha : PySem.W.findIn K (.ref C) "__class__" = some (some (.builtin "object.__class__"))
  hn : PySem.W.specialIn K (.builtin "object.__class__") "__get__" = some (some (.builtin "getset_descriptor.__get__"))
  htk : PySem.W.takesIn K (.builtin "object.__class__") = some true
  hm : PySem.W.mroIn K C (.type "object") = some true
theorem kit_self {K : PySem.W.Frag} {C : Addr} : PySem.W.kitOne K (.ref C) (.ref C) = some true := by
  unfold PySem.W.kitOne
  rw [if_pos (by simp)]
structure TX (P : Program) (K : PySem.W.Frag) (mg : Str → Option Value) (C_Sheet C_Layer C_Pointer C_BadSheet C_BadDay C_BadKey C_BadLayers D_Sheet_0 D_Sheet_1 : Addr) : Prop where
  mg_Sheet : mg "Sheet" = some (.ref C_Sheet)
  mg_Layer : mg "Layer" = some (.ref C_Layer)
  mg_Pointer : mg "Pointer" = some (.ref C_Pointer)
  mg_BadSheet : mg "BadSheet" = some (.ref C_BadSheet)
  mg_BadDay : mg "BadDay" = some (.ref C_BadDay)
  mg_BadKey : mg "BadKey" = some (.ref C_BadKey)
  mg_BadLayers : mg "BadLayers" = some (.ref C_BadLayers)
  d_is_whole : ∃ f fd, C8.Def K mg "is_whole" s_is_whole f fd ∧ fd.defaults = .none
  d_is_key : ∃ f fd, C8.Def K mg "is_key" s_is_key f fd ∧ fd.defaults = .none
  d_check_key : ∃ f fd, C8.Def K mg "check_key" s_check_key f fd ∧ fd.defaults = .none
  d_is_value : ∃ f fd, C8.Def K mg "is_value" s_is_value f fd ∧ fd.defaults = .none
  d_is_range : ∃ f fd, C8.Def K mg "is_range" s_is_range f fd ∧ fd.defaults = .none
  d_joined_ranges : ∃ f fd, C8.Def K mg "joined_ranges" s_joined_ranges f fd ∧ fd.defaults = .none
  d_without_keys : ∃ f fd, C8.Def K mg "without_keys" s_without_keys f fd ∧ fd.defaults = .none
  m_Sheet_init : ∃ f fd, C8.Fun K "__init__" "Sheet.__init__" s_Sheet_init f fd ∧ ((∃ ds, Vals [] ds ∧ Binds K fd P_Sheet_init ds) ∧ ∃ ds, Vals [.ref D_Sheet_0, .ref D_Sheet_1] ds ∧ Binds K fd P_Sheet_init ds) ∧ Mk K C_Sheet f
  e_D_Sheet_0 : emT (K.lookup D_Sheet_0) = true
  e_D_Sheet_1 : emT (K.lookup D_Sheet_1) = true
  m_Sheet_eq : ∃ f fd, C8.Fun K "__eq__" "Sheet.__eq__" s_Sheet_eq f fd ∧ fd.defaults = .none ∧ Meth K C_Sheet "__eq__" f ∧ PySem.W.fnIn K f = true
  m_Sheet_len : ∃ f fd, C8.Fun K "__len__" "Sheet.__len__" s_Sheet_len f fd ∧ fd.defaults = .none ∧ Meth K C_Sheet "__len__" f ∧ PySem.W.fnIn K f = true
  m_Sheet_contains : ∃ f fd, C8.Fun K "__contains__" "Sheet.__contains__" s_Sheet_contains f fd ∧ fd.defaults = .none ∧ Meth K C_Sheet "__contains__" f ∧ PySem.W.fnIn K f = true
  m_Sheet_segments : ∃ f fd, C8.Fun K "segments" "Sheet.segments" s_Sheet_segments f fd ∧ fd.defaults = .none ∧ Meth K C_Sheet "segments" f ∧ PySem.W.fnIn K f = true
  d_first_of : ∃ f fd, C8.Def K mg "first_of" s_first_of f fd ∧ fd.defaults = .none
  d_check_sheet : ∃ f fd, C8.Def K mg "check_sheet" s_check_sheet f fd ∧ fd.defaults = .none
  m_Layer_init : ∃ f fd, C8.Fun K "__init__" "Layer.__init__" s_Layer_init f fd ∧ fd.defaults = .none ∧ Mk K C_Layer f
  m_Layer_eq : ∃ f fd, C8.Fun K "__eq__" "Layer.__eq__" s_Layer_eq f fd ∧ fd.defaults = .none ∧ Meth K C_Layer "__eq__" f ∧ PySem.W.fnIn K f = true
  m_Layer_len : ∃ f fd, C8.Fun K "__len__" "Layer.__len__" s_Layer_len f fd ∧ fd.defaults = .none ∧ Meth K C_Layer "__len__" f ∧ PySem.W.fnIn K f = true
  m_Layer_versions : ∃ f fd, C8.Fun K "versions" "Layer.versions" s_Layer_versions f fd ∧ fd.defaults = .none ∧ Meth K C_Layer "versions" f ∧ PySem.W.fnIn K f = true
  m_Layer_has : ∃ f fd, C8.Fun K "has" "Layer.has" s_Layer_has f fd ∧ fd.defaults = .none ∧ Meth K C_Layer "has" f ∧ PySem.W.fnIn K f = true
  d_layer_of : ∃ f fd, C8.Def K mg "layer_of" s_layer_of f fd ∧ fd.defaults = .none
  d_cuts_of : ∃ f fd, C8.Def K mg "cuts_of" s_cuts_of f fd ∧ fd.defaults = .none
  m_Pointer_init : ∃ f fd, C8.Fun K "__init__" "Pointer.__init__" s_Pointer_init f fd ∧ fd.defaults = .none ∧ Mk K C_Pointer f
  m_Pointer_told : ∃ f fd, C8.Fun K "told" "Pointer.told" s_Pointer_told f fd ∧ fd.defaults = .none ∧ Meth K C_Pointer "told" f ∧ PySem.W.fnIn K f = true
  d_stretches : ∃ f fd, C8.Def K mg "stretches" s_stretches f fd ∧ fd.defaults = .none
  d_tidied : ∃ f fd, C8.Def K mg "tidied" s_tidied f fd ∧ fd.defaults = .none
  d_is_gone : ∃ f fd, C8.Def K mg "is_gone" s_is_gone f fd ∧ fd.defaults = .none
  d_check_layers : ∃ f fd, C8.Def K mg "check_layers" s_check_layers f fd ∧ fd.defaults = .none
  d_check_pins : ∃ f fd, C8.Def K mg "check_pins" s_check_pins f fd ∧ fd.defaults = .none
  d_is_needed : ∃ f fd, C8.Def K mg "is_needed" s_is_needed f fd ∧ fd.defaults = .none
  d_kept : ∃ f fd, C8.Def K mg "kept" s_kept f fd ∧ fd.defaults = .none
  d_bake : ∃ f fd D0, C8.Def K mg "bake" s_bake f fd ∧ (∃ ds, Vals [.ref D0, .bl false] ds ∧ Binds K fd P_bake ds) ∧ (∃ ds, Vals [.bl false] ds ∧ Binds K fd P_bake ds) ∧ ∃ g, KBn K fd P_bake 2 ["is_bottom"] g (fun vs zs => vs ++ zs)
  d__law_draw : ∃ f fd, C8.Def K mg "_law_draw" s__law_draw f fd ∧ fd.defaults = .none
  d__law_sheet : ∃ f fd, C8.Def K mg "_law_sheet" s__law_sheet f fd ∧ fd.defaults = .none
  d__law_tells : ∃ f fd, C8.Def K mg "_law_tells" s__law_tells f fd ∧ fd.defaults = .none
  d__law_versions : ∃ f fd, C8.Def K mg "_law_versions" s__law_versions f fd ∧ fd.defaults = .none
  d__law_kept : ∃ f fd, C8.Def K mg "_law_kept" s__law_kept f fd ∧ fd.defaults = .none
  d__law_is_tidy : ∃ f fd, C8.Def K mg "_law_is_tidy" s__law_is_tidy f fd ∧ fd.defaults = .none
  d__law_refused : ∃ f fd, C8.Def K mg "_law_refused" s__law_refused f fd ∧ fd.defaults = .none
  d_law : ∃ f fd, C8.Def K mg "law" s_law f fd ∧ fd.defaults = .none
  cl_Sheet : Cls K C_Sheet
  ic_Sheet : InsF K C_Sheet
  na_Sheet_leaves : NoAttr K C_Sheet "leaves"
  na_Sheet_gone : NoAttr K C_Sheet "gone"
  cl_Layer : Cls K C_Layer
  ic_Layer : InsF K C_Layer
  na_Layer_first : NoAttr K C_Layer "first"
  na_Layer_last : NoAttr K C_Layer "last"
  na_Layer_rows : NoAttr K C_Layer "rows"
  cl_Pointer : Cls K C_Pointer
  ic_Pointer : InsF K C_Pointer
  na_Pointer_rows : NoAttr K C_Pointer "rows"
  na_Pointer_at : NoAttr K C_Pointer "at"
  ne_Sheet : PySem.W.findIn K (.ref C_Sheet) "__ne__" = some (some (.builtin "object.__ne__"))
  nk_Sheet : ∀ n, PySem.W.subIn K (.type n) (.ref C_Sheet) = some false → PySem.W.kitOne K (.type n) (.ref C_Sheet) = some false
  ne_Layer : PySem.W.findIn K (.ref C_Layer) "__ne__" = some (some (.builtin "object.__ne__"))
  nk_Layer : ∀ n, PySem.W.subIn K (.type n) (.ref C_Layer) = some false → PySem.W.kitOne K (.type n) (.ref C_Layer) = some false
  ne_Pointer : PySem.W.findIn K (.ref C_Pointer) "__ne__" = some (some (.builtin "object.__ne__"))
  nk_Pointer : ∀ n, PySem.W.subIn K (.type n) (.ref C_Pointer) = some false → PySem.W.kitOne K (.type n) (.ref C_Pointer) = some false
  x_BadSheet : XOwn K C_BadSheet
  x_BadDay : XOwn K C_BadDay
  x_BadKey : XOwn K C_BadKey
  si_Layer : PySem.W.subIn K (.ref C_Layer) (.type "int") = some false
  xn_BadSheet_BadDay : PySem.W.subIn K (.ref C_BadSheet) (.ref C_BadDay) = some false
  xn_BadKey_BadDay : PySem.W.subIn K (.ref C_BadKey) (.ref C_BadDay) = some false
  xn_BadKey_BadSheet : PySem.W.subIn K (.ref C_BadKey) (.ref C_BadSheet) = some false
  y_BadLayers : XSup P K C_BadLayers "BadLayers.__init__" s_BadLayers_init
  b_super : mg "super" = none
  g_MOST_KEY : ∃ u, mg "MOST_KEY" = some u ∧ RelV (.int 999999) u
  g_MOST_ITEMS : ∃ u, mg "MOST_ITEMS" = some u ∧ RelV (.int 60) u
  g_MOST_SIGNS : ∃ u, mg "MOST_SIGNS" = some u ∧ RelV (.int 12) u
  b_max : mg "max" = none
  b_min : mg "min" = none
  b_len : mg "len" = none
  b_sum : mg "sum" = none
  b_abs : mg "abs" = none
  b_int : mg "int" = none
  b_bool : mg "bool" = none
  b_isinstance : mg "isinstance" = none
  b_range : mg "range" = none
  b_enumerate : mg "enumerate" = none
  b_list : mg "list" = none
  b_tuple : mg "tuple" = none
  b_sorted : mg "sorted" = none
  b_all : mg "all" = none
  b_any : mg "any" = none
  b_dict : mg "dict" = none
  b_str : mg "str" = none
  b_zip : mg "zip" = none
  b_reversed : mg "reversed" = none
  b_set : mg "set" = none
theorem TX.g_Sheet {P : Program} {K : PySem.W.Frag} {mg : Str → Option Value} {C_Sheet C_Layer C_Pointer C_BadSheet C_BadDay C_BadKey C_BadLayers D_Sheet_0 D_Sheet_1 : Addr} (T : TX P K mg C_Sheet C_Layer C_Pointer C_BadSheet C_BadDay C_BadKey C_BadLayers D_Sheet_0 D_Sheet_1) : ∃ u, mg "Sheet" = some u ∧ RelV (.ref C_Sheet) u := ⟨_, T.mg_Sheet, rfl⟩
theorem TX.i_Sheet {P : Program} {K : PySem.W.Frag} {mg : Str → Option Value} {C_Sheet C_Layer C_Pointer C_BadSheet C_BadDay C_BadKey C_BadLayers D_Sheet_0 D_Sheet_1 : Addr} (T : TX P K mg C_Sheet C_Layer C_Pointer C_BadSheet C_BadDay C_BadKey C_BadLayers D_Sheet_0 D_Sheet_1) : InsC K C_Sheet := ⟨T.cl_Sheet, T.ic_Sheet.ha, T.ic_Sheet.hn, T.ic_Sheet.htk, T.ic_Sheet.hm, kit_self⟩
theorem TX.g_Layer {P : Program} {K : PySem.W.Frag} {mg : Str → Option Value} {C_Sheet C_Layer C_Pointer C_BadSheet C_BadDay C_BadKey C_BadLayers D_Sheet_0 D_Sheet_1 : Addr} (T : TX P K mg C_Sheet C_Layer C_Pointer C_BadSheet C_BadDay C_BadKey C_BadLayers D_Sheet_0 D_Sheet_1) : ∃ u, mg "Layer" = some u ∧ RelV (.ref C_Layer) u := ⟨_, T.mg_Layer, rfl⟩
theorem TX.i_Layer {P : Program} {K : PySem.W.Frag} {mg : Str → Option Value} {C_Sheet C_Layer C_Pointer C_BadSheet C_BadDay C_BadKey C_BadLayers D_Sheet_0 D_Sheet_1 : Addr} (T : TX P K mg C_Sheet C_Layer C_Pointer C_BadSheet C_BadDay C_BadKey C_BadLayers D_Sheet_0 D_Sheet_1) : InsC K C_Layer := ⟨T.cl_Layer, T.ic_Layer.ha, T.ic_Layer.hn, T.ic_Layer.htk, T.ic_Layer.hm, kit_self⟩
theorem TX.g_Pointer {P : Program} {K : PySem.W.Frag} {mg : Str → Option Value} {C_Sheet C_Layer C_Pointer C_BadSheet C_BadDay C_BadKey C_BadLayers D_Sheet_0 D_Sheet_1 : Addr} (T : TX P K mg C_Sheet C_Layer C_Pointer C_BadSheet C_BadDay C_BadKey C_BadLayers D_Sheet_0 D_Sheet_1) : ∃ u, mg "Pointer" = some u ∧ RelV (.ref C_Pointer) u := ⟨_, T.mg_Pointer, rfl⟩
theorem TX.i_Pointer {P : Program} {K : PySem.W.Frag} {mg : Str → Option Value} {C_Sheet C_Layer C_Pointer C_BadSheet C_BadDay C_BadKey C_BadLayers D_Sheet_0 D_Sheet_1 : Addr} (T : TX P K mg C_Sheet C_Layer C_Pointer C_BadSheet C_BadDay C_BadKey C_BadLayers D_Sheet_0 D_Sheet_1) : InsC K C_Pointer := ⟨T.cl_Pointer, T.ic_Pointer.ha, T.ic_Pointer.hn, T.ic_Pointer.htk, T.ic_Pointer.hm, kit_self⟩
end Sl
set_option Elab.async false
set_option linter.all false
set_option maxRecDepth 100000
set_option maxHeartbeats 4000000
namespace Sl
open PySem L2 C8 StX
/-! ### data without lists stands when a list changes -/
mutual
inductive Dn (H : Hp) : V → PyData → Prop
  | non : Dn H .non .none
  | bl (b : Bool) : Dn H (.bl b) (.bool b)
  | int (i : Int) : Dn H (.int i) (.int i)
  | str (x : Str) : Dn H (.str x) (.str x)
  | tup {a : Addr} {xs : List V} {ds : List PyData} : H a = some (.tup xs) → DnAll H xs ds → Dn H (.ref a) (.tuple ds)
inductive DnAll (H : Hp) : List V → List PyData → Prop
  | nil : DnAll H [] []
  | cons {v : V} {vs : List V} {d : PyData} {ds : List PyData} : Dn H v d → DnAll H vs ds → DnAll H (v :: vs) (d :: ds)
end
mutual
/-- it stands where all tuples stand -/
theorem Dn.keep {H H' : Hp} (s : ∀ a xs, H a = some (.tup xs) → H' a = some (.tup xs)) : ∀ {v : V} {d : PyData}, Dn H v d → Dn H' v d
  | _, _, .non => .non
  | _, _, .bl b => .bl b
  | _, _, .int i => .int i
  | _, _, .str x => .str x
  | _, _, .tup e h => .tup (s _ _ e) (DnAll.keep s h)
theorem DnAll.keep {H H' : Hp} (s : ∀ a xs, H a = some (.tup xs) → H' a = some (.tup xs)) : ∀ {vs : List V} {ds : List PyData}, DnAll H vs ds → DnAll H' vs ds
  | _, _, .nil => .nil
  | _, _, .cons h t => .cons (Dn.keep s h) (DnAll.keep s t)
end
mutual
theorem Dn.dt {H : Hp} : ∀ {v : V} {d : PyData}, Dn H v d → Dt H v d
  | _, _, .non => .non
  | _, _, .bl b => .bl b
  | _, _, .int i => .int i
  | _, _, .str x => .str x
  | _, _, .tup e h => .tup e (DnAll.dt h)
theorem DnAll.dt {H : Hp} : ∀ {vs : List V} {ds : List PyData}, DnAll H vs ds → DtAll H vs ds
  | _, _, .nil => .nil
  | _, _, .cons h t => .cons (Dn.dt h) (DnAll.dt t)
end
theorem Dn.mono {H H' : Hp} (s : Same H H') {v : V} {d : PyData} (h : Dn H v d) : Dn H' v d := h.keep fun a xs e => s a _ e
theorem DnAll.mono {H H' : Hp} (s : Same H H') {v : List V} {d : List PyData} (h : DnAll H v d) : DnAll H' v d := h.keep fun a xs e => s a _ e
theorem keep_lst {H : Hp} {t : Addr} {xs ys : List V} (e : H t = some (.lst xs)) : ∀ a zs, H a = some (.tup zs) → upd H t (.lst ys) a = some (.tup zs) := fun a zs ea => by
  rw [upd_ne (fun q => by rw [q, e] at ea; cases ea)]
  exact ea
theorem DnAll.updL {H : Hp} {t : Addr} {xs ys : List V} (e : H t = some (.lst xs)) {vs : List V} {ds : List PyData} (h : DnAll H vs ds) : DnAll (upd H t (.lst ys)) vs ds := h.keep (keep_lst e)
theorem Dn.updL {H : Hp} {t : Addr} {xs ys : List V} (e : H t = some (.lst xs)) {v : V} {d : PyData} (h : Dn H v d) : Dn (upd H t (.lst ys)) v d := h.keep (keep_lst e)
theorem DnAll.append {H : Hp} : ∀ {vs ws : List V} {ds es : List PyData}, DnAll H vs ds → DnAll H ws es → DnAll H (vs ++ ws) (ds ++ es)
  | _, _, _, _, .nil, s => s
  | _, _, _, _, .cons h t, s => .cons h (DnAll.append t s)
theorem DnAll.length {H : Hp} : ∀ {vs : List V} {ds : List PyData}, DnAll H vs ds → vs.length = ds.length
  | _, _, .nil => rfl
  | _, _, .cons _ t => by rw [List.length_cons, List.length_cons, DnAll.length t]
theorem DnAll.intsD {H : Hp} : ∀ (ns : List Int), DnAll H (ns.map V.int) (Sl.intsD ns)
  | [] => .nil
  | n :: ns => .cons (.int n) (DnAll.intsD ns)
def triD (q : Int × Int × Int) : PyData := .tuple [.int q.1, .int q.2.1, .int q.2.2]
def pairD (q : Int × Int) : PyData := .tuple [.int q.1, .int q.2]
theorem Dn.tri {H : Hp} {t : Addr} {a b c : Int} (e : H t = some (.tup [.int a, .int b, .int c])) : Dn H (.ref t) (triD (a, b, c)) := .tup e (.cons (.int _) (.cons (.int _) (.cons (.int _) .nil)))
theorem Dn.pair {H : Hp} {t : Addr} {q : Int × Int} (e : H t = some (.tup [.int q.1, .int q.2])) : Dn H (.ref t) (pairD q) := .tup e (.cons (.int _) (.cons (.int _) .nil))
theorem Dt.tri_inv {H : Hp} {v : V} {q : Int × Int × Int} (h : Dt H v (triD q)) : ∃ t, v = .ref t ∧ H t = some (.tup [.int q.1, .int q.2.1, .int q.2.2]) := by
  unfold triD at h
  cases h with
  | tup e h =>
    cases h with
    | cons h1 h2 =>
      cases h1
      cases h2 with
      | cons h1 h2 =>
        cases h1
        cases h2 with
        | cons h1 h2 =>
          cases h1
          cases h2
          exact ⟨_, rfl, e⟩
/-! ### shapes, equality -/
theorem lay_map {α : Type} {f : α → PyData} (h : ∀ x, (f x).canLay0 = true) : ∀ l : List α, PyData.canLayAll0 (l.map f) = true
  | [] => by simp [PyData.canLayAll0]
  | x :: l => by simp [PyData.canLayAll0, h x, lay_map h l]
theorem depth_map {α : Type} {f : α → PyData} {n : Nat} (h : ∀ x, (f x).depth ≤ n) : ∀ l : List α, PyData.depthAll (l.map f) ≤ n
  | [] => by simp [PyData.depthAll]
  | x :: l => by simp only [List.map_cons, PyData.depthAll]; have := h x; have := depth_map h l; omega
theorem shaped_listMap {α : Type} {f : α → PyData} (h : ∀ x, (f x).canLay0 = true) (hd : ∀ x, (f x).depth ≤ 60) (l : List α) : SeqAt.shaped (.list (l.map f)) = true := by
  have := depth_map hd l
  refine Bool.and_eq_true_iff.mpr ⟨by simp only [PyData.canLay0]; exact lay_map h l, decide_eq_true ?_⟩
  simp only [PyData.depth]
  omega
theorem shaped_tupMap {α : Type} {f : α → PyData} (h : ∀ x, (f x).canLay0 = true) (hd : ∀ x, (f x).depth ≤ 60) (l : List α) : SeqAt.shaped (.tuple (l.map f)) = true := by
  have := depth_map hd l
  refine Bool.and_eq_true_iff.mpr ⟨by simp only [PyData.canLay0]; exact lay_map h l, decide_eq_true ?_⟩
  simp only [PyData.depth]
  omega
theorem shaped_ints (ns : List Int) : SeqAt.shaped (.list (intsD ns)) = true := shaped_listMap (fun _ => by simp [PyData.canLay0]) (fun _ => by simp [PyData.depth]) ns
theorem shaped_tris (l : List (Int × Int × Int)) : SeqAt.shaped (.list (l.map triD)) = true := shaped_listMap (fun _ => by simp [triD, PyData.canLay0, PyData.canLayAll0]) (fun _ => by simp [triD, PyData.depth, PyData.depthAll]) l
theorem shaped_pair (q : Int × Int) : SeqAt.shaped (pairD q) = true := by simp [SeqAt.shaped, pairD, PyData.canLay0, PyData.canLayAll0, PyData.depth, PyData.depthAll]
theorem shaped_pairsT (l : List (Int × Int)) : SeqAt.shaped (.tuple (l.map pairD)) = true := shaped_tupMap (fun _ => by simp [pairD, PyData.canLay0, PyData.canLayAll0]) (fun _ => by simp [pairD, PyData.depth, PyData.depthAll]) l
theorem eqv_self {d : PyData} (h : SeqAt.shaped d = true) : PyData.eqv d d = true := SeqAt.eqv_refl d (SeqAt.canLay_of_shaped h)
theorem eqv_nil (l : List PyData) : PyData.eqv (.list l) (.list []) = decide (l = []) := by
  cases l with
  | nil => simp [PyData.eqv, PyData.eqvAll]
  | cons x l => simp [PyData.eqv, PyData.eqvAll]
/-! ### isinstance against (list, tuple) -/
section
variable {H : Hp} {Q : VK} {K : PySem.W.Frag}
theorem kit_ll : PySem.W.kitAny K (.type "list") [.type "list", .type "tuple"] = some true := kitAny_cons (b := true) (kit_ty (by decide +kernel)) (fun h => nomatch h) (fun _ => rfl)
theorem kit_tt : PySem.W.kitAny K (.type "tuple") [.type "list", .type "tuple"] = some true := kitAny_cons (b := false) (kit_ty (by decide +kernel)) (fun _ => kitAny_cons (b := true) (kit_ty (by decide +kernel)) (fun h => nomatch h) (fun _ => rfl)) (fun h => nomatch h)
theorem rd_isiTL {a u : Addr} {xs : List V} (e : H a = some (.lst xs)) (eu : H u = some (.tup [.ty "list", .ty "tuple"])) (h : Q (.bl true) H) : rIsiT K [.ref a, .ref u] H Q :=
  ⟨_, u, _, _, [.type "list", .type "tuple"], true, rfl, eu, .cons (.ty _) (.cons (.ty _) .nil), .base (.lst e), kit_ll, h⟩
theorem rd_isiTT {a u : Addr} {xs : List V} (e : H a = some (.tup xs)) (eu : H u = some (.tup [.ty "list", .ty "tuple"])) (h : Q (.bl true) H) : rIsiT K [.ref a, .ref u] H Q :=
  ⟨_, u, _, _, [.type "list", .type "tuple"], true, rfl, eu, .cons (.ty _) (.cons (.ty _) .nil), .base (.tup e), kit_tt, h⟩
/-- a conditional expression of two plain values -/
theorem rd_iteV {p : Prop} [Decidable p] {σ : L2.St} {ta tb : TE} {v : V} (h1 : p → ∀ Q' : VK, Q' v H → ta σ H Q') (h2 : ¬ p → ∀ Q' : VK, Q' v H → tb σ H Q') (h : Q v H) : if decide p = true then ta σ H Q else tb σ H Q := by
  by_cases c : p
  · rw [if_pos (decide_eq_true c)]; exact h1 c Q h
  · rw [if_neg (by rw [decide_eq_false c]; exact Bool.false_ne_true)]; exact h2 c Q h
end
end Sl
set_option Elab.async false
set_option linter.all false
set_option maxRecDepth 100000
set_option maxHeartbeats 8000000
set_option exponentiation.threshold 9000
/-! lists or tuples; dicts with keys that are ints -/
namespace Sl
open PySem L2 C8 StX
theorem atI_nat' {α : Type} {xs : List α} {i : Nat} {x : α} (h : xs[i]? = some x) : atI xs (i : Int) = some x := atI_nat h
theorem none_back {H H' : Hp} {a : Addr} (s : Same H H') (h : H' a = none) : H a = none := by
  cases z : H a with
  | none => rfl
  | some o => rw [s _ _ z] at h; cases h
theorem refs_get {rs : List Addr} {j : Nat} {x : V} (hx : (rs.map V.ref)[j]? = some x) : ∃ r, rs[j]? = some r ∧ V.ref r = x := by
  rw [List.getElem?_map] at hx
  cases z : rs[j]? with
  | none => rw [z] at hx; cases hx
  | some r => rw [z] at hx; exact ⟨r, rfl, Option.some.inj hx⟩
def keysL (ls : List (Int × V)) : List Int := ls.map (·.1)
theorem dV_get {ls : List (Int × V)} {i : Nat} {k : Key} {z : V} (h : (dV ls)[i]? = some (k, z)) : ∃ y, ls[i]? = some (y, z) ∧ k = Sum.inl y := by
  unfold dV at h
  rw [List.getElem?_map] at h
  cases q : ls[i]? with
  | none => rw [q] at h; cases h
  | some x => rw [q] at h; cases h; exact ⟨x.1, rfl, rfl⟩
theorem sqT_mono {K : PySem.W.Frag} {H H' : Hp} {a : Addr} {xs : List V} (s : Same H H') (h : SqT K H a xs) : SqT K H' a xs := by
  rcases h with h | h
  · rcases h with h | ⟨o, h⟩
    · exact .inl (.inl (s _ _ h))
    · exact .inl (.inr ⟨o, s _ _ h⟩)
  · exact .inr h
/-- a list or a tuple -/
def SqQ (K : PySem.W.Frag) (H : Hp) (a : Addr) (xs : List V) : Prop := SqL K H a xs ∨ SqT K H a xs
theorem SqQ.mono {K : PySem.W.Frag} {H H' : Hp} {a : Addr} {xs : List V} (s : Same H H') (h : SqQ K H a xs) : SqQ K H' a xs := h.imp (L2.Same.seq s) (sqT_mono s)
theorem dV_nodup {ls : List (Int × V)} (h : (keysL ls).Nodup) : ((dV ls).map (·.1)).Nodup := by
  rw [dV_keys]
  exact List.Pairwise.map _ (fun a b hab z => hab (Sum.inl.inj z)) h
theorem dV_val {ls : List (Int × V)} (h : (keysL ls).Nodup) {k : Int} {v : V} (m : (k, v) ∈ ls) : valV (dV ls) (Sum.inl k) = some v := val_nodup (dV_nodup h) (Sum.inl k, v) (List.mem_map.mpr ⟨(k, v), m, rfl⟩)
theorem dV_no {ls : List (Int × V)} {k : Int} (h : k ∉ keysL ls) : valV (dV ls) (Sum.inl k) = none := by
  induction ls with
  | nil => rfl
  | cons q r ih =>
    show valV ((Sum.inl q.1, q.2) :: dV r) (Sum.inl k) = none
    rw [valV_neg (fun z => h (by rw [← Sum.inl.inj z]; exact List.mem_cons_self))]
    exact ih fun z => h (List.mem_cons_of_mem _ z)
theorem dV_putNew {ls : List (Int × V)} {k : Int} {v : V} (h : k ∉ keysL ls) : putK (dV ls) (Sum.inl k) v = dV (ls ++ [(k, v)]) := by
  rw [putK_new _ (dV_no h)]
  unfold dV
  rw [List.map_append]
  rfl
section
variable {σ : L2.St} {H : Hp} {Q : VK} {K : PySem.W.Frag} {g : TG} {tt : TT} {te : TE} {vs : List Nat}
theorem rd_dgetV {a : Addr} {ls : List (Int × V)} {k : Int} {v : V} (e : Rd H a (.dK (dV ls))) (l : valV (dV ls) (Sum.inl k) = some v) (h : Q v H) : rDGet (.ref a) (.int k) H Q := ⟨a, v, rfl, .inl ⟨_, Sum.inl k, e, rfl, l.symm⟩, h⟩
theorem rd_dcEV {D : Addr} {Nx : Hp → Prop} {ls : List (Int × V)} {k : Int} {v : V} (e : H D = some (.dK (dV ls))) (l : ls.length < 100000) (n : k ∉ keysL ls) (h : ∀ H', H' = upd H D (.dK (dV (ls ++ [(k, v)]))) → H' D = some (.dK (dV (ls ++ [(k, v)]))) → Nx H') : DcE D Nx (.int k) v H :=
  ⟨_, Sum.inl k, rfl, e, by rw [dV_len]; exact Nat.lt_trans l (by decide), by rw [dV_putNew n]; exact h _ rfl upd_same⟩
theorem tyX_Q {a : Addr} {xs : List V} (h : SqQ K H a xs) : ∃ t, (t = .type "list" ∨ t = .type "tuple") ∧ TyX K H (.ref a) t := by
  rcases h with (h | ⟨o, its, n, h1, h2, _⟩) | (h | ⟨o, its, n, h1, h2, _⟩)
  · rcases h with h | ⟨o, h⟩
    · exact ⟨_, .inl rfl, .base (.lst h)⟩
    · exact ⟨_, .inl rfl, .base (.frz h)⟩
  · exact ⟨_, .inl rfl, .kList h1 h2⟩
  · rcases h with h | ⟨o, h⟩
    · exact ⟨_, .inr rfl, .base (.tup h)⟩
    · exact ⟨_, .inr rfl, .fTuple h⟩
  · exact ⟨_, .inr rfl, .kTuple h1 h2⟩
def rGFld (K : PySem.W.Frag) (f : Str) (v : V) (QS : L2.St → Hp → Prop) (σ : L2.St) (x : V) (H1 : Hp) : Prop := ∃ a C dx fs, x = .ref a ∧ H1 a = some (.ins C dx fs) ∧ Cls K C ∧ NoAttr K C f ∧ fs.length < 1000 ∧ QS σ (upd H1 a (.ins C dx (putF f v fs)))
theorem rd_gfld0 {to : TE} {f : Str} {v : V} {QS : L2.St → Hp → Prop} (h : to σ H fun x H1 => rGFld K f v QS σ x H1) : gFld K to f v σ H QS := h
theorem rd_gfld {f : Str} {v : V} {QS : L2.St → Hp → Prop} {a C dx : Addr} {fs : List (Str × V)} (e : H a = some (.ins C dx fs)) (c : Cls K C) (n : NoAttr K C f) (l : fs.length < 1000) (h : ∀ H', H' = upd H a (.ins C dx (putF f v fs)) → H' a = some (.ins C dx (putF f v fs)) → QS σ H') : rGFld K f v QS σ (.ref a) H :=
  ⟨a, C, dx, fs, rfl, e, c, n, l, h _ rfl upd_same⟩
/-- an instance's attribute is put: lists and tuples stand -/
theorem SqQ.updI {a b C dx : Addr} {fs : List (Str × V)} {xs : List V} {o : HO} (e : H a = some (.ins C dx fs)) (h : SqQ K H b xs) : SqQ K (upd H a o) b xs := by
  have ne : ∀ u, H b = some u → (∀ C dx fs, u ≠ .ins C dx fs) → upd H a o b = some u := fun u hu n => by
    rw [upd_ne (fun z => by rw [z, e] at hu; cases hu; exact n _ _ _ rfl)]
    exact hu
  rcases h with (h | h) | (h | h)
  · rcases h with h | ⟨o, h⟩
    · exact .inl (.inl (.inl (ne _ h (fun _ _ _ z => by cases z))))
    · exact .inl (.inl (.inr ⟨o, ne _ h (fun _ _ _ z => by cases z)⟩))
  · exact .inl (.inr h)
  · rcases h with h | ⟨o, h⟩
    · exact .inr (.inl (.inl (ne _ h (fun _ _ _ z => by cases z))))
    · exact .inr (.inl (.inr ⟨o, ne _ h (fun _ _ _ z => by cases z)⟩))
  · exact .inr (.inr h)
theorem rd_isiTQ {a u : Addr} {xs : List V} (e : SqQ K H a xs) (eu : H u = some (.tup [.ty "list", .ty "tuple"])) (h : Q (.bl true) H) : rIsiT K [.ref a, .ref u] H Q := by
  obtain ⟨t, rfl | rfl, ht⟩ := tyX_Q e
  · exact ⟨_, u, _, _, [.type "list", .type "tuple"], true, rfl, eu, .cons (.ty _) (.cons (.ty _) .nil), ht, kit_ll, h⟩
  · exact ⟨_, u, _, _, [.type "list", .type "tuple"], true, rfl, eu, .cons (.ty _) (.cons (.ty _) .nil), ht, kit_tt, h⟩
def JQ (K : PySem.W.Frag) (H : Hp) (a : Addr) (xs : List V) (J : It) : Prop := (J = Itl K a ∧ SqL K H a xs) ∨ (J = Itt K a ∧ SqT K H a xs)
theorem altQ {n : Nat} {a : Addr} {xs : List V} {R : It → Hp → Prop} (hn : σ[n]? = some (some (.ref a))) (sM : SqQ K H a xs) (h : ∀ J, JQ K H a xs J → R J H) : iList K (tVar n) σ H R ∨ iTup K (tVar n) σ H R :=
  sM.elim (fun z => .inl ⟨_, hn, a, rfl, ⟨xs, z⟩, h _ (.inl ⟨rfl, z⟩)⟩) fun z => .inr ⟨_, hn, a, rfl, ⟨xs, z⟩, h _ (.inr ⟨rfl, z⟩)⟩
theorem lcR_Q {a : Addr} {xs : List V} {J : It} (hJ : JQ K H a xs J) (Pv : Addr → Nat → Hp → Prop) (hP : ∀ D i H', H D = none → Pv D i H' → Same H H') (h0 : ∀ D H', H D = none → Same H H' → H' D = some (.lst []) → H' = upd H D (.lst []) → Pv D 0 H')
    (hs : ∀ D i x H', H D = none → xs[i]? = some x → Pv D i H' → g x (wipe σ vs) H' fun σ2 H2 => wipe σ2 vs = wipe σ vs ∧ tt σ2 H2 fun b H3 => if b = true then te σ2 H3 fun y H4 => LcE D (Pv D (i + 1)) y H4 else Pv D (i + 1) H3)
    (hd : ∀ D H', H D = none → Pv D xs.length H' → Q (.ref D) H') : LcR J g tt te vs σ H Q := by
  rcases hJ with ⟨rfl, h⟩ | ⟨rfl, h⟩
  · exact lcR_lst Pv (fun D i H' hD p => L2.Same.seq (hP D i H' hD p) h) h0 hs hd
  · exact lcR_tup Pv (fun D i H' hD p => sqT_mono (hP D i H' hD p) h) h0 hs hd
theorem all_true {D : Addr} {n : Nat} (e : H D = some (.lst ((List.replicate n true).map V.bl))) (h : Q (.bl true) H) : rAll K [.ref D] H Q := by
  refine ⟨D, List.replicate n true, rfl, SqL.of e, ?_⟩
  rw [show (List.replicate n true).all id = true from by simp]
  exact h
end
/-! walks over a list or a tuple, with places or without -/
section
variable {σ : L2.St} {H : Hp} {Q : VK} {K : PySem.W.Frag} {g : TG} {tb : TS} {tt : TT} {te : TE} {vs : List Nat} {nx bk ct : L2.St → Hp → Prop} {rt : VK}
theorem forR_Q {a : Addr} {xs : List V} {J : It} {H0 : Hp} (hJ : JQ K H0 a xs J) (Pv : Nat → L2.St → Hp → Prop) (hP : ∀ i σ H, Pv i σ H → Same H0 H) (h0 : Pv 0 σ H)
    (hs : ∀ i x σ H, xs[i]? = some x → Pv i σ H → g x σ H fun σ2 H2 => tb ⟨Pv (i + 1), rt, nx, Pv (i + 1)⟩ σ2 H2) (hd : ∀ σ H, Pv xs.length σ H → nx σ H) : ForR J g tb ⟨nx, rt, bk, ct⟩ σ H := by
  rcases hJ with ⟨rfl, h⟩ | ⟨rfl, h⟩
  · exact forR_lst Pv (fun i σ H p => L2.Same.seq (hP i σ H p) h) h0 hs hd
  · exact forR_tup Pv (fun i σ H p => sqT_mono (hP i σ H p) h) h0 hs hd
def JE (K : PySem.W.Frag) (H : Hp) (a : Addr) (xs : List V) (J : It) : Prop := (J = Ite K a ∧ SqL K H a xs) ∨ (J = IteT K a ∧ SqT K H a xs)
theorem altE {n : Nat} {a : Addr} {xs : List V} {R : It → Hp → Prop} (hn : σ[n]? = some (some (.ref a))) (sM : SqQ K H a xs) (h : ∀ J, JE K H a xs J → R J H) : iEnum K (tCons (tVar n) tNil) σ H R ∨ iEnumT K (tCons (tVar n) tNil) σ H R :=
  sM.elim (fun z => .inl ⟨_, hn, a, xs, rfl, z, h _ (.inl ⟨rfl, z⟩)⟩) fun z => .inr ⟨_, hn, a, xs, rfl, z, h _ (.inr ⟨rfl, z⟩)⟩
theorem forR_E {a : Addr} {xs : List V} {J : It} {H0 : Hp} (hJ : JE K H0 a xs J) (Pv : Nat → L2.St → Hp → Prop) (hP : ∀ i σ H, Pv i σ H → Same H0 H) (h0 : Pv 0 σ H)
    (hs : ∀ (i : Nat) x σ H t H', xs[i]? = some x → Pv i σ H → H t = none → Same H H' → H' t = some (.tup [.int (i : Nat), x]) → g (.ref t) σ H' fun σ2 H2 => tb ⟨Pv (i + 1), rt, nx, Pv (i + 1)⟩ σ2 H2) (hd : ∀ σ H, Pv xs.length σ H → nx σ H) : ForR J g tb ⟨nx, rt, bk, ct⟩ σ H := by
  rcases hJ with ⟨rfl, h⟩ | ⟨rfl, h⟩
  · exact forR_enum Pv (fun i σ H p => L2.Same.seq (hP i σ H p) h) h0 (fun i x σ H t H' e1 e2 e3 e4 e5 _ => hs i x σ H t H' e1 e2 e3 e4 e5) hd
  · exact forR_enumT Pv (fun i σ H p => sqT_mono (hP i σ H p) h) h0 (fun i x σ H t H' e1 e2 e3 e4 e5 _ => hs i x σ H t H' e1 e2 e3 e4 e5) hd
end
/-! comprehensions with two for -/
section
variable {σ : L2.St} {H H4 : Hp} {Q : VK} {K : PySem.W.Frag} {g g1 : TG} {wi wi1 : TI} {tt tt1 : TT} {te : TE} {vs vs1 : List Nat}
def Lc2I (J1 : It) (g1 : TG) (tt1 : TT) (te : TE) (vs1 : List Nat) (D : Addr) (Nx : Hp → Prop) (σ2 : L2.St) (H4 : Hp) : Prop := ∃ W1 : Nat → Nat → Hp → Prop, (∃ m, W1 0 m H4) ∧ ∀ j k H, W1 j k H → (J1.stop j H ∧ Nx H) ∨ (J1.go j H ∧ ∃ Nx1 : Hp → Prop, (∀ H', Nx1 H' → ∃ k', k' < k ∧ W1 (j + 1) k' H') ∧
  ∀ x H', J1.yld j H x H' → g1 x (wipe σ2 vs1) H' fun σ3 H5 => wipe σ3 vs1 = wipe σ2 vs1 ∧ tt1 σ3 H5 fun b H6 => if b = true then te σ3 H6 fun y H7 => LcE D Nx1 y H7 else Nx1 H6)
def Lc2R (J : It) (g : TG) (tt : TT) (wi1 : TI) (g1 : TG) (tt1 : TT) (te : TE) (vs vs1 : List Nat) (σ : L2.St) (H1 : Hp) (Q : VK) : Prop := ∀ D, H1 D = none → ∃ W : Nat → Nat → Hp → Prop, (∃ m, W 0 m (upd H1 D (.lst []))) ∧ ∀ i m H, W i m H →
  (J.stop i H ∧ Q (.ref D) H) ∨ (J.go i H ∧ ∃ Nx : Hp → Prop, (∀ H', Nx H' → ∃ m', m' < m ∧ W (i + 1) m' H') ∧ ∀ x H', J.yld i H x H' → g x (wipe σ vs) H' fun σ2 H2 => wipe σ2 vs = wipe σ vs ∧ tt σ2 H2 fun b H3 => if b = true then wi1 σ2 H3 fun J1 H4 => Lc2I J1 g1 tt1 te vs1 D Nx σ2 H4 else Nx H3)
theorem rd_lc2 (h : wi σ H fun J H1 => Lc2R J g tt wi1 g1 tt1 te vs vs1 σ H1 Q) : tLc2 wi g tt wi1 g1 tt1 te vs vs1 σ H Q := h
theorem lc2R_gen (J : It) (n : Nat) (Pv : Addr → Nat → Hp → Prop) (h0 : ∀ D H', H D = none → Same H H' → H' D = some (.lst []) → H' = upd H D (.lst []) → Pv D 0 H') (hg : ∀ D i H', H D = none → i < n → Pv D i H' → J.go i H') (he : ∀ D H', H D = none → Pv D n H' → J.stop n H')
    (hs : ∀ D i H' x H2, H D = none → i < n → Pv D i H' → J.yld i H' x H2 → g x (wipe σ vs) H2 fun σ2 H2 => wipe σ2 vs = wipe σ vs ∧ tt σ2 H2 fun b H3 => if b = true then wi1 σ2 H3 fun J1 H4 => Lc2I J1 g1 tt1 te vs1 D (Pv D (i + 1)) σ2 H4 else Pv D (i + 1) H3)
    (hd : ∀ D H', H D = none → Pv D n H' → Q (.ref D) H') : Lc2R J g tt wi1 g1 tt1 te vs vs1 σ H Q := by
  intro D hD
  refine ⟨fun i m H => m = n - i ∧ i ≤ n ∧ Pv D i H, ⟨n, by simp, Nat.zero_le _, h0 D _ hD (Same.new (Same.refl H) hD) upd_same rfl⟩, ?_⟩
  rintro i m H' ⟨rfl, hi, p⟩
  by_cases hlt : i < n
  · exact .inr ⟨hg D i H' hD hlt p, Pv D (i + 1), fun H2 p' => ⟨n - (i + 1), by omega, rfl, hlt, p'⟩, fun x H2 y => hs D i H' x H2 hD hlt p y⟩
  · obtain rfl : i = n := by omega
    exact .inl ⟨he D H' hD p, hd D H' hD p⟩
theorem lc2R_lst {a : Addr} {xs : List V} (Pv : Addr → Nat → Hp → Prop) (hl : ∀ D i H', H D = none → Pv D i H' → SqL K H' a xs) (h0 : ∀ D H', H D = none → Same H H' → H' D = some (.lst []) → H' = upd H D (.lst []) → Pv D 0 H')
    (hs : ∀ D i x H', H D = none → xs[i]? = some x → Pv D i H' → g x (wipe σ vs) H' fun σ2 H2 => wipe σ2 vs = wipe σ vs ∧ tt σ2 H2 fun b H3 => if b = true then wi1 σ2 H3 fun J1 H4 => Lc2I J1 g1 tt1 te vs1 D (Pv D (i + 1)) σ2 H4 else Pv D (i + 1) H3)
    (hd : ∀ D H', H D = none → Pv D xs.length H' → Q (.ref D) H') : Lc2R (Itl K a) g tt wi1 g1 tt1 te vs vs1 σ H Q :=
  lc2R_gen _ xs.length Pv h0 (fun D i H' hD h p => ⟨xs, xs[i], hl D i H' hD p, by simp [h]⟩) (fun D H' hD p => ⟨xs, hl D _ H' hD p, Nat.le_refl _⟩)
    (fun D i H' x H2 hD hi p ⟨e1, e2⟩ => by subst e1; exact hs D i x _ hD (e2 xs (hl D i _ hD p)) p) hd
theorem lc2I_gen (J : It) (n : Nat) {D : Addr} {Nx : Hp → Prop} (Pv : Nat → Hp → Prop) (h0 : Pv 0 H4) (hg : ∀ i H', i < n → Pv i H' → J.go i H') (he : ∀ H', Pv n H' → J.stop n H')
    (hs : ∀ i H' x H2, i < n → Pv i H' → J.yld i H' x H2 → g1 x (wipe σ vs1) H2 fun σ3 H5 => wipe σ3 vs1 = wipe σ vs1 ∧ tt1 σ3 H5 fun b H6 => if b = true then te σ3 H6 fun y H7 => LcE D (Pv (i + 1)) y H7 else Pv (i + 1) H6)
    (hd : ∀ H', Pv n H' → Nx H') : Lc2I J g1 tt1 te vs1 D Nx σ H4 := by
  refine ⟨fun i m H => m = n - i ∧ i ≤ n ∧ Pv i H, ⟨n, by simp, Nat.zero_le _, h0⟩, ?_⟩
  rintro i m H' ⟨rfl, hi, p⟩
  by_cases hlt : i < n
  · exact .inr ⟨hg i H' hlt p, Pv (i + 1), fun H2 p' => ⟨n - (i + 1), by omega, rfl, hlt, p'⟩, fun x H2 y => hs i H' x H2 hlt p y⟩
  · obtain rfl : i = n := by omega
    exact .inl ⟨he H' p, hd H' p⟩
theorem lc2I_tup {a : Addr} {xs : List V} {D : Addr} {Nx : Hp → Prop} (Pv : Nat → Hp → Prop) (hl : ∀ i H', Pv i H' → SqT K H' a xs) (h0 : Pv 0 H4)
    (hs : ∀ i x H', xs[i]? = some x → Pv i H' → g1 x (wipe σ vs1) H' fun σ3 H5 => wipe σ3 vs1 = wipe σ vs1 ∧ tt1 σ3 H5 fun b H6 => if b = true then te σ3 H6 fun y H7 => LcE D (Pv (i + 1)) y H7 else Pv (i + 1) H6)
    (hd : ∀ H', Pv xs.length H' → Nx H') : Lc2I (Itt K a) g1 tt1 te vs1 D Nx σ H4 :=
  lc2I_gen _ xs.length Pv h0 (fun i H' h p => ⟨xs, xs[i], hl i H' p, by simp [h]⟩) (fun H' p => ⟨xs, hl _ H' p, Nat.le_refl _⟩)
    (fun i H' x H2 hi p ⟨e1, e2⟩ => by subst e1; exact hs i x _ (e2 xs (hl i _ p)) p) hd
end
theorem cutN_take {xs : List V} {m : Nat} : cutV xs none (some (m : Int)) = xs.take m := by
  unfold cutV
  have e1 : HT.sIx xs.length 0 none = 0 := rfl
  have e2 : HT.sIx xs.length xs.length (some (m : Int)) = min m xs.length := by
    show (if (m : Int) < 0 then ((m : Int) + xs.length).toNat else min (m : Int).toNat xs.length) = _
    rw [if_neg (by omega)]
    simp
  rw [e1, e2, List.drop_zero, Nat.sub_zero]
  by_cases c : m ≤ xs.length
  · rw [Nat.min_eq_left c]
  · rw [Nat.min_eq_right (by omega), List.take_length, List.take_of_length_le (by omega)]
theorem cutN_drop {xs : List V} {m : Nat} : cutV xs (some (m : Int)) none = xs.drop m := by
  unfold cutV
  have e1 : HT.sIx xs.length xs.length none = xs.length := rfl
  have e2 : HT.sIx xs.length 0 (some (m : Int)) = min m xs.length := by
    show (if (m : Int) < 0 then ((m : Int) + xs.length).toNat else min (m : Int).toNat xs.length) = _
    rw [if_neg (by omega)]
    simp
  rw [e1, e2]
  by_cases c : m ≤ xs.length
  · rw [Nat.min_eq_left c, List.take_of_length_le (by rw [List.length_drop]; exact Nat.le_refl _)]
  · rw [Nat.min_eq_right (by omega), List.drop_of_length_le (Nat.le_refl _), List.drop_of_length_le (by omega)]
    simp
/-! zip of two lists -/
section
variable {σ : L2.St} {H : Hp} {Q : VK} {K : PySem.W.Frag} {g : TG} {tb : TS} {tt : TT} {te : TE} {ta : TA} {R : It → Hp → Prop} {vs : List Nat} {nx bk ct : L2.St → Hp → Prop} {rt : VK}
def zpR (K : PySem.W.Frag) (R : It → Hp → Prop) (vs : List V) (H1 : Hp) : Prop := ∃ a b xs ys, vs = [.ref a, .ref b] ∧ SqL K H1 a xs ∧ SqL K H1 b ys ∧ R (Itz K a b) H1
theorem rd_iZip (h : ta σ H fun vs H1 => zpR K R vs H1) : iZip K ta σ H R := h
theorem rd_zpR {a b : Addr} {xs ys : List V} (e1 : SqL K H a xs) (e2 : SqL K H b ys) (h : R (Itz K a b) H) : zpR K R [.ref a, .ref b] H := ⟨a, b, xs, ys, rfl, e1, e2, h⟩
theorem forR_zip {a b : Addr} {xs ys : List V} (n : Nat) (hn : n = min xs.length ys.length) (Pv : Nat → L2.St → Hp → Prop) (hl : ∀ i σ H, Pv i σ H → SqL K H a xs ∧ SqL K H b ys) (h0 : Pv 0 σ H)
    (hs : ∀ (i : Nat) x y σ H t H', i < n → xs[i]? = some x → ys[i]? = some y → Pv i σ H → H t = none → Same H H' → H' t = some (.tup [x, y]) → g (.ref t) σ H' fun σ2 H2 => tb ⟨Pv (i + 1), rt, nx, Pv (i + 1)⟩ σ2 H2) (hd : ∀ σ H, Pv n σ H → nx σ H) :
    ForR (Itz K a b) g tb ⟨nx, rt, bk, ct⟩ σ H :=
  forR_gen _ n Pv h0 (fun i σ H h p => ⟨xs, ys, xs[i]'(by omega), ys[i]'(by omega), (hl i σ H p).1, (hl i σ H p).2, by simp, by simp⟩) (fun σ H p => ⟨xs, ys, (hl _ σ H p).1, (hl _ σ H p).2, by omega⟩)
    (fun i σ H x H' hi p ⟨t, x1, y1, e1, e2, e3, e4, e5⟩ => by subst e1; subst e3; exact hs i x1 y1 σ H t _ hi (e4 xs (hl i σ _ p).1) (e5 ys (hl i σ _ p).2) p e2 (Same.new (Same.refl H) e2) upd_same) hd
end
section
variable {σ : L2.St} {H H0 : Hp} {K : PySem.W.Frag}
theorem altQs {n : Nat} {a : Addr} {xs : List V} {R : It → Hp → Prop} (hn : σ[n]? = some (some (.ref a))) (sM : SqQ K H0 a xs) (s : Same H0 H) (h : ∀ J, JQ K H0 a xs J → R J H) : iList K (tVar n) σ H R ∨ iTup K (tVar n) σ H R :=
  sM.elim (fun z => .inl ⟨_, hn, a, rfl, ⟨xs, L2.Same.seq s z⟩, h _ (.inl ⟨rfl, z⟩)⟩) fun z => .inr ⟨_, hn, a, rfl, ⟨xs, sqT_mono s z⟩, h _ (.inr ⟨rfl, z⟩)⟩
theorem altEs {n : Nat} {a : Addr} {xs : List V} {R : It → Hp → Prop} (hn : σ[n]? = some (some (.ref a))) (sM : SqQ K H0 a xs) (s : Same H0 H) (h : ∀ J, JE K H0 a xs J → R J H) : iEnum K (tCons (tVar n) tNil) σ H R ∨ iEnumT K (tCons (tVar n) tNil) σ H R :=
  sM.elim (fun z => .inl ⟨_, hn, a, xs, rfl, L2.Same.seq s z, h _ (.inl ⟨rfl, z⟩)⟩) fun z => .inr ⟨_, hn, a, xs, rfl, sqT_mono s z, h _ (.inr ⟨rfl, z⟩)⟩
end
section
variable {σ : L2.St} {H : Hp} {Q : VK} {g : TG} {tt : TT} {te : TE} {vs : List Nat}
theorem lcR_rngC {lo c : Int} {n : Nat} (Pv : Addr → Nat → Hp → Prop) (h0 : ∀ D H', H D = none → Same H H' → H' D = some (.lst []) → H' = upd H D (.lst []) → Pv D 0 H')
    (hs : ∀ D (i : Nat) H', H D = none → i < n → Pv D i H' → g (.int (lo + (i : Nat) * c)) (wipe σ vs) H' fun σ2 H2 => wipe σ2 vs = wipe σ vs ∧ tt σ2 H2 fun b H3 => if b = true then te σ2 H3 fun y H4 => LcE D (Pv D (i + 1)) y H4 else Pv D (i + 1) H3)
    (hd : ∀ D H', H D = none → Pv D n H' → Q (.ref D) H') : LcR (Itc lo c n) g tt te vs σ H Q :=
  lcR_gen _ n Pv h0 (fun D i H' hD h p => h) (fun D H' hD p => Nat.le_refl _) (fun D i H' x H2 hD hi p ⟨e1, e2⟩ => by subst e1; subst e2; exact hs D i _ hD hi p) hd
end
theorem slK {X : Cx} (R : PySem.W.Frag → V → Option Int → Option Int → Hp → VK → Prop) (K : PySem.W.Frag) (h : SlR X (R X.K)) (e : X.K = K := by rfl) : SlR X (R K) := e ▸ h
theorem pe_tupRevK {X : Cx} {e : Expr} {te : TE} (K : PySem.W.Frag) (h : PE X e (RT.tTupRev X.K te)) (eK : X.K = K := by rfl) : PE X e (RT.tTupRev K te) := eK ▸ h
end Sl

set_option Elab.async false
set_option linter.all false
set_option maxRecDepth 100000
set_option maxHeartbeats 8000000
set_option exponentiation.threshold 9000
namespace Sl
open PySem L2 C8 StX Silt
local macro_rules | `(tactic| walk_at "side") => `(tactic| first
  | exact cdivw (by omega) (by omega)
  | exact cmulw (by omega) (by omega) (by omega) (by omega)
  | exact Or.inr ⟨by omega, by omega⟩
  | exact Or.inl ⟨by omega, by omega⟩
  | omega
  | exact ⟨by omega, by omega, by decide⟩
  | decide)
local macro_rules | `(tactic| walk_at "rd1") => `(tactic| first
  | with_reducible refine rd_seq ?_
  | with_reducible refine rd_asg ?_
  | with_reducible refine rd_drop ?_
  | with_reducible refine rd_ret ?_
  | with_reducible refine rd_retN ?_
  | with_reducible refine rd_ifS ?_
  | ((with_reducible refine rd_var0 ?_); refine ⟨_, rfl, ?_⟩)
  | with_reducible refine rd_c ?_
  | with_reducible refine rd_op ?_
  | with_reducible refine rd_un ?_
  | with_reducible refine rd_I0 ?_
  | with_reducible refine rd_U ?_
  | ((with_reducible refine rd_I ?c ?_); (case c => walk_at "side"))
  | with_reducible refine rd_ipI ?_
  | with_reducible refine rd_eqI ?_
  | with_reducible refine rd_neI ?_
  | with_reducible refine rd_test ?_
  | with_reducible refine rd_tB ?_
  | with_reducible refine rd_bl ?_
  | with_reducible refine rd_not ?_
  | with_reducible refine rd_and ?_
  | with_reducible refine rd_or ?_
  | with_reducible refine rd_andV ?_
  | with_reducible refine rd_orV ?_
  | with_reducible refine rd_notV ?_
  | with_reducible refine rd_ifE ?_
  | with_reducible refine rd_chain ?_
  | with_reducible refine rd_chain3 ?_
  | with_reducible refine rd_nil ?_
  | with_reducible refine rd_cons ?_
  | with_reducible refine rd_call ?_
  | with_reducible refine rd_CB ?_
  | with_reducible refine rd_par ?_
  | with_reducible refine rd_par2 ?_
  | with_reducible refine rd_par3 ?_
  | with_reducible refine rd_par4 ?_
  | ((with_reducible refine rd_aug0 ?_); refine ⟨_, rfl, ?_⟩)
  | with_reducible refine rd_gname ?_
  | with_reducible refine rd_gcons ?_
  | with_reducible refine rd_gnil ?_
  | with_reducible refine rd_max ?_
  | with_reducible refine rd_min ?_
  | with_reducible refine rd_int1 ?_
  | with_reducible refine rd_abs ?_
  | with_reducible refine rd_lst ?_
  | with_reducible refine rd_tup ?_
  | with_reducible refine rd_bm ?_
  | with_reducible refine rd_fld0 ?_
  | with_reducible refine rd_sl0 ?_
  | with_reducible refine rd_noP ?_
  | with_reducible refine rd_part ?_
  | with_reducible refine rd_part2 ?_
  | with_reducible refine rd_meth0 ?_
  | with_reducible refine rd_star ?_
  | with_reducible refine rd_for ?_
  | with_reducible refine rd_rng1 ?_
  | with_reducible refine rd_rng2 ?_
  | with_reducible refine rd_rng3 ?_
  | with_reducible refine rd_iList ?_
  | with_reducible refine rd_iTup ?_
  | with_reducible refine rd_iEnum ?_
  | with_reducible refine rd_lc ?_
  | with_reducible refine rd_yes ?_
  | with_reducible refine rd_augS ?_
  | with_reducible refine rd_drawNew ?_
  | with_reducible refine rd_make0 ?_
  | with_reducible refine rd_next ?_
  | with_reducible refine rd_break ?_
  | with_reducible refine rd_cont ?_
  | with_reducible refine rd_iteTT ?_
  | with_reducible refine rd_iteFF ?_
  | with_reducible refine rd_iteNTT ?_
  | with_reducible refine rd_iteNFF ?_
  | with_reducible refine rd_con0 ?_
  | with_reducible refine rd_truO0 ?_
  | with_reducible refine rd_gfld0 ?_
  | with_reducible refine rd_dc ?_
  | with_reducible refine rd_iKeys ?_
  | with_reducible refine rd_dget0 ?_
  | with_reducible refine rd_dput0 ?_
  | with_reducible refine rd_dnot0 ?_
  | with_reducible refine rd_iEnumT ?_
  | with_reducible refine rd_raP0 ?_
  | with_reducible refine rd_xf0 ?_
  | with_reducible refine rd_cKw ?_
  | with_reducible refine rd_iStr ?_
  | with_reducible refine rd_gSub ?_
  | with_reducible refine rd_asgG ?_)
local macro_rules | `(tactic| walk_at "rd") => `(tactic| repeat walk_at "rd1")
local macro_rules | `(tactic| walk_at "len") => `(tactic| first
  | (intro vs H Q E h; obtain ⟨h2, _⟩ := h; rw [h2]; rfl)
  | (intro vs H Q E h; obtain ⟨_, h2, _⟩ := h; rw [h2]; rfl)
  | (intro vs H Q E h; obtain ⟨_, _, h2, _⟩ := h; rw [h2]; rfl)
  | (intro vs H Q E h; obtain ⟨_, _, _, h2, _⟩ := h; rw [h2]; rfl)
  | (intro vs H Q E h; obtain ⟨_, _, _, _, h2, _⟩ := h; rw [h2]; rfl)
  | (intro vs H Q E h; obtain ⟨_, _, _, _, _, h2, _⟩ := h; rw [h2]; rfl)
  | (intro vs H Q E h; obtain ⟨_, _, _, _, _, _, h2, _⟩ := h; rw [h2]; rfl)
  | (intro vs H Q E h; obtain ⟨_, _, _, _, _, _, _, h2, _⟩ := h; rw [h2]; rfl)
  | (intro vs H Q E h; obtain ⟨_, _, _, _, _, _, _, _, h2, _⟩ := h; rw [h2]; rfl)
  | (intro vs H Q E h; obtain ⟨_, _, _, _, _, _, _, _, _, h2, _⟩ := h; rw [h2]; rfl)
  | (intro vs H Q E h; obtain ⟨_, _, _, _, _, _, _, _, _, _, h2, _⟩ := h; rw [h2]; rfl)
  | (intro vs H Q E h; obtain ⟨_, _, _, _, _, _, _, _, _, _, _, h2, _⟩ := h; rw [h2]; rfl)
  | (intro vs H Q E h; obtain ⟨_, _, _, _, _, _, _, _, _, _, _, _, h2, _⟩ := h; rw [h2]; rfl))
/-- references to pairs of ints, one for each -/
def IvP (H : Hp) (xs : List V) (rs : List Iv) : Prop := xs.length = rs.length ∧ ∀ (i : Nat) r, rs[i]? = some r → ∃ t, xs[i]? = some (V.ref t) ∧ H t = some (.tup [.int r.1, .int r.2])
theorem IvP.keep {H H' : Hp} {xs : List V} {rs : List Iv} (s : ∀ a ys, H a = some (.tup ys) → H' a = some (.tup ys)) (h : IvP H xs rs) : IvP H' xs rs :=
  ⟨h.1, fun i r hr => by obtain ⟨t, h1, h2⟩ := h.2 i r hr; exact ⟨t, h1, s _ _ h2⟩⟩
theorem IvP.mono {H H' : Hp} {xs : List V} {rs : List Iv} (s : Same H H') (h : IvP H xs rs) : IvP H' xs rs := h.keep fun a ys e => s _ _ e
theorem IvP.updL {H : Hp} {a : Addr} {ys : List V} {o : HO} {xs : List V} {rs : List Iv} (e : H a = some (.lst ys)) (h : IvP H xs rs) : IvP (upd H a o) xs rs := h.keep fun b zs e2 => by
  rw [upd_ne (fun z => by rw [z, e] at e2; cases e2)]
  exact e2
theorem IvP.nil {H : Hp} : IvP H [] [] := ⟨rfl, fun i r h => by simp at h⟩
theorem IvP.snoc {H : Hp} {xs : List V} {rs : List Iv} {t : Addr} {r : Iv} (h : IvP H xs rs) (e : H t = some (.tup [.int r.1, .int r.2])) : IvP H (xs ++ [.ref t]) (rs ++ [r]) := by
  refine ⟨by rw [List.length_append, List.length_append, h.1]; rfl, fun i q hq => ?_⟩
  rcases Nat.lt_or_ge i rs.length with z | z
  · rw [List.getElem?_append_left z] at hq
    obtain ⟨u, h1, h2⟩ := h.2 i q hq
    exact ⟨u, by rw [List.getElem?_append_left (by rw [h.1]; exact z)]; exact h1, h2⟩
  · rw [List.getElem?_append_right z] at hq
    have : i = rs.length := by
      have := (List.getElem?_eq_some_iff.mp hq).1
      simp at this
      omega
    subst this
    rw [Nat.sub_self] at hq
    have hq : r = q := by simpa using hq
    subst hq
    exact ⟨t, by rw [List.getElem?_append_right (by rw [h.1]; exact Nat.le_refl _), h.1, Nat.sub_self]; rfl, e⟩
theorem IvP.init {H : Hp} {xs : List V} {x : V} {rs : List Iv} {r : Iv} (h : IvP H (xs ++ [x]) (rs ++ [r])) : IvP H xs rs ∧ ∃ t, x = .ref t ∧ H t = some (.tup [.int r.1, .int r.2]) := by
  have hl : xs.length = rs.length := by have := h.1; simpa using this
  refine ⟨⟨hl, fun i q hq => ?_⟩, ?_⟩
  · have hi := (List.getElem?_eq_some_iff.mp hq).1
    obtain ⟨t, h1, h2⟩ := h.2 i q (by rw [List.getElem?_append_left hi]; exact hq)
    rw [List.getElem?_append_left (by omega)] at h1
    exact ⟨t, h1, h2⟩
  · obtain ⟨t, h1, h2⟩ := h.2 rs.length r (by simp)
    rw [List.getElem?_append_right (by omega), hl, Nat.sub_self] at h1
    exact ⟨t, by simpa using h1, h2⟩
theorem IvP.app {H : Hp} : ∀ {ts : List Iv} {ys xs : List V} {rs : List Iv}, IvP H xs rs → IvP H ys ts → IvP H (xs ++ ys) (rs ++ ts)
  | ts, ys, xs, rs, h1, h2 => by
    refine ⟨by rw [List.length_append, List.length_append, h1.1, h2.1], fun i q hq => ?_⟩
    rcases Nat.lt_or_ge i rs.length with z | z
    · rw [List.getElem?_append_left z] at hq
      obtain ⟨u, e1, e2⟩ := h1.2 i q hq
      exact ⟨u, by rw [List.getElem?_append_left (by rw [h1.1]; exact z)]; exact e1, e2⟩
    · rw [List.getElem?_append_right z] at hq
      obtain ⟨u, e1, e2⟩ := h2.2 _ q hq
      exact ⟨u, by rw [List.getElem?_append_right (by rw [h1.1]; exact z), h1.1]; exact e1, e2⟩
theorem IvP.getV {H : Hp} {xs : List V} {rs : List Iv} {i : Nat} {x : V} (h : IvP H xs rs) (hx : xs[i]? = some x) : ∃ r t, rs[i]? = some r ∧ x = .ref t ∧ H t = some (.tup [.int r.1, .int r.2]) := by
  have hi : i < rs.length := by rw [← h.1]; exact (List.getElem?_eq_some_iff.mp hx).1
  obtain ⟨t, h1, h2⟩ := h.2 i _ (List.getElem?_eq_getElem hi)
  rw [hx] at h1
  cases h1
  exact ⟨_, t, List.getElem?_eq_getElem hi, rfl, h2⟩
/-- a plain value -/
def Sc (v : V) : Prop := (tyS v).isSome = true
def wholeB : V → Bool
  | .int _ => true
  | _ => false
def keyB : V → Bool
  | .int i => decide (0 ≤ i ∧ i ≤ 999999)
  | _ => false
def sgB (c : Nat) : Bool := decide (97 ≤ c ∧ c ≤ 122) || decide (48 ≤ c ∧ c ≤ 57)
def valB : V → Bool
  | .str z => decide (1 ≤ z.length ∧ z.length ≤ 12) && z.cps.toList.all sgB
  | _ => false
def rgB : List V → Bool
  | [.int i, .int j] => decide (0 ≤ i ∧ i ≤ j ∧ j ≤ 999999)
  | _ => false
def spIsW : Sp := fun vs H Q _ => ∃ v, vs = [v] ∧ Sc v ∧ Q (.bl (wholeB v)) H
def spIsKey : Sp := fun vs H Q _ => ∃ v, vs = [v] ∧ Sc v ∧ Q (.bl (keyB v)) H
def spChkK : Sp := fun vs H Q _ => ∃ v, vs = [v] ∧ keyB v = true ∧ Q .non H
def spChkKX (C : Addr) : Sp := fun vs H Q E => ∃ v, vs = [v] ∧ Sc v ∧ (keyB v = true → Q .non H) ∧ (keyB v = false → E (.ref C) none H)
def spIsVal : Sp := fun vs H Q _ => ∃ v, vs = [v] ∧ Sc v ∧ (∀ z, v = .str z → z.length ≤ 1000) ∧ ∀ H', Same H H' → Q (.bl (valB v)) H'
def spIsRng : Sp := fun vs H Q _ => ∃ (t : Addr), vs = [.ref t] ∧ ((∃ ws, H t = some (.tup ws) ∧ ws.length ≤ 9 ∧ (∀ w ∈ ws, Sc w) ∧ ∀ H', Same H H' → Q (.bl (rgB ws)) H') ∨ ∃ xs, H t = some (.lst xs) ∧ Q (.bl false) H)
theorem sc_cases {v : V} (h : Sc v) : (∃ i, v = .int i) ∨ (∃ b, v = .bl b) ∨ (∃ z, v = .str z) ∨ v = .non := by
  cases v <;> first | exact .inl ⟨_, rfl⟩ | exact .inr (.inl ⟨_, rfl⟩) | exact .inr (.inr (.inl ⟨_, rfl⟩)) | exact .inr (.inr (.inr rfl)) | cases h
theorem keyB_sc {v : V} (h : keyB v = true) : ∃ i, v = .int i ∧ 0 ≤ i ∧ i ≤ 999999 := by
  cases v <;> first | (exact ⟨_, rfl, of_decide_eq_true h⟩) | cases h
theorem len_cps (z : Str) : z.length = z.cps.toList.length := by
  show z.cps.size = _
  simp
/-- one sign against another -/
theorem sgn_le (c d : Nat) : (!decide (([d] : List Nat) < [c])) = decide (c ≤ d) := by
  by_cases h : c ≤ d
  · rw [decide_eq_true h, decide_eq_false (by rw [List.cons_lt_cons_iff]; simp; omega)]
    rfl
  · rw [decide_eq_false h, decide_eq_true (by rw [List.cons_lt_cons_iff]; omega)]
    rfl
theorem rd_leC {H : Hp} {Q : VK} {i j : Str} {c d : Nat} (e1 : i.cps.toList = [c]) (e2 : j.cps.toList = [d]) (h : Q (.bl (decide (c ≤ d))) H) : rLeS (.str i) (.str j) H Q := by
  refine rd_leS ?_
  rw [e1, e2, sgn_le]
  exact h
theorem all_take {α : Type} {f : α → Bool} {l : List α} {D : Addr} {H : Hp} (e : H D = some (.lst ((l.map f).map V.bl))) {Q : VK} {K : PySem.W.Frag} (h : Q (.bl (l.all f)) H) : rAll K [.ref D] H Q := by
  refine ⟨D, l.map f, rfl, SqL.of e, ?_⟩
  rw [List.all_map]
  exact h
theorem rgB_keys {w1 w2 : V} (h : rgB [w1, w2] = true) : keyB w1 = true ∧ keyB w2 = true := by
  cases w1 <;> first | cases h | skip
  cases w2 <;> first | cases h | skip
  have h := of_decide_eq_true h
  exact ⟨decide_eq_true ⟨h.1, by omega⟩, decide_eq_true ⟨by omega, h.2.2⟩⟩
section
variable {P : Program} {w : World} {K : PySem.W.Frag} {mg : Str → Option Value} {base : Heap} {C_Sheet C_Layer C_Pointer C_BadSheet C_BadDay C_BadKey C_BadLayers D_Sheet_0 D_Sheet_1 : Addr}
theorem cal_is_whole (T : TX P K mg C_Sheet C_Layer C_Pointer C_BadSheet C_BadDay C_BadKey C_BadLayers D_Sheet_0 D_Sheet_1) : Cal P w K mg base 1 "is_whole" spIsW [] := by
  obtain ⟨f0, fd, D, dn⟩ := T.d_is_whole
  refine cal0 D (D.fn.binds dn fun _ _ _ _ _ _ us hl => match us, hl with | [_], _ => rfl) .nil sc_is_whole (by walk_at "len") (fun cdv A outer s H vs Q E hr h => ?_)
  obtain ⟨v, rfl, h, k⟩ := h
  rcases sc_cases h with ⟨i, rfl⟩ | ⟨b, rfl⟩ | ⟨z, rfl⟩ | rfl
  · refine ⟨_, (pss_one (ps_ret (pe_and (pe_callB call_isi (by rfl) T.b_isinstance (by decide +kernel) (pa_cons (pv 0) (pa_cons (pe_bltn (v := .ty "int") (u := .type "int") rfl T.b_int (by decide +kernel) rfl) pa_nil))) (pe_one (pe_not (pe_callB call_isi (by rfl) T.b_isinstance (by decide +kernel) (pa_cons (pv 0) (pa_cons (pe_bltn (v := .ty "bool") (u := .type "bool") rfl T.b_bool (by decide +kernel) rfl) pa_nil)))))))), ?_⟩
    walk_at "rd"
    refine rd_isiS rfl (r := true) (by decide +kernel) ?_
    walk_at "rd"
    refine rd_isiS rfl (r := false) (by decide +kernel) ?_
    walk_at "rd"
    exact k
  · refine ⟨_, (pss_one (ps_ret (pe_and (pe_callB call_isi (by rfl) T.b_isinstance (by decide +kernel) (pa_cons (pv 0) (pa_cons (pe_bltn (v := .ty "int") (u := .type "int") rfl T.b_int (by decide +kernel) rfl) pa_nil))) (pe_one (pe_not (pe_callB call_isi (by rfl) T.b_isinstance (by decide +kernel) (pa_cons (pv 0) (pa_cons (pe_bltn (v := .ty "bool") (u := .type "bool") rfl T.b_bool (by decide +kernel) rfl) pa_nil)))))))), ?_⟩
    walk_at "rd"
    refine rd_isiS rfl (r := true) (by decide +kernel) ?_
    walk_at "rd"
    refine rd_isiS rfl (r := true) (by decide +kernel) ?_
    walk_at "rd"
    exact k
  · refine ⟨_, (pss_one (ps_ret (pe_and (pe_callB call_isi (by rfl) T.b_isinstance (by decide +kernel) (pa_cons (pv 0) (pa_cons (pe_bltn (v := .ty "int") (u := .type "int") rfl T.b_int (by decide +kernel) rfl) pa_nil))) (pe_one (pe_not (pe_callB call_isi (by rfl) T.b_isinstance (by decide +kernel) (pa_cons (pv 0) (pa_cons (pe_bltn (v := .ty "bool") (u := .type "bool") rfl T.b_bool (by decide +kernel) rfl) pa_nil)))))))), ?_⟩
    walk_at "rd"
    refine rd_isiS rfl (r := false) (by decide +kernel) ?_
    walk_at "rd"
    exact k
  · refine ⟨_, (pss_one (ps_ret (pe_and (pe_callB call_isi (by rfl) T.b_isinstance (by decide +kernel) (pa_cons (pv 0) (pa_cons (pe_bltn (v := .ty "int") (u := .type "int") rfl T.b_int (by decide +kernel) rfl) pa_nil))) (pe_one (pe_not (pe_callB call_isi (by rfl) T.b_isinstance (by decide +kernel) (pa_cons (pv 0) (pa_cons (pe_bltn (v := .ty "bool") (u := .type "bool") rfl T.b_bool (by decide +kernel) rfl) pa_nil)))))))), ?_⟩
    walk_at "rd"
    refine rd_isiS rfl (r := false) (by decide +kernel) ?_
    walk_at "rd"
    exact k
theorem cal_is_key (T : TX P K mg C_Sheet C_Layer C_Pointer C_BadSheet C_BadDay C_BadKey C_BadLayers D_Sheet_0 D_Sheet_1) : Cal P w K mg base 2 "is_key" spIsKey [] := by
  obtain ⟨f0, fd, D, dn⟩ := T.d_is_key
  have G_is_whole := cal_is_whole (P := P) (w := w) (base := base) T
  refine cal0 D (D.fn.binds dn fun _ _ _ _ _ _ us hl => match us, hl with | [_], _ => rfl) .nil sc_is_key (by walk_at "len") (fun cdv A outer s H vs Q E hr h => ?_)
  obtain ⟨v, rfl, h, k⟩ := h
  refine ⟨_, (pss_one (ps_ret (pe_and (pe_c G_is_whole hr (by decide) rfl (pa_cons (pv 0) pa_nil)) (pe_one (pe_chain op_le op_le pe_int (pv 0) (pe_gc rfl T.g_MOST_KEY)))))), ?_⟩
  walk_at "rd"
  refine ⟨v, rfl, h, ?_⟩
  rcases sc_cases h with ⟨i, rfl⟩ | ⟨b, rfl⟩ | ⟨z, rfl⟩ | rfl
  · have k : Q (.bl (decide (0 ≤ i ∧ i ≤ 999999))) H := k
    refine ⟨true, rfl, ?_⟩
    walk_at "rd"
    refine rd_ite (fun c => ?_) (fun c => ?_)
    · walk_at "rd"
      rw [show decide (0 ≤ i ∧ i ≤ 999999) = decide (i ≤ 999999) from by by_cases z : i ≤ 999999 <;> simp [c, z]] at k
      exact k
    · rw [decide_eq_false (fun z => c z.1)] at k
      exact k
  all_goals
    refine ⟨false, rfl, ?_⟩
    walk_at "rd"
    exact k
theorem cal_check_key (T : TX P K mg C_Sheet C_Layer C_Pointer C_BadSheet C_BadDay C_BadKey C_BadLayers D_Sheet_0 D_Sheet_1) : Cal P w K mg base 3 "check_key" spChkK [] := by
  obtain ⟨f0, fd, D, dn⟩ := T.d_check_key
  have G_is_key := cal_is_key (P := P) (w := w) (base := base) T
  refine cal0 D (D.fn.binds dn fun _ _ _ _ _ _ us hl => match us, hl with | [_], _ => rfl) .nil sc_check_key (by walk_at "len") (fun cdv A outer s H vs Q E hr h => ?_)
  obtain ⟨v, rfl, hv, k⟩ := h
  obtain ⟨i, rfl, _⟩ := keyB_sc hv
  refine ⟨_, (pss_one (ps_if (pt_not (pt_val (pe_c G_is_key hr (by decide) rfl (pa_cons (pv 0) pa_nil)))) (pss_one ps_never) pss_nil)), ?_⟩
  walk_at "rd"
  refine ⟨_, rfl, rfl, ?_⟩
  rw [hv]
  walk_at "rd"
  exact k
theorem xal_check_key (T : TX P K mg C_Sheet C_Layer C_Pointer C_BadSheet C_BadDay C_BadKey C_BadLayers D_Sheet_0 D_Sheet_1) : CalX P w K mg base 3 "check_key" (spChkKX C_BadKey) [] := by
  obtain ⟨f0, fd, D, dn⟩ := T.d_check_key
  have G_is_key := cal_is_key (P := P) (w := w) (base := base) T
  refine calX0 D (D.fn.binds dn fun _ _ _ _ _ _ us hl => match us, hl with | [_], _ => rfl) .nil sc_check_key (by walk_at "len") (fun cdv A outer s H vs Q E hr h => ?_)
  obtain ⟨v, rfl, hv, k1, k2⟩ := h
  refine ⟨_, (pss_one (ps_if (pt_not (pt_val (pe_c G_is_key hr (by decide) rfl (pa_cons (pv 0) pa_nil)))) (pss_one (ps_raiseO rfl (takes_of rfl rfl rfl rfl) T.x_BadKey T.mg_BadKey rfl)) pss_nil)), ?_⟩
  walk_at "rd"
  refine ⟨_, rfl, hv, ?_⟩
  cases e : keyB v
  · walk_at "rd"
    exact rd_raise (k2 e)
  · walk_at "rd"
    exact k1 e
theorem cal_is_value (T : TX P K mg C_Sheet C_Layer C_Pointer C_BadSheet C_BadDay C_BadKey C_BadLayers D_Sheet_0 D_Sheet_1) : Cal P w K mg base 1 "is_value" spIsVal [] := by
  obtain ⟨f0, fd, D, dn⟩ := T.d_is_value
  refine cal0 D (D.fn.binds dn fun _ _ _ _ _ _ us hl => match us, hl with | [_], _ => rfl) .nil sc_is_value (by walk_at "len") (fun cdv A outer s H vs Q E hr h => ?_)
  obtain ⟨v, rfl, hv, hz, k⟩ := h
  rcases sc_cases hv with ⟨i, rfl⟩ | ⟨b, rfl⟩ | ⟨z, rfl⟩ | rfl
  · refine ⟨_, (pss_cons (ps_if (PW.pt (pw_or (pt_not (pt_val (pe_callB call_isi (by rfl) T.b_isinstance (by decide +kernel) (pa_cons (pv 0) (pa_cons (pe_bltn (v := .ty "str") (u := .type "str") rfl T.b_str (by decide +kernel) rfl) pa_nil))))) (pw_or1 (pt_not (pt_chain op_le op_le pe_int (pe_callB cr_lenTx (by rfl) T.b_len (by decide +kernel) (pa_cons (pv 0) pa_nil)) (pe_gc rfl T.g_MOST_SIGNS)))))) (pss_one (ps_ret pe_bl)) pss_nil)
      (pss_one (ps_ret (pe_callB (cr_all rfl) (by rfl) T.b_all (by decide +kernel) (pa_cons (pe_lc (own := [("sign", 1)]) (g := gName 1) (tt := tYes) rfl sc_is_value.nd (pi_str (pv 0)) (blkOk_by (own := [("sign", 1)]) (N := N_is_value) (sc := fnScope s_is_value) (by decide +kernel)) (fun _ _ _ _ _ => (pg_n 1 sc_is_value.nd)) (fun _ _ _ _ _ => pts_nil) (fun _ _ _ _ _ => (pe_or (pe_chain op_leS op_leS pe_str (pv 1) pe_str) (pe_one (pe_chain op_leS op_leS pe_str (pv 1) pe_str))))) pa_nil))))), ?_⟩
    walk_at "rd"
    refine rd_isiS rfl (r := false) (by decide +kernel) ?_
    walk_at "rd"
    exact k H (Same.refl H)
  · refine ⟨_, (pss_cons (ps_if (PW.pt (pw_or (pt_not (pt_val (pe_callB call_isi (by rfl) T.b_isinstance (by decide +kernel) (pa_cons (pv 0) (pa_cons (pe_bltn (v := .ty "str") (u := .type "str") rfl T.b_str (by decide +kernel) rfl) pa_nil))))) (pw_or1 (pt_not (pt_chain op_le op_le pe_int (pe_callB cr_lenTx (by rfl) T.b_len (by decide +kernel) (pa_cons (pv 0) pa_nil)) (pe_gc rfl T.g_MOST_SIGNS)))))) (pss_one (ps_ret pe_bl)) pss_nil)
      (pss_one (ps_ret (pe_callB (cr_all rfl) (by rfl) T.b_all (by decide +kernel) (pa_cons (pe_lc (own := [("sign", 1)]) (g := gName 1) (tt := tYes) rfl sc_is_value.nd (pi_str (pv 0)) (blkOk_by (own := [("sign", 1)]) (N := N_is_value) (sc := fnScope s_is_value) (by decide +kernel)) (fun _ _ _ _ _ => (pg_n 1 sc_is_value.nd)) (fun _ _ _ _ _ => pts_nil) (fun _ _ _ _ _ => (pe_or (pe_chain op_leS op_leS pe_str (pv 1) pe_str) (pe_one (pe_chain op_leS op_leS pe_str (pv 1) pe_str))))) pa_nil))))), ?_⟩
    walk_at "rd"
    refine rd_isiS rfl (r := false) (by decide +kernel) ?_
    walk_at "rd"
    exact k H (Same.refl H)
  · refine ⟨_, (pss_cons (ps_if (PW.pt (pw_or (pt_not (pt_val (pe_callB call_isi (by rfl) T.b_isinstance (by decide +kernel) (pa_cons (pv 0) (pa_cons (pe_bltn (v := .ty "str") (u := .type "str") rfl T.b_str (by decide +kernel) rfl) pa_nil))))) (pw_or1 (pt_not (pt_chain op_le op_le pe_int (pe_callB cr_lenTx (by rfl) T.b_len (by decide +kernel) (pa_cons (pv 0) pa_nil)) (pe_gc rfl T.g_MOST_SIGNS)))))) (pss_one (ps_ret pe_bl)) pss_nil)
      (pss_one (ps_ret (pe_callB (cr_all rfl) (by rfl) T.b_all (by decide +kernel) (pa_cons (pe_lc (own := [("sign", 1)]) (g := gName 1) (tt := tYes) rfl sc_is_value.nd (pi_str (pv 0)) (blkOk_by (own := [("sign", 1)]) (N := N_is_value) (sc := fnScope s_is_value) (by decide +kernel)) (fun _ _ _ _ _ => (pg_n 1 sc_is_value.nd)) (fun _ _ _ _ _ => pts_nil) (fun _ _ _ _ _ => (pe_or (pe_chain op_leS op_leS pe_str (pv 1) pe_str) (pe_one (pe_chain op_leS op_leS pe_str (pv 1) pe_str))))) pa_nil))))), ?_⟩
    walk_at "rd"
    refine rd_isiS rfl (r := true) (by decide +kernel) ?_
    walk_at "rd"
    have zl : z.length = z.cps.toList.length := len_cps z
    have hz0 : z.length ≤ sizeLine := Nat.le_trans (hz z rfl) (by decide)
    by_cases c1 : 1 ≤ z.length ∧ z.length ≤ 12
    · have hz : z.length ≤ sizeLine := Nat.le_trans c1.2 (by decide)
      refine rd_lenTx hz ?_
      walk_at "rd"
      refine rd_iteT (by omega) ?_
      walk_at "rd"
      refine rd_iteNF (by omega) ?_
      walk_at "rd"
      refine rd_stR ?_
      refine lcR_str (fun D i H' => Same H H' ∧ H' D = some (.lst (((z.cps.toList.take i).map sgB).map V.bl))) (fun D H' _ s e _ => ⟨s, e⟩) ?_ ?_
      · rintro D i c H1 hD hc ⟨s1, eD⟩
        have hc2 : z.cps.toList[i]? = some c := by simpa using hc
        have hil : i < z.cps.toList.length := (List.getElem?_eq_some_iff.mp hc2).1
        walk_at "rd"
        refine ⟨rfl, ?_⟩
        have fin : ∀ b, b = sgB c → LcE D (fun H' => Same H H' ∧ H' D = some (.lst (((z.cps.toList.take (i + 1)).map sgB).map V.bl))) (.bl b) H1 := by
          rintro b rfl
          refine rd_lcE eD (by rw [List.length_map, List.length_map, List.length_take]; omega) fun H2 eH2 eD2 => ?_
          refine ⟨by rw [eH2]; exact Same.mut s1 hD, ?_⟩
          rw [eD2, List.take_add_one, hc2, List.map_append, List.map_append]
          rfl
        walk_at "rd"
        refine rd_leC (c := 97) (d := c) rfl rfl ?_
        refine ⟨_, rfl, ?_⟩
        refine rd_ite (fun a1 => ?_) (fun a1 => ?_)
        · walk_at "rd"
          refine rd_leC (c := c) (d := 122) rfl rfl ?_
          refine ⟨_, rfl, rd_ite (fun a2 => ?_) (fun a2 => ?_)⟩
          · exact fin _ (by unfold sgB; rw [decide_eq_true (show 97 ≤ c ∧ c ≤ 122 from ⟨a1, a2⟩)]; rfl)
          · walk_at "rd"
            walk_at "rd"
            refine rd_leC (c := 48) (d := c) rfl rfl ?_
            refine ⟨_, rfl, rd_ite (fun a3 => ?_) (fun a3 => ?_)⟩
            · walk_at "rd"
              refine rd_leC (c := c) (d := 57) rfl rfl ?_
              exact fin _ (by unfold sgB; rw [decide_eq_false (show ¬ (97 ≤ c ∧ c ≤ 122) from fun y => a2 y.2), Bool.false_or]; by_cases z : c ≤ 57 <;> simp [a3, z])
            · exact fin _ (by unfold sgB; rw [decide_eq_false (show ¬ (97 ≤ c ∧ c ≤ 122) from fun y => a2 y.2), Bool.false_or, decide_eq_false (show ¬ (48 ≤ c ∧ c ≤ 57) from fun y => a3 y.1)])
        · refine ⟨_, rfl, rd_iteFF ?_⟩
          walk_at "rd"
          refine rd_leC (c := 48) (d := c) rfl rfl ?_
          refine ⟨_, rfl, rd_ite (fun a3 => ?_) (fun a3 => ?_)⟩
          · walk_at "rd"
            refine rd_leC (c := c) (d := 57) rfl rfl ?_
            exact fin _ (by unfold sgB; rw [decide_eq_false (show ¬ (97 ≤ c ∧ c ≤ 122) from fun y => a1 y.1), Bool.false_or]; by_cases z : c ≤ 57 <;> simp [a3, z])
          · exact fin _ (by unfold sgB; rw [decide_eq_false (show ¬ (97 ≤ c ∧ c ≤ 122) from fun y => a1 y.1), Bool.false_or, decide_eq_false (show ¬ (48 ≤ c ∧ c ≤ 57) from fun y => a3 y.1)])
      · rintro D H1 hD ⟨s1, eD⟩
        have e2 : z.cps.toList.take z.cps.size = z.cps.toList := List.take_of_length_le (by simp)
        rw [e2] at eD
        walk_at "rd"
        refine all_take eD ?_
        have k := k H1 s1
        have : valB (V.str z) = z.cps.toList.all sgB := by
          show (decide (1 ≤ z.length ∧ z.length ≤ 12) && z.cps.toList.all sgB) = _
          rw [decide_eq_true c1, Bool.true_and]
        rw [this] at k
        exact k
    · have hv2 : valB (V.str z) = false := by
        show (decide (1 ≤ z.length ∧ z.length ≤ 12) && z.cps.toList.all sgB) = false
        rw [decide_eq_false c1, Bool.false_and]
      rw [hv2] at k
      refine rd_lenTx hz0 ?_
      walk_at "rd"
      refine rd_ite (fun a1 => ?_) (fun a1 => ?_)
      · walk_at "rd"
        refine rd_iteNT (by omega) ?_
        walk_at "rd"
        exact k H (Same.refl H)
      · walk_at "rd"
        exact k H (Same.refl H)
  · refine ⟨_, (pss_cons (ps_if (PW.pt (pw_or (pt_not (pt_val (pe_callB call_isi (by rfl) T.b_isinstance (by decide +kernel) (pa_cons (pv 0) (pa_cons (pe_bltn (v := .ty "str") (u := .type "str") rfl T.b_str (by decide +kernel) rfl) pa_nil))))) (pw_or1 (pt_not (pt_chain op_le op_le pe_int (pe_callB cr_lenTx (by rfl) T.b_len (by decide +kernel) (pa_cons (pv 0) pa_nil)) (pe_gc rfl T.g_MOST_SIGNS)))))) (pss_one (ps_ret pe_bl)) pss_nil)
      (pss_one (ps_ret (pe_callB (cr_all rfl) (by rfl) T.b_all (by decide +kernel) (pa_cons (pe_lc (own := [("sign", 1)]) (g := gName 1) (tt := tYes) rfl sc_is_value.nd (pi_str (pv 0)) (blkOk_by (own := [("sign", 1)]) (N := N_is_value) (sc := fnScope s_is_value) (by decide +kernel)) (fun _ _ _ _ _ => (pg_n 1 sc_is_value.nd)) (fun _ _ _ _ _ => pts_nil) (fun _ _ _ _ _ => (pe_or (pe_chain op_leS op_leS pe_str (pv 1) pe_str) (pe_one (pe_chain op_leS op_leS pe_str (pv 1) pe_str))))) pa_nil))))), ?_⟩
    walk_at "rd"
    refine rd_isiS rfl (r := false) (by decide +kernel) ?_
    walk_at "rd"
    exact k H (Same.refl H)
theorem cal_is_range (T : TX P K mg C_Sheet C_Layer C_Pointer C_BadSheet C_BadDay C_BadKey C_BadLayers D_Sheet_0 D_Sheet_1) : Cal P w K mg base 3 "is_range" spIsRng [] := by
  obtain ⟨f0, fd, D, dn⟩ := T.d_is_range
  have G_is_key := cal_is_key (P := P) (w := w) (base := base) T
  refine cal0 D (D.fn.binds dn fun _ _ _ _ _ _ us hl => match us, hl with | [_], _ => rfl) .nil sc_is_range (by walk_at "len") (fun cdv A outer s H vs Q E hr h => ?_)
  obtain ⟨t, rfl, h⟩ := h
  rcases h with ⟨ws, et, hl, hw, k⟩ | ⟨xs, et, k⟩
  · refine ⟨_, (pss_one (ps_ret (pe_and (pe_callB call_isi (by rfl) T.b_isinstance (by decide +kernel) (pa_cons (pv 0) (pa_cons (pe_bltn (v := .ty "tuple") (u := .type "tuple") rfl T.b_tuple (by decide +kernel) rfl) pa_nil))) (pe_and (pe_cmpR op_eq (pe_callB cr_lenS (by rfl) T.b_len (by decide +kernel) (pa_cons (pv 0) pa_nil)) pe_int (nomark _)) (pe_and (pe_callB (cr_all rfl) (by rfl) T.b_all (by decide +kernel) (pa_cons (pe_lc (own := [("one", 1)]) (g := gName 1) (tt := tYes) rfl sc_is_range.nd (pi_tup (pv 0)) (blkOk_by (own := [("one", 1)]) (N := N_is_range) (sc := fnScope s_is_range) (by decide +kernel)) (fun _ _ _ _ _ => (pg_n 1 sc_is_range.nd)) (fun _ _ _ _ _ => pts_nil) (fun _ _ _ _ _ => (pe_c G_is_key hr (by decide) rfl (pa_cons (pv 1) pa_nil)))) pa_nil)) (pe_one (pe_cmpR op_le (pe_ix ix_tup (pv 0) pe_int (fun _ _ => rfl)) (pe_ix ix_tup (pv 0) pe_int (fun _ _ => rfl)) (nomark _)))))))), ?_⟩
    walk_at "rd"
    refine rd_isiTup et (r := true) (by decide +kernel) ?_
    walk_at "rd"
    refine rd_lenT et ?_
    walk_at "rd"
    refine rd_ite (fun c => ?_) (fun c => ?_)
    · obtain ⟨w1, w2, rfl⟩ : ∃ w1 w2, ws = [w1, w2] := by
        match ws, c with
        | [a, b], _ => exact ⟨a, b, rfl⟩
        | [], c => simp at c
        | [_], c => simp at c
        | _ :: _ :: _ :: _, c => simp at c; omega
      have h1 := hw w1 (by simp)
      have h2 := hw w2 (by simp)
      walk_at "rd"
      refine rd_tpR (SqT.of et) ?_
      refine lcR_tup (xs := [w1, w2]) (fun D i H' => Same H H' ∧ H' D = some (.lst ((([w1, w2].take i).map keyB).map V.bl))) (fun D i H' _ ⟨s, _⟩ => SqT.of (s _ _ et)) (fun D H' _ s e _ => ⟨s, e⟩) ?_ ?_
      · rintro D i x H1 hD hx ⟨s1, eD⟩
        have hil : i < 2 := (List.getElem?_eq_some_iff.mp hx).1
        walk_at "rd"
        refine ⟨rfl, ?_⟩
        walk_at "rd"
        refine ⟨x, rfl, ?_, ?_⟩
        · have := List.mem_of_getElem? hx
          simp only [List.mem_cons, List.not_mem_nil, or_false] at this
          rcases this with rfl | rfl
          · exact h1
          · exact h2
        refine rd_lcE eD (by rw [List.length_map, List.length_map, List.length_take]; omega) fun H2 eH2 eD2 => ?_
        refine ⟨by rw [eH2]; exact Same.mut s1 hD, ?_⟩
        rw [eD2, List.take_add_one, hx, List.map_append, List.map_append]
        rfl
      · rintro D H1 hD ⟨s1, eD⟩
        have k := k H1 s1
        walk_at "rd"
        refine all_take (f := keyB) (l := [w1, w2]) eD ?_
        refine ⟨_, rfl, ?_⟩
        cases hb : [w1, w2].all keyB
        · walk_at "rd"
          have : rgB [w1, w2] = false := by
            cases e : rgB [w1, w2]
            · rfl
            · obtain ⟨e1, e2⟩ := rgB_keys e
              rw [show [w1, w2].all keyB = (keyB w1 && (keyB w2 && true)) from rfl, e1, e2] at hb
              cases hb
          rw [this] at k
          exact k
        · have hb : (keyB w1 && (keyB w2 && true)) = true := hb
          rw [Bool.and_eq_true, Bool.and_eq_true] at hb
          obtain ⟨i, rfl, i0, i1⟩ := keyB_sc hb.1
          obtain ⟨j, rfl, j0, j1⟩ := keyB_sc hb.2.1
          walk_at "rd"
          refine rd_ixT (s1 _ _ et) (atI_nat' (i := 0) rfl) ?_
          walk_at "rd"
          refine rd_ixT (s1 _ _ et) (atI_nat' (i := 1) rfl) ?_
          have : rgB [V.int i, V.int j] = decide (i ≤ j) := by
            show decide (0 ≤ i ∧ i ≤ j ∧ j ≤ 999999) = _
            by_cases z : i ≤ j
            · rw [decide_eq_true z, decide_eq_true (show 0 ≤ i ∧ i ≤ j ∧ j ≤ 999999 from ⟨i0, z, j1⟩)]
            · rw [decide_eq_false z, decide_eq_false (fun y => z y.2.1)]
          rw [this] at k
          walk_at "rd"
          exact k
    · walk_at "rd"
      have : rgB ws = false := by
        match ws, c with
        | [a, b], c => exact absurd rfl c
        | [], _ => rfl
        | [a], _ => cases a <;> rfl
        | a :: b :: d :: e, _ => cases a <;> first | rfl | (cases b <;> rfl)
      have k := k H (Same.refl H)
      rw [this] at k
      exact k
  · refine ⟨_, (pss_one (ps_ret (pe_and (pe_callB call_isi (by rfl) T.b_isinstance (by decide +kernel) (pa_cons (pv 0) (pa_cons (pe_bltn (v := .ty "tuple") (u := .type "tuple") rfl T.b_tuple (by decide +kernel) rfl) pa_nil))) (pe_and (pe_cmpR op_eq (pe_callB cr_lenS (by rfl) T.b_len (by decide +kernel) (pa_cons (pv 0) pa_nil)) pe_int (nomark _)) (pe_and (pe_callB (cr_all rfl) (by rfl) T.b_all (by decide +kernel) (pa_cons (pe_lc (own := [("one", 1)]) (g := gName 1) (tt := tYes) rfl sc_is_range.nd (pi_tup (pv 0)) (blkOk_by (own := [("one", 1)]) (N := N_is_range) (sc := fnScope s_is_range) (by decide +kernel)) (fun _ _ _ _ _ => (pg_n 1 sc_is_range.nd)) (fun _ _ _ _ _ => pts_nil) (fun _ _ _ _ _ => (pe_c G_is_key hr (by decide) rfl (pa_cons (pv 1) pa_nil)))) pa_nil)) (pe_one (pe_cmpR op_le (pe_ix ix_tup (pv 0) pe_int (fun _ _ => rfl)) (pe_ix ix_tup (pv 0) pe_int (fun _ _ => rfl)) (nomark _)))))))), ?_⟩
    walk_at "rd"
    refine rd_isiLst et (r := false) (by decide +kernel) ?_
    walk_at "rd"
    exact k
end
end Sl

set_option Elab.async false
set_option linter.all false
set_option maxRecDepth 100000
set_option maxHeartbeats 8000000
set_option exponentiation.threshold 9000
namespace Sl
open PySem L2 C8 StX Silt
local macro_rules | `(tactic| walk_at "side") => `(tactic| first
  | exact cdivw (by omega) (by omega)
  | exact cmulw (by omega) (by omega) (by omega) (by omega)
  | exact Or.inr ⟨by omega, by omega⟩
  | exact Or.inl ⟨by omega, by omega⟩
  | omega
  | exact ⟨by omega, by omega, by decide⟩
  | decide)
local macro_rules | `(tactic| walk_at "rd1") => `(tactic| first
  | with_reducible refine rd_seq ?_
  | with_reducible refine rd_asg ?_
  | with_reducible refine rd_drop ?_
  | with_reducible refine rd_ret ?_
  | with_reducible refine rd_retN ?_
  | with_reducible refine rd_ifS ?_
  | ((with_reducible refine rd_var0 ?_); refine ⟨_, rfl, ?_⟩)
  | with_reducible refine rd_c ?_
  | with_reducible refine rd_op ?_
  | with_reducible refine rd_un ?_
  | with_reducible refine rd_I0 ?_
  | with_reducible refine rd_U ?_
  | ((with_reducible refine rd_I ?c ?_); (case c => walk_at "side"))
  | with_reducible refine rd_ipI ?_
  | with_reducible refine rd_eqI ?_
  | with_reducible refine rd_neI ?_
  | with_reducible refine rd_test ?_
  | with_reducible refine rd_tB ?_
  | with_reducible refine rd_bl ?_
  | with_reducible refine rd_not ?_
  | with_reducible refine rd_and ?_
  | with_reducible refine rd_or ?_
  | with_reducible refine rd_andV ?_
  | with_reducible refine rd_orV ?_
  | with_reducible refine rd_notV ?_
  | with_reducible refine rd_ifE ?_
  | with_reducible refine rd_chain ?_
  | with_reducible refine rd_chain3 ?_
  | with_reducible refine rd_nil ?_
  | with_reducible refine rd_cons ?_
  | with_reducible refine rd_call ?_
  | with_reducible refine rd_CB ?_
  | with_reducible refine rd_par ?_
  | with_reducible refine rd_par2 ?_
  | with_reducible refine rd_par3 ?_
  | with_reducible refine rd_par4 ?_
  | ((with_reducible refine rd_aug0 ?_); refine ⟨_, rfl, ?_⟩)
  | with_reducible refine rd_gname ?_
  | with_reducible refine rd_gcons ?_
  | with_reducible refine rd_gnil ?_
  | with_reducible refine rd_max ?_
  | with_reducible refine rd_min ?_
  | with_reducible refine rd_int1 ?_
  | with_reducible refine rd_abs ?_
  | with_reducible refine rd_lst ?_
  | with_reducible refine rd_tup ?_
  | with_reducible refine rd_bm ?_
  | with_reducible refine rd_fld0 ?_
  | with_reducible refine rd_sl0 ?_
  | with_reducible refine rd_noP ?_
  | with_reducible refine rd_part ?_
  | with_reducible refine rd_part2 ?_
  | with_reducible refine rd_meth0 ?_
  | with_reducible refine rd_star ?_
  | with_reducible refine rd_for ?_
  | with_reducible refine rd_rng1 ?_
  | with_reducible refine rd_rng2 ?_
  | with_reducible refine rd_rng3 ?_
  | with_reducible refine rd_iList ?_
  | with_reducible refine rd_iTup ?_
  | with_reducible refine rd_iEnum ?_
  | with_reducible refine rd_lc ?_
  | with_reducible refine rd_yes ?_
  | with_reducible refine rd_augS ?_
  | with_reducible refine rd_drawNew ?_
  | with_reducible refine rd_make0 ?_
  | with_reducible refine rd_next ?_
  | with_reducible refine rd_break ?_
  | with_reducible refine rd_cont ?_
  | with_reducible refine rd_iteTT ?_
  | with_reducible refine rd_iteFF ?_
  | with_reducible refine rd_iteNTT ?_
  | with_reducible refine rd_iteNFF ?_
  | with_reducible refine rd_con0 ?_
  | with_reducible refine rd_truO0 ?_
  | with_reducible refine rd_gfld0 ?_
  | with_reducible refine rd_dc ?_
  | with_reducible refine rd_iKeys ?_
  | with_reducible refine rd_dget0 ?_
  | with_reducible refine rd_dput0 ?_
  | with_reducible refine rd_dnot0 ?_
  | with_reducible refine rd_iEnumT ?_
  | with_reducible refine rd_raP0 ?_
  | with_reducible refine rd_xf0 ?_
  | with_reducible refine rd_cKw ?_
  | with_reducible refine rd_iStr ?_
  | with_reducible refine rd_gSub ?_
  | with_reducible refine rd_asgG ?_)
local macro_rules | `(tactic| walk_at "rd") => `(tactic| repeat walk_at "rd1")
local macro_rules | `(tactic| walk_at "len") => `(tactic| first
  | (intro vs H Q E h; obtain ⟨h2, _⟩ := h; rw [h2]; rfl)
  | (intro vs H Q E h; obtain ⟨_, h2, _⟩ := h; rw [h2]; rfl)
  | (intro vs H Q E h; obtain ⟨_, _, h2, _⟩ := h; rw [h2]; rfl)
  | (intro vs H Q E h; obtain ⟨_, _, _, h2, _⟩ := h; rw [h2]; rfl)
  | (intro vs H Q E h; obtain ⟨_, _, _, _, h2, _⟩ := h; rw [h2]; rfl)
  | (intro vs H Q E h; obtain ⟨_, _, _, _, _, h2, _⟩ := h; rw [h2]; rfl)
  | (intro vs H Q E h; obtain ⟨_, _, _, _, _, _, h2, _⟩ := h; rw [h2]; rfl)
  | (intro vs H Q E h; obtain ⟨_, _, _, _, _, _, _, h2, _⟩ := h; rw [h2]; rfl)
  | (intro vs H Q E h; obtain ⟨_, _, _, _, _, _, _, _, h2, _⟩ := h; rw [h2]; rfl)
  | (intro vs H Q E h; obtain ⟨_, _, _, _, _, _, _, _, _, h2, _⟩ := h; rw [h2]; rfl)
  | (intro vs H Q E h; obtain ⟨_, _, _, _, _, _, _, _, _, _, h2, _⟩ := h; rw [h2]; rfl)
  | (intro vs H Q E h; obtain ⟨_, _, _, _, _, _, _, _, _, _, _, h2, _⟩ := h; rw [h2]; rfl)
  | (intro vs H Q E h; obtain ⟨_, _, _, _, _, _, _, _, _, _, _, _, h2, _⟩ := h; rw [h2]; rfl))
def kOf (H : Hp) : V → Int × Int
  | .ref t => match H t with
    | some (.tup [.int i, .int j]) => (i, j)
    | _ => (0, 0)
  | _ => (0, 0)
theorem kOf_of {H : Hp} {t : Addr} {i j : Int} (e : H t = some (.tup [.int i, .int j])) : kOf H (.ref t) = (i, j) := by
  show (match H t with
    | some (.tup [.int i, .int j]) => (i, j)
    | _ => (0, 0)) = (i, j)
  rw [e]
theorem IvP.k {H : Hp} {xs : List V} {rs : List Iv} (h : IvP H xs rs) : rs = xs.map (kOf H) ∧ ∀ x ∈ xs, ∃ t, x = V.ref t ∧ H t = some (.tup [.int (kOf H x).1, .int (kOf H x).2]) := by
  constructor
  · refine List.ext_getElem? fun i => ?_
    rw [List.getElem?_map]
    cases z : xs[i]? with
    | none =>
      rw [List.getElem?_eq_none_iff] at z
      exact List.getElem?_eq_none_iff.mpr (by rw [← h.1]; exact z)
    | some x =>
      obtain ⟨r, t, h1, rfl, h2⟩ := h.getV z
      rw [h1, Option.map_some, kOf_of h2]
  · intro x hx
    obtain ⟨i, hi⟩ := List.getElem?_of_mem hx
    obtain ⟨r, t, h1, rfl, h2⟩ := h.getV hi
    exact ⟨t, rfl, by rw [kOf_of h2]; exact h2⟩
theorem IvP.perm {H : Hp} {xs ys : List V} {rs : List Iv} (h : IvP H xs rs) (p : ys.Perm xs) : IvP H ys (ys.map (kOf H)) ∧ (ys.map (kOf H)).Perm rs := by
  obtain ⟨h1, h2⟩ := h.k
  refine ⟨⟨by rw [List.length_map], fun i r hr => ?_⟩, by rw [h1]; exact p.map _⟩
  rw [List.getElem?_map] at hr
  cases z : ys[i]? with
  | none => rw [z] at hr; cases hr
  | some y =>
    rw [z] at hr
    have hr : kOf H y = r := Option.some.inj hr
    obtain ⟨t, rfl, e⟩ := h2 y (p.mem_iff.mp (List.mem_of_getElem? z))
    rw [hr] at e
    exact ⟨t, rfl, e⟩
theorem IvP.all {H : Hp} : ∀ {rs : List Iv} {xs : List V}, IvP H xs rs → DnAll H xs (rs.map pairD)
  | [], [], _ => .nil
  | [], x :: xs, h => by have := h.1; simp at this
  | r :: rs, [], h => by have := h.1; simp at this
  | r :: rs, x :: xs, h => by
    obtain ⟨t, h1, h2⟩ := h.2 0 r rfl
    have h1 : x = V.ref t := by simpa using h1
    subst h1
    exact .cons (.pair h2) (IvP.all ⟨by have := h.1; simpa using this, fun i q hq => h.2 (i + 1) q (by simpa using hq)⟩)
theorem shaped_pairsLs (l : List Iv) : SeqAt.shaped (.list (l.map pairD)) = true := shaped_listMap (fun _ => by simp [pairD, PyData.canLay0, PyData.canLayAll0]) (fun _ => by simp [pairD, PyData.depth, PyData.depthAll]) l
theorem ixN_end {n : Nat} : ixN (n + 1) (-1) = some n := by
  unfold ixN
  rw [if_neg (by decide), if_pos (by omega)]
  congr 1
  omega
def spJoin : Sp := fun vs H Q _ => ∃ (a : Addr) (xs : List V) (rs : List Iv), vs = [.ref a] ∧ H a = some (.lst xs) ∧ IvP H xs rs ∧ (∀ r ∈ rs, r.1 ≤ r.2) ∧ rs.length ≤ 1000 ∧
  ∀ H' L ys out, Same H H' → H L = none → H' L = some (.lst ys) → IvP H' ys out → Canon out → (∀ k, inR out k ↔ inR rs k) → out.length ≤ rs.length → Q (.ref L) H'
theorem Same.unlock {H H' : Hp} {d : Addr} {u o : HO} (e : H d = some u) (s : Same (upd H d o) H') : Same H (upd H' d u) := fun a w ha => by
  by_cases z : a = d
  · subst z
    rw [e] at ha
    cases ha
    exact upd_same
  · rw [upd_ne z]
    exact s a w (by rw [upd_ne z]; exact ha)
theorem within_snoc (ks : List Int) (y : Int) (r : Iv) : within (ks ++ [y]) r = within ks r ++ if r.1 ≤ y ∧ y ≤ r.2 then [y] else [] := by
  unfold within
  rw [List.filter_append]
  congr 1
  by_cases c : r.1 ≤ y ∧ y ≤ r.2
  · rw [if_pos c, List.filter_cons, if_pos (decide_eq_true c)]
    rfl
  · rw [if_neg c, List.filter_cons, if_neg (by rw [decide_eq_false c]; decide)]
    rfl
def spWithout : Sp := fun vs H Q _ => ∃ (a D : Addr) (xs : List V) (rs : List Iv) (ls : List (Int × V)), vs = [.ref a, .ref D] ∧ H a = some (.lst xs) ∧ IvP H xs rs ∧ Canon rs ∧ H D = some (.dK (dV ls)) ∧ (keysL ls).Nodup ∧ ls.length < 64 ∧ rs.length ≤ 1000 ∧
  ∀ H' L ys out, Same H H' → H L = none → H' L = some (.lst ys) → IvP H' ys out → Canon out → (∀ k, inR out k ↔ inR rs k ∧ k ∉ keysL ls) → out.length ≤ rs.length + ls.length → Q (.ref L) H'
theorem rd_sortG {a : Addr} {ks : List Int} {H : Hp} {Q : VK} {K : PySem.W.Frag} (e : SqL K H a (ks.map V.int)) (l : ks.length < 64) (h : ∀ (ys : List Int) p H', ys.Perm ks → ys.Pairwise (· ≤ ·) → H p = none → Same H H' → H' p = some (.lst (ys.map V.int)) → Q (.ref p) H') : rSorted K [.ref a] H Q :=
  ⟨a, ks, rfl, e, l, fun ys p pm sr hp => h ys p _ pm sr hp (Same.new (Same.refl H) hp) upd_same⟩
section
variable {P : Program} {w : World} {K : PySem.W.Frag} {mg : Str → Option Value} {base : Heap} {C_Sheet C_Layer C_Pointer C_BadSheet C_BadDay C_BadKey C_BadLayers D_Sheet_0 D_Sheet_1 : Addr}
theorem cal_joined_ranges (T : TX P K mg C_Sheet C_Layer C_Pointer C_BadSheet C_BadDay C_BadKey C_BadLayers D_Sheet_0 D_Sheet_1) : Cal P w K mg base 1 "joined_ranges" spJoin [] := by
  obtain ⟨f0, fd, D, dn⟩ := T.d_joined_ranges
  refine cal0 D (D.fn.binds dn fun _ _ _ _ _ _ us hl => match us, hl with | [_], _ => rfl) .nil sc_joined_ranges (by walk_at "len") (fun cdv A outer s H vs Q E hr h => ?_)
  obtain ⟨a, xs, rs, rfl, ea, iv, ord, hl, k⟩ := h
  refine ⟨_, (pss_cons (ps_s 1 sc_joined_ranges.nd (pe_lst pa_nil))
      (pss_cons (ps_for PassesOwn.never rfl (pi_list (pe_callB cr_sortedPO (by rfl) T.b_sorted (by decide +kernel) (pa_cons (pv 0) pa_nil))) (pg_tup rfl (pgs_cons (pg_n 2 sc_joined_ranges.nd) (pgs_cons (pg_n 3 sc_joined_ranges.nd) pgs_nil))) (pss_one (ps_if (PW.pt (pw_and (pt_cmpR (op_neD hr.units) (pv 1) (pe_lst pa_nil) (nomark _)) (pw_and1 (pt_cmpR op_le (pv 2) (pe_op op_add (pe_ix ix_tup (pe_ix ix_list (pv 1) (pe_un un_neg pe_int) (fun _ _ => rfl)) pe_int (fun _ _ => rfl)) pe_int) (nomark _))))) (pss_one (ps_asg (pe_tup (pa_cons (pe_ix ix_tup (pe_ix ix_list (pv 1) (pe_un un_neg pe_int) (fun _ _ => rfl)) pe_int (fun _ _ => rfl)) (pa_cons (pe_callB (cr_max2 rfl) (by rfl) T.b_max (by decide +kernel) (pa_cons (pe_ix ix_tup (pe_ix ix_list (pv 1) (pe_un un_neg pe_int) (fun _ _ => rfl)) pe_int (fun _ _ => rfl)) (pa_cons (pv 3) pa_nil))) pa_nil))) (pg_sub (pv 1) (pe_un un_neg pe_int) set_list))) (pss_one (ps_expr (pe_bm PySem.F.plainAttrs_list PySem.F.slot_list_append PySem.F.type_list_append mt_append (pv 1) (pa_cons (pe_tup (pa_cons (pv 2) (pa_cons (pv 3) pa_nil))) pa_nil)))))))
      (pss_one (ps_ret (pv 1))))), ?_⟩
  walk_at "rd"
  refine rd_newL (by simp) fun F H1 hF s1 eF _ => ?_
  walk_at "rd"
  have iv1 := iv.mono s1
  obtain ⟨_, hk⟩ := iv1.k
  refine rd_sortPO (k := kOf H1) (SqL.of (s1 _ _ ea)) hk fun ys p H2 sr sb hp s2 ep => ?_
  walk_at "rd"
  obtain ⟨iv2, pm⟩ := iv1.perm sb.perm
  obtain ⟨ts, ets⟩ : ∃ ts, ts = ys.map (kOf H1) := ⟨_, rfl⟩
  rw [← ets] at iv2 pm
  have iv2 := iv2.mono s2
  have srt : ts.Pairwise fun x y => x.1 ≤ y.1 := by
    rw [ets]
    refine List.pairwise_map.mpr (sr.imp fun h => ?_)
    have := SrtO.lexB_no.mp h
    omega
  have ordt : ∀ r ∈ ts, r.1 ≤ r.2 := fun r hr => ord r (pm.mem_iff.mp hr)
  have lt : ts.length = rs.length := pm.length_eq
  have eF2 := s2 _ _ eF
  have hpF : p ≠ F := fun z => by rw [z, eF] at hp; cases hp
  refine rd_lsR (SqL.of ep) ?_
  refine forR_lst (xs := ys) (fun j σ H' => ∃ zs out v2 v3, Same H H' ∧ H' p = some (.lst ys) ∧ IvP H' ys ts ∧ H' F = some (.lst zs) ∧ IvP H' zs out ∧ Canon out ∧ (∀ k, inR out k ↔ inR (ts.take j) k) ∧ (∀ r ∈ out, ∀ q ∈ ts.drop j, r.1 ≤ q.1) ∧ out.length ≤ j ∧ σ = [some (.ref a), some (.ref F), v2, v3]) (fun j σ H' ⟨_, _, _, _, _, e, _⟩ => SqL.of e) ⟨[], [], none, none, s1.trans s2, ep, iv2, eF2, IvP.nil, Canon.nil, (fun k => Iff.rfl), (fun r hr => by cases hr), Nat.le_refl _, rfl⟩ ?_ ?_
  · rintro j x σ H3 hx ⟨zs, out, v2, v3, s3, ep3, ivt, eF3, ivo, can, mem, low, lo, rfl⟩
    obtain ⟨r, t, hr, rfl, et⟩ := ivt.getV hx
    have hj := (List.getElem?_eq_some_iff.mp hr).1
    have hrm := List.mem_of_getElem? hr
    have tk : ts.take (j + 1) = ts.take j ++ [r] := by rw [List.take_add_one, hr]; rfl
    have dr : ts.drop j = r :: ts.drop (j + 1) := by rw [List.drop_eq_getElem_cons hj]; congr 1; exact (List.getElem?_eq_some_iff.mp hr).2
    have lowr : ∀ q ∈ out, q.1 ≤ r.1 := fun q hq => low q hq r (by rw [dr]; exact List.mem_cons_self)
    have next : ∀ q ∈ ts.drop (j + 1), r.1 ≤ q.1 := fun q hq => by
      have := List.pairwise_iff_getElem.mp srt
      obtain ⟨m, hm⟩ := List.getElem?_of_mem hq
      rw [List.getElem?_drop] at hm
      obtain ⟨h1, h2⟩ := List.getElem?_eq_some_iff.mp hm
      obtain ⟨h3, h4⟩ := List.getElem?_eq_some_iff.mp hr
      have := this j (j + 1 + m) h3 h1 (by omega)
      rw [h2, h4] at this
      exact this
    refine rd_gtup et rfl ?_
    walk_at "rd"
    refine rd_newL (by simp) fun w H4 _ s4 ew _ => ?_
    have ivo4 := ivo.mono s4
    have eF4 := s4 _ _ eF3
    refine rd_neD (.lst eF4 ivo4.all.dt) (.lst ew .nil) (shaped_pairsLs _) (by rfl) ?_
    rw [eqv_nil]
    have lz : zs.length = out.length := ivo.1
    have addNew : ∀ H5 t5, Same H4 H5 → H5 t5 = some (.tup [.int r.1, .int r.2]) → (∀ q ∈ out, q.2 + 1 < r.1) → ∀ H6, H6 = upd H5 F (.lst (zs ++ [.ref t5])) → H6 F = some (.lst (zs ++ [.ref t5])) → ∃ zs out v2 v3, Same H H6 ∧ H6 p = some (.lst ys) ∧ IvP H6 ys ts ∧ H6 F = some (.lst zs) ∧ IvP H6 zs out ∧ Canon out ∧ (∀ k, inR out k ↔ inR (ts.take (j + 1)) k) ∧ (∀ r ∈ out, ∀ q ∈ ts.drop (j + 1), r.1 ≤ q.1) ∧ out.length ≤ j + 1 ∧ ([some (V.ref a), some (.ref F), some (.int r.1), some (.int r.2)] : L2.St) = [some (.ref a), some (.ref F), v2, v3] := by
      rintro H5 t5 s5 e5 gap H6 eH6 eF6
      obtain ⟨c1, c2, c3⟩ := join_new can (ordt r hrm) lowr gap
      have eF5 := s5 _ _ eF4
      refine ⟨zs ++ [.ref t5], out ++ [r], _, _, by rw [eH6]; exact Same.mut ((s3.trans s4).trans s5) hF, by rw [eH6, upd_ne hpF]; exact (s4.trans s5) _ _ ep3, by rw [eH6]; exact ((ivt.mono s4).mono s5).updL eF5, eF6, by rw [eH6]; exact ((ivo4.mono s5).snoc e5).updL eF5, c1, fun k => ?_, fun q hq q' hq' => Int.le_trans (c3 q hq) (next q' hq'), by simp; omega, rfl⟩
      rw [c2 k, mem k, tk, inR_app, inR_cons]
      exact ⟨fun x => x.elim .inl fun y => .inr (.inl y), fun x => x.elim .inl fun y => y.elim .inr fun z => absurd z (inR_nil k)⟩
    rcases List.eq_nil_or_concat out with z | ⟨o', q, z⟩
    · subst z
      refine ⟨_, rfl, rd_iteNF rfl ?_⟩
      walk_at "rd"
      refine rd_tyL eF4 ?_
      walk_at "rd"
      refine rd_newT (by simp) fun t5 H5 _ s5 e5 _ => ?_
      walk_at "rd"
      refine rd_app (s5 _ _ eF4) (by rw [lz]; simp) fun H6 eH6 eF6 => ?_
      exact addNew H5 t5 s5 e5 (fun q hq => by cases hq) H6 eH6 eF6
    · have z : out = o' ++ [q] := by rw [z]; simp
      subst z
      obtain ⟨zs', y, rfl⟩ : ∃ zs' y, zs = zs' ++ [y] := by
        rcases List.eq_nil_or_concat zs with u | ⟨u, v, w⟩
        · rw [u] at lz; simp at lz
        · exact ⟨u, v, by rw [w]; simp⟩
      obtain ⟨ivi, t0, rfl, e0⟩ := ivo4.init
      refine ⟨_, rfl, rd_iteNT (by simp) ?_⟩
      walk_at "rd"
      refine rd_ixL eF4 (atI_last _ _) ?_
      walk_at "rd"
      refine rd_ixT e0 (atI_nat' (i := 1) rfl) ?_
      walk_at "rd"
      refine rd_ite (fun c => ?_) (fun c => ?_)
      · obtain ⟨c1, c2, c3⟩ := join_last can (ordt r hrm) lowr c
        walk_at "rd"
        refine rd_ixL eF4 (atI_last _ _) ?_
        walk_at "rd"
        refine rd_ixT e0 (atI_nat' (i := 0) rfl) ?_
        walk_at "rd"
        refine rd_ixL eF4 (atI_last _ _) ?_
        walk_at "rd"
        refine rd_ixT e0 (atI_nat' (i := 1) rfl) ?_
        walk_at "rd"
        refine rd_newT (by simp) fun t5 H5 _ s5 e5 _ => ?_
        walk_at "rd"
        have eF5 := s5 _ _ eF4
        refine rd_setL (j := zs'.length) eF5 (by rw [List.length_append]; exact ixN_end) fun H6 eH6 eF6 => ?_
        have eset : (zs' ++ [V.ref t0]).set zs'.length (.ref t5) = zs' ++ [.ref t5] := by simp
        rw [eset] at eH6 eF6
        refine ⟨zs' ++ [.ref t5], o' ++ [(q.1, max q.2 r.2)], _, _, by rw [eH6]; exact Same.mut ((s3.trans s4).trans s5) hF, by rw [eH6, upd_ne hpF]; exact (s4.trans s5) _ _ ep3, by rw [eH6]; exact ((ivt.mono s4).mono s5).updL eF5, eF6, by rw [eH6]; exact ((ivi.mono s5).snoc e5).updL eF5, c1, fun k => ?_, fun u hu q' hq' => Int.le_trans (c3 u hu) (next q' hq'), by simp at lo ⊢; omega, rfl⟩
        rw [c2 k, mem k, tk, inR_app, inR_cons]
        exact ⟨fun x => x.elim .inl fun y => .inr (.inl y), fun x => x.elim .inl fun y => y.elim .inr fun z => absurd z (inR_nil k)⟩
      · walk_at "rd"
        refine rd_tyL eF4 ?_
        walk_at "rd"
        refine rd_newT (by simp) fun t5 H5 _ s5 e5 _ => ?_
        walk_at "rd"
        refine rd_app (s5 _ _ eF4) (by rw [lz]; omega) fun H6 eH6 eF6 => ?_
        refine addNew H5 t5 s5 e5 (fun u hu => ?_) H6 eH6 eF6
        rcases List.mem_append.mp hu with v | v
        · have h3 := can.init.2.2 u v
          have h4 := can.init.2.1
          omega
        · rw [List.mem_singleton.mp v]
          omega
  · rintro σ H3 ⟨zs, out, v2, v3, s3, ep3, ivt, eF3, ivo, can, mem, low, lo, rfl⟩
    walk_at "rd"
    have ly : ys.length = ts.length := ivt.1
    refine k H3 F zs out s3 hF eF3 ivo can (fun k => ?_) (by omega)
    rw [mem k, ly, List.take_length]
    exact inR_perm pm k
theorem cal_without_keys (T : TX P K mg C_Sheet C_Layer C_Pointer C_BadSheet C_BadDay C_BadKey C_BadLayers D_Sheet_0 D_Sheet_1) : Cal P w K mg base 1 "without_keys" spWithout [] := by
  obtain ⟨f0, fd, D, dn⟩ := T.d_without_keys
  refine cal0 D (D.fn.binds dn fun _ _ _ _ _ _ us hl => match us, hl with | [_, _], _ => rfl) .nil sc_without_keys (by walk_at "len") (fun cdv A outer s H vs Q E hr h => ?_)
  obtain ⟨a, D, xs, rs, ls, rfl, ea, iv, can, eD, nd, ll, lr, k⟩ := h
  obtain ⟨ks, eks⟩ : ∃ ks, ks = keysL ls := ⟨_, rfl⟩
  rw [← eks] at nd k
  refine ⟨_, (pss_cons (ps_s 2 sc_without_keys.nd (pe_lst pa_nil))
      (pss_cons (ps_for PassesOwn.never rfl (pi_list (pv 0)) (pg_tup rfl (pgs_cons (pg_n 3 sc_without_keys.nd) (pgs_cons (pg_n 4 sc_without_keys.nd) pgs_nil))) (pss_cons (ps_s 5 sc_without_keys.nd (pv 3))
      (pss_cons (ps_for PassesOwn.never rfl (pi_list (pe_callB cr_sorted (by rfl) T.b_sorted (by decide +kernel) (pa_cons (pe_lock (pe_lc (own := [("key", 6)]) (g := gName 6) (tt := _) rfl sc_without_keys.nd (pi_keys (pv 1)) (blkOk_by (own := [("key", 6)]) (N := N_without_keys) (sc := fnScope s_without_keys) (by decide +kernel)) (fun _ _ _ _ _ => (pg_n 6 sc_without_keys.nd)) (fun _ _ _ _ _ => (pts_one (pt_chain op_le op_le (pv 3) (pv 6) (pv 4)))) (fun _ _ _ _ _ => (pv 6)))) pa_nil))) (pg_n 6 sc_without_keys.nd) (pss_cons (ps_if (pt_cmpR op_lt (pv 5) (pv 6) (nomark _)) (pss_one (ps_expr (pe_bm PySem.F.plainAttrs_list PySem.F.slot_list_append PySem.F.type_list_append mt_append (pv 2) (pa_cons (pe_tup (pa_cons (pv 5) (pa_cons (pe_op op_sub (pv 6) pe_int) pa_nil))) pa_nil)))) pss_nil)
      (pss_one (ps_s 5 sc_without_keys.nd (pe_op op_add (pv 6) pe_int)))))
      (pss_one (ps_if (pt_cmpR op_le (pv 5) (pv 4) (nomark _)) (pss_one (ps_expr (pe_bm PySem.F.plainAttrs_list PySem.F.slot_list_append PySem.F.type_list_append mt_append (pv 2) (pa_cons (pe_tup (pa_cons (pv 5) (pa_cons (pv 4) pa_nil))) pa_nil)))) pss_nil)))))
      (pss_one (ps_ret (pv 2))))), ?_⟩
  walk_at "rd"
  refine rd_newL (by simp) fun F H1 hF s1 eF _ => ?_
  walk_at "rd"
  refine rd_lsR (SqL.of (s1 _ _ ea)) ?_
  refine forR_lst (xs := xs) (fun i σ H' => ∃ zs out v3 v4 v5 v6, Same H H' ∧ H' F = some (.lst zs) ∧ IvP H' zs out ∧ Canon out ∧ (∀ t ∈ out, ∀ q ∈ rs.drop i, t.2 + 1 < q.1) ∧ (∀ k, inR out k ↔ inR (rs.take i) k ∧ k ∉ ks) ∧ out.length ≤ i + ((rs.take i).map fun r => (within ks r).length).sum ∧ σ = [some (.ref a), some (.ref D), some (.ref F), v3, v4, v5, v6]) (fun i σ H' ⟨_, _, _, _, _, _, s, _⟩ => SqL.of (s _ _ ea)) ⟨[], [], none, none, none, none, s1, eF, IvP.nil, Canon.nil, (fun t ht => by cases ht), (fun k => ⟨fun z => absurd z (inR_nil k), fun z => absurd z.1 (inR_nil k)⟩), Nat.le_refl _, rfl⟩ ?_ ?_
  · rintro i x σ H2 hx ⟨zs, out, v3, v4, v5, v6, s2, eF2, ivo, cano, gap, mem, lo, rfl⟩
    obtain ⟨r, t, hr, rfl, et⟩ := (iv.mono s2).getV hx
    have hi := (List.getElem?_eq_some_iff.mp hr).1
    have hrm := List.mem_of_getElem? hr
    have tk : rs.take (i + 1) = rs.take i ++ [r] := by rw [List.take_add_one, hr]; rfl
    have dr : rs.drop i = r :: rs.drop (i + 1) := by rw [List.drop_eq_getElem_cons hi]; congr 1; exact (List.getElem?_eq_some_iff.mp hr).2
    have gapr : ∀ q ∈ out, q.2 + 1 < r.1 := fun q hq => gap q hq r (by rw [dr]; exact List.mem_cons_self)
    have rr : r.1 ≤ r.2 := can.1 r hrm
    have next : ∀ q ∈ rs.drop (i + 1), r.2 + 1 < q.1 := fun q hq => by
      have := List.pairwise_iff_getElem.mp can.2
      obtain ⟨m, hm⟩ := List.getElem?_of_mem hq
      rw [List.getElem?_drop] at hm
      obtain ⟨h1, h2⟩ := List.getElem?_eq_some_iff.mp hm
      obtain ⟨h3, h4⟩ := List.getElem?_eq_some_iff.mp hr
      have := this i (i + 1 + m) h3 h1 (by omega)
      rw [h2, h4] at this
      exact this
    have eD2 := s2 _ _ eD
    refine rd_gtup et rfl ?_
    walk_at "rd"
    have sumb : ((rs.take i).map fun r => (within ks r).length).sum ≤ ks.length := within_le ⟨fun r hr => can.1 r (List.mem_of_mem_take hr), can.2.sublist (List.take_sublist _ _)⟩ ks
    refine rd_lock eD2 trivial fun od => ?_
    obtain ⟨HL, eHL⟩ : ∃ HL, HL = upd H2 D (.frz od (.dK (dV ls))) := ⟨_, rfl⟩
    rw [← eHL]
    have eLL : HL D = some (.frz od (.dK (dV ls))) := by rw [eHL]; exact upd_same
    have lk : ks.length = ls.length := by rw [eks]; unfold keysL; rw [List.length_map]
    walk_at "rd"
    refine rd_keysR eLL ?_
    refine lcR_keys (fun W j H' => Same HL H' ∧ H' W = some (.lst ((within (ks.take j) r).map V.int))) (fun W j H' _ ⟨s, _⟩ => s _ _ eLL) (fun W H' _ s e _ => ⟨s, e⟩) ?_ ?_
    · rintro W j kx z H3 hW hj ⟨s3, eW⟩
      obtain ⟨y, hy, rfl⟩ := dV_get hj
      have hk : ks[j]? = some y := by rw [eks]; unfold keysL; rw [List.getElem?_map, hy]; rfl
      have ekv : kV (Sum.inl y) = V.int y := rfl
      rw [ekv]
      have tkk : ks.take (j + 1) = ks.take j ++ [y] := by rw [List.take_add_one, hk]; rfl
      have wl : (within (ks.take j) r).length < 64 := Nat.lt_of_le_of_lt (List.length_filter_le _ _) (by rw [List.length_take]; omega)
      walk_at "rd"
      refine ⟨rfl, ?_⟩
      walk_at "rd"
      refine rd_ite (fun c1 => ?_) (fun c1 => ?_)
      · walk_at "rd"
        refine rd_ite (fun c2 => ?_) (fun c2 => ?_)
        · walk_at "rd"
          refine rd_lcE eW (by rw [List.length_map]; omega) fun H4 eH4 eW4 => ?_
          refine ⟨by rw [eH4]; exact Same.mut s3 hW, ?_⟩
          rw [eW4, tkk, within_snoc, if_pos ⟨c1, c2⟩, List.map_append]
          rfl
        · exact ⟨s3, by rw [eW, tkk, within_snoc, if_neg (fun z => c2 z.2), List.append_nil]⟩
      · refine ⟨_, rfl, rd_iteFF ?_⟩
        exact ⟨s3, by rw [eW, tkk, within_snoc, if_neg (fun z => c1 z.1), List.append_nil]⟩
    · rintro W H3 hW ⟨s3, eW⟩
      have hWD : W ≠ D := fun z => by rw [z, eLL] at hW; cases hW
      rw [dV_len, ← lk, List.take_length] at eW
      refine ⟨s3 _ _ eLL, ?_⟩
      obtain ⟨H4, eH4⟩ : ∃ H4, H4 = upd H3 D (.dK (dV ls)) := ⟨_, rfl⟩
      rw [← eH4]
      have s24 : Same H2 H4 := by
        rw [eH4]
        refine Same.unlock eD2 (o := .frz od (.dK (dV ls))) ?_
        rw [← eHL]
        exact s3
      have eW4 : H4 W = some (.lst ((within ks r).map V.int)) := by rw [eH4, upd_ne hWD]; exact eW
      have wl : (within ks r).length < 64 := Nat.lt_of_le_of_lt (List.length_filter_le _ _) (by omega)
      walk_at "rd"
      refine rd_sortG (SqL.of eW4) wl fun zs2 p H5 pm sr hp s5 ep => ?_
      walk_at "rd"
      have s05 := (s2.trans s24).trans s5
      have hpF : p ≠ F := fun z => by rw [z, s24 _ _ eF2] at hp; cases hp
      have pmem : ∀ y, y ∈ zs2 ↔ (y ∈ ks ∧ r.1 ≤ y ∧ y ≤ r.2) := fun y => by
        rw [pm.mem_iff]
        unfold within
        rw [List.mem_filter, decide_eq_true_iff]
      have lz : zs2.length = (within ks r).length := pm.length_eq
      have ndz : zs2.Nodup := pm.nodup_iff.mpr (nd.filter _)
      have srt : zs2.Pairwise (· < ·) := by
        refine (sr.and ndz).imp fun h => ?_
        have h1 := h.1
        have h2 := h.2
        omega
      refine rd_lsR (SqL.of ep) ?_
      refine forR_lst (xs := zs2.map V.int) (fun j σ H' => ∃ zs out2 first v6, Same H H' ∧ H' p = some (.lst (zs2.map V.int)) ∧ H' F = some (.lst zs) ∧ IvP H' zs out2 ∧ Cut out (· ∈ ks) r.1 first out2 ∧ r.1 ≤ first ∧ first ≤ r.2 + 1 ∧ (∀ y ∈ zs2.take j, y < first) ∧ (∀ y ∈ zs2.drop j, first ≤ y) ∧ out2.length ≤ out.length + j ∧ σ = [some (.ref a), some (.ref D), some (.ref F), some (.int r.1), some (.int r.2), some (.int first), v6]) (fun j σ H' ⟨_, _, _, _, _, e, _⟩ => SqL.of e) ⟨zs, out, r.1, v6, s05, ep, s5 _ _ (s24 _ _ eF2), (ivo.mono s24).mono s5, Cut.start cano gapr, Int.le_refl _, by omega, (fun y hy => by cases hy), (fun y hy => ((pmem y).mp hy).2.1), Nat.le_refl _, rfl⟩ ?_ ?_
      · rintro j x σ H6 hx ⟨zs6, out2, first, v6, s6, ep6, eF6, iv6, cut, f0, f1, lowj, hij, l6, rfl⟩
        obtain ⟨y, hy, rfl⟩ : ∃ y, zs2[j]? = some y ∧ x = V.int y := by
          rw [List.getElem?_map] at hx
          cases q : zs2[j]? with
          | none => rw [q] at hx; cases hx
          | some y => rw [q] at hx; exact ⟨y, rfl, (Option.some.inj hx).symm⟩
        have hj := (List.getElem?_eq_some_iff.mp hy).1
        obtain ⟨yk, y1, y2⟩ := (pmem y).mp (List.mem_of_getElem? hy)
        have dz : zs2.drop j = y :: zs2.drop (j + 1) := by rw [List.drop_eq_getElem_cons hj]; congr 1; exact (List.getElem?_eq_some_iff.mp hy).2
        have tz : zs2.take (j + 1) = zs2.take j ++ [y] := by rw [List.take_add_one, hy]; rfl
        have fy : first ≤ y := hij y (by rw [dz]; exact List.mem_cons_self)
        have hi2 : ∀ q ∈ zs2.drop (j + 1), y + 1 ≤ q := fun q hq => by
          have h1 : (zs2.drop j).Pairwise (· < ·) := srt.sublist (List.drop_sublist _ _)
          rw [dz] at h1
          have := (List.pairwise_cons.mp h1).1 q hq
          omega
        have lo2 : ∀ q ∈ zs2.take (j + 1), q < y + 1 := fun q hq => by
          rw [tz] at hq
          rcases List.mem_append.mp hq with u | u
          · have := lowj q u; omega
          · rw [List.mem_singleton.mp u]; omega
        have no : ∀ k, first ≤ k → k < y → ¬ k ∈ ks := fun k h1 h2 h3 => by
          have hm := (pmem k).mpr ⟨h3, by omega, by omega⟩
          rw [← List.take_append_drop j zs2] at hm
          rcases List.mem_append.mp hm with u | u
          · have := lowj k u; omega
          · rw [dz] at u
            rcases List.mem_cons.mp u with w | w
            · omega
            · have := hi2 k w; omega
        have l60 : zs6.length = out2.length := iv6.1
        walk_at "rd"
        refine rd_ite (fun c => ?_) (fun c => ?_)
        · walk_at "rd"
          refine rd_tyL eF6 ?_
          walk_at "rd"
          refine rd_newT (by simp) fun t7 H7 _ s7 e7 _ => ?_
          walk_at "rd"
          have eF7 := s7 _ _ eF6
          refine rd_app eF7 (by omega) fun H8 eH8 eF8 => ?_
          walk_at "rd"
          refine ⟨zs6 ++ [.ref t7], out2 ++ [(first, y - 1)], y + 1, _, by rw [eH8]; exact Same.mut (s6.trans s7) hF, by rw [eH8, upd_ne hpF]; exact s7 _ _ ep6, eF8, by rw [eH8]; exact ((iv6.mono s7).snoc e7).updL eF7, cut.piece f0 c no yk, by omega, by omega, lo2, hi2, by simp; omega, rfl⟩
        · have : first = y := by omega
          subst this
          walk_at "rd"
          exact ⟨zs6, out2, first + 1, _, s6, ep6, eF6, iv6, cut.skip yk, by omega, by omega, lo2, hi2, by omega, rfl⟩
      · rintro σ H6 ⟨zs6, out2, first, v6, s6, ep6, eF6, iv6, cut, f0, f1, lowj, hij, l6, rfl⟩
        rw [List.length_map, List.take_length] at lowj
        rw [List.length_map] at l6
        obtain ⟨f', ef', can', le', mem'⟩ := cut.done (hi := r.2) f0 f1 fun k h1 h2 h3 => by
          have := lowj k ((pmem k).mpr ⟨h3, by omega, h2⟩)
          omega
        have l60 : zs6.length = out2.length := iv6.1
        have sumw : ((rs.take (i + 1)).map fun r => (within ks r).length).sum = ((rs.take i).map fun r => (within ks r).length).sum + (within ks r).length := by rw [tk, List.map_append, List.sum_append]; simp
        have fin : ∀ H8 zs8 v6, Same H H8 → H8 F = some (.lst zs8) → IvP H8 zs8 f' → ∃ zs out v3 v4 v5 v6', Same H H8 ∧ H8 F = some (.lst zs) ∧ IvP H8 zs out ∧ Canon out ∧ (∀ t ∈ out, ∀ q ∈ rs.drop (i + 1), t.2 + 1 < q.1) ∧ (∀ k, inR out k ↔ inR (rs.take (i + 1)) k ∧ k ∉ ks) ∧ out.length ≤ i + 1 + ((rs.take (i + 1)).map fun r => (within ks r).length).sum ∧ ([some (V.ref a), some (.ref D), some (.ref F), some (.int r.1), some (.int r.2), some (.int first), v6] : L2.St) = [some (.ref a), some (.ref D), some (.ref F), v3, v4, v5, v6'] := by
          rintro H8 zs8 v6 s8 eF8 iv8
          refine ⟨zs8, f', _, _, _, _, s8, eF8, iv8, can', fun t ht q hq => by have h1 := le' t ht; have h2 := next q hq; omega, fun k => ?_, ?_, rfl⟩
          · rw [mem' k, mem k, tk, inR_app, inR_cons]
            have := inR_nil k
            constructor
            · rintro (⟨h1, h2⟩ | ⟨h1, h2, h3⟩)
              · exact ⟨.inl h1, h2⟩
              · exact ⟨.inr (.inl ⟨h1, h2⟩), h3⟩
            · rintro ⟨h1 | h1 | h1, h2⟩
              · exact .inl ⟨h1, h2⟩
              · exact .inr ⟨h1.1, h1.2, h2⟩
              · exact absurd h1 this
          · have : f'.length ≤ out2.length + 1 := by
              rw [ef']
              split
              · simp
              · omega
            omega
        walk_at "rd"
        refine rd_ite (fun c => ?_) (fun c => ?_)
        · walk_at "rd"
          refine rd_tyL eF6 ?_
          walk_at "rd"
          refine rd_newT (by simp) fun t7 H7 _ s7 e7 _ => ?_
          walk_at "rd"
          have eF7 := s7 _ _ eF6
          refine rd_app eF7 (by omega) fun H8 eH8 eF8 => ?_
          rw [if_pos c] at ef'
          exact fin H8 _ _ (by rw [eH8]; exact Same.mut (s6.trans s7) hF) eF8 (by rw [eH8, ef']; exact ((iv6.mono s7).snoc e7).updL eF7)
        · walk_at "rd"
          rw [if_neg c] at ef'
          exact fin H6 _ _ s6 eF6 (by rw [ef']; exact iv6)
  · rintro σ H2 ⟨zs, out, v3, v4, v5, v6, s2, eF2, ivo, cano, gap, mem, lo, rfl⟩
    walk_at "rd"
    have lx : xs.length = rs.length := iv.1
    rw [lx, List.take_length] at mem lo
    have w := within_le can ks
    have lk : ks.length = ls.length := by rw [eks]; unfold keysL; rw [List.length_map]
    exact k H2 F zs out s2 hF eF2 ivo cano mem (by omega)
end
end Sl

set_option Elab.async false
set_option linter.all false
set_option maxRecDepth 100000
set_option maxHeartbeats 8000000
set_option exponentiation.threshold 9000
namespace Sl
open PySem L2 C8 StX Silt
local macro_rules | `(tactic| walk_at "side") => `(tactic| first
  | exact cdivw (by omega) (by omega)
  | exact cmulw (by omega) (by omega) (by omega) (by omega)
  | exact Or.inr ⟨by omega, by omega⟩
  | exact Or.inl ⟨by omega, by omega⟩
  | omega
  | exact ⟨by omega, by omega, by decide⟩
  | decide)
local macro_rules | `(tactic| walk_at "rd1") => `(tactic| first
  | with_reducible refine rd_seq ?_
  | with_reducible refine rd_asg ?_
  | with_reducible refine rd_drop ?_
  | with_reducible refine rd_ret ?_
  | with_reducible refine rd_retN ?_
  | with_reducible refine rd_ifS ?_
  | ((with_reducible refine rd_var0 ?_); refine ⟨_, rfl, ?_⟩)
  | with_reducible refine rd_c ?_
  | with_reducible refine rd_op ?_
  | with_reducible refine rd_un ?_
  | with_reducible refine rd_I0 ?_
  | with_reducible refine rd_U ?_
  | ((with_reducible refine rd_I ?c ?_); (case c => walk_at "side"))
  | with_reducible refine rd_ipI ?_
  | with_reducible refine rd_eqI ?_
  | with_reducible refine rd_neI ?_
  | with_reducible refine rd_test ?_
  | with_reducible refine rd_tB ?_
  | with_reducible refine rd_bl ?_
  | with_reducible refine rd_not ?_
  | with_reducible refine rd_and ?_
  | with_reducible refine rd_or ?_
  | with_reducible refine rd_andV ?_
  | with_reducible refine rd_orV ?_
  | with_reducible refine rd_notV ?_
  | with_reducible refine rd_ifE ?_
  | with_reducible refine rd_chain ?_
  | with_reducible refine rd_chain3 ?_
  | with_reducible refine rd_nil ?_
  | with_reducible refine rd_cons ?_
  | with_reducible refine rd_call ?_
  | with_reducible refine rd_CB ?_
  | with_reducible refine rd_par ?_
  | with_reducible refine rd_par2 ?_
  | with_reducible refine rd_par3 ?_
  | with_reducible refine rd_par4 ?_
  | ((with_reducible refine rd_aug0 ?_); refine ⟨_, rfl, ?_⟩)
  | with_reducible refine rd_gname ?_
  | with_reducible refine rd_gcons ?_
  | with_reducible refine rd_gnil ?_
  | with_reducible refine rd_max ?_
  | with_reducible refine rd_min ?_
  | with_reducible refine rd_int1 ?_
  | with_reducible refine rd_abs ?_
  | with_reducible refine rd_lst ?_
  | with_reducible refine rd_tup ?_
  | with_reducible refine rd_bm ?_
  | with_reducible refine rd_fld0 ?_
  | with_reducible refine rd_sl0 ?_
  | with_reducible refine rd_noP ?_
  | with_reducible refine rd_part ?_
  | with_reducible refine rd_part2 ?_
  | with_reducible refine rd_meth0 ?_
  | with_reducible refine rd_star ?_
  | with_reducible refine rd_for ?_
  | with_reducible refine rd_rng1 ?_
  | with_reducible refine rd_rng2 ?_
  | with_reducible refine rd_rng3 ?_
  | with_reducible refine rd_iList ?_
  | with_reducible refine rd_iTup ?_
  | with_reducible refine rd_iEnum ?_
  | with_reducible refine rd_lc ?_
  | with_reducible refine rd_yes ?_
  | with_reducible refine rd_augS ?_
  | with_reducible refine rd_drawNew ?_
  | with_reducible refine rd_make0 ?_
  | with_reducible refine rd_next ?_
  | with_reducible refine rd_break ?_
  | with_reducible refine rd_cont ?_
  | with_reducible refine rd_iteTT ?_
  | with_reducible refine rd_iteFF ?_
  | with_reducible refine rd_iteNTT ?_
  | with_reducible refine rd_iteNFF ?_
  | with_reducible refine rd_con0 ?_
  | with_reducible refine rd_truO0 ?_
  | with_reducible refine rd_gfld0 ?_
  | with_reducible refine rd_dc ?_
  | with_reducible refine rd_iKeys ?_
  | with_reducible refine rd_dget0 ?_
  | with_reducible refine rd_dput0 ?_
  | with_reducible refine rd_dnot0 ?_
  | with_reducible refine rd_iEnumT ?_
  | with_reducible refine rd_raP0 ?_
  | with_reducible refine rd_xf0 ?_
  | with_reducible refine rd_cKw ?_
  | with_reducible refine rd_iStr ?_
  | with_reducible refine rd_gSub ?_
  | with_reducible refine rd_asgG ?_)
local macro_rules | `(tactic| walk_at "rd") => `(tactic| repeat walk_at "rd1")
local macro_rules | `(tactic| walk_at "len") => `(tactic| first
  | (intro vs H Q E h; obtain ⟨h2, _⟩ := h; rw [h2]; rfl)
  | (intro vs H Q E h; obtain ⟨_, h2, _⟩ := h; rw [h2]; rfl)
  | (intro vs H Q E h; obtain ⟨_, _, h2, _⟩ := h; rw [h2]; rfl)
  | (intro vs H Q E h; obtain ⟨_, _, _, h2, _⟩ := h; rw [h2]; rfl)
  | (intro vs H Q E h; obtain ⟨_, _, _, _, h2, _⟩ := h; rw [h2]; rfl)
  | (intro vs H Q E h; obtain ⟨_, _, _, _, _, h2, _⟩ := h; rw [h2]; rfl)
  | (intro vs H Q E h; obtain ⟨_, _, _, _, _, _, h2, _⟩ := h; rw [h2]; rfl)
  | (intro vs H Q E h; obtain ⟨_, _, _, _, _, _, _, h2, _⟩ := h; rw [h2]; rfl)
  | (intro vs H Q E h; obtain ⟨_, _, _, _, _, _, _, _, h2, _⟩ := h; rw [h2]; rfl)
  | (intro vs H Q E h; obtain ⟨_, _, _, _, _, _, _, _, _, h2, _⟩ := h; rw [h2]; rfl)
  | (intro vs H Q E h; obtain ⟨_, _, _, _, _, _, _, _, _, _, h2, _⟩ := h; rw [h2]; rfl)
  | (intro vs H Q E h; obtain ⟨_, _, _, _, _, _, _, _, _, _, _, h2, _⟩ := h; rw [h2]; rfl)
  | (intro vs H Q E h; obtain ⟨_, _, _, _, _, _, _, _, _, _, _, _, h2, _⟩ := h; rw [h2]; rfl))
theorem IvP.updI {H : Hp} {a C dx : Addr} {fs : List (Str × V)} {xs : List V} {rs : List Iv} {o : HO} (e : H a = some (.ins C dx fs)) (h : IvP H xs rs) : IvP (upd H a o) xs rs := h.keep fun b ys hb => by
  rw [upd_ne (fun z => by rw [z, e] at hb; cases hb)]
  exact hb
theorem valB_str {v : V} (h : valB v = true) : ∃ z, v = .str z ∧ z.length ≤ 12 := by
  cases v <;> first | cases h | skip
  rename_i z
  have h : (decide (1 ≤ z.length ∧ z.length ≤ 12) && z.cps.toList.all sgB) = true := h
  rw [Bool.and_eq_true] at h
  exact ⟨z, rfl, (of_decide_eq_true h.1).2⟩
def valO (ls : List (Int × V)) (k : Int) : V := (valV (dV ls) (Sum.inl k)).getD .non
theorem map_valO {ls : List (Int × V)} (h : (keysL ls).Nodup) : (keysL ls).map (fun k => (k, valO ls k)) = ls := by
  unfold keysL
  rw [List.map_map]
  refine (List.map_congr_left fun q hq => ?_).trans (List.map_id _)
  show (q.1, valO ls q.1) = q
  unfold valO
  rw [dV_val h (k := q.1) (v := q.2) hq]
  rfl
theorem keysL_map (zs : List Int) (f : Int → V) : keysL (zs.map fun k => (k, f k)) = zs := by
  unfold keysL
  rw [List.map_map]
  exact (List.map_congr_left fun _ _ => rfl).trans (List.map_id _)
theorem inR_pts {ms : List Int} {k : Int} : inR (ms.map fun m => (m, m)) k ↔ k ∈ ms := by
  constructor
  · rintro ⟨r, hr, h1, h2⟩
    obtain ⟨m, hm, rfl⟩ := List.mem_map.mp hr
    have h1 : m ≤ k := h1
    have h2 : k ≤ m := h2
    rw [show k = m by omega]
    exact hm
  · intro h
    exact ⟨(k, k), List.mem_map.mpr ⟨k, h, rfl⟩, Int.le_refl _, Int.le_refl _⟩
def ShF (D G : Addr) : List (Str × V) := [("leaves", .ref D), ("gone", .ref G)]
theorem put_sh (D G : Addr) : putF "gone" (.ref G) (putF "leaves" (.ref D) []) = ShF D G := by
  have h : ¬ (("leaves" : Str) = "gone") := by decide +kernel
  show (if ("leaves" : Str) = "gone" then [(("leaves" : Str), V.ref G)] else (("leaves" : Str), V.ref D) :: putF "gone" (V.ref G) []) = ShF D G
  rw [if_neg h]
  rfl
theorem sh_gone (D G : Addr) : (ShF D G).lookup ("gone" : Str) = some (V.ref G) := by rfl
def spSheet (K : PySem.W.Frag) (C : Addr) : Sp := fun vs H Q _ => ∃ (self dx D M R : Addr) (H0 : Hp) (ls : List (Int × V)) (ms : List Int) (xs : List V) (rs : List Iv), vs = [.ref self, .ref D, .ref M, .ref R] ∧ Same H0 H ∧ H0 self = none ∧ H self = some (.ins C dx []) ∧
  H D = some (.dK (dV ls)) ∧ (keysL ls).Nodup ∧ (∀ q ∈ ls, keyB (.int q.1) = true ∧ valB q.2 = true) ∧ SqQ K H M (ms.map V.int) ∧ (∀ m ∈ ms, keyB (.int m) = true ∧ m ∉ keysL ls) ∧ SqQ K H R xs ∧ IvP H xs rs ∧ (∀ r ∈ rs, 0 ≤ r.1 ∧ r.1 ≤ r.2 ∧ r.2 ≤ 999999) ∧ 2 * ls.length + ms.length + rs.length ≤ 60 ∧
  ∀ H' D' G ls' ys gs, Same H0 H' → H' self = some (.ins C dx (ShF D' G)) → H' D' = some (.dK (dV ls')) → ls'.Perm ls → (keysL ls').Pairwise (· < ·) → H' G = some (.tup ys) → IvP H' ys gs → Canon gs → (∀ k, inR gs k ↔ (k ∈ ms ∨ inR rs k) ∧ k ∉ keysL ls) → ls.length + gs.length ≤ 60 → H0 D' = none → Q .non H'
section
variable {P : Program} {w : World} {K : PySem.W.Frag} {mg : Str → Option Value} {base : Heap} {C_Sheet C_Layer C_Pointer C_BadSheet C_BadDay C_BadKey C_BadLayers D_Sheet_0 D_Sheet_1 : Addr}
theorem mak2_Sheet_init (T : TX P K mg C_Sheet C_Layer C_Pointer C_BadSheet C_BadDay C_BadKey C_BadLayers D_Sheet_0 D_Sheet_1) : ∃ f fd, C8.Fun K "__init__" "Sheet.__init__" s_Sheet_init f fd ∧ ((∃ ds, Vals [] ds ∧ Binds K fd P_Sheet_init ds) ∧ ∃ ds, Vals [.ref D_Sheet_0, .ref D_Sheet_1] ds ∧ Binds K fd P_Sheet_init ds) ∧ Mk K C_Sheet f ∧ FnOk P w K mg base (C8.CX0) 4 f fd P_Sheet_init (spSheet K C_Sheet) := by
  obtain ⟨f0, fd, D, bb, mk⟩ := T.m_Sheet_init
  have G_is_value := cal_is_value (P := P) (w := w) (base := base) T
  have G_is_key := cal_is_key (P := P) (w := w) (base := base) T
  have G_is_range := cal_is_range (P := P) (w := w) (base := base) T
  have G_joined_ranges := cal_joined_ranges (P := P) (w := w) (base := base) T
  have G_without_keys := cal_without_keys (P := P) (w := w) (base := base) T
  refine ⟨f0, fd, D, bb, mk, fn0 D sc_Sheet_init (by walk_at "len") (fun cdv A outer s H vs Q E hr h => ?_)⟩
  obtain ⟨self, dx, D, M, R, H0, ls, ms, xs, rs, rfl, s0, h0, eS, eD, nd, okl, sM, okm, sR, iv, okr, ll, k⟩ := h
  refine ⟨_, (pss_cut (ps_if (PW.pt (pw_or (pt_not (pt_val (pe_callB call_isi (by rfl) T.b_isinstance (by decide +kernel) (pa_cons (pv 1) (pa_cons (pe_bltn (v := .ty "dict") (u := .type "dict") rfl T.b_dict (by decide +kernel) rfl) pa_nil))))) (pw_or1 (pt_not (pt_val (pe_callB (cr_all rfl) (by rfl) T.b_all (by decide +kernel) (pa_cons (pe_lc (own := [("one", 4)]) (g := gName 4) (tt := tYes) rfl sc_Sheet_init.nd (pi_tup (pe_tup (pa_cons (pv 2) (pa_cons (pv 3) pa_nil)))) (blkOk_by (own := [("one", 4)]) (N := N_Sheet_init) (sc := fnScope s_Sheet_init) (by decide +kernel)) (fun _ _ _ _ _ => (pg_n 4 sc_Sheet_init.nd)) (fun _ _ _ _ _ => pts_nil) (fun _ _ _ _ _ => (pe_callB (callK rIsiT K call_isiT) (by rfl) T.b_isinstance (by decide +kernel) (pa_cons (pv 4) (pa_cons (pe_tup (pa_cons (pe_bltn (v := .ty "list") (u := .type "list") rfl T.b_list (by decide +kernel) rfl) (pa_cons (pe_bltn (v := .ty "tuple") (u := .type "tuple") rfl T.b_tuple (by decide +kernel) rfl) pa_nil))) pa_nil))))) pa_nil))))))) (pss_one ps_never) pss_nil)
      (pss_cut (ps_if (pt_cmpR op_gt (pe_op op_add (pe_op op_add (pe_callB cr_lenDk (by rfl) T.b_len (by decide +kernel) (pa_cons (pv 1) pa_nil)) (pe_callB cr_lenS (by rfl) T.b_len (by decide +kernel) (pa_cons (pv 2) pa_nil))) (pe_callB cr_lenS (by rfl) T.b_len (by decide +kernel) (pa_cons (pv 3) pa_nil))) (pe_gc rfl T.g_MOST_ITEMS) (nomark _)) (pss_one ps_never) pss_nil)
      (pss_cut (ps_if (pt_not (pt_val (pe_callB (cr_all rfl) (by rfl) T.b_all (by decide +kernel) (pa_cons (pe_lock (pe_lc (own := [("key", 5)]) (g := gName 5) (tt := tYes) rfl sc_Sheet_init.nd (pi_keys (pv 1)) (blkOk_by (own := [("key", 5)]) (N := N_Sheet_init) (sc := fnScope s_Sheet_init) (by decide +kernel)) (fun _ _ _ _ _ => (pg_n 5 sc_Sheet_init.nd)) (fun _ _ _ _ _ => pts_nil) (fun _ _ _ _ _ => (pe_and (pe_c G_is_key hr (by decide) rfl (pa_cons (pv 5) pa_nil)) (pe_one (pe_c G_is_value hr (by decide) rfl (pa_cons (pe_dget (hu_of hr) (pv 1) (pv 5) (fun _ _ => rfl)) pa_nil))))))) pa_nil)))) (pss_one ps_never) pss_nil)
      (pss_cut (ps_if (PW.pt (pw_or (pt_not (pt_val (pe_callB (cr_all rfl) (by rfl) T.b_all (by decide +kernel) (pa_cons (pe_lc (own := [("key", 5)]) (g := gName 5) (tt := tYes) rfl sc_Sheet_init.nd (pi_alt (pi_list (pv 2)) (pi_tup (pv 2))) (blkOk_by (own := [("key", 5)]) (N := N_Sheet_init) (sc := fnScope s_Sheet_init) (by decide +kernel)) (fun _ _ _ _ _ => (pg_n 5 sc_Sheet_init.nd)) (fun _ _ _ _ _ => pts_nil) (fun _ _ _ _ _ => (pe_and (pe_c G_is_key hr (by decide) rfl (pa_cons (pv 5) pa_nil)) (pe_one (pe_cmp (pc_dnotin (hu_of hr) (pv 5) (pv 1))))))) pa_nil)))) (pw_or1 (pt_not (pt_val (pe_callB (cr_all rfl) (by rfl) T.b_all (by decide +kernel) (pa_cons (pe_lc (own := [("one", 4)]) (g := gName 4) (tt := tYes) rfl sc_Sheet_init.nd (pi_alt (pi_list (pv 3)) (pi_tup (pv 3))) (blkOk_by (own := [("one", 4)]) (N := N_Sheet_init) (sc := fnScope s_Sheet_init) (by decide +kernel)) (fun _ _ _ _ _ => (pg_n 4 sc_Sheet_init.nd)) (fun _ _ _ _ _ => pts_nil) (fun _ _ _ _ _ => (pe_c G_is_range hr (by decide) rfl (pa_cons (pv 4) pa_nil)))) pa_nil))))))) (pss_one ps_never) pss_nil)
      (pss_cons (ps_asg (pe_dc (own := [("key", 5)]) (g := gName 5) (tt := tYes) rfl sc_Sheet_init.nd (pi_list (pe_callB (cr_sortDI rfl) (by rfl) T.b_sorted (by decide +kernel) (pa_cons (pv 1) pa_nil))) (blkOk_by (own := [("key", 5)]) (N := N_Sheet_init) (sc := fnScope s_Sheet_init) (by decide +kernel)) (fun _ _ _ _ _ => (pg_n 5 sc_Sheet_init.nd)) (fun _ _ _ _ _ => pts_nil) (fun _ _ _ _ _ => (pv 5)) (fun _ _ _ _ _ => (pe_dget (hu_of hr) (pv 1) (pv 5) (fun _ _ => rfl)))) (pg_attr (pv 0)))
      (pss_cons (ps_s 6 sc_Sheet_init.nd (pe_c G_joined_ranges hr (by decide) rfl (pa_cons (pe_lst (pa_star (pe_lc (own := [("key", 5)]) (g := gName 5) (tt := tYes) rfl sc_Sheet_init.nd (pi_alt (pi_list (pv 2)) (pi_tup (pv 2))) (blkOk_by (own := [("key", 5)]) (N := N_Sheet_init) (sc := fnScope s_Sheet_init) (by decide +kernel)) (fun _ _ _ _ _ => (pg_n 5 sc_Sheet_init.nd)) (fun _ _ _ _ _ => pts_nil) (fun _ _ _ _ _ => (pe_tup (pa_cons (pv 5) (pa_cons (pv 5) pa_nil))))) (pa_star (pv 3) pa_nil))) pa_nil)))
      (pss_cons (ps_asg (pe_callTy cr_tupOf (by rfl) T.b_tuple (by decide +kernel) (pa_cons (pe_c G_without_keys hr (by decide) rfl (pa_cons (pv 6) (pa_cons (pe_fld (pv 0) rfl) pa_nil))) pa_nil)) (pg_attr (pv 0)))
      (pss_one (ps_if (pt_cmpR op_gt (pe_op op_add (pe_callB cr_lenDk (by rfl) T.b_len (by decide +kernel) (pa_cons (pe_fld (pv 0) rfl) pa_nil)) (pe_callB cr_lenS (by rfl) T.b_len (by decide +kernel) (pa_cons (pe_fld (pv 0) rfl) pa_nil))) (pe_gc rfl T.g_MOST_ITEMS) (nomark _)) (pss_one ps_never) pss_nil))))))))), ?_⟩
  have nd2 := nd
  walk_at "rd"
  refine ⟨fun σ H' => Same H H' ∧ σ = [some (.ref self), some (.ref D), some (.ref M), some (.ref R), none, none, none], ?_, ?_⟩
  · walk_at "rd"
    refine rd_isiD eD (r := true) (by decide +kernel) ?_
    walk_at "rd"
    refine rd_newT (by simp) fun u H1 _ s1 eu _ => ?_
    walk_at "rd"
    refine rd_tpR (SqT.of eu) ?_
    refine lcR_tup (xs := [.ref M, .ref R]) (fun W i H' => Same H1 H' ∧ H' W = some (.lst ((List.replicate i true).map V.bl))) (fun W i H' _ ⟨s, _⟩ => SqT.of (s _ _ eu)) (fun W H' _ s e _ => ⟨s, e⟩) ?_ ?_
    · rintro W i x H2 hW hx ⟨s2, eW⟩
      have hi : i < 2 := (List.getElem?_eq_some_iff.mp hx).1
      obtain ⟨a, ys, rfl, sa⟩ : ∃ a ys, x = .ref a ∧ SqQ K H a ys := by
        have := List.mem_of_getElem? hx
        simp only [List.mem_cons, List.not_mem_nil, or_false] at this
        rcases this with rfl | rfl
        · exact ⟨_, _, rfl, sM⟩
        · exact ⟨_, _, rfl, sR⟩
      walk_at "rd"
      refine ⟨rfl, ?_⟩
      walk_at "rd"
      refine rd_newT (by simp) fun w H3 _ s3 ew _ => ?_
      walk_at "rd"
      refine rd_isiTQ (sa.mono ((s1.trans s2).trans s3)) ew ?_
      refine rd_lcE (s3 _ _ eW) (by simp; omega) fun H4 eH4 eW4 => ?_
      refine ⟨by rw [eH4]; exact Same.mut (s2.trans s3) hW, ?_⟩
      rw [eW4, List.replicate_succ', List.map_append]
      rfl
    · rintro W H2 hW ⟨s2, eW⟩
      walk_at "rd"
      refine all_true eW ?_
      walk_at "rd"
      exact ⟨s1.trans s2, rfl⟩
  rintro σ H1 ⟨s1, rfl⟩
  walk_at "rd"
  refine ⟨fun σ H' => Same H H' ∧ σ = [some (.ref self), some (.ref D), some (.ref M), some (.ref R), none, none, none], ?_, ?_⟩
  · walk_at "rd"
    refine rd_lenDk (s1 _ _ eD) ?_
    walk_at "rd"
    refine ⟨M, _, rfl, sM.mono s1, ?_⟩
    walk_at "rd"
    refine ⟨R, _, rfl, sR.mono s1, ?_⟩
    walk_at "rd"
    refine rd_iteF (by rw [dV_len, List.length_map, iv.1]; omega) ?_
    walk_at "rd"
    exact ⟨s1, rfl⟩
  clear s1
  rintro σ H1 ⟨s1, rfl⟩
  walk_at "rd"
  refine ⟨fun σ H' => Same H H' ∧ σ = [some (.ref self), some (.ref D), some (.ref M), some (.ref R), none, none, none], ?_, ?_⟩
  · walk_at "rd"
    have eD1 := s1 _ _ eD
    refine rd_lock eD1 trivial fun od => ?_
    obtain ⟨HL, eHL⟩ : ∃ HL, HL = upd H1 D (.frz od (.dK (dV ls))) := ⟨_, rfl⟩
    rw [← eHL]
    have eLL : HL D = some (.frz od (.dK (dV ls))) := by rw [eHL]; exact upd_same
    walk_at "rd"
    refine rd_keysR eLL ?_
    refine lcR_keys (fun W j H' => Same HL H' ∧ H' W = some (.lst ((List.replicate j true).map V.bl))) (fun W j H' _ ⟨s, _⟩ => s _ _ eLL) (fun W H' _ s e _ => ⟨s, e⟩) ?_ ?_
    · rintro W j kx z H2 hW hj ⟨s2, eW⟩
      obtain ⟨y, hy, rfl⟩ := dV_get hj
      have hm := List.mem_of_getElem? hy
      have hj2 := (List.getElem?_eq_some_iff.mp hy).1
      obtain ⟨o1, o2⟩ := okl _ hm
      obtain ⟨zs, rfl, zl⟩ := valB_str o2
      have ekv : kV (Sum.inl y) = V.int y := rfl
      rw [ekv]
      walk_at "rd"
      refine ⟨rfl, ?_⟩
      walk_at "rd"
      refine ⟨_, rfl, rfl, ?_⟩
      refine ⟨true, by rw [o1], ?_⟩
      walk_at "rd"
      refine rd_dgetV (.inr ⟨od, s2 _ _ eLL⟩) (dV_val nd hm) ?_
      walk_at "rd"
      refine ⟨_, rfl, rfl, fun z e => by cases e; omega, fun H3 s3 => ?_⟩
      rw [o2]
      refine rd_lcE (s3 _ _ eW) (by simp; omega) fun H4 eH4 eW4 => ?_
      refine ⟨by rw [eH4]; exact Same.mut (s2.trans s3) hW, ?_⟩
      rw [eW4, List.replicate_succ', List.map_append]
      rfl
    · rintro W H2 hW ⟨s2, eW⟩
      have hWD : W ≠ D := fun z => by rw [z, eLL] at hW; cases hW
      refine ⟨s2 _ _ eLL, ?_⟩
      obtain ⟨H3, eH3⟩ : ∃ H3, H3 = upd H2 D (.dK (dV ls)) := ⟨_, rfl⟩
      rw [← eH3]
      have s13 : Same H1 H3 := by
        rw [eH3]
        refine Same.unlock eD1 (o := .frz od (.dK (dV ls))) ?_
        rw [← eHL]
        exact s2
      have eW3 : H3 W = some (.lst ((List.replicate (dV ls).length true).map V.bl)) := by rw [eH3, upd_ne hWD]; exact eW
      walk_at "rd"
      refine all_true eW3 ?_
      walk_at "rd"
      exact ⟨s1.trans s13, rfl⟩
  clear s1
  rintro σ H1 ⟨s1, rfl⟩
  walk_at "rd"
  refine ⟨fun σ H' => Same H H' ∧ σ = [some (.ref self), some (.ref D), some (.ref M), some (.ref R), none, none, none], ?_, ?_⟩
  · walk_at "rd"
    refine altQ rfl (sM.mono s1) fun J hJ => ?_
    refine lcR_Q hJ (fun W j H' => Same H1 H' ∧ H' W = some (.lst ((List.replicate j true).map V.bl))) (fun W j H' _ ⟨s, _⟩ => s) (fun W H' _ s e _ => ⟨s, e⟩) ?_ ?_
    · rintro W j x H2 hW hx ⟨s2, eW⟩
      have hj := (List.getElem?_eq_some_iff.mp hx).1
      rw [List.length_map] at hj
      obtain ⟨m, hm, rfl⟩ : ∃ m, ms[j]? = some m ∧ x = V.int m := by
        rw [List.getElem?_map] at hx
        cases q : ms[j]? with
        | none => rw [q] at hx; cases hx
        | some m => rw [q] at hx; exact ⟨m, rfl, (Option.some.inj hx).symm⟩
      obtain ⟨o1, o2⟩ := okm m (List.mem_of_getElem? hm)
      walk_at "rd"
      refine ⟨rfl, ?_⟩
      walk_at "rd"
      refine ⟨_, rfl, rfl, ?_⟩
      refine ⟨true, by rw [o1], ?_⟩
      walk_at "rd"
      refine ⟨D, _, rfl, DGet.k (k := Sum.inl m) ((s1.trans s2) _ _ eD), ?_⟩
      rw [dV_no o2]
      refine rd_lcE eW (by simp; omega) fun H4 eH4 eW4 => ?_
      refine ⟨by rw [eH4]; exact Same.mut s2 hW, ?_⟩
      rw [eW4, List.replicate_succ', List.map_append]
      rfl
    · rintro W H2 hW ⟨s2, eW⟩
      walk_at "rd"
      refine all_true eW ?_
      walk_at "rd"
      have s02 := s1.trans s2
      refine altQ rfl (sR.mono s02) fun J hJ => ?_
      refine lcR_Q hJ (fun W j H' => Same H2 H' ∧ H' W = some (.lst ((List.replicate j true).map V.bl))) (fun W j H' _ ⟨s, _⟩ => s) (fun W H' _ s e _ => ⟨s, e⟩) ?_ ?_
      · rintro W2 j x H3 hW2 hx ⟨s3, eW2⟩
        have hj := (List.getElem?_eq_some_iff.mp hx).1
        obtain ⟨r, t, hr, rfl, et⟩ := (iv.mono (s02.trans s3)).getV hx
        obtain ⟨o1, o2, o3⟩ := okr r (List.mem_of_getElem? hr)
        have lx := iv.1
        walk_at "rd"
        refine ⟨rfl, ?_⟩
        walk_at "rd"
        refine ⟨t, rfl, .inl ⟨_, et, by simp, fun w hw => ?_, fun H4 s4 => ?_⟩⟩
        · simp only [List.mem_cons, List.not_mem_nil, or_false] at hw
          rcases hw with rfl | rfl <;> rfl
        have : rgB [V.int r.1, V.int r.2] = true := decide_eq_true ⟨o1, o2, o3⟩
        rw [this]
        refine rd_lcE (s4 _ _ eW2) (by simp; omega) fun H5 eH5 eW5 => ?_
        refine ⟨by rw [eH5]; exact Same.mut (s3.trans s4) hW2, ?_⟩
        rw [eW5, List.replicate_succ', List.map_append]
        rfl
      · rintro W2 H3 hW2 ⟨s3, eW2⟩
        walk_at "rd"
        refine all_true eW2 ?_
        walk_at "rd"
        exact ⟨s02.trans s3, rfl⟩
  clear s1
  rintro σ H1 ⟨s1, rfl⟩
  walk_at "rd"
  have eD1 := s1 _ _ eD
  have sM1 := sM.mono s1
  have sR1 := sR.mono s1
  have iv1 := iv.mono s1
  refine ⟨D, dV ls, keysL ls, rfl, .inl eD1, dV_keys ls, by unfold keysL; rw [List.length_map]; omega, fun zs p pm sr hp => ?_⟩
  obtain ⟨H2, eH2⟩ : ∃ H2, H2 = upd H1 p (.lst (zs.map V.int)) := ⟨_, rfl⟩
  rw [← eH2]
  have s2 : Same H1 H2 := by rw [eH2]; exact Same.new (Same.refl H1) hp
  have ep2 : H2 p = some (.lst (zs.map V.int)) := by rw [eH2]; exact upd_same
  have ndz : zs.Nodup := pm.nodup_iff.mpr nd
  have srt : zs.Pairwise (· < ·) := (sr.and ndz).imp fun h => by have h1 := h.1; have h2 := h.2; omega
  have lz : zs.length = ls.length := by rw [pm.length_eq]; unfold keysL; rw [List.length_map]
  walk_at "rd"
  refine rd_lsR (SqL.of ep2) ?_
  refine dcR_lst (xs := zs.map V.int) (fun W j H' => Same H2 H' ∧ H' W = some (.dK (dV ((zs.take j).map fun k => (k, valO ls k))))) (fun W j H' _ ⟨s, _⟩ => SqL.of (s _ _ ep2)) (fun W H' _ s e _ => ⟨s, e⟩) ?_ ?_
  · rintro W j x H3 hW hx ⟨s3, eW⟩
    obtain ⟨y, hy, rfl⟩ : ∃ y, zs[j]? = some y ∧ x = V.int y := by
      rw [List.getElem?_map] at hx
      cases q : zs[j]? with
      | none => rw [q] at hx; cases hx
      | some y => rw [q] at hx; exact ⟨y, rfl, (Option.some.inj hx).symm⟩
    have hj := (List.getElem?_eq_some_iff.mp hy).1
    have hym := pm.mem_iff.mp (List.mem_of_getElem? hy)
    obtain ⟨q, hq, rfl⟩ := List.mem_map.mp hym
    have hv : valV (dV ls) (Sum.inl q.1) = some q.2 := dV_val nd hq
    have tz : zs.take (j + 1) = zs.take j ++ [q.1] := by rw [List.take_add_one, hy]; rfl
    have hn : q.1 ∉ keysL ((zs.take j).map fun k => (k, valO ls k)) := by
      rw [keysL_map]
      intro z
      have : (zs.take (j + 1)).Nodup := ndz.sublist (List.take_sublist _ _)
      rw [tz, List.nodup_append] at this
      exact this.2.2 _ z _ (List.mem_singleton.mpr rfl) rfl
    walk_at "rd"
    refine ⟨rfl, ?_⟩
    walk_at "rd"
    refine rd_dgetV (.inl ((s2.trans s3) _ _ eD1)) hv ?_
    refine rd_dcEV eW (by rw [List.length_map, List.length_take]; omega) hn fun H4 eH4 eW4 => ?_
    refine ⟨by rw [eH4]; exact Same.mut s3 hW, ?_⟩
    rw [eW4, tz, List.map_append]
    show some (HO.dK (dV (_ ++ [(q.1, q.2)]))) = some (HO.dK (dV (_ ++ [(q.1, valO ls q.1)])))
    unfold valO
    rw [hv]
    rfl
  · rintro W H3 hW ⟨s3, eW⟩
    rw [List.length_map, List.take_length] at eW
    obtain ⟨ls', els⟩ : ∃ ls', ls' = zs.map fun k => (k, valO ls k) := ⟨_, rfl⟩
    rw [← els] at eW
    have kls : keysL ls' = zs := by rw [els, keysL_map]
    have pls : ls'.Perm ls := by
      rw [els]
      have := pm.map fun k => (k, valO ls k)
      rw [map_valO nd] at this
      exact this
    have s13 := s2.trans s3
    have s03 : Same H H3 := s1.trans s13
    have eS3 := s03 _ _ eS
    have hW0 : H0 W = none := none_back ((s0.trans s1).trans s2) hW
    refine rd_gfld0 ?_
    walk_at "rd"
    refine rd_gfld eS3 T.cl_Sheet T.na_Sheet_leaves (by decide) fun H4 eH4 eS4 => ?_
    have sM4 : SqQ K H4 M (ms.map V.int) := by rw [eH4]; exact (sM1.mono s13).updI eS3
    have sR4 : SqQ K H4 R xs := by rw [eH4]; exact (sR1.mono s13).updI eS3
    have iv4 : IvP H4 xs rs := by rw [eH4]; exact (iv1.mono s13).updI eS3
    have eW4 : H4 W = some (.dK (dV ls')) := by rw [eH4, upd_ne (fun z => by rw [z, eS3] at eW; cases eW)]; exact eW
    have s04 : Same H0 H4 := by rw [eH4]; exact Same.mut (s0.trans s03) h0
    walk_at "rd"
    refine altQ rfl sM4 fun J hJ => ?_
    refine lcR_Q hJ (fun W2 j H' => Same H4 H' ∧ ∃ zs2, H' W2 = some (.lst zs2) ∧ IvP H' zs2 ((ms.take j).map fun m => (m, m))) (fun W2 j H' _ ⟨s, _⟩ => s) (fun W2 H' _ s e _ => ⟨s, [], e, IvP.nil⟩) ?_ ?_
    · rintro W2 j x H5 hW2 hx ⟨s5, zs2, eZ, ivz⟩
      obtain ⟨m, hm, rfl⟩ : ∃ m, ms[j]? = some m ∧ x = V.int m := by
        rw [List.getElem?_map] at hx
        cases q : ms[j]? with
        | none => rw [q] at hx; cases hx
        | some m => rw [q] at hx; exact ⟨m, rfl, (Option.some.inj hx).symm⟩
      have hj := (List.getElem?_eq_some_iff.mp hm).1
      have lz2 : zs2.length ≤ j := by rw [ivz.1, List.length_map, List.length_take]; omega
      walk_at "rd"
      refine ⟨rfl, ?_⟩
      walk_at "rd"
      refine rd_newT (by simp) fun t6 H6 _ s6 e6 _ => ?_
      refine rd_lcE (s6 _ _ eZ) (by omega) fun H7 eH7 eZ7 => ?_
      refine ⟨by rw [eH7]; exact Same.mut (s5.trans s6) hW2, zs2 ++ [.ref t6], eZ7, ?_⟩
      rw [List.take_add_one, hm, List.map_append, eH7]
      exact ((ivz.mono s6).snoc (r := (m, m)) e6).updL (s6 _ _ eZ)
    · rintro W2 H5 hW2 ⟨s5, zs2, eZ, ivz⟩
      rw [List.length_map, List.take_length] at ivz
      refine ⟨W2, zs2, rfl, .inr (SqL.of eZ), ?_⟩
      walk_at "rd"
      refine ⟨R, xs, rfl, (sR4.mono s5).symm, ?_⟩
      walk_at "rd"
      have ivA := ivz.app (iv4.mono s5)
      have lA : (zs2 ++ xs).length ≤ 60 := by rw [ivA.1, List.length_append, List.length_map]; omega
      refine rd_newL (by rw [List.append_nil]; omega) fun A H6 _ s6 eA _ => ?_
      rw [List.append_nil] at eA
      walk_at "rd"
      refine ⟨A, _, _, rfl, eA, ivA.mono s6, fun r hr => ?_, by rw [List.length_append, List.length_map]; omega, fun H7 Jn ys out s7 hJ7 eJ ivj canj memj lenj => ?_⟩
      · rcases List.mem_append.mp hr with z | z
        · obtain ⟨m, _, rfl⟩ := List.mem_map.mp z
          exact Int.le_refl _
        · exact (okr r z).2.1
      rw [List.length_append, List.length_map] at lenj
      have s47 := (s5.trans s6).trans s7
      have eS7 := s47 _ _ eS4
      have eW7 := s47 _ _ eW4
      have ll' : ls'.length = ls.length := pls.length_eq
      walk_at "rd"
      refine rd_fld eS7 T.cl_Sheet T.na_Sheet_leaves rfl ?_
      walk_at "rd"
      refine ⟨Jn, W, ys, out, ls', rfl, eJ, ivj, canj, eW7, by rw [kls]; exact ndz, by omega, by omega, fun H8 G0 ys8 gs s8 hG0 eG8 ivg cang memg leng => ?_⟩
      walk_at "rd"
      refine rd_tupOfL eG8 fun G H9 _ s9 eG _ => ?_
      have s79 := s8.trans s9
      have eS9 := s79 _ _ eS7
      have eW9 := s79 _ _ eW7
      refine rd_gfld0 ?_
      walk_at "rd"
      refine rd_gfld eS9 T.cl_Sheet T.na_Sheet_gone (by show 1 < 1000; decide) fun H10 eH10 eS10 => ?_
      have eW10 : H10 W = some (.dK (dV ls')) := by rw [eH10, upd_ne (fun z => by rw [z, eS9] at eW9; cases eW9)]; exact eW9
      have eG10 : H10 G = some (.tup ys8) := by rw [eH10, upd_ne (fun z => by rw [z, eS9] at eG; cases eG)]; exact eG
      have ivg10 : IvP H10 ys8 gs := by rw [eH10]; exact (ivg.mono s9).updI eS9
      have eSF : putF "gone" (.ref G) (putF "leaves" (.ref W) []) = ShF W G := put_sh W G
      rw [eSF] at eS10
      have lg := ivg10.1
      walk_at "rd"
      refine rd_fld eS10 T.cl_Sheet T.na_Sheet_leaves rfl ?_
      walk_at "rd"
      refine rd_lenDk eW10 ?_
      walk_at "rd"
      refine rd_fld eS10 T.cl_Sheet T.na_Sheet_gone (sh_gone W G) ?_
      walk_at "rd"
      refine rd_lenT eG10 ?_
      walk_at "rd"
      refine rd_iteF (by rw [dV_len]; omega) ?_
      walk_at "rd"
      refine k H10 W G ls' ys8 gs (by rw [eH10]; exact Same.mut (s04.trans (s47.trans s79)) h0) eS10 eW10 pls (by rw [kls]; exact srt) eG10 ivg10 cang (fun q => ?_) (by omega) hW0
      rw [memg q, memj q, inR_app, inR_pts, kls, pm.mem_iff]
end
end Sl

set_option Elab.async false
set_option linter.all false
set_option maxRecDepth 100000
set_option maxHeartbeats 8000000
set_option exponentiation.threshold 9000
namespace Sl
open PySem L2 C8 StX Silt
local macro_rules | `(tactic| walk_at "side") => `(tactic| first
  | exact cdivw (by omega) (by omega)
  | exact cmulw (by omega) (by omega) (by omega) (by omega)
  | exact Or.inr ⟨by omega, by omega⟩
  | exact Or.inl ⟨by omega, by omega⟩
  | omega
  | exact ⟨by omega, by omega, by decide⟩
  | decide)
local macro_rules | `(tactic| walk_at "rd1") => `(tactic| first
  | with_reducible refine rd_seq ?_
  | with_reducible refine rd_asg ?_
  | with_reducible refine rd_drop ?_
  | with_reducible refine rd_ret ?_
  | with_reducible refine rd_retN ?_
  | with_reducible refine rd_ifS ?_
  | ((with_reducible refine rd_var0 ?_); refine ⟨_, rfl, ?_⟩)
  | with_reducible refine rd_c ?_
  | with_reducible refine rd_op ?_
  | with_reducible refine rd_un ?_
  | with_reducible refine rd_I0 ?_
  | with_reducible refine rd_U ?_
  | ((with_reducible refine rd_I ?c ?_); (case c => walk_at "side"))
  | with_reducible refine rd_ipI ?_
  | with_reducible refine rd_eqI ?_
  | with_reducible refine rd_neI ?_
  | with_reducible refine rd_test ?_
  | with_reducible refine rd_tB ?_
  | with_reducible refine rd_bl ?_
  | with_reducible refine rd_not ?_
  | with_reducible refine rd_and ?_
  | with_reducible refine rd_or ?_
  | with_reducible refine rd_andV ?_
  | with_reducible refine rd_orV ?_
  | with_reducible refine rd_notV ?_
  | with_reducible refine rd_ifE ?_
  | with_reducible refine rd_chain ?_
  | with_reducible refine rd_chain3 ?_
  | with_reducible refine rd_nil ?_
  | with_reducible refine rd_cons ?_
  | with_reducible refine rd_call ?_
  | with_reducible refine rd_CB ?_
  | with_reducible refine rd_par ?_
  | with_reducible refine rd_par2 ?_
  | with_reducible refine rd_par3 ?_
  | with_reducible refine rd_par4 ?_
  | ((with_reducible refine rd_aug0 ?_); refine ⟨_, rfl, ?_⟩)
  | with_reducible refine rd_gname ?_
  | with_reducible refine rd_gcons ?_
  | with_reducible refine rd_gnil ?_
  | with_reducible refine rd_max ?_
  | with_reducible refine rd_min ?_
  | with_reducible refine rd_int1 ?_
  | with_reducible refine rd_abs ?_
  | with_reducible refine rd_lst ?_
  | with_reducible refine rd_tup ?_
  | with_reducible refine rd_bm ?_
  | with_reducible refine rd_fld0 ?_
  | with_reducible refine rd_sl0 ?_
  | with_reducible refine rd_noP ?_
  | with_reducible refine rd_part ?_
  | with_reducible refine rd_part2 ?_
  | with_reducible refine rd_meth0 ?_
  | with_reducible refine rd_star ?_
  | with_reducible refine rd_for ?_
  | with_reducible refine rd_rng1 ?_
  | with_reducible refine rd_rng2 ?_
  | with_reducible refine rd_rng3 ?_
  | with_reducible refine rd_iList ?_
  | with_reducible refine rd_iTup ?_
  | with_reducible refine rd_iEnum ?_
  | with_reducible refine rd_lc ?_
  | with_reducible refine rd_yes ?_
  | with_reducible refine rd_augS ?_
  | with_reducible refine rd_drawNew ?_
  | with_reducible refine rd_make0 ?_
  | with_reducible refine rd_next ?_
  | with_reducible refine rd_break ?_
  | with_reducible refine rd_cont ?_
  | with_reducible refine rd_iteTT ?_
  | with_reducible refine rd_iteFF ?_
  | with_reducible refine rd_iteNTT ?_
  | with_reducible refine rd_iteNFF ?_
  | with_reducible refine rd_con0 ?_
  | with_reducible refine rd_truO0 ?_
  | with_reducible refine rd_gfld0 ?_
  | with_reducible refine rd_dc ?_
  | with_reducible refine rd_iKeys ?_
  | with_reducible refine rd_dget0 ?_
  | with_reducible refine rd_dput0 ?_
  | with_reducible refine rd_dnot0 ?_
  | with_reducible refine rd_iEnumT ?_
  | with_reducible refine rd_raP0 ?_
  | with_reducible refine rd_xf0 ?_
  | with_reducible refine rd_cKw ?_
  | with_reducible refine rd_iStr ?_
  | with_reducible refine rd_gSub ?_
  | with_reducible refine rd_asgG ?_)
local macro_rules | `(tactic| walk_at "rd") => `(tactic| repeat walk_at "rd1")
local macro_rules | `(tactic| walk_at "len") => `(tactic| first
  | (intro vs H Q E h; obtain ⟨h2, _⟩ := h; rw [h2]; rfl)
  | (intro vs H Q E h; obtain ⟨_, h2, _⟩ := h; rw [h2]; rfl)
  | (intro vs H Q E h; obtain ⟨_, _, h2, _⟩ := h; rw [h2]; rfl)
  | (intro vs H Q E h; obtain ⟨_, _, _, h2, _⟩ := h; rw [h2]; rfl)
  | (intro vs H Q E h; obtain ⟨_, _, _, _, h2, _⟩ := h; rw [h2]; rfl)
  | (intro vs H Q E h; obtain ⟨_, _, _, _, _, h2, _⟩ := h; rw [h2]; rfl)
  | (intro vs H Q E h; obtain ⟨_, _, _, _, _, _, h2, _⟩ := h; rw [h2]; rfl)
  | (intro vs H Q E h; obtain ⟨_, _, _, _, _, _, _, h2, _⟩ := h; rw [h2]; rfl)
  | (intro vs H Q E h; obtain ⟨_, _, _, _, _, _, _, _, h2, _⟩ := h; rw [h2]; rfl)
  | (intro vs H Q E h; obtain ⟨_, _, _, _, _, _, _, _, _, h2, _⟩ := h; rw [h2]; rfl)
  | (intro vs H Q E h; obtain ⟨_, _, _, _, _, _, _, _, _, _, h2, _⟩ := h; rw [h2]; rfl)
  | (intro vs H Q E h; obtain ⟨_, _, _, _, _, _, _, _, _, _, _, h2, _⟩ := h; rw [h2]; rfl)
  | (intro vs H Q E h; obtain ⟨_, _, _, _, _, _, _, _, _, _, _, _, h2, _⟩ := h; rw [h2]; rfl))
/-- a sheet -/
def ShP (C : Addr) (H : Hp) (x : Addr) (ls : List (Int × V)) (gs : List Iv) : Prop := ∃ dx D G ys, H x = some (.ins C dx (ShF D G)) ∧ H D = some (.dK (dV ls)) ∧ (keysL ls).Pairwise (· < ·) ∧ (∀ q ∈ ls, valB q.2 = true) ∧ H G = some (.tup ys) ∧ IvP H ys gs ∧ Canon gs
theorem ShP.mono {C : Addr} {H H' : Hp} {x : Addr} {ls : List (Int × V)} {gs : List Iv} (s : Same H H') (h : ShP C H x ls gs) : ShP C H' x ls gs := by
  obtain ⟨dx, D, G, ys, h1, h2, h3, h4, h5, h6, h7⟩ := h
  exact ⟨dx, D, G, ys, s _ _ h1, s _ _ h2, h3, h4, s _ _ h5, h6.mono s, h7⟩
theorem asc_nd {l : List Int} (h : l.Pairwise (· < ·)) : l.Nodup := h.imp fun h => by omega
def spShEq (C : Addr) : Sp := fun vs H Q _ => ∃ (x : Addr) (y : V) (ls : List (Int × V)) (gs : List Iv), vs = [.ref x, y] ∧ ShP C H x ls gs ∧ ((∃ b hs, y = .ref b ∧ ShP C H b ls hs ∧ ∀ H', Same H H' → Q (.bl (decide (gs = hs))) H') ∨ ∃ i, y = .int i ∧ Q (.bl false) H)
def spShLen (C : Addr) : Sp := fun vs H Q _ => ∃ (x : Addr) (ls : List (Int × V)) (gs : List Iv), vs = [.ref x] ∧ ShP C H x ls gs ∧ Q (.int ls.length) H
def spShIn (C : Addr) : Sp := fun vs H Q _ => ∃ (x : Addr) (k : Int) (ls : List (Int × V)) (gs : List Iv), vs = [.ref x, .int k] ∧ ShP C H x ls gs ∧ Q (.bl (decide (k ∈ keysL ls))) H
def inRB (gs : List Iv) (k : Int) : Bool := gs.any fun r => decide (r.1 ≤ k ∧ k ≤ r.2)
theorem inRB_iff {gs : List Iv} {k : Int} : inRB gs k = true ↔ inR gs k := by
  unfold inRB inR
  rw [List.any_eq_true]
  exact ⟨fun ⟨x, h1, h2⟩ => ⟨x, h1, of_decide_eq_true h2⟩, fun ⟨x, h1, h2⟩ => ⟨x, h1, decide_eq_true h2⟩⟩
def spGone (C : Addr) : Sp := fun vs H Q _ => ∃ (x : Addr) (k : Int) (ls : List (Int × V)) (gs : List Iv), vs = [.ref x, .int k] ∧ ShP C H x ls gs ∧ keyB (.int k) = true ∧ gs.length ≤ 1000 ∧ ∀ H', Same H H' → Q (.bl (inRB gs k)) H'
def spGoneX (C CX : Addr) : Sp := fun vs H _ E => ∃ (x : Addr) (v : V) (ls : List (Int × V)) (gs : List Iv), vs = [.ref x, v] ∧ Sc v ∧ keyB v = false ∧ E (.ref CX) none H
theorem flat_val {v : V} (h : valB v = true) : flatB v = true := by
  obtain ⟨z, rfl, _⟩ := valB_str h
  rfl
theorem eqv_pairsT : ∀ (l m : List Iv), PyData.eqv (.tuple (l.map pairD)) (.tuple (m.map pairD)) = decide (l = m)
  | [], [] => by simp [PyData.eqv, PyData.eqvAll]
  | [], x :: m => by simp [PyData.eqv, PyData.eqvAll]
  | x :: l, [] => by simp [PyData.eqv, PyData.eqvAll]
  | x :: l, y :: m => by
    have ih := eqv_pairsT l m
    simp only [PyData.eqv, List.map_cons, PyData.eqvAll, pairD, Bool.and_true] at ih ⊢
    rw [ih]
    rw [Bool.eq_iff_iff]
    simp only [Bool.and_eq_true, decide_eq_true_iff, List.cons.injEq, beq_iff_eq, Prod.ext_iff]
section
variable {P : Program} {w : World} {K : PySem.W.Frag} {mg : Str → Option Value} {base : Heap} {C_Sheet C_Layer C_Pointer C_BadSheet C_BadDay C_BadKey C_BadLayers D_Sheet_0 D_Sheet_1 : Addr}
theorem met_Sheet_len (T : TX P K mg C_Sheet C_Layer C_Pointer C_BadSheet C_BadDay C_BadKey C_BadLayers D_Sheet_0 D_Sheet_1) : Met P w K mg base 1 C_Sheet "__len__" (spShLen C_Sheet) [] := by
  obtain ⟨f0, fd, D, dn, me, _⟩ := T.m_Sheet_len
  refine met0 T.cl_Sheet me D (D.binds dn fun _ _ _ _ _ _ us hl => match us, hl with | [_], _ => rfl) sc_Sheet_len (by walk_at "len") (fun cdv A outer s H vs Q E hr h => ?_)
  obtain ⟨x, ls, gs, rfl, ⟨dx, D, G, ys, h1, h2, h3, h4, h5, h6, h7⟩, k⟩ := h
  refine ⟨_, (pss_one (ps_ret (pe_callB cr_lenDk (by rfl) T.b_len (by decide +kernel) (pa_cons (pe_fld (pv 0) rfl) pa_nil)))), ?_⟩
  walk_at "rd"
  refine rd_fld h1 T.cl_Sheet T.na_Sheet_leaves rfl ?_
  walk_at "rd"
  refine rd_lenDk h2 ?_
  rw [dV_len]
  exact k
theorem met_Sheet_contains (T : TX P K mg C_Sheet C_Layer C_Pointer C_BadSheet C_BadDay C_BadKey C_BadLayers D_Sheet_0 D_Sheet_1) : Met P w K mg base 1 C_Sheet "__contains__" (spShIn C_Sheet) [] := by
  obtain ⟨f0, fd, D, dn, me, _⟩ := T.m_Sheet_contains
  refine met0 T.cl_Sheet me D (D.binds dn fun _ _ _ _ _ _ us hl => match us, hl with | [_, _], _ => rfl) sc_Sheet_contains (by walk_at "len") (fun cdv A outer s H vs Q E hr h => ?_)
  obtain ⟨x, k0, ls, gs, rfl, ⟨dx, D, G, ys, h1, h2, h3, h4, h5, h6, h7⟩, k⟩ := h
  refine ⟨_, (pss_one (ps_ret (pe_cmp (pc_din (hu_of hr) (pv 1) (pe_fld (pv 0) rfl))))), ?_⟩
  walk_at "rd"
  refine rd_din0 ?_
  walk_at "rd"
  refine rd_fld h1 T.cl_Sheet T.na_Sheet_leaves rfl ?_
  refine ⟨D, _, rfl, DGet.k (k := Sum.inl k0) h2, ?_⟩
  have : (valV (dV ls) (Sum.inl k0)).isSome = decide (k0 ∈ keysL ls) := by
    by_cases c : k0 ∈ keysL ls
    · obtain ⟨q, hq, rfl⟩ := List.mem_map.mp c
      rw [dV_val (asc_nd h3) (k := q.1) (v := q.2) hq, decide_eq_true c]
      rfl
    · rw [dV_no c, decide_eq_false c]
      rfl
  rw [this]
  exact k
theorem met_Sheet_eq (T : TX P K mg C_Sheet C_Layer C_Pointer C_BadSheet C_BadDay C_BadKey C_BadLayers D_Sheet_0 D_Sheet_1) : Met P w K mg base 1 C_Sheet "__eq__" (spShEq C_Sheet) [] := by
  obtain ⟨f0, fd, D, dn, me, _⟩ := T.m_Sheet_eq
  refine met0 T.cl_Sheet me D (D.binds dn fun _ _ _ _ _ _ us hl => match us, hl with | [_, _], _ => rfl) sc_Sheet_eq (by walk_at "len") (fun cdv A outer s H vs Q E hr h => ?_)
  obtain ⟨x, y, ls, gs, rfl, ⟨dx, D, G, ys, h1, h2, h3, h4, h5, h6, h7⟩, h⟩ := h
  rcases h with ⟨b, hs, rfl, ⟨dx', D', G', ys', h1', h2', h3', h4', h5', h6', h7'⟩, k⟩ | ⟨i, rfl, k⟩
  · refine ⟨_, (pss_one (ps_ret (pe_and (pe_callB call_isi (by rfl) T.b_isinstance (by decide +kernel) (pa_cons (pv 1) (pa_cons (pe_gc rfl T.g_Sheet) pa_nil))) (pe_one (pe_cmpR (op_eqDG (hu65 hr)) (pe_tup (pa_cons (pe_fld (pv 0) rfl) (pa_cons (pe_fld (pv 0) rfl) pa_nil))) (pe_tup (pa_cons (pe_fld (pv 1) rfl) (pa_cons (pe_fld (pv 1) rfl) pa_nil))) (nomark _)))))), ?_⟩
    walk_at "rd"
    refine rd_isiC T.i_Sheet h1' ?_
    walk_at "rd"
    refine rd_fld h1 T.cl_Sheet T.na_Sheet_leaves rfl ?_
    walk_at "rd"
    refine rd_fld h1 T.cl_Sheet T.na_Sheet_gone (sh_gone D G) ?_
    walk_at "rd"
    refine rd_newT (by simp) fun t1 H1 _ s1 e1 _ => ?_
    walk_at "rd"
    refine rd_fld (s1 _ _ h1') T.cl_Sheet T.na_Sheet_leaves rfl ?_
    walk_at "rd"
    refine rd_fld (s1 _ _ h1') T.cl_Sheet T.na_Sheet_gone (sh_gone D' G') ?_
    walk_at "rd"
    refine rd_newT (by simp) fun t2 H2 _ s2 e2 _ => ?_
    have s12 := s1.trans s2
    refine rd_eqDG (s2 _ _ e1) e2 (s12 _ _ h2) (s12 _ _ h2') (fun z hz => ?_) (.tup (s12 _ _ h5) (h6.mono s12).all.dt) (.tup (s12 _ _ h5') (h6'.mono s12).all.dt) (shaped_pairsT gs) (shaped_pairsT hs) ?_
    · unfold dV at hz
      obtain ⟨q, hq, rfl⟩ := List.mem_map.mp hz
      exact ⟨dV_val (asc_nd h3) (k := q.1) (v := q.2) hq, flat_val (h4 q hq)⟩
    rw [eqv_pairsT]
    exact k H2 s12
  · refine ⟨_, (pss_one (ps_ret (pe_and (pe_callB call_isi (by rfl) T.b_isinstance (by decide +kernel) (pa_cons (pv 1) (pa_cons (pe_gc rfl T.g_Sheet) pa_nil))) (pe_one (pe_cmpR (op_eqDG (hu65 hr)) (pe_tup (pa_cons (pe_fld (pv 0) rfl) (pa_cons (pe_fld (pv 0) rfl) pa_nil))) (pe_tup (pa_cons (pe_fld (pv 1) rfl) (pa_cons (pe_fld (pv 1) rfl) pa_nil))) (nomark _)))))), ?_⟩
    walk_at "rd"
    refine rd_isiCi (T.nk_Sheet _ sub_int) ?_
    walk_at "rd"
    exact k
end
end Sl

set_option Elab.async false
set_option linter.all false
set_option maxRecDepth 100000
set_option maxHeartbeats 8000000
set_option exponentiation.threshold 9000
namespace Sl
open PySem L2 C8 StX Silt
local macro_rules | `(tactic| walk_at "side") => `(tactic| first
  | exact cdivw (by omega) (by omega)
  | exact cmulw (by omega) (by omega) (by omega) (by omega)
  | exact Or.inr ⟨by omega, by omega⟩
  | exact Or.inl ⟨by omega, by omega⟩
  | omega
  | exact ⟨by omega, by omega, by decide⟩
  | decide)
local macro_rules | `(tactic| walk_at "rd1") => `(tactic| first
  | with_reducible refine rd_seq ?_
  | with_reducible refine rd_asg ?_
  | with_reducible refine rd_drop ?_
  | with_reducible refine rd_ret ?_
  | with_reducible refine rd_retN ?_
  | with_reducible refine rd_ifS ?_
  | ((with_reducible refine rd_var0 ?_); refine ⟨_, rfl, ?_⟩)
  | with_reducible refine rd_c ?_
  | with_reducible refine rd_op ?_
  | with_reducible refine rd_un ?_
  | with_reducible refine rd_I0 ?_
  | with_reducible refine rd_U ?_
  | ((with_reducible refine rd_I ?c ?_); (case c => walk_at "side"))
  | with_reducible refine rd_ipI ?_
  | with_reducible refine rd_eqI ?_
  | with_reducible refine rd_neI ?_
  | with_reducible refine rd_test ?_
  | with_reducible refine rd_tB ?_
  | with_reducible refine rd_bl ?_
  | with_reducible refine rd_not ?_
  | with_reducible refine rd_and ?_
  | with_reducible refine rd_or ?_
  | with_reducible refine rd_andV ?_
  | with_reducible refine rd_orV ?_
  | with_reducible refine rd_notV ?_
  | with_reducible refine rd_ifE ?_
  | with_reducible refine rd_chain ?_
  | with_reducible refine rd_chain3 ?_
  | with_reducible refine rd_nil ?_
  | with_reducible refine rd_cons ?_
  | with_reducible refine rd_call ?_
  | with_reducible refine rd_CB ?_
  | with_reducible refine rd_par ?_
  | with_reducible refine rd_par2 ?_
  | with_reducible refine rd_par3 ?_
  | with_reducible refine rd_par4 ?_
  | ((with_reducible refine rd_aug0 ?_); refine ⟨_, rfl, ?_⟩)
  | with_reducible refine rd_gname ?_
  | with_reducible refine rd_gcons ?_
  | with_reducible refine rd_gnil ?_
  | with_reducible refine rd_max ?_
  | with_reducible refine rd_min ?_
  | with_reducible refine rd_int1 ?_
  | with_reducible refine rd_abs ?_
  | with_reducible refine rd_lst ?_
  | with_reducible refine rd_tup ?_
  | with_reducible refine rd_bm ?_
  | with_reducible refine rd_fld0 ?_
  | with_reducible refine rd_sl0 ?_
  | with_reducible refine rd_noP ?_
  | with_reducible refine rd_part ?_
  | with_reducible refine rd_part2 ?_
  | with_reducible refine rd_meth0 ?_
  | with_reducible refine rd_star ?_
  | with_reducible refine rd_for ?_
  | with_reducible refine rd_rng1 ?_
  | with_reducible refine rd_rng2 ?_
  | with_reducible refine rd_rng3 ?_
  | with_reducible refine rd_iList ?_
  | with_reducible refine rd_iTup ?_
  | with_reducible refine rd_iEnum ?_
  | with_reducible refine rd_lc ?_
  | with_reducible refine rd_yes ?_
  | with_reducible refine rd_augS ?_
  | with_reducible refine rd_drawNew ?_
  | with_reducible refine rd_make0 ?_
  | with_reducible refine rd_next ?_
  | with_reducible refine rd_break ?_
  | with_reducible refine rd_cont ?_
  | with_reducible refine rd_iteTT ?_
  | with_reducible refine rd_iteFF ?_
  | with_reducible refine rd_iteNTT ?_
  | with_reducible refine rd_iteNFF ?_
  | with_reducible refine rd_con0 ?_
  | with_reducible refine rd_truO0 ?_
  | with_reducible refine rd_gfld0 ?_
  | with_reducible refine rd_dc ?_
  | with_reducible refine rd_iKeys ?_
  | with_reducible refine rd_dget0 ?_
  | with_reducible refine rd_dput0 ?_
  | with_reducible refine rd_dnot0 ?_
  | with_reducible refine rd_iEnumT ?_
  | with_reducible refine rd_raP0 ?_
  | with_reducible refine rd_xf0 ?_
  | with_reducible refine rd_cKw ?_
  | with_reducible refine rd_iStr ?_
  | with_reducible refine rd_gSub ?_
  | with_reducible refine rd_asgG ?_)
local macro_rules | `(tactic| walk_at "rd") => `(tactic| repeat walk_at "rd1")
local macro_rules | `(tactic| walk_at "len") => `(tactic| first
  | (intro vs H Q E h; obtain ⟨h2, _⟩ := h; rw [h2]; rfl)
  | (intro vs H Q E h; obtain ⟨_, h2, _⟩ := h; rw [h2]; rfl)
  | (intro vs H Q E h; obtain ⟨_, _, h2, _⟩ := h; rw [h2]; rfl)
  | (intro vs H Q E h; obtain ⟨_, _, _, h2, _⟩ := h; rw [h2]; rfl)
  | (intro vs H Q E h; obtain ⟨_, _, _, _, h2, _⟩ := h; rw [h2]; rfl)
  | (intro vs H Q E h; obtain ⟨_, _, _, _, _, h2, _⟩ := h; rw [h2]; rfl)
  | (intro vs H Q E h; obtain ⟨_, _, _, _, _, _, h2, _⟩ := h; rw [h2]; rfl)
  | (intro vs H Q E h; obtain ⟨_, _, _, _, _, _, _, h2, _⟩ := h; rw [h2]; rfl)
  | (intro vs H Q E h; obtain ⟨_, _, _, _, _, _, _, _, h2, _⟩ := h; rw [h2]; rfl)
  | (intro vs H Q E h; obtain ⟨_, _, _, _, _, _, _, _, _, h2, _⟩ := h; rw [h2]; rfl)
  | (intro vs H Q E h; obtain ⟨_, _, _, _, _, _, _, _, _, _, h2, _⟩ := h; rw [h2]; rfl)
  | (intro vs H Q E h; obtain ⟨_, _, _, _, _, _, _, _, _, _, _, h2, _⟩ := h; rw [h2]; rfl)
  | (intro vs H Q E h; obtain ⟨_, _, _, _, _, _, _, _, _, _, _, _, h2, _⟩ := h; rw [h2]; rfl))
local macro_rules | `(tactic| walk_at "side") => `(tactic| first | exact ⟨by decide, by decide⟩ | exact ⟨by decide, by decide, by decide⟩ | exact Or.inr ⟨by decide, by decide⟩ | exact ⟨by omega, wide_nat (by omega)⟩)
theorem cut_60 (xs : List V) : cutV xs none (some 60) = xs.take 60 := by
  unfold cutV
  have e : HT.sIx xs.length xs.length (some 60) = min 60 xs.length := by
    show (if (60 : Int) < 0 then ((60 : Int) + (xs.length : Int)).toNat else min (60 : Int).toNat xs.length) = _
    rw [if_neg (by decide)]
    rfl
  rw [e, HT.sIx_none, List.drop_zero, Nat.sub_zero]
  rcases Nat.le_total 60 xs.length with h | h
  · rw [Nat.min_eq_left h]
  · rw [Nat.min_eq_right h, List.take_length, List.take_of_length_le h]
theorem rd_ixSq {K : PySem.W.Frag} {H : Hp} {Q : VK} {a : Addr} {xs : List V} {j : Int} {v : V} (e : SqL K H a xs) (n : atI xs j = some v) (h : Q v H) : rIxL K (.ref a) (.int j) H Q := ⟨a, xs, j, v, rfl, rfl, e, n, h⟩
theorem fmod_pos {i j : Int} (h : 0 < j) : 0 ≤ i.fmod j ∧ i.fmod j < j := by
  rw [Int.fmod_eq_emod_of_nonneg _ (by omega)]
  exact ⟨Int.emod_nonneg _ (by omega), Int.emod_lt_of_pos _ h⟩
def spLDraw (K : PySem.W.Frag) : Sp := fun vs H Q _ => ∃ (sc : Addr) (ns : List Int) (i m : Int), vs = [.ref sc, .int i, .int m] ∧ SqL K H sc (ns.map V.int) ∧ ns.length ≤ 63 ∧ (0 ≤ i ∧ i ≤ 1000000) ∧ 0 < m ∧ ∀ H' n, Same H H' → 0 ≤ n → n < m → Q (.int n) H'
section
variable {P : Program} {w : World} {K : PySem.W.Frag} {mg : Str → Option Value} {base : Heap} {C_Sheet C_Layer C_Pointer C_BadSheet C_BadDay C_BadKey C_BadLayers D_Sheet_0 D_Sheet_1 : Addr}
theorem cal__law_draw (T : TX P K mg C_Sheet C_Layer C_Pointer C_BadSheet C_BadDay C_BadKey C_BadLayers D_Sheet_0 D_Sheet_1) : Cal P w K mg base 1 "_law_draw" (spLDraw K) [] := by
  obtain ⟨f0, fd, D, dn⟩ := T.d__law_draw
  refine cal0 D (D.fn.binds dn fun _ _ _ _ _ _ us hl => match us, hl with | [_, _, _], _ => rfl) .nil sc__law_draw (by walk_at "len") (fun cdv A outer s H vs Q E hr h => ?_)
  obtain ⟨sc, ns, i, m, rfl, hS, h63, hi, hm, k⟩ := h
  refine ⟨_, (pss_cut (ps_s 3 sc__law_draw.nd (pe_ifExp (pt_cmpR (op_neD hr.units) (pv 0) (pe_lst pa_nil) (nomark _)) (pe_slice sl_list (pv 0) po_none (po_some pe_int)) (pe_lst (pa_cons pe_int pa_nil))))
      (pss_cut (ps_par (i := 4) (j := 5) rfl sc__law_draw.nd rfl rfl (by decide) rfl rfl (pa_cons (pe_ix ix_list (pv 3) (pe_op op_modN (pv 1) (pe_callB cr_lenS (by rfl) T.b_len (by decide +kernel) (pa_cons (pv 3) pa_nil))) (fun _ _ => rfl)) (pa_cons (pe_op op_fdivW (pv 1) (pe_callB cr_lenS (by rfl) T.b_len (by decide +kernel) (pa_cons (pv 3) pa_nil))) pa_nil)) (by rfl))
      (pss_cons (ps_if (pt_cmpR op_ge (pv 4) (pe_op op_pow pe_int pe_int) (nomark _)) (pss_cons (ps_s 4 sc__law_draw.nd (pe_op op_modN (pe_callTy cr_int1 (by rfl) T.b_int (by decide +kernel) (pa_cons (pv 4) pa_nil)) (pe_op op_pow pe_int pe_int)))
      (pss_cons (ps_for PassesOwn.never rfl (pi_range1 rfl T.b_range (pa_cons (pe_op op_modN (pv 5) pe_int) pa_nil)) (pg_n 6 sc__law_draw.nd) (pss_one (ps_s 4 sc__law_draw.nd (pe_op op_fdivW (pv 4) pe_int))))
      (pss_one (ps_ret (pe_op op_modN (pe_op op_modN (pe_callTy cr_int1 (by rfl) T.b_int (by decide +kernel) (pa_cons (pv 4) pa_nil)) pe_int) (pv 2)))))) pss_nil)
      (pss_cons (ps_s 7 sc__law_draw.nd (pe_op op_add (pe_op op_mul (pe_op op_add (pe_op op_add (pe_op op_modN (pe_callTy cr_int1 (by rfl) T.b_int (by decide +kernel) (pa_cons (pe_op op_add (pv 4) (pe_op op_mul pe_int (pv 5))) pa_nil)) pe_int) (pe_op op_mul pe_int (pv 1))) pe_int) pe_int) (pe_op op_modN (pe_callTy cr_int1 (by rfl) T.b_int (by decide +kernel) (pa_cons (pe_op op_fdivW (pv 4) pe_int) pa_nil)) pe_int)))
      (pss_one (ps_ret (pe_op op_modN (pe_callTy cr_int1 (by rfl) T.b_int (by decide +kernel) (pa_cons (pe_op op_modN (pe_op op_mul (pe_op op_modN (pv 7) pe_int) pe_int) pe_int) pa_nil)) (pv 2)))))))), ?_⟩
  walk_at "rd"
  refine ⟨fun σ' H' => ∃ (r : Addr) (ms : List Int), Same H H' ∧ SqL K H' r (ms.map V.int) ∧ ms ≠ [] ∧ ms.length ≤ 63 ∧ σ' = [some (.ref sc), some (.int i), some (.int m), some (.ref r), none, none, none, none], ?_, ?_⟩
  · walk_at "rd"
    refine rd_newL (by decide) fun u H1 _ s1 eu _ => ?_
    refine ⟨.list (intsD ns), .list [], .lst (L2.Same.seq s1 hS) (DtAll.intsD ns).dp, .lst (SqL.of eu) .nil, shaped_ints ns, by decide, ?_⟩
    rw [eqv_nil]
    walk_at "rd"
    refine rd_iteN (fun c => ?_) (fun c => ?_)
    · walk_at "rd"
      refine rd_slL (L2.Same.seq s1 hS) fun p H2 _ s2 ep _ => ?_
      rw [cut_60, ← List.map_take] at ep
      refine ⟨p, ns.take 60, s1.trans s2, SqL.of ep, fun z => c ?_, by rw [List.length_take]; omega, rfl⟩
      have := congrArg List.length z
      rw [List.length_take] at this
      have : ns = [] := List.length_eq_zero_iff.mp (by simp at this; rcases this with h | h <;> simp_all)
      rw [this]
      rfl
    · walk_at "rd"
      refine rd_newL (by decide) fun p H2 _ s2 ep _ => ?_
      exact ⟨p, [7], s1.trans s2, SqL.of ep, (fun z => nomatch z), by decide, rfl⟩
  rintro σ H1 ⟨r, ms, s1, sr, hne, hm63, rfl⟩
  walk_at "rd"
  have hl : 0 < ms.length := List.length_pos_iff.mpr hne
  refine ⟨fun σ' H' => ∃ (c tn : Int), Same H H' ∧ 0 ≤ tn ∧ σ' = [some (.ref sc), some (.int i), some (.int m), some (.ref r), some (.int c), some (.int tn), none, none], ?_, ?_⟩
  · walk_at "rd"
    refine rd_lenSq sr ?_
    rw [List.length_map]
    walk_at "rd"
    have fm := fmod_pos (i := i) (j := (ms.length : Int)) (by omega)
    obtain ⟨n, hn⟩ : ∃ n : Nat, i.fmod (ms.length : Int) = n := ⟨(i.fmod (ms.length : Int)).toNat, by omega⟩
    rw [hn]
    refine rd_ixSq sr (v := .int (ms[n]'(by omega))) (atI_nat' (by rw [List.getElem?_map, List.getElem?_eq_getElem (by omega : n < ms.length)]; rfl)) ?_
    walk_at "rd"
    refine rd_lenSq sr ?_
    rw [List.length_map]
    walk_at "rd"
    refine rd_I ⟨by omega, Nat.lt_of_le_of_lt (Nat.log2_le_self _) (by omega)⟩ ?_
    walk_at "rd"
    exact ⟨_, _, s1, Int.ediv_nonneg hi.1 (by omega), rfl⟩
  rintro σ H2 ⟨c, tn, s2, ht, rfl⟩
  clear sr s1
  walk_at "rd"
  refine rd_ite (fun c1 => ?_) (fun c1 => ?_)
  · walk_at "rd"
    have fm := fmod_pos (i := tn) (j := 40) (by decide)
    refine rd_rgR1 (by omega) (by omega) ?_
    refine forR_rng (fun j σ H' => ∃ c v6, Same H H' ∧ σ = [some (.ref sc), some (.int i), some (.int m), some (.ref r), some (.int c), some (.int tn), v6, none]) ⟨_, _, s2, rfl⟩ ?_ ?_
    · rintro j σ H3 hj ⟨c3, v6, s3, rfl⟩
      walk_at "rd"
      exact ⟨_, _, s3, rfl⟩
    · rintro σ H3 ⟨c3, v6, s3, rfl⟩
      walk_at "rd"
      have fm := fmod_pos (i := c3.fmod 97) hm
      exact k H3 _ s3 fm.1 fm.2
  · walk_at "rd"
    exact k H2 _ s2 (fmod_pos hm).1 (fmod_pos hm).2
end
end Sl

set_option Elab.async false
set_option linter.all false
set_option maxRecDepth 100000
set_option maxHeartbeats 8000000
set_option exponentiation.threshold 9000
namespace Sl
open PySem L2 C8 StX Silt
local macro_rules | `(tactic| walk_at "side") => `(tactic| first
  | exact cdivw (by omega) (by omega)
  | exact cmulw (by omega) (by omega) (by omega) (by omega)
  | exact Or.inr ⟨by omega, by omega⟩
  | exact Or.inl ⟨by omega, by omega⟩
  | omega
  | exact ⟨by omega, by omega, by decide⟩
  | decide)
local macro_rules | `(tactic| walk_at "rd1") => `(tactic| first
  | with_reducible refine rd_seq ?_
  | with_reducible refine rd_asg ?_
  | with_reducible refine rd_drop ?_
  | with_reducible refine rd_ret ?_
  | with_reducible refine rd_retN ?_
  | with_reducible refine rd_ifS ?_
  | ((with_reducible refine rd_var0 ?_); refine ⟨_, rfl, ?_⟩)
  | with_reducible refine rd_c ?_
  | with_reducible refine rd_op ?_
  | with_reducible refine rd_un ?_
  | with_reducible refine rd_I0 ?_
  | with_reducible refine rd_U ?_
  | ((with_reducible refine rd_I ?c ?_); (case c => walk_at "side"))
  | with_reducible refine rd_ipI ?_
  | with_reducible refine rd_eqI ?_
  | with_reducible refine rd_neI ?_
  | with_reducible refine rd_test ?_
  | with_reducible refine rd_tB ?_
  | with_reducible refine rd_bl ?_
  | with_reducible refine rd_not ?_
  | with_reducible refine rd_and ?_
  | with_reducible refine rd_or ?_
  | with_reducible refine rd_andV ?_
  | with_reducible refine rd_orV ?_
  | with_reducible refine rd_notV ?_
  | with_reducible refine rd_ifE ?_
  | with_reducible refine rd_chain ?_
  | with_reducible refine rd_chain3 ?_
  | with_reducible refine rd_nil ?_
  | with_reducible refine rd_cons ?_
  | with_reducible refine rd_call ?_
  | with_reducible refine rd_CB ?_
  | with_reducible refine rd_par ?_
  | with_reducible refine rd_par2 ?_
  | with_reducible refine rd_par3 ?_
  | with_reducible refine rd_par4 ?_
  | ((with_reducible refine rd_aug0 ?_); refine ⟨_, rfl, ?_⟩)
  | with_reducible refine rd_gname ?_
  | with_reducible refine rd_gcons ?_
  | with_reducible refine rd_gnil ?_
  | with_reducible refine rd_max ?_
  | with_reducible refine rd_min ?_
  | with_reducible refine rd_int1 ?_
  | with_reducible refine rd_abs ?_
  | with_reducible refine rd_lst ?_
  | with_reducible refine rd_tup ?_
  | with_reducible refine rd_bm ?_
  | with_reducible refine rd_fld0 ?_
  | with_reducible refine rd_sl0 ?_
  | with_reducible refine rd_noP ?_
  | with_reducible refine rd_part ?_
  | with_reducible refine rd_part2 ?_
  | with_reducible refine rd_meth0 ?_
  | with_reducible refine rd_star ?_
  | with_reducible refine rd_for ?_
  | with_reducible refine rd_rng1 ?_
  | with_reducible refine rd_rng2 ?_
  | with_reducible refine rd_rng3 ?_
  | with_reducible refine rd_iList ?_
  | with_reducible refine rd_iTup ?_
  | with_reducible refine rd_iEnum ?_
  | with_reducible refine rd_lc ?_
  | with_reducible refine rd_yes ?_
  | with_reducible refine rd_augS ?_
  | with_reducible refine rd_drawNew ?_
  | with_reducible refine rd_make0 ?_
  | with_reducible refine rd_next ?_
  | with_reducible refine rd_break ?_
  | with_reducible refine rd_cont ?_
  | with_reducible refine rd_iteTT ?_
  | with_reducible refine rd_iteFF ?_
  | with_reducible refine rd_iteNTT ?_
  | with_reducible refine rd_iteNFF ?_
  | with_reducible refine rd_con0 ?_
  | with_reducible refine rd_truO0 ?_
  | with_reducible refine rd_gfld0 ?_
  | with_reducible refine rd_dc ?_
  | with_reducible refine rd_iKeys ?_
  | with_reducible refine rd_dget0 ?_
  | with_reducible refine rd_dput0 ?_
  | with_reducible refine rd_dnot0 ?_
  | with_reducible refine rd_iEnumT ?_
  | with_reducible refine rd_raP0 ?_
  | with_reducible refine rd_xf0 ?_
  | with_reducible refine rd_cKw ?_
  | with_reducible refine rd_iStr ?_
  | with_reducible refine rd_gSub ?_
  | with_reducible refine rd_asgG ?_)
local macro_rules | `(tactic| walk_at "rd") => `(tactic| repeat walk_at "rd1")
local macro_rules | `(tactic| walk_at "len") => `(tactic| first
  | (intro vs H Q E h; obtain ⟨h2, _⟩ := h; rw [h2]; rfl)
  | (intro vs H Q E h; obtain ⟨_, h2, _⟩ := h; rw [h2]; rfl)
  | (intro vs H Q E h; obtain ⟨_, _, h2, _⟩ := h; rw [h2]; rfl)
  | (intro vs H Q E h; obtain ⟨_, _, _, h2, _⟩ := h; rw [h2]; rfl)
  | (intro vs H Q E h; obtain ⟨_, _, _, _, h2, _⟩ := h; rw [h2]; rfl)
  | (intro vs H Q E h; obtain ⟨_, _, _, _, _, h2, _⟩ := h; rw [h2]; rfl)
  | (intro vs H Q E h; obtain ⟨_, _, _, _, _, _, h2, _⟩ := h; rw [h2]; rfl)
  | (intro vs H Q E h; obtain ⟨_, _, _, _, _, _, _, h2, _⟩ := h; rw [h2]; rfl)
  | (intro vs H Q E h; obtain ⟨_, _, _, _, _, _, _, _, h2, _⟩ := h; rw [h2]; rfl)
  | (intro vs H Q E h; obtain ⟨_, _, _, _, _, _, _, _, _, h2, _⟩ := h; rw [h2]; rfl)
  | (intro vs H Q E h; obtain ⟨_, _, _, _, _, _, _, _, _, _, h2, _⟩ := h; rw [h2]; rfl)
  | (intro vs H Q E h; obtain ⟨_, _, _, _, _, _, _, _, _, _, _, h2, _⟩ := h; rw [h2]; rfl)
  | (intro vs H Q E h; obtain ⟨_, _, _, _, _, _, _, _, _, _, _, _, h2, _⟩ := h; rw [h2]; rfl))
def putL (ls : List (Int × V)) (k : Int) (v : V) : List (Int × V) := if k ∈ keysL ls then ls.map (fun q => if q.1 = k then (q.1, v) else q) else ls ++ [(k, v)]
theorem dV_put (ls : List (Int × V)) (k : Int) (v : V) : putK (dV ls) (Sum.inl k) v = dV (putL ls k v) := by
  unfold putL
  by_cases c : k ∈ keysL ls
  · rw [if_pos c]
    unfold putK dV
    obtain ⟨q, hq, e⟩ := List.mem_map.mp c
    rw [if_pos (by
      rw [List.any_eq_true]
      exact ⟨_, List.mem_map.mpr ⟨q, hq, rfl⟩, decide_eq_true (by rw [e])⟩), List.map_map, List.map_map]
    refine List.map_congr_left fun q _ => ?_
    show (if (Sum.inl q.1 : Key) = Sum.inl k then ((Sum.inl q.1 : Key), v) else (Sum.inl q.1, q.2)) = _
    by_cases d : q.1 = k
    · rw [if_pos (by rw [d])]
      show _ = (Sum.inl (if q.1 = k then (q.1, v) else q).1, (if q.1 = k then (q.1, v) else q).2)
      rw [if_pos d]
    · rw [if_neg (fun z => d (Sum.inl.inj z))]
      show _ = (Sum.inl (if q.1 = k then (q.1, v) else q).1, (if q.1 = k then (q.1, v) else q).2)
      rw [if_neg d]
  · rw [if_neg c]
    exact dV_putNew c
theorem putL_keys (ls : List (Int × V)) (k : Int) (v : V) : keysL (putL ls k v) = if k ∈ keysL ls then keysL ls else keysL ls ++ [k] := by
  unfold putL
  by_cases c : k ∈ keysL ls
  · rw [if_pos c, if_pos c]
    unfold keysL
    rw [List.map_map]
    refine List.map_congr_left fun q _ => ?_
    show (if q.1 = k then (q.1, v) else q).1 = q.1
    split <;> rfl
  · rw [if_neg c, if_neg c]
    unfold keysL
    rw [List.map_append]
    rfl
theorem putL_mem {ls : List (Int × V)} {k : Int} {v : V} {q : Int × V} (h : q ∈ putL ls k v) : q ∈ ls ∨ q = (k, v) := by
  unfold putL at h
  by_cases c : k ∈ keysL ls
  · rw [if_pos c] at h
    obtain ⟨x, hx, rfl⟩ := List.mem_map.mp h
    by_cases d : x.1 = k
    · rw [if_pos d, d]; exact .inr rfl
    · rw [if_neg d]; exact .inl hx
  · rw [if_neg c] at h
    rcases List.mem_append.mp h with z | z
    · exact .inl z
    · exact .inr (List.mem_singleton.mp z)
theorem putL_len (ls : List (Int × V)) (k : Int) (v : V) : (putL ls k v).length ≤ ls.length + 1 := by
  unfold putL
  split
  · rw [List.length_map]; omega
  · rw [List.length_append]; exact Nat.le_refl _
theorem putL_nodup {ls : List (Int × V)} {k : Int} {v : V} (h : (keysL ls).Nodup) : (keysL (putL ls k v)).Nodup := by
  rw [putL_keys]
  split
  · exact h
  · rename_i c
    rw [List.nodup_append]
    exact ⟨h, by simp, fun x hx y hy z => c (by rw [← List.mem_singleton.mp hy, ← z]; exact hx)⟩
theorem val_app {ch : Nat} {z : Str} (h1 : sgB ch = true) (h2 : z.cps.toList.all sgB = true) (h3 : z.length ≤ 11) : valB (.str ((⟨#[ch]⟩ : Str) ++ z)) = true := by
  have h3 : z.cps.size ≤ 11 := h3
  show (decide (1 ≤ (#[ch] ++ z.cps).size ∧ (#[ch] ++ z.cps).size ≤ 12) && (#[ch] ++ z.cps).toList.all sgB) = true
  rw [Bool.and_eq_true]
  refine ⟨decide_eq_true ?_, ?_⟩
  · rw [Array.size_append]
    show 1 ≤ 1 + z.cps.size ∧ 1 + z.cps.size ≤ 12
    omega
  · rw [Array.toList_append, List.all_append, h2]
    show (([ch] : List Nat).all sgB && true) = true
    simp [h1]
theorem abcd_get {c : Int} (h0 : 0 ≤ c) (h1 : c < 4) : ∃ ch, ("abcd" : Str).cps[c.toNat]? = some ch ∧ sgB ch = true := by
  have : c = 0 ∨ c = 1 ∨ c = 2 ∨ c = 3 := by omega
  rcases this with rfl | rfl | rfl | rfl
  · exact ⟨97, by decide +kernel, by decide⟩
  · exact ⟨98, by decide +kernel, by decide⟩
  · exact ⟨99, by decide +kernel, by decide⟩
  · exact ⟨100, by decide +kernel, by decide⟩
/-- a drawn value of a place -/
def valD (i : Int) (v : V) : Prop := valB v = true ∧ ∃ ch : Nat, v = .str ((⟨#[ch]⟩ : Str) ++ (toString i : Str))
/-- what a drawn sheet is told by -/
structure Drawn (K : PySem.W.Frag) (H : Hp) (D M R : Addr) (i most : Int) (ls : List (Int × V)) (ms : List Int) (xs : List V) (rs : List Iv) : Prop where
  eD : H D = some (.dK (dV ls))
  nd : (keysL ls).Nodup
  ll : ls.length ≤ 3
  okl : ∀ q ∈ ls, 0 ≤ q.1 ∧ q.1 < most ∧ valD i q.2
  eM : H M = some (.lst (ms.map V.int))
  lm : ms.length ≤ 2
  okm : ∀ m ∈ ms, 0 ≤ m ∧ m < most ∧ m ∉ keysL ls
  eR : H R = some (.lst xs)
  iv : IvP H xs rs
  lr : rs.length ≤ 2
  okr : ∀ r ∈ rs, 0 ≤ r.1 ∧ r.1 < most ∧ r.1 ≤ r.2 ∧ r.2 ≤ r.1 + 3
theorem Drawn.mono {K : PySem.W.Frag} {H H' : Hp} {D M R : Addr} {i most : Int} {ls : List (Int × V)} {ms : List Int} {xs : List V} {rs : List Iv} (s : Same H H') (h : Drawn K H D M R i most ls ms xs rs) : Drawn K H' D M R i most ls ms xs rs :=
  ⟨s _ _ h.eD, h.nd, h.ll, h.okl, s _ _ h.eM, h.lm, h.okm, s _ _ h.eR, h.iv.mono s, h.lr, h.okr⟩
def spLSheet (K : PySem.W.Frag) : Sp := fun vs H Q _ => ∃ (sc : Addr) (ns : List Int) (i most : Int), vs = [.ref sc, .int i, .int most] ∧ SqL K H sc (ns.map V.int) ∧ ns.length ≤ 63 ∧ (0 ≤ i ∧ i ≤ 1000) ∧ (0 < most ∧ most ≤ 100000) ∧ ((toString i : Str).cps.toList.all sgB = true ∧ (toString i : Str).length ≤ 11) ∧
  ∀ H' t D M R ls ms xs rs, Same H H' → H' t = some (.tup [.ref D, .ref M, .ref R]) → Drawn K H' D M R i most ls ms xs rs → H D = none → H M = none → H R = none → Q (.ref t) H'
section
variable {P : Program} {w : World} {K : PySem.W.Frag} {mg : Str → Option Value} {base : Heap} {C_Sheet C_Layer C_Pointer C_BadSheet C_BadDay C_BadKey C_BadLayers D_Sheet_0 D_Sheet_1 : Addr}
theorem cal__law_sheet (T : TX P K mg C_Sheet C_Layer C_Pointer C_BadSheet C_BadDay C_BadKey C_BadLayers D_Sheet_0 D_Sheet_1) : Cal P w K mg base 2 "_law_sheet" (spLSheet K) [] := by
  obtain ⟨f0, fd, D, dn⟩ := T.d__law_sheet
  have G__law_draw := cal__law_draw (P := P) (w := w) (base := base) T
  refine cal0 D (D.fn.binds dn fun _ _ _ _ _ _ us hl => match us, hl with | [_, _, _], _ => rfl) .nil sc__law_sheet (by walk_at "len") (fun cdv A outer s H vs Q E hr h => ?_)
  obtain ⟨sc, ns, i, most, rfl, hS, h63, hi, hm, ⟨hv, hv2⟩, k⟩ := h
  refine ⟨_, (pss_cons (ps_par3 (i := 3) (j := 4) (l := 5) rfl sc__law_sheet.nd rfl rfl rfl (by decide) (by decide) (by decide) rfl rfl rfl (pa_cons pe_dnewK (pa_cons (pe_lst pa_nil) (pa_cons (pe_lst pa_nil) pa_nil))) (by rfl))
      (pss_cut (ps_for PassesOwn.never rfl (pi_range1 rfl T.b_range (pa_cons (pe_c G__law_draw hr (by decide) rfl (pa_cons (pv 0) (pa_cons (pv 1) (pa_cons pe_int pa_nil)))) pa_nil)) (pg_n 6 sc__law_sheet.nd) (pss_one (ps_dput (hu_of hr) (pv 3) (pe_c G__law_draw hr (by decide) rfl (pa_cons (pv 0) (pa_cons (pe_op op_add (pe_op op_add (pv 1) pe_int) (pv 6)) (pa_cons (pv 2) pa_nil)))) (pe_op op_addS (pe_ixS pe_str (pe_c G__law_draw hr (by decide) rfl (pa_cons (pv 0) (pa_cons (pe_op op_add (pe_op op_add (pv 1) pe_int) (pv 6)) (pa_cons pe_int pa_nil)))) (fun _ _ => rfl)) (pe_callTy cr_strI (by rfl) T.b_str (by decide +kernel) (pa_cons (pv 1) pa_nil))) rfl)))
      (pss_cut (ps_for PassesOwn.never rfl (pi_range1 rfl T.b_range (pa_cons (pe_c G__law_draw hr (by decide) rfl (pa_cons (pv 0) (pa_cons (pe_op op_add (pv 1) pe_int) (pa_cons pe_int pa_nil)))) pa_nil)) (pg_n 6 sc__law_sheet.nd) (pss_cons (ps_s 7 sc__law_sheet.nd (pe_c G__law_draw hr (by decide) rfl (pa_cons (pv 0) (pa_cons (pe_op op_add (pe_op op_add (pv 1) pe_int) (pv 6)) (pa_cons (pv 2) pa_nil)))))
      (pss_one (ps_if (pt_cmp (pc_dnotin (hu_of hr) (pv 7) (pv 3))) (pss_one (ps_expr (pe_bm PySem.F.plainAttrs_list PySem.F.slot_list_append PySem.F.type_list_append mt_append (pv 4) (pa_cons (pv 7) pa_nil)))) pss_nil))))
      (pss_cut (ps_for PassesOwn.never rfl (pi_range1 rfl T.b_range (pa_cons (pe_c G__law_draw hr (by decide) rfl (pa_cons (pv 0) (pa_cons (pe_op op_add (pv 1) pe_int) (pa_cons pe_int pa_nil)))) pa_nil)) (pg_n 6 sc__law_sheet.nd) (pss_cons (ps_s 8 sc__law_sheet.nd (pe_c G__law_draw hr (by decide) rfl (pa_cons (pv 0) (pa_cons (pe_op op_add (pe_op op_add (pv 1) pe_int) (pv 6)) (pa_cons (pv 2) pa_nil)))))
      (pss_one (ps_expr (pe_bm PySem.F.plainAttrs_list PySem.F.slot_list_append PySem.F.type_list_append mt_append (pv 5) (pa_cons (pe_tup (pa_cons (pv 8) (pa_cons (pe_op op_add (pv 8) (pe_c G__law_draw hr (by decide) rfl (pa_cons (pv 0) (pa_cons (pe_op op_add (pe_op op_add (pv 1) pe_int) (pv 6)) (pa_cons pe_int pa_nil))))) pa_nil))) pa_nil))))))
      (pss_one (ps_ret (pe_tup (pa_cons (pv 3) (pa_cons (pv 4) (pa_cons (pv 5) pa_nil)))))))))), ?_⟩
  walk_at "rd"
  refine rd_dnew fun D H1 hD s1 eD _ => ?_
  walk_at "rd"
  refine rd_newL (by decide) fun M H2 hM s2 eM _ => ?_
  walk_at "rd"
  refine rd_newL (by decide) fun R H3 hR s3 eR _ => ?_
  walk_at "rd"
  have s03 := (s1.trans s2).trans s3
  have hM0 : H M = none := none_back s1 hM
  have hR0 : H R = none := none_back (s1.trans s2) hR
  have eD3 := (s2.trans s3) _ _ eD
  have eM3 := s3 _ _ eM
  have hDM : D ≠ M := fun z => by rw [z, hM] at eD; cases eD
  have hDR : D ≠ R := fun z => by have := s2 _ _ eD; rw [z, hR] at this; cases this
  have hMR : M ≠ R := fun z => by rw [z] at eM; rw [hR] at eM; cases eM
  have seq : ∀ {H'}, Same H H' → SqL K H' sc (ns.map V.int) := fun s => L2.Same.seq s hS
  refine ⟨fun σ H' => ∃ (ls : List (Int × V)) (v6 : Option V), Same H H' ∧ H' D = some (.dK (dV ls)) ∧ (keysL ls).Nodup ∧ ls.length ≤ 3 ∧ (∀ q ∈ ls, 0 ≤ q.1 ∧ q.1 < most ∧ valD i q.2) ∧ H' M = some (.lst []) ∧ H' R = some (.lst []) ∧ σ = [some (.ref sc), some (.int i), some (.int most), some (.ref D), some (.ref M), some (.ref R), v6, none, none], ?_, ?_⟩
  · walk_at "rd"
    refine ⟨sc, ns, _, _, rfl, seq s03, h63, by omega, by decide, fun H4 n s4 n0 n1 => ?_⟩
    walk_at "rd"
    refine rd_rgR1 (by omega) (by omega) ?_
    refine forR_rng (fun j σ H' => ∃ (ls : List (Int × V)) (v6 : Option V), Same H H' ∧ H' D = some (.dK (dV ls)) ∧ (keysL ls).Nodup ∧ ls.length ≤ j ∧ (∀ q ∈ ls, 0 ≤ q.1 ∧ q.1 < most ∧ valD i q.2) ∧ H' M = some (.lst []) ∧ H' R = some (.lst []) ∧ σ = [some (.ref sc), some (.int i), some (.int most), some (.ref D), some (.ref M), some (.ref R), v6, none, none]) ⟨[], _, s03.trans s4, s4 _ _ eD3, List.nodup_nil, Nat.le_refl _, (fun q hq => by cases hq), s4 _ _ eM3, s4 _ _ eR, rfl⟩ ?_ ?_
    · rintro j σ H5 hj ⟨ls, v6, s5, eD5, nd, ll, okl, eM5, eR5, rfl⟩
      walk_at "rd"
      refine ⟨sc, ns, _, _, rfl, seq s5, h63, by omega, by decide, fun H6 c s6 c0 c1 => ?_⟩
      obtain ⟨ch, e1, e2⟩ := abcd_get c0 c1
      refine rd_ixS (c := ch) c0 (by omega) (by show c < 4; exact c1) e1 ?_
      walk_at "rd"
      refine rd_strI (Nat.lt_of_le_of_lt (Nat.log2_le_self _) (by omega)) ?_
      walk_at "rd"
      refine rd_addS (by show 1 + (toString i : Str).length ≤ 100000; omega) ?_
      walk_at "rd"
      refine ⟨sc, ns, _, _, rfl, seq (s5.trans s6), h63, by omega, hm.1, fun H7 key s7 k0 k1 => ?_⟩
      have s57 := s6.trans s7
      have eD7 := s57 _ _ eD5
      have lp := putL_len ls key (.str ((⟨#[ch]⟩ : Str) ++ (toString i : Str)))
      refine ⟨D, _, rfl, DPut.k (k := Sum.inl key) eD7 (by rw [dV_len]; exact Nat.lt_of_le_of_lt (show ls.length ≤ 100 by omega) (by decide)), ?_⟩
      rw [dV_put]
      refine ⟨_, _, Same.mut (s5.trans s57) hD, upd_same, putL_nodup nd, by omega, fun q hq => ?_, by rw [upd_ne hDM.symm]; exact s57 _ _ eM5, by rw [upd_ne hDR.symm]; exact s57 _ _ eR5, rfl⟩
      rcases putL_mem hq with z | rfl
      · exact okl q z
      · exact ⟨k0, k1, val_app e2 hv hv2, ch, rfl⟩
    · rintro σ H5 ⟨ls, v6, s5, eD5, nd, ll, okl, eM5, eR5, rfl⟩
      exact ⟨ls, v6, s5, eD5, nd, by omega, okl, eM5, eR5, rfl⟩
  rintro σ H4 ⟨ls, v6, s4, eD4, nd, ll, okl, eM4, eR4, rfl⟩
  walk_at "rd"
  refine ⟨fun σ H' => ∃ (ms : List Int) (v6 v7 : Option V), Same H H' ∧ H' D = some (.dK (dV ls)) ∧ H' M = some (.lst (ms.map V.int)) ∧ ms.length ≤ 2 ∧ (∀ m ∈ ms, 0 ≤ m ∧ m < most ∧ m ∉ keysL ls) ∧ H' R = some (.lst []) ∧ σ = [some (.ref sc), some (.int i), some (.int most), some (.ref D), some (.ref M), some (.ref R), v6, v7, none], ?_, ?_⟩
  · walk_at "rd"
    refine ⟨sc, ns, _, _, rfl, seq s4, h63, by omega, by decide, fun H5 n s5 n0 n1 => ?_⟩
    walk_at "rd"
    refine rd_rgR1 (by omega) (by omega) ?_
    refine forR_rng (fun j σ H' => ∃ (ms : List Int) (v6 v7 : Option V), Same H H' ∧ H' D = some (.dK (dV ls)) ∧ H' M = some (.lst (ms.map V.int)) ∧ ms.length ≤ j ∧ (∀ m ∈ ms, 0 ≤ m ∧ m < most ∧ m ∉ keysL ls) ∧ H' R = some (.lst []) ∧ σ = [some (.ref sc), some (.int i), some (.int most), some (.ref D), some (.ref M), some (.ref R), v6, v7, none]) ⟨[], _, _, s4.trans s5, s5 _ _ eD4, s5 _ _ eM4, Nat.le_refl _, (fun q hq => by cases hq), s5 _ _ eR4, rfl⟩ ?_ ?_
    · rintro j σ H6 hj ⟨ms, v6, v7, s6, eD6, eM6, lm, okm, eR6, rfl⟩
      walk_at "rd"
      refine ⟨sc, ns, _, _, rfl, seq s6, h63, by omega, hm.1, fun H7 key s7 k0 k1 => ?_⟩
      walk_at "rd"
      refine ⟨D, _, rfl, DGet.k (k := Sum.inl key) (s7 _ _ eD6), ?_⟩
      by_cases c : key ∈ keysL ls
      · obtain ⟨q, hq, rfl⟩ := List.mem_map.mp c
        rw [dV_val nd (k := q.1) (v := q.2) hq]
        refine ⟨false, rfl, rd_iteFF ?_⟩
        walk_at "rd"
        exact ⟨ms, _, _, s6.trans s7, s7 _ _ eD6, s7 _ _ eM6, by omega, okm, s7 _ _ eR6, rfl⟩
      · rw [dV_no c]
        refine ⟨true, rfl, rd_iteTT ?_⟩
        walk_at "rd"
        have eM7 := s7 _ _ eM6
        refine rd_tyL eM7 ?_
        walk_at "rd"
        refine rd_app eM7 (by rw [List.length_map]; omega) fun H8 eH8 eM8 => ?_
        refine ⟨ms ++ [key], _, _, by rw [eH8]; exact Same.mut (s6.trans s7) hM0, by rw [eH8, upd_ne hDM]; exact s7 _ _ eD6, by rw [eM8, List.map_append]; rfl, by simp; omega, fun m hm2 => ?_, by rw [eH8, upd_ne hMR.symm]; exact s7 _ _ eR6, rfl⟩
        rcases List.mem_append.mp hm2 with z | z
        · exact okm m z
        · rw [List.mem_singleton.mp z]
          exact ⟨k0, k1, c⟩
    · rintro σ H6 ⟨ms, v6, v7, s6, eD6, eM6, lm, okm, eR6, rfl⟩
      exact ⟨ms, v6, v7, s6, eD6, eM6, by omega, okm, eR6, rfl⟩
  rintro σ H5 ⟨ms, v6, v7, s5, eD5, eM5, lm, okm, eR5, rfl⟩
  walk_at "rd"
  refine ⟨fun σ H' => ∃ (xs : List V) (rs : List Iv) (v6 v7 v8 : Option V), Same H H' ∧ H' D = some (.dK (dV ls)) ∧ H' M = some (.lst (ms.map V.int)) ∧ H' R = some (.lst xs) ∧ IvP H' xs rs ∧ rs.length ≤ 2 ∧ (∀ r ∈ rs, 0 ≤ r.1 ∧ r.1 < most ∧ r.1 ≤ r.2 ∧ r.2 ≤ r.1 + 3) ∧ σ = [some (.ref sc), some (.int i), some (.int most), some (.ref D), some (.ref M), some (.ref R), v6, v7, v8], ?_, ?_⟩
  · walk_at "rd"
    refine ⟨sc, ns, _, _, rfl, seq s5, h63, by omega, by decide, fun H6 n s6 n0 n1 => ?_⟩
    walk_at "rd"
    refine rd_rgR1 (by omega) (by omega) ?_
    refine forR_rng (fun j σ H' => ∃ (xs : List V) (rs : List Iv) (v6 v7 v8 : Option V), Same H H' ∧ H' D = some (.dK (dV ls)) ∧ H' M = some (.lst (ms.map V.int)) ∧ H' R = some (.lst xs) ∧ IvP H' xs rs ∧ rs.length ≤ j ∧ (∀ r ∈ rs, 0 ≤ r.1 ∧ r.1 < most ∧ r.1 ≤ r.2 ∧ r.2 ≤ r.1 + 3) ∧ σ = [some (.ref sc), some (.int i), some (.int most), some (.ref D), some (.ref M), some (.ref R), v6, v7, v8]) ⟨[], [], _, _, _, s5.trans s6, s6 _ _ eD5, s6 _ _ eM5, s6 _ _ eR5, IvP.nil, Nat.le_refl _, (fun q hq => by cases hq), rfl⟩ ?_ ?_
    · rintro j σ H7 hj ⟨xs, rs, v6, v7, v8, s7, eD7, eM7, eR7, iv, lr, okr, rfl⟩
      walk_at "rd"
      refine ⟨sc, ns, _, _, rfl, seq s7, h63, by omega, hm.1, fun H8 low s8 l0 l1 => ?_⟩
      walk_at "rd"
      refine rd_tyL (s8 _ _ eR7) ?_
      walk_at "rd"
      refine ⟨sc, ns, _, _, rfl, seq (s7.trans s8), h63, by omega, by decide, fun H9 d s9 d0 d1 => ?_⟩
      walk_at "rd"
      refine rd_newT (by simp) fun t1 H10 _ s10 e10 _ => ?_
      walk_at "rd"
      have s710 := (s8.trans s9).trans s10
      have eR10 := s710 _ _ eR7
      have lx := iv.1
      refine rd_app eR10 (by omega) fun H11 eH11 eR11 => ?_
      refine ⟨xs ++ [.ref t1], rs ++ [(low, low + d)], _, _, _, by rw [eH11]; exact Same.mut (s7.trans s710) hR0, by rw [eH11, upd_ne hDR]; exact s710 _ _ eD7, by rw [eH11, upd_ne hMR]; exact s710 _ _ eM7, eR11, by rw [eH11]; exact ((iv.mono s710).snoc (r := (low, low + d)) e10).updL eR10, by simp; omega, fun r hr => ?_, rfl⟩
      rcases List.mem_append.mp hr with z | z
      · exact okr r z
      · rw [List.mem_singleton.mp z]
        exact ⟨l0, l1, by show low ≤ low + d; omega, by show low + d ≤ low + 3; omega⟩
    · rintro σ H7 ⟨xs, rs, v6, v7, v8, s7, eD7, eM7, eR7, iv, lr, okr, rfl⟩
      exact ⟨xs, rs, v6, v7, v8, s7, eD7, eM7, eR7, iv, by omega, okr, rfl⟩
  rintro σ H6 ⟨xs, rs, v6, v7, v8, s6, eD6, eM6, eR6, iv, lr, okr, rfl⟩
  walk_at "rd"
  refine rd_newT (by simp) fun t H7 _ s7 et _ => ?_
  exact k H7 t D M R ls ms xs rs (s6.trans s7) et (Drawn.mono s7 ⟨eD6, nd, ll, okl, eM6, lm, okm, eR6, iv, lr, okr⟩) hD hM0 hR0
end
end Sl

set_option Elab.async false
set_option linter.all false
set_option maxRecDepth 100000
set_option maxHeartbeats 8000000
set_option exponentiation.threshold 9000
namespace Sl
open PySem L2 C8 StX Silt
local macro_rules | `(tactic| walk_at "side") => `(tactic| first
  | exact cdivw (by omega) (by omega)
  | exact cmulw (by omega) (by omega) (by omega) (by omega)
  | exact Or.inr ⟨by omega, by omega⟩
  | exact Or.inl ⟨by omega, by omega⟩
  | omega
  | exact ⟨by omega, by omega, by decide⟩
  | decide)
local macro_rules | `(tactic| walk_at "rd1") => `(tactic| first
  | with_reducible refine rd_seq ?_
  | with_reducible refine rd_asg ?_
  | with_reducible refine rd_drop ?_
  | with_reducible refine rd_ret ?_
  | with_reducible refine rd_retN ?_
  | with_reducible refine rd_ifS ?_
  | ((with_reducible refine rd_var0 ?_); refine ⟨_, rfl, ?_⟩)
  | with_reducible refine rd_c ?_
  | with_reducible refine rd_op ?_
  | with_reducible refine rd_un ?_
  | with_reducible refine rd_I0 ?_
  | with_reducible refine rd_U ?_
  | ((with_reducible refine rd_I ?c ?_); (case c => walk_at "side"))
  | with_reducible refine rd_ipI ?_
  | with_reducible refine rd_eqI ?_
  | with_reducible refine rd_neI ?_
  | with_reducible refine rd_test ?_
  | with_reducible refine rd_tB ?_
  | with_reducible refine rd_bl ?_
  | with_reducible refine rd_not ?_
  | with_reducible refine rd_and ?_
  | with_reducible refine rd_or ?_
  | with_reducible refine rd_andV ?_
  | with_reducible refine rd_orV ?_
  | with_reducible refine rd_notV ?_
  | with_reducible refine rd_ifE ?_
  | with_reducible refine rd_chain ?_
  | with_reducible refine rd_chain3 ?_
  | with_reducible refine rd_nil ?_
  | with_reducible refine rd_cons ?_
  | with_reducible refine rd_call ?_
  | with_reducible refine rd_CB ?_
  | with_reducible refine rd_par ?_
  | with_reducible refine rd_par2 ?_
  | with_reducible refine rd_par3 ?_
  | with_reducible refine rd_par4 ?_
  | ((with_reducible refine rd_aug0 ?_); refine ⟨_, rfl, ?_⟩)
  | with_reducible refine rd_gname ?_
  | with_reducible refine rd_gcons ?_
  | with_reducible refine rd_gnil ?_
  | with_reducible refine rd_max ?_
  | with_reducible refine rd_min ?_
  | with_reducible refine rd_int1 ?_
  | with_reducible refine rd_abs ?_
  | with_reducible refine rd_lst ?_
  | with_reducible refine rd_tup ?_
  | with_reducible refine rd_bm ?_
  | with_reducible refine rd_fld0 ?_
  | with_reducible refine rd_sl0 ?_
  | with_reducible refine rd_noP ?_
  | with_reducible refine rd_part ?_
  | with_reducible refine rd_part2 ?_
  | with_reducible refine rd_meth0 ?_
  | with_reducible refine rd_star ?_
  | with_reducible refine rd_for ?_
  | with_reducible refine rd_rng1 ?_
  | with_reducible refine rd_rng2 ?_
  | with_reducible refine rd_rng3 ?_
  | with_reducible refine rd_iList ?_
  | with_reducible refine rd_iTup ?_
  | with_reducible refine rd_iEnum ?_
  | with_reducible refine rd_lc ?_
  | with_reducible refine rd_yes ?_
  | with_reducible refine rd_augS ?_
  | with_reducible refine rd_drawNew ?_
  | with_reducible refine rd_make0 ?_
  | with_reducible refine rd_next ?_
  | with_reducible refine rd_break ?_
  | with_reducible refine rd_cont ?_
  | with_reducible refine rd_iteTT ?_
  | with_reducible refine rd_iteFF ?_
  | with_reducible refine rd_iteNTT ?_
  | with_reducible refine rd_iteNFF ?_
  | with_reducible refine rd_con0 ?_
  | with_reducible refine rd_truO0 ?_
  | with_reducible refine rd_gfld0 ?_
  | with_reducible refine rd_dc ?_
  | with_reducible refine rd_iKeys ?_
  | with_reducible refine rd_dget0 ?_
  | with_reducible refine rd_dput0 ?_
  | with_reducible refine rd_dnot0 ?_
  | with_reducible refine rd_iEnumT ?_
  | with_reducible refine rd_raP0 ?_
  | with_reducible refine rd_xf0 ?_
  | with_reducible refine rd_cKw ?_
  | with_reducible refine rd_iStr ?_
  | with_reducible refine rd_gSub ?_
  | with_reducible refine rd_asgG ?_)
local macro_rules | `(tactic| walk_at "rd") => `(tactic| repeat walk_at "rd1")
local macro_rules | `(tactic| walk_at "len") => `(tactic| first
  | (intro vs H Q E h; obtain ⟨h2, _⟩ := h; rw [h2]; rfl)
  | (intro vs H Q E h; obtain ⟨_, h2, _⟩ := h; rw [h2]; rfl)
  | (intro vs H Q E h; obtain ⟨_, _, h2, _⟩ := h; rw [h2]; rfl)
  | (intro vs H Q E h; obtain ⟨_, _, _, h2, _⟩ := h; rw [h2]; rfl)
  | (intro vs H Q E h; obtain ⟨_, _, _, _, h2, _⟩ := h; rw [h2]; rfl)
  | (intro vs H Q E h; obtain ⟨_, _, _, _, _, h2, _⟩ := h; rw [h2]; rfl)
  | (intro vs H Q E h; obtain ⟨_, _, _, _, _, _, h2, _⟩ := h; rw [h2]; rfl)
  | (intro vs H Q E h; obtain ⟨_, _, _, _, _, _, _, h2, _⟩ := h; rw [h2]; rfl)
  | (intro vs H Q E h; obtain ⟨_, _, _, _, _, _, _, _, h2, _⟩ := h; rw [h2]; rfl)
  | (intro vs H Q E h; obtain ⟨_, _, _, _, _, _, _, _, _, h2, _⟩ := h; rw [h2]; rfl)
  | (intro vs H Q E h; obtain ⟨_, _, _, _, _, _, _, _, _, _, h2, _⟩ := h; rw [h2]; rfl)
  | (intro vs H Q E h; obtain ⟨_, _, _, _, _, _, _, _, _, _, _, h2, _⟩ := h; rw [h2]; rfl)
  | (intro vs H Q E h; obtain ⟨_, _, _, _, _, _, _, _, _, _, _, _, h2, _⟩ := h; rw [h2]; rfl))
theorem inV_int (k : Int) (ms : List Int) : inV (.int k) (ms.map V.int) = decide (k ∈ ms) := by
  unfold inV
  rw [List.any_map, Bool.eq_iff_iff, List.any_eq_true, decide_eq_true_iff]
  constructor
  · rintro ⟨m, hm, h⟩
    have h : eqV (.int m) (.int k) = true := h
    have : m = k := by simpa [eqV] using h
    rw [← this]
    exact hm
  · intro h
    exact ⟨k, h, by show eqV (.int k) (.int k) = true; simp [eqV]⟩
theorem flat_ints (ms : List Int) : (ms.map V.int).all flatV = true := by
  rw [List.all_map, List.all_eq_true]
  exact fun _ _ => rfl
def tellB (ms : List Int) (rs : List Iv) (k : Int) : Bool := decide (k ∈ ms) || inRB rs k
def tellL (ls : List (Int × V)) (ms : List Int) (rs : List Iv) (k : Int) : List V := if k ∈ keysL ls then [valO ls k] else if tellB ms rs k = true then [.non] else []
def spTells : Sp := fun vs H Q _ => ∃ (t D M R : Addr) (k : Int) (ls : List (Int × V)) (ms : List Int) (xs : List V) (rs : List Iv), vs = [.ref t, .int k] ∧ H t = some (.tup [.ref D, .ref M, .ref R]) ∧ H D = some (.dK (dV ls)) ∧ (keysL ls).Nodup ∧ H M = some (.lst (ms.map V.int)) ∧ H R = some (.lst xs) ∧ IvP H xs rs ∧ rs.length ≤ 1000 ∧
  ∀ H' p, Same H H' → H' p = some (.lst (tellL ls ms rs k)) → Q (.ref p) H'
section
variable {P : Program} {w : World} {K : PySem.W.Frag} {mg : Str → Option Value} {base : Heap} {C_Sheet C_Layer C_Pointer C_BadSheet C_BadDay C_BadKey C_BadLayers D_Sheet_0 D_Sheet_1 : Addr}
theorem cal__law_tells (T : TX P K mg C_Sheet C_Layer C_Pointer C_BadSheet C_BadDay C_BadKey C_BadLayers D_Sheet_0 D_Sheet_1) : Cal P w K mg base 1 "_law_tells" spTells [] := by
  obtain ⟨f0, fd, D, dn⟩ := T.d__law_tells
  refine cal0 D (D.fn.binds dn fun _ _ _ _ _ _ us hl => match us, hl with | [_, _], _ => rfl) .nil sc__law_tells (by walk_at "len") (fun cdv A outer s H vs Q E hr h => ?_)
  obtain ⟨t, D, M, R, k0, ls, ms, xs, rs, rfl, et, eD, nd, eM, eR, iv, lr, k⟩ := h
  refine ⟨_, (pss_cons (ps_asg (pv 0) (pg_tup rfl (pgs_cons (pg_n 2 sc__law_tells.nd) (pgs_cons (pg_n 3 sc__law_tells.nd) (pgs_cons (pg_n 4 sc__law_tells.nd) pgs_nil)))))
      (pss_cons (ps_if (pt_cmp (pc_din (hu_of hr) (pv 1) (pv 2))) (pss_one (ps_ret (pe_lst (pa_cons (pe_dget (hu_of hr) (pv 2) (pv 1) (fun _ _ => rfl)) pa_nil)))) pss_nil)
      (pss_one (ps_ret (pe_ifExp (PW.pt (pw_or (pt_cmpR op_in_seq (pv 1) (pv 3) (by with_unfolding_all rfl)) (pw_or1 (pt_val (pe_callB (cr_any rfl) (by rfl) T.b_any (by decide +kernel) (pa_cons (pe_lc (own := [("_law_low", 5), ("_law_high", 6)]) (g := gTup _ 2 (gCons (gName 5) (gCons (gName 6) gNil))) (tt := tYes) rfl sc__law_tells.nd (pi_list (pv 4)) (blkOk_by (own := [("_law_low", 5), ("_law_high", 6)]) (N := N__law_tells) (sc := fnScope s__law_tells) (by decide +kernel)) (fun _ _ _ _ _ => (pg_tup rfl (pgs_cons (pg_n 5 sc__law_tells.nd) (pgs_cons (pg_n 6 sc__law_tells.nd) pgs_nil)))) (fun _ _ _ _ _ => pts_nil) (fun _ _ _ _ _ => (pe_chain op_le op_le (pv 5) (pv 1) (pv 6)))) pa_nil)))))) (pe_lst (pa_cons pe_non pa_nil)) (pe_lst pa_nil)))))), ?_⟩
  walk_at "rd"
  refine rd_gtup et rfl ?_
  walk_at "rd"
  refine rd_din0 ?_
  walk_at "rd"
  refine ⟨D, _, rfl, DGet.k (k := Sum.inl k0) eD, ?_⟩
  unfold tellL at k
  by_cases c : k0 ∈ keysL ls
  · rw [if_pos c] at k
    obtain ⟨q, hq, rfl⟩ := List.mem_map.mp c
    have hv := dV_val nd (k := q.1) (v := q.2) hq
    rw [hv]
    refine ⟨true, rfl, rd_iteTT ?_⟩
    walk_at "rd"
    refine rd_dgetV (.inl eD) hv ?_
    walk_at "rd"
    refine rd_newL (by simp) fun p H1 _ s1 ep _ => ?_
    refine k H1 p s1 ?_
    unfold valO
    rw [hv]
    exact ep
  · rw [if_neg c] at k
    rw [dV_no c]
    refine ⟨false, rfl, rd_iteFF ?_⟩
    walk_at "rd"
    refine ⟨M, _, rfl, .inl (SqL.of eM), rfl, flat_ints ms, ?_⟩
    rw [inV_int]
    refine ⟨_, rfl, rd_ite (fun c1 => ?_) (fun c1 => ?_)⟩
    · have : tellB ms rs k0 = true := by unfold tellB; rw [decide_eq_true c1]; rfl
      rw [if_pos this] at k
      walk_at "rd"
      refine rd_newL (by simp) fun p H1 _ s1 ep _ => ?_
      exact k H1 p s1 ep
    · have tb : tellB ms rs k0 = inRB rs k0 := by unfold tellB; rw [decide_eq_false c1]; rfl
      rw [tb] at k
      walk_at "rd"
      refine rd_lsR (SqL.of eR) ?_
      refine lcR_lst (xs := xs) (fun W j H' => Same H H' ∧ H' W = some (.lst (((rs.take j).map fun r => decide (r.1 ≤ k0 ∧ k0 ≤ r.2)).map V.bl))) (fun W j H' _ ⟨s, _⟩ => SqL.of (s _ _ eR)) (fun W H' _ s e _ => ⟨s, e⟩) ?_ ?_
      · rintro W j y H1 hW hy ⟨s1, eW⟩
        obtain ⟨r, t, hr, rfl, et⟩ := (iv.mono s1).getV hy
        have hj := (List.getElem?_eq_some_iff.mp hr).1
        have fin : ∀ b, b = decide (r.1 ≤ k0 ∧ k0 ≤ r.2) → LcE W (fun H' => Same H H' ∧ H' W = some (.lst (((rs.take (j + 1)).map fun r => decide (r.1 ≤ k0 ∧ k0 ≤ r.2)).map V.bl))) (.bl b) H1 := by
          rintro b rfl
          refine rd_lcE eW (by rw [List.length_map, List.length_map, List.length_take]; omega) fun H2 eH2 eW2 => ?_
          refine ⟨by rw [eH2]; exact Same.mut s1 hW, ?_⟩
          rw [eW2, List.take_add_one, hr, List.map_append, List.map_append]
          rfl
        refine rd_gtup et rfl ?_
        walk_at "rd"
        refine ⟨rfl, ?_⟩
        walk_at "rd"
        refine rd_ite (fun c => ?_) (fun c => ?_)
        · walk_at "rd"
          exact fin _ (by by_cases z : k0 ≤ r.2 <;> simp [c, z])
        · exact fin _ (by rw [decide_eq_false (fun z => c z.1)])
      · rintro W H1 hW ⟨s1, eW⟩
        rw [iv.1, List.take_length] at eW
        walk_at "rd"
        refine ⟨W, _, rfl, SqL.of eW, ?_⟩
        rw [List.any_map]
        have e2 : rs.any (id ∘ fun r => decide (r.1 ≤ k0 ∧ k0 ≤ r.2)) = inRB rs k0 := rfl
        rw [e2]
        refine ⟨_, rfl, ?_⟩
        cases hb : inRB rs k0
        · rw [hb, if_neg (by decide)] at k
          walk_at "rd"
          refine rd_newL (by simp) fun p H2 _ s2 ep _ => ?_
          exact k H2 p (s1.trans s2) ep
        · rw [hb, if_pos rfl] at k
          walk_at "rd"
          refine rd_newL (by simp) fun p H2 _ s2 ep _ => ?_
          exact k H2 p (s1.trans s2) ep
end
end Sl

set_option Elab.async false
set_option linter.all false
set_option maxRecDepth 100000
set_option maxHeartbeats 8000000
set_option exponentiation.threshold 9000
namespace Sl
open PySem L2 C8 StX Silt
section
variable {P : Program} {w : World} {K : PySem.W.Frag} {mg : Str → Option Value} {base : Heap} {C_Sheet C_Layer C_Pointer C_BadSheet C_BadDay C_BadKey C_BadLayers D_Sheet_0 D_Sheet_1 : Addr}
theorem mak_Sheet_init (T : TX P K mg C_Sheet C_Layer C_Pointer C_BadSheet C_BadDay C_BadKey C_BadLayers D_Sheet_0 D_Sheet_1) : Mak P w K mg base 4 "Sheet" C_Sheet (spSheet K C_Sheet) [] := by
  obtain ⟨f, fd, D, ⟨⟨ds, vd, b⟩, _⟩, mk, F⟩ := mak2_Sheet_init (P := P) (w := w) (base := base) T
  exact ⟨f, fd, _, ds, mk, F, T.mg_Sheet, b, vd⟩
theorem mak_Sheet_init_1 (T : TX P K mg C_Sheet C_Layer C_Pointer C_BadSheet C_BadDay C_BadKey C_BadLayers D_Sheet_0 D_Sheet_1) : Mak P w K mg base 4 "Sheet" C_Sheet (spSheet K C_Sheet) [.ref D_Sheet_0, .ref D_Sheet_1] := by
  obtain ⟨f, fd, D, ⟨_, ds, vd, b⟩, mk, F⟩ := mak2_Sheet_init (P := P) (w := w) (base := base) T
  exact ⟨f, fd, _, ds, mk, F, T.mg_Sheet, b, vd⟩
end
end Sl

set_option Elab.async false
set_option linter.all false
set_option maxRecDepth 100000
set_option maxHeartbeats 8000000
set_option exponentiation.threshold 9000
namespace Sl
open PySem L2 C8 StX Silt
local macro_rules | `(tactic| walk_at "side") => `(tactic| first
  | exact cdivw (by omega) (by omega)
  | exact cmulw (by omega) (by omega) (by omega) (by omega)
  | exact Or.inr ⟨by omega, by omega⟩
  | exact Or.inl ⟨by omega, by omega⟩
  | omega
  | exact ⟨by omega, by omega, by decide⟩
  | decide)
local macro_rules | `(tactic| walk_at "rd1") => `(tactic| first
  | with_reducible refine rd_seq ?_
  | with_reducible refine rd_asg ?_
  | with_reducible refine rd_drop ?_
  | with_reducible refine rd_ret ?_
  | with_reducible refine rd_retN ?_
  | with_reducible refine rd_ifS ?_
  | ((with_reducible refine rd_var0 ?_); refine ⟨_, rfl, ?_⟩)
  | with_reducible refine rd_c ?_
  | with_reducible refine rd_op ?_
  | with_reducible refine rd_un ?_
  | with_reducible refine rd_I0 ?_
  | with_reducible refine rd_U ?_
  | ((with_reducible refine rd_I ?c ?_); (case c => walk_at "side"))
  | with_reducible refine rd_ipI ?_
  | with_reducible refine rd_eqI ?_
  | with_reducible refine rd_neI ?_
  | with_reducible refine rd_test ?_
  | with_reducible refine rd_tB ?_
  | with_reducible refine rd_bl ?_
  | with_reducible refine rd_not ?_
  | with_reducible refine rd_and ?_
  | with_reducible refine rd_or ?_
  | with_reducible refine rd_andV ?_
  | with_reducible refine rd_orV ?_
  | with_reducible refine rd_notV ?_
  | with_reducible refine rd_ifE ?_
  | with_reducible refine rd_chain ?_
  | with_reducible refine rd_chain3 ?_
  | with_reducible refine rd_nil ?_
  | with_reducible refine rd_cons ?_
  | with_reducible refine rd_call ?_
  | with_reducible refine rd_CB ?_
  | with_reducible refine rd_par ?_
  | with_reducible refine rd_par2 ?_
  | with_reducible refine rd_par3 ?_
  | with_reducible refine rd_par4 ?_
  | ((with_reducible refine rd_aug0 ?_); refine ⟨_, rfl, ?_⟩)
  | with_reducible refine rd_gname ?_
  | with_reducible refine rd_gcons ?_
  | with_reducible refine rd_gnil ?_
  | with_reducible refine rd_max ?_
  | with_reducible refine rd_min ?_
  | with_reducible refine rd_int1 ?_
  | with_reducible refine rd_abs ?_
  | with_reducible refine rd_lst ?_
  | with_reducible refine rd_tup ?_
  | with_reducible refine rd_bm ?_
  | with_reducible refine rd_fld0 ?_
  | with_reducible refine rd_sl0 ?_
  | with_reducible refine rd_noP ?_
  | with_reducible refine rd_part ?_
  | with_reducible refine rd_part2 ?_
  | with_reducible refine rd_meth0 ?_
  | with_reducible refine rd_star ?_
  | with_reducible refine rd_for ?_
  | with_reducible refine rd_rng1 ?_
  | with_reducible refine rd_rng2 ?_
  | with_reducible refine rd_rng3 ?_
  | with_reducible refine rd_iList ?_
  | with_reducible refine rd_iTup ?_
  | with_reducible refine rd_iEnum ?_
  | with_reducible refine rd_lc ?_
  | with_reducible refine rd_yes ?_
  | with_reducible refine rd_augS ?_
  | with_reducible refine rd_drawNew ?_
  | with_reducible refine rd_make0 ?_
  | with_reducible refine rd_next ?_
  | with_reducible refine rd_break ?_
  | with_reducible refine rd_cont ?_
  | with_reducible refine rd_iteTT ?_
  | with_reducible refine rd_iteFF ?_
  | with_reducible refine rd_iteNTT ?_
  | with_reducible refine rd_iteNFF ?_
  | with_reducible refine rd_con0 ?_
  | with_reducible refine rd_truO0 ?_
  | with_reducible refine rd_gfld0 ?_
  | with_reducible refine rd_dc ?_
  | with_reducible refine rd_iKeys ?_
  | with_reducible refine rd_dget0 ?_
  | with_reducible refine rd_dput0 ?_
  | with_reducible refine rd_dnot0 ?_
  | with_reducible refine rd_iEnumT ?_
  | with_reducible refine rd_raP0 ?_
  | with_reducible refine rd_xf0 ?_
  | with_reducible refine rd_cKw ?_
  | with_reducible refine rd_iStr ?_
  | with_reducible refine rd_gSub ?_
  | with_reducible refine rd_asgG ?_)
local macro_rules | `(tactic| walk_at "rd") => `(tactic| repeat walk_at "rd1")
local macro_rules | `(tactic| walk_at "len") => `(tactic| first
  | (intro vs H Q E h; obtain ⟨h2, _⟩ := h; rw [h2]; rfl)
  | (intro vs H Q E h; obtain ⟨_, h2, _⟩ := h; rw [h2]; rfl)
  | (intro vs H Q E h; obtain ⟨_, _, h2, _⟩ := h; rw [h2]; rfl)
  | (intro vs H Q E h; obtain ⟨_, _, _, h2, _⟩ := h; rw [h2]; rfl)
  | (intro vs H Q E h; obtain ⟨_, _, _, _, h2, _⟩ := h; rw [h2]; rfl)
  | (intro vs H Q E h; obtain ⟨_, _, _, _, _, h2, _⟩ := h; rw [h2]; rfl)
  | (intro vs H Q E h; obtain ⟨_, _, _, _, _, _, h2, _⟩ := h; rw [h2]; rfl)
  | (intro vs H Q E h; obtain ⟨_, _, _, _, _, _, _, h2, _⟩ := h; rw [h2]; rfl)
  | (intro vs H Q E h; obtain ⟨_, _, _, _, _, _, _, _, h2, _⟩ := h; rw [h2]; rfl)
  | (intro vs H Q E h; obtain ⟨_, _, _, _, _, _, _, _, _, h2, _⟩ := h; rw [h2]; rfl)
  | (intro vs H Q E h; obtain ⟨_, _, _, _, _, _, _, _, _, _, h2, _⟩ := h; rw [h2]; rfl)
  | (intro vs H Q E h; obtain ⟨_, _, _, _, _, _, _, _, _, _, _, h2, _⟩ := h; rw [h2]; rfl)
  | (intro vs H Q E h; obtain ⟨_, _, _, _, _, _, _, _, _, _, _, _, h2, _⟩ := h; rw [h2]; rfl))
/-! rows of versions in the heap -/
def ItP {β : Type} (R : Hp → V → β → Prop) (H : Hp) (xs : List V) (ys : List β) : Prop := xs.length = ys.length ∧ ∀ (i : Nat) x y, xs[i]? = some x → ys[i]? = some y → R H x y
section
variable {β : Type} {R : Hp → V → β → Prop} {H H' : Hp} {xs zs : List V} {ys ws : List β} {x : V} {y : β}
theorem ItP.nil : ItP R H [] [] := ⟨rfl, fun i x y h => by cases h⟩
theorem ItP.imp (h : ItP R H xs ys) (f : ∀ x y, R H x y → R H' x y) : ItP R H' xs ys := ⟨h.1, fun i x y h1 h2 => f x y (h.2 i x y h1 h2)⟩
theorem ItP.append (h : ItP R H xs ys) (g : ItP R H zs ws) : ItP R H (xs ++ zs) (ys ++ ws) := by
  refine ⟨by rw [List.length_append, List.length_append, h.1, g.1], fun i x y h1 h2 => ?_⟩
  have e := h.1
  by_cases c : i < xs.length
  · rw [List.getElem?_append_left c] at h1
    rw [List.getElem?_append_left (by omega)] at h2
    exact h.2 i x y h1 h2
  · rw [List.getElem?_append_right (by omega)] at h1
    rw [List.getElem?_append_right (by omega), ← e] at h2
    exact g.2 _ x y h1 h2
theorem ItP.one (h : R H x y) : ItP R H [x] [y] := ⟨rfl, fun i a b h1 h2 => by
  cases i with
  | zero => cases h1; cases h2; exact h
  | succ i => cases h1⟩
theorem ItP.snoc (h : ItP R H xs ys) (g : R H x y) : ItP R H (xs ++ [x]) (ys ++ [y]) := h.append (.one g)
theorem ItP.getV (h : ItP R H xs ys) {i : Nat} (hx : xs[i]? = some x) : ∃ y, ys[i]? = some y ∧ R H x y := by
  have hi := (List.getElem?_eq_some_iff.mp hx).1
  have e := h.1
  exact ⟨ys[i]'(by omega), List.getElem?_eq_getElem (by omega), h.2 i _ _ hx (List.getElem?_eq_getElem (by omega))⟩
theorem ItP.get (h : ItP R H xs ys) {i : Nat} (hy : ys[i]? = some y) : ∃ x, xs[i]? = some x ∧ R H x y := by
  have hi := (List.getElem?_eq_some_iff.mp hy).1
  have e := h.1
  exact ⟨xs[i]'(by omega), List.getElem?_eq_getElem (by omega), h.2 i _ _ (List.getElem?_eq_getElem (by omega)) hy⟩
theorem ItP.take (h : ItP R H xs ys) (n : Nat) : ItP R H (xs.take n) (ys.take n) := by
  refine ⟨by rw [List.length_take, List.length_take, h.1], fun i x y h1 h2 => ?_⟩
  rw [List.getElem?_take] at h1 h2
  split at h1
  · rename_i c
    rw [if_pos c] at h2
    exact h.2 i x y h1 h2
  · cases h1
theorem ItP.drop (h : ItP R H xs ys) (n : Nat) : ItP R H (xs.drop n) (ys.drop n) := by
  refine ⟨by rw [List.length_drop, List.length_drop, h.1], fun i x y h1 h2 => ?_⟩
  rw [List.getElem?_drop] at h1 h2
  exact h.2 _ x y h1 h2
theorem ItP.last (h : ItP R H xs (ys ++ [y])) : ∃ zs x, xs = zs ++ [x] ∧ ItP R H zs ys ∧ R H x y := by
  rcases List.eq_nil_or_concat xs with rfl | ⟨zs, x, rfl⟩
  · have := h.1
    simp at this
  · rw [List.concat_eq_append] at h ⊢
    have e := h.1
    have l : zs.length = ys.length := by simpa using e
    refine ⟨zs, x, rfl, ⟨l, fun i a b h1 h2 => ?_⟩, ?_⟩
    · have hi := (List.getElem?_eq_some_iff.mp h1).1
      exact h.2 i a b (by rw [List.getElem?_append_left hi]; exact h1) (by rw [List.getElem?_append_left (by omega)]; exact h2)
    · exact h.2 zs.length x y (by simp) (by rw [l]; simp)
end
/-- tuples stand -/
def TupS (H H' : Hp) : Prop := ∀ a xs, H a = some (.tup xs) → H' a = some (.tup xs)
theorem TupS.refl (H : Hp) : TupS H H := fun _ _ h => h
theorem TupS.trans {H H' H'' : Hp} (h : TupS H H') (g : TupS H' H'') : TupS H H'' := fun a xs e => g a xs (h a xs e)
theorem TupS.of {H H' : Hp} (s : Same H H') : TupS H H' := fun a xs e => s a _ e
theorem TupS.updL {H : Hp} {a : Addr} {ys : List V} {o : HO} (e : H a = some (.lst ys)) : TupS H (upd H a o) := fun b xs h => by
  rw [upd_ne (fun z => by rw [z, e] at h; cases h)]
  exact h
theorem TupS.updI {H : Hp} {a C dx : Addr} {fs : List (Str × V)} {o : HO} (e : H a = some (.ins C dx fs)) : TupS H (upd H a o) := fun b xs h => by
  rw [upd_ne (fun z => by rw [z, e] at h; cases h)]
  exact h
theorem TupS.updD {H : Hp} {a : Addr} {ks : List (Key × V)} {o : HO} (e : H a = some (.dK ks)) : TupS H (upd H a o) := fun b xs h => by
  rw [upd_ne (fun z => by rw [z, e] at h; cases h)]
  exact h
def oV : Option Tx → V
  | none => .non
  | some z => .str z.1
def VerP (H : Hp) (x : V) (v : Ver) : Prop := ∃ a, x = .ref a ∧ H a = some (.tup [.int v.1, oV v.2])
def TldP (H : Hp) (x : V) (t : Vs) : Prop := ∃ a xs, x = .ref a ∧ H a = some (.tup xs) ∧ ItP VerP H xs t
def RowP (H : Hp) (x : V) (r : Rw) : Prop := ∃ a y, x = .ref a ∧ H a = some (.tup [.int r.1, .int r.2.1, y]) ∧ TldP H y r.2.2
section
variable {H H' : Hp} {x : V} {xs : List V}
theorem VerP.keep {v : Ver} (s : TupS H H') (h : VerP H x v) : VerP H' x v := by
  obtain ⟨a, e, z⟩ := h
  exact ⟨a, e, s _ _ z⟩
theorem TldP.keep {t : Vs} (s : TupS H H') (h : TldP H x t) : TldP H' x t := by
  obtain ⟨a, ys, e, z, i⟩ := h
  exact ⟨a, ys, e, s _ _ z, i.imp fun _ _ => VerP.keep s⟩
theorem RowP.keep {r : Rw} (s : TupS H H') (h : RowP H x r) : RowP H' x r := by
  obtain ⟨a, y, e, z, i⟩ := h
  exact ⟨a, y, e, s _ _ z, i.keep s⟩
theorem versKeep {vs : Vs} (s : TupS H H') (h : ItP VerP H xs vs) : ItP VerP H' xs vs := h.imp fun _ _ => VerP.keep s
theorem rowsKeep {rs : List Rw} (s : TupS H H') (h : ItP RowP H xs rs) : ItP RowP H' xs rs := h.imp fun _ _ => RowP.keep s
/-! the data -/
def txD : Option Tx → PyData
  | none => .none
  | some z => .str z.1
def verD (v : Ver) : PyData := .tuple [.int v.1, txD v.2]
def tldD (t : Vs) : PyData := .tuple (t.map verD)
def rowD (r : Rw) : PyData := .tuple [.int r.1, .int r.2.1, tldD r.2.2]
theorem dt_val (o : Option Tx) : Dt H (oV o) (txD o) := by
  cases o with
  | none => exact .non
  | some z => exact .str z.1
theorem VerP.dt {v : Ver} (h : VerP H x v) : Dt H x (verD v) := by
  obtain ⟨a, rfl, e⟩ := h
  exact .tup e (.cons (.int _) (.cons (dt_val _) .nil))
theorem itDt {β : Type} {R : Hp → V → β → Prop} {f : β → PyData} (hf : ∀ x y, R H x y → Dt H x (f y)) : ∀ {xs : List V} {ys : List β}, ItP R H xs ys → DtAll H xs (ys.map f)
  | [], [], _ => .nil
  | [], _ :: _, h => by cases h.1
  | _ :: _, [], h => by cases h.1
  | x :: xs, y :: ys, h => .cons (hf x y (h.2 0 x y rfl rfl)) (itDt hf (xs := xs) (ys := ys) (h.drop 1))
theorem TldP.dt {t : Vs} (h : TldP H x t) : Dt H x (tldD t) := by
  obtain ⟨a, ys, rfl, e, i⟩ := h
  exact .tup e (itDt (fun _ _ => VerP.dt) i)
theorem RowP.dt {r : Rw} (h : RowP H x r) : Dt H x (rowD r) := by
  obtain ⟨a, y, rfl, e, i⟩ := h
  exact .tup e (.cons (.int _) (.cons (.int _) (.cons i.dt .nil)))
end
theorem eqv_val (o p : Option Tx) : PyData.eqv (txD o) (txD p) = decide (o = p) := by
  cases o <;> cases p <;> simp [txD, PyData.eqv]
  rw [Bool.eq_iff_iff, beq_iff_eq, decide_eq_true_iff]
  exact ⟨fun h => Subtype.ext h, fun h => congrArg Subtype.val h⟩
theorem eqv_all {β : Type} [DecidableEq β] {f : β → PyData} (h : ∀ a b, PyData.eqv (f a) (f b) = decide (a = b)) : ∀ xs ys : List β, PyData.eqvAll (xs.map f) (ys.map f) = decide (xs = ys)
  | [], [] => by simp [PyData.eqvAll]
  | [], _ :: _ => by simp [PyData.eqvAll]
  | _ :: _, [] => by simp [PyData.eqvAll]
  | x :: xs, y :: ys => by
    have ih := eqv_all h xs ys
    simp only [List.map_cons, PyData.eqvAll, h, ih]
    rw [Bool.eq_iff_iff]
    simp [List.cons.injEq]
theorem eqv_ver (v w : Ver) : PyData.eqv (verD v) (verD w) = decide (v = w) := by
  have := eqv_val v.2 w.2
  simp only [verD, PyData.eqv, PyData.eqvAll, this]
  rw [Bool.eq_iff_iff]
  simp [Prod.ext_iff]
theorem eqv_tld (s t : Vs) : PyData.eqv (tldD s) (tldD t) = decide (s = t) := by
  simp only [tldD, PyData.eqv]
  exact eqv_all eqv_ver s t
theorem eqv_row (r s : Rw) : PyData.eqv (rowD r) (rowD s) = decide (r = s) := by
  have := eqv_tld r.2.2 s.2.2
  simp only [rowD, PyData.eqv, PyData.eqvAll, this]
  rw [Bool.eq_iff_iff]
  simp [Prod.ext_iff]
def ShN (n : Nat) (d : PyData) : Prop := d.canLay0 = true ∧ d.depth ≤ n
theorem shn_all {β : Type} {f : β → PyData} {n : Nat} (h : ∀ a, ShN n (f a)) : ∀ l : List β, PyData.canLayAll0 (l.map f) = true ∧ PyData.depthAll (l.map f) ≤ n
  | [] => by simp [PyData.canLayAll0, PyData.depthAll]
  | x :: l => by
    obtain ⟨i1, i2⟩ := shn_all h l
    obtain ⟨h1, h2⟩ := h x
    refine ⟨by simp [PyData.canLayAll0, h1, i1], ?_⟩
    simp [PyData.depthAll]
    omega
theorem shn_tup {β : Type} {f : β → PyData} {n : Nat} (h : ∀ a, ShN n (f a)) (l : List β) : ShN (n + 1) (.tuple (l.map f)) := by
  obtain ⟨i1, i2⟩ := shn_all h l
  refine ⟨by simp [PyData.canLay0, i1], ?_⟩
  simp [PyData.depth]
  omega
theorem shn_val (o : Option Tx) : ShN 0 (txD o) := by
  rcases o with _ | ⟨z, hz⟩
  · exact ⟨by simp [txD, PyData.canLay0], by simp [txD, PyData.depth]⟩
  · exact ⟨by simp [txD, PyData.canLay0, hz], by simp [txD, PyData.depth]⟩
theorem shn_ver (v : Ver) : ShN 1 (verD v) := by
  obtain ⟨h1, h2⟩ := shn_val v.2
  exact ⟨by simp [verD, PyData.canLay0, PyData.canLayAll0, h1], by simp [verD, PyData.depth, PyData.depthAll]; omega⟩
theorem shn_tld (t : Vs) : ShN 2 (tldD t) := shn_tup shn_ver t
theorem shn_row (r : Rw) : ShN 3 (rowD r) := by
  obtain ⟨h1, h2⟩ := shn_tld r.2.2
  exact ⟨by simp [rowD, PyData.canLay0, PyData.canLayAll0, h1], by simp [rowD, PyData.depth, PyData.depthAll]; omega⟩
theorem ShN.sh {n : Nat} {d : PyData} (h : ShN n d) (hn : n ≤ 64) : SeqAt.shaped d = true := by
  unfold SeqAt.shaped
  rw [h.1, decide_eq_true (Nat.le_trans h.2 hn)]
  rfl
theorem shaped_ver (v : Ver) : SeqAt.shaped (verD v) = true := (shn_ver v).sh (by decide)
theorem shaped_tld (t : Vs) : SeqAt.shaped (tldD t) = true := (shn_tld t).sh (by decide)
theorem shaped_row (r : Rw) : SeqAt.shaped (rowD r) = true := (shn_row r).sh (by decide)
def rowsD (rs : List Rw) : PyData := .tuple (rs.map rowD)
theorem shaped_rows (rs : List Rw) : SeqAt.shaped (rowsD rs) = true := (shn_tup shn_row rs).sh (by decide)
theorem eqv_rows (a b : List Rw) : PyData.eqv (rowsD a) (rowsD b) = decide (a = b) := by
  simp only [rowsD, PyData.eqv]
  exact eqv_all eqv_row a b
/-! layers -/
def LyF (f l : Int) (G : Addr) : List (Str × V) := [("first", .int f), ("last", .int l), ("rows", .ref G)]
theorem ly_last (f l : Int) (G : Addr) : (LyF f l G).lookup ("last" : Str) = some (V.int l) := by rfl
theorem ly_rows (f l : Int) (G : Addr) : (LyF f l G).lookup ("rows" : Str) = some (V.ref G) := by rfl
theorem put_ly (f l : Int) (G : Addr) : putF "rows" (.ref G) (putF "last" (.int l) (putF "first" (.int f) [])) = LyF f l G := by
  have h1 : ¬ (("first" : Str) = "last") := by decide +kernel
  have h2 : ¬ (("first" : Str) = "rows") := by decide +kernel
  have h3 : ¬ (("last" : Str) = "rows") := by decide +kernel
  have e1 : putF "last" (.int l) (putF "first" (.int f) []) = [(("first" : Str), V.int f), (("last" : Str), V.int l)] := by
    show (if ("first" : Str) = "last" then [(("first" : Str), V.int l)] else (("first" : Str), V.int f) :: putF "last" (V.int l) []) = _
    rw [if_neg h1]
    rfl
  rw [e1]
  show (if ("first" : Str) = "rows" then _ else (("first" : Str), V.int f) :: (if ("last" : Str) = "rows" then _ else (("last" : Str), V.int l) :: putF "rows" (V.ref G) [])) = _
  rw [if_neg h2, if_neg h3]
  rfl
structure LyP (C : Addr) (H : Hp) (x : Addr) (f l : Int) (rs : List Rw) : Prop where
  ex : ∃ dx G ys, H x = some (.ins C dx (LyF f l G)) ∧ H G = some (.tup ys) ∧ ItP RowP H ys rs
theorem LyP.mono {C : Addr} {H H' : Hp} {x : Addr} {f l : Int} {rs : List Rw} (s : Same H H') (h : LyP C H x f l rs) : LyP C H' x f l rs := by
  obtain ⟨dx, G, ys, h1, h2, h3⟩ := h.ex
  exact ⟨dx, G, ys, s _ _ h1, s _ _ h2, rowsKeep (.of s) h3⟩
/-- what is known of a layer's rows: the keys up to m, the days from f to l -/
structure LyOk (m f l : Int) (rs : List Rw) : Prop where
  tidy : Tidy rs
  keys : ∀ r ∈ rs, 0 ≤ r.1 ∧ r.2.1 ≤ m
  days : ∀ r ∈ rs, Desc r.2.2 ∧ ∀ v ∈ r.2.2, f ≤ v.1 ∧ v.1 ≤ l
  fl : 1 ≤ f ∧ f ≤ l
theorem desc_len {vs : Vs} {f l : Int} (h : Desc vs) (hv : ∀ v ∈ vs, f ≤ v.1 ∧ v.1 ≤ l) (hf : f ≤ l + 1) : (vs.length : Int) ≤ l + 1 - f := by
  induction vs generalizing l with
  | nil => show (0 : Int) ≤ _; omega
  | cons v vs ih =>
    have p := List.pairwise_cons.mp h
    have hv0 := hv v List.mem_cons_self
    have := ih (l := v.1 - 1) p.2 (fun w hw => ⟨(hv w (List.mem_cons_of_mem _ hw)).1, by have := p.1 w hw; omega⟩) (by omega)
    show ((vs.length + 1 : Nat) : Int) ≤ _
    omega
theorem asc_len {rs : List Rw} {lo m : Int} (a : Asc rs) (l : ∀ r ∈ rs, r.1 ≤ r.2.1) (h : ∀ r ∈ rs, lo ≤ r.1 ∧ r.2.1 ≤ m) (hm : lo ≤ m + 1) : (rs.length : Int) ≤ m + 1 - lo := by
  induction rs generalizing lo with
  | nil => show (0 : Int) ≤ _; omega
  | cons r rs ih =>
    have p := List.pairwise_cons.mp a
    have l0 := l r List.mem_cons_self
    have h0 := h r List.mem_cons_self
    have := ih (lo := r.2.1 + 1) p.2 (fun x hx => l x (List.mem_cons_of_mem _ hx)) (fun x hx => ⟨by have := p.1 x hx; omega, (h x (List.mem_cons_of_mem _ hx)).2⟩) (by omega)
    show ((rs.length + 1 : Nat) : Int) ≤ _
    omega
theorem LyOk.len {m f l : Int} {rs : List Rw} (h : LyOk m f l rs) (hm : 0 ≤ m) : (rs.length : Int) ≤ m + 1 := by
  have := asc_len (lo := 0) (m := m) h.tidy.asc (fun r hr => (h.tidy.1 r hr).1) (fun r hr => ⟨(h.keys r hr).1, (h.keys r hr).2⟩) (by omega)
  omega
theorem at_days {rs : List Rw} {P : Vs → Prop} (h0 : P []) (h : ∀ r ∈ rs, P r.2.2) (k : Int) : P (atR rs k) := by
  by_cases c : atR rs k = []
  · rw [c]; exact h0
  · obtain ⟨r, hr, _, e⟩ := at_some c
    rw [e]
    exact h r hr
end Sl

set_option Elab.async false
set_option linter.all false
set_option maxRecDepth 100000
set_option maxHeartbeats 8000000
set_option exponentiation.threshold 9000
namespace Sl
open PySem L2 C8 StX Silt LiI RT
local macro_rules | `(tactic| walk_at "side") => `(tactic| first
  | exact cdivw (by omega) (by omega)
  | exact cmulw (by omega) (by omega) (by omega) (by omega)
  | exact Or.inr ⟨by omega, by omega⟩
  | exact Or.inl ⟨by omega, by omega⟩
  | omega
  | exact ⟨by omega, by omega, by decide⟩
  | decide)
local macro_rules | `(tactic| walk_at "rd1") => `(tactic| first
  | with_reducible refine rd_seq ?_
  | with_reducible refine rd_asg ?_
  | with_reducible refine rd_drop ?_
  | with_reducible refine rd_ret ?_
  | with_reducible refine rd_retN ?_
  | with_reducible refine rd_ifS ?_
  | ((with_reducible refine rd_var0 ?_); refine ⟨_, rfl, ?_⟩)
  | with_reducible refine rd_c ?_
  | with_reducible refine rd_op ?_
  | with_reducible refine rd_un ?_
  | with_reducible refine rd_I0 ?_
  | with_reducible refine rd_U ?_
  | ((with_reducible refine rd_I ?c ?_); (case c => walk_at "side"))
  | with_reducible refine rd_ipI ?_
  | with_reducible refine rd_eqI ?_
  | with_reducible refine rd_neI ?_
  | with_reducible refine rd_test ?_
  | with_reducible refine rd_tB ?_
  | with_reducible refine rd_bl ?_
  | with_reducible refine rd_not ?_
  | with_reducible refine rd_and ?_
  | with_reducible refine rd_or ?_
  | with_reducible refine rd_andV ?_
  | with_reducible refine rd_orV ?_
  | with_reducible refine rd_notV ?_
  | with_reducible refine rd_ifE ?_
  | with_reducible refine rd_chain ?_
  | with_reducible refine rd_chain3 ?_
  | with_reducible refine rd_nil ?_
  | with_reducible refine rd_cons ?_
  | with_reducible refine rd_call ?_
  | with_reducible refine rd_CB ?_
  | with_reducible refine rd_par ?_
  | with_reducible refine rd_par2 ?_
  | with_reducible refine rd_par3 ?_
  | with_reducible refine rd_par4 ?_
  | ((with_reducible refine rd_aug0 ?_); refine ⟨_, rfl, ?_⟩)
  | with_reducible refine rd_gname ?_
  | with_reducible refine rd_gcons ?_
  | with_reducible refine rd_gnil ?_
  | with_reducible refine rd_max ?_
  | with_reducible refine rd_min ?_
  | with_reducible refine rd_int1 ?_
  | with_reducible refine rd_abs ?_
  | with_reducible refine rd_lst ?_
  | with_reducible refine rd_tup ?_
  | with_reducible refine rd_bm ?_
  | with_reducible refine rd_fld0 ?_
  | with_reducible refine rd_sl0 ?_
  | with_reducible refine rd_noP ?_
  | with_reducible refine rd_part ?_
  | with_reducible refine rd_part2 ?_
  | with_reducible refine rd_meth0 ?_
  | with_reducible refine rd_star ?_
  | with_reducible refine rd_for ?_
  | with_reducible refine rd_rng1 ?_
  | with_reducible refine rd_rng2 ?_
  | with_reducible refine rd_rng3 ?_
  | with_reducible refine rd_iList ?_
  | with_reducible refine rd_iTup ?_
  | with_reducible refine rd_iEnum ?_
  | with_reducible refine rd_lc ?_
  | with_reducible refine rd_yes ?_
  | with_reducible refine rd_augS ?_
  | with_reducible refine rd_drawNew ?_
  | with_reducible refine rd_make0 ?_
  | with_reducible refine rd_next ?_
  | with_reducible refine rd_break ?_
  | with_reducible refine rd_cont ?_
  | with_reducible refine rd_iteTT ?_
  | with_reducible refine rd_iteFF ?_
  | with_reducible refine rd_iteNTT ?_
  | with_reducible refine rd_iteNFF ?_
  | with_reducible refine rd_con0 ?_
  | with_reducible refine rd_truO0 ?_
  | with_reducible refine rd_gfld0 ?_
  | with_reducible refine rd_dc ?_
  | with_reducible refine rd_iKeys ?_
  | with_reducible refine rd_dget0 ?_
  | with_reducible refine rd_dput0 ?_
  | with_reducible refine rd_dnot0 ?_
  | with_reducible refine rd_iEnumT ?_
  | with_reducible refine rd_raP0 ?_
  | with_reducible refine rd_xf0 ?_
  | with_reducible refine rd_cKw ?_
  | with_reducible refine rd_iStr ?_
  | with_reducible refine rd_gSub ?_
  | with_reducible refine rd_asgG ?_)
local macro_rules | `(tactic| walk_at "rd") => `(tactic| repeat walk_at "rd1")
local macro_rules | `(tactic| walk_at "len") => `(tactic| first
  | (intro vs H Q E h; obtain ⟨h2, _⟩ := h; rw [h2]; rfl)
  | (intro vs H Q E h; obtain ⟨_, h2, _⟩ := h; rw [h2]; rfl)
  | (intro vs H Q E h; obtain ⟨_, _, h2, _⟩ := h; rw [h2]; rfl)
  | (intro vs H Q E h; obtain ⟨_, _, _, h2, _⟩ := h; rw [h2]; rfl)
  | (intro vs H Q E h; obtain ⟨_, _, _, _, h2, _⟩ := h; rw [h2]; rfl)
  | (intro vs H Q E h; obtain ⟨_, _, _, _, _, h2, _⟩ := h; rw [h2]; rfl)
  | (intro vs H Q E h; obtain ⟨_, _, _, _, _, _, h2, _⟩ := h; rw [h2]; rfl)
  | (intro vs H Q E h; obtain ⟨_, _, _, _, _, _, _, h2, _⟩ := h; rw [h2]; rfl)
  | (intro vs H Q E h; obtain ⟨_, _, _, _, _, _, _, _, h2, _⟩ := h; rw [h2]; rfl)
  | (intro vs H Q E h; obtain ⟨_, _, _, _, _, _, _, _, _, h2, _⟩ := h; rw [h2]; rfl)
  | (intro vs H Q E h; obtain ⟨_, _, _, _, _, _, _, _, _, _, h2, _⟩ := h; rw [h2]; rfl)
  | (intro vs H Q E h; obtain ⟨_, _, _, _, _, _, _, _, _, _, _, h2, _⟩ := h; rw [h2]; rfl)
  | (intro vs H Q E h; obtain ⟨_, _, _, _, _, _, _, _, _, _, _, _, h2, _⟩ := h; rw [h2]; rfl))
local macro_rules | `(tactic| walk_at "rd1") => `(tactic| first
  | with_reducible refine rd_iItems ?_)
theorem kt_first_of : SortD.KeyT0 s_first_of "row" := ⟨⟨_, _, _, _, _, by rfl⟩, by rfl, by rfl, by rfl, by rfl, by decide +kernel, by decide +kernel⟩
/-! segments -/
abbrev Seg := Int × Int × Option Tx
def SegP (H : Hp) (x : V) (g : Seg) : Prop := ∃ a, x = .ref a ∧ H a = some (.tup [.int g.1, .int g.2.1, oV g.2.2])
theorem SegP.keep {H H' : Hp} {x : V} {g : Seg} (s : TupS H H') (h : SegP H x g) : SegP H' x g := by
  obtain ⟨a, e, z⟩ := h
  exact ⟨a, e, s _ _ z⟩
def txO : V → Option Tx
  | .str z => if h : PyData.strOk z = true then some ⟨z, h⟩ else none
  | _ => none
theorem sg_ok {z : Str} (h : z.cps.toList.all sgB = true) : PyData.strOk z = true := by
  show z.cps.all _ = true
  rw [← Array.all_toList, List.all_eq_true] at *
  intro x hx
  have := h x hx
  unfold sgB at this
  rw [Bool.or_eq_true, decide_eq_true_iff, decide_eq_true_iff] at this
  refine decide_eq_true ?_
  omega
theorem txO_val {v : V} (h : valB v = true) : ∃ z : Tx, txO v = some z ∧ v = .str z.1 := by
  cases v <;> first | cases h | skip
  rename_i z
  have h : (decide (1 ≤ z.length ∧ z.length ≤ 12) && z.cps.toList.all sgB) = true := h
  rw [Bool.and_eq_true] at h
  exact ⟨⟨z, sg_ok h.2⟩, dif_pos (sg_ok h.2), rfl⟩
theorem oV_txO {v : V} (h : valB v = true) : oV (txO v) = v := by
  obtain ⟨z, e, rfl⟩ := txO_val h
  rw [e]
  rfl
def leafS (q : Int × V) : Seg := (q.1, q.1, txO q.2)
def goneS (r : Iv) : Seg := (r.1, r.2, none)
def segsOf (ls : List (Int × V)) (gs : List Iv) : List Seg := ls.map leafS ++ gs.map goneS
def readS (H : Hp) (a : Addr) : Seg := match H a with
  | some (.tup [.int i, .int j, v]) => (i, j, match v with | .str z => (if h : PyData.strOk z = true then some ⟨z, h⟩ else none) | _ => none)
  | _ => (0, 0, none)
theorem readS_of {H : Hp} {a : Addr} {g : Seg} (e : H a = some (.tup [.int g.1, .int g.2.1, oV g.2.2])) : readS H a = g := by
  obtain ⟨i, j, o⟩ := g
  unfold readS
  rw [e]
  rcases o with _ | ⟨z, hz⟩
  · rfl
  · show (i, j, if h : PyData.strOk z = true then some (⟨z, h⟩ : Tx) else none) = _
    rw [dif_pos hz]
theorem segs_refs {H : Hp} : ∀ {xs : List V} {S : List Seg}, ItP SegP H xs S → ∃ rs : List Addr, xs = rs.map V.ref ∧ rs.map (readS H) = S ∧ ∀ r ∈ rs, H r = some (.tup [.int (readS H r).1, .int (readS H r).2.1, oV (readS H r).2.2])
  | [], [], _ => ⟨[], rfl, rfl, fun r h => by cases h⟩
  | [], _ :: _, h => by cases h.1
  | _ :: _, [], h => by cases h.1
  | x :: xs, g :: S, h => by
    obtain ⟨rs, e1, e2, e3⟩ := segs_refs (xs := xs) (S := S) (h.drop 1)
    obtain ⟨a, rfl, e⟩ := h.2 0 x g rfl rfl
    have z := readS_of e
    refine ⟨a :: rs, by rw [e1]; rfl, by rw [List.map_cons, z, e2], fun r hr => ?_⟩
    rcases List.mem_cons.mp hr with rfl | hr
    · rw [z]; exact e
    · exact e3 r hr
theorem segs_of {H : Hp} : ∀ {rs : List Addr}, (∀ r ∈ rs, H r = some (.tup [.int (readS H r).1, .int (readS H r).2.1, oV (readS H r).2.2])) → ItP SegP H (rs.map V.ref) (rs.map (readS H))
  | [], _ => .nil
  | r :: rs, h => (ItP.one (R := SegP) ⟨r, rfl, h r List.mem_cons_self⟩).append (segs_of (rs := rs) fun x hx => h x (List.mem_cons_of_mem _ hx))
def spSegs (C : Addr) : Sp := fun vs H Q _ => ∃ (x : Addr) (ls : List (Int × V)) (gs : List Iv), vs = [.ref x] ∧ ShP C H x ls gs ∧ ls.length + gs.length ≤ 60 ∧
  ∀ H' p xs S, Same H H' → H p = none → H' p = some (.lst xs) → ItP SegP H' xs S → S.Perm (segsOf ls gs) → S.Pairwise (fun a b => a.1 ≤ b.1) → Q (.ref p) H'
def spChkSh (C : Addr) : Sp := fun vs H Q _ => ∃ (x dx : Addr) (fs : List (Str × V)), vs = [.ref x] ∧ H x = some (.ins C dx fs) ∧ Q .non H
def spChkShX (CX : Addr) : Sp := fun vs H Q E => ∃ (D : Addr) (ls : List (Int × V)), vs = [.ref D] ∧ H D = some (.dK (dV ls)) ∧ E (.ref CX) none H
def spLyI (K : PySem.W.Frag) (C : Addr) : Sp := fun vs H Q _ => ∃ (self dx p : Addr) (f l : Int) (xs : List V) (H0 : Hp), vs = [.ref self, .int f, .int l, .ref p] ∧ Same H0 H ∧ H0 self = none ∧ H self = some (.ins C dx []) ∧ H p = some (.lst xs) ∧
  ∀ H' G, Same H0 H' → TupS H H' → H' self = some (.ins C dx (LyF f l G)) → H' G = some (.tup xs) → Q .non H'
def spLyEq (C : Addr) : Sp := fun vs H Q _ => ∃ (x : Addr) (y : V) (f l : Int) (rs : List Rw), vs = [.ref x, y] ∧ LyP C H x f l rs ∧ ((∃ b f' l' ss, y = .ref b ∧ LyP C H b f' l' ss ∧ ∀ H', Same H H' → Q (.bl (decide (f = f' ∧ l = l' ∧ rs = ss))) H') ∨ ∃ i, y = .int i ∧ Q (.bl false) H)
def spVers (C : Addr) : Sp := fun vs H Q _ => ∃ (x : Addr) (k f l : Int) (rs : List Rw), vs = [.ref x, .int k] ∧ LyP C H x f l rs ∧ (0 ≤ k ∧ k ≤ 999999) ∧ ∀ H' y, Same H H' → TldP H' y (atR rs k) → Q y H'
def hasB (rs : List Rw) (k : Int) : Bool := match rs.head?, rs.getLast? with
  | some r, some s => decide (r.1 ≤ k) && decide (k ≤ s.2.1)
  | _, _ => false
def spHas (C : Addr) : Sp := fun vs H Q _ => ∃ (x : Addr) (k f l : Int) (rs : List Rw), vs = [.ref x, .int k] ∧ LyP C H x f l rs ∧ (0 ≤ k ∧ k ≤ 999999) ∧ rs.length ≤ 1000 ∧ ∀ H', Same H H' → Q (.bl (hasB rs k)) H'
theorem tup_frz {H : Hp} {D : Addr} {od : Obj} {u w : HO} (e : H D = some (.frz od u)) : TupS H (upd H D w) := fun b xs h => by
  rw [upd_ne (fun z => by rw [z, e] at h; cases h)]
  exact h
theorem sub_dict {K : PySem.W.Frag} {C : Addr} : PySem.W.subIn K (.type "dict") (.ref C) = some false := by
  have e : fastBuiltinMro "dict" = some [.type "dict", .type "object"] := by decide +kernel
  show (fastBuiltinMro "dict").map (·.contains (.ref C)) = some false
  rw [e]
  rfl
theorem rd_isiCd {K : PySem.W.Frag} {H : Hp} {Q : VK} {C D : Addr} {kvs : List (Key × V)} (e : H D = some (.dK kvs)) (k : PySem.W.kitOne K (.type "dict") (.ref C) = some false) (h : Q (.bl false) H) : rIsi K [.ref D, .ref C] H Q := ⟨_, _, _, _, false, rfl, .own C, .base (.dK e), k, h⟩
section
variable {P : Program} {w : World} {K : PySem.W.Frag} {mg : Str → Option Value} {base : Heap} {C_Sheet C_Layer C_Pointer C_BadSheet C_BadDay C_BadKey C_BadLayers D_Sheet_0 D_Sheet_1 : Addr}
theorem met_Sheet_segments (T : TX P K mg C_Sheet C_Layer C_Pointer C_BadSheet C_BadDay C_BadKey C_BadLayers D_Sheet_0 D_Sheet_1) : Met P w K mg base 2 C_Sheet "segments" (spSegs C_Sheet) [] := by
  obtain ⟨f0, fd, D, dn, me, _⟩ := T.m_Sheet_segments
  obtain ⟨f_first_of, fd_first_of, D_first_of, dn_first_of⟩ := T.d_first_of
  refine met0 T.cl_Sheet me D (D.binds dn fun _ _ _ _ _ _ us hl => match us, hl with | [_], _ => rfl) sc_Sheet_segments (by walk_at "len") (fun cdv A outer s H vs Q E hr h => ?_)
  obtain ⟨x, ls, gs, rfl, ⟨dx, D, G, ys, h1, h2, h3, h4, h5, h6, h7⟩, hl, k⟩ := h
  refine ⟨_, (pss_cons (ps_lock (ps_setLc (i := 1) (own := [("key", 2), ("value", 3)]) (g := gTup _ 2 (gCons (gName 2) (gCons (gName 3) gNil))) (tt := tYes) rfl sc_Sheet_segments.nd rfl rfl (sw_true rfl rfl rfl (by decide +kernel)) (pi_items (pe_fld (pv 0) rfl)) (blkOk_by (own := [("key", 2), ("value", 3)]) (N := N_Sheet_segments) (sc := fnScope s_Sheet_segments) (by decide +kernel)) (fun _ _ _ _ _ => (pg_tup rfl (pgs_cons (pg_n 2 sc_Sheet_segments.nd) (pgs_cons (pg_n 3 sc_Sheet_segments.nd) pgs_nil)))) (fun _ _ _ _ _ => pts_nil) (fun _ _ _ _ _ => (pe_tup (pa_cons (pv 2) (pa_cons (pv 2) (pa_cons (pv 3) pa_nil)))))))
      (pss_one (ps_ret (pe_callBK (SortD.cr_sortI D_first_of.fn (D_first_of.fn.binds dn_first_of fun _ _ _ _ _ _ us hl => match us, hl with | [_], _ => rfl) kt_first_of (k := 0) (hr.mono (by decide))) (by rfl) T.b_sorted (by decide +kernel) (pa_cons (pe_op op_cat (pv 1) (pe_lc (own := [("low", 4), ("high", 5)]) (g := gTup _ 2 (gCons (gName 4) (gCons (gName 5) gNil))) (tt := tYes) rfl sc_Sheet_segments.nd (pi_tup (pe_fld (pv 0) rfl)) (blkOk_by (own := [("low", 4), ("high", 5)]) (N := N_Sheet_segments) (sc := fnScope s_Sheet_segments) (by decide +kernel)) (fun _ _ _ _ _ => (pg_tup rfl (pgs_cons (pg_n 4 sc_Sheet_segments.nd) (pgs_cons (pg_n 5 sc_Sheet_segments.nd) pgs_nil)))) (fun _ _ _ _ _ => pts_nil) (fun _ _ _ _ _ => (pe_tup (pa_cons (pv 4) (pa_cons (pv 5) (pa_cons pe_non pa_nil))))))) pa_nil) (pk_cons (pe_gc (v := .ref f_first_of) rfl ⟨_, D_first_of.mgf, rfl⟩) pk_nil))))), ?_⟩
  walk_at "rd"
  refine rd_lockS h2 trivial fun od HL eHL eLL => ?_
  have h1L : HL x = some (.ins C_Sheet dx (ShF D G)) := by
    rw [eHL, upd_ne (fun z => by rw [z, h2] at h1; cases h1)]
    exact h1
  walk_at "rd"
  refine rd_fld h1L T.cl_Sheet T.na_Sheet_leaves rfl ?_
  refine rd_itR eLL ?_
  refine lcR_items (fun W i H' => Same HL H' ∧ ∃ xs, H' W = some (.lst xs) ∧ ItP SegP H' xs ((ls.take i).map leafS)) (fun W i H' _ ⟨s, _⟩ => s _ _ eLL) (fun W H' _ s e _ => ⟨s, [], e, .nil⟩) ?_ ?_
  · rintro W i kx z tp H4 H5 hW hj ⟨s4, xs, eW, ip⟩ s45 etp
    obtain ⟨y, hy, rfl⟩ := dV_get hj
    have ekv : kV (Sum.inl y) = V.int y := rfl
    rw [ekv] at etp
    have lx := ip.1
    refine rd_gtup etp rfl ?_
    walk_at "rd"
    refine ⟨rfl, ?_⟩
    walk_at "rd"
    refine rd_newT (by simp) fun t6 H6 _ s6 e6 _ => ?_
    have eW6 := (s45.trans s6) _ _ eW
    refine rd_lcE eW6 (by rw [lx, List.length_map, List.length_take]; omega) fun H7 eH7 eW7 => ?_
    refine ⟨by rw [eH7]; exact Same.mut (s4.trans (s45.trans s6)) hW, xs ++ [.ref t6], eW7, ?_⟩
    rw [List.take_add_one, hy, List.map_append]
    have kp : TupS H6 H7 := by rw [eH7]; exact TupS.updL eW6
    refine (ip.imp fun _ _ h => SegP.keep ((TupS.of (s45.trans s6)).trans kp) h).snoc ⟨t6, rfl, kp _ _ ?_⟩
    rw [e6]
    have := oV_txO (h4 _ (List.mem_of_getElem? hy))
    show _ = some (HO.tup [.int y, .int y, oV (txO z)])
    rw [this]
  · rintro W H4 hW ⟨s4, xs, eW, ip⟩
    rw [dV_len, List.take_length] at ip
    have hWD : W ≠ D := fun z => by rw [z, eLL] at hW; cases hW
    walk_at "rd"
    refine ⟨s4 _ _ eLL, ?_⟩
    obtain ⟨H5, eH5⟩ : ∃ H5, H5 = upd H4 D (.dK (dV ls)) := ⟨_, rfl⟩
    rw [← eH5]
    have s5 : Same H H5 := by
      rw [eH5]
      refine Same.unlock h2 (o := .frz od (.dK (dV ls))) ?_
      rw [← eHL]
      exact s4
    have eW5 : H5 W = some (.lst xs) := by rw [eH5, upd_ne hWD]; exact eW
    have ip5 : ItP SegP H5 xs (ls.map leafS) := ip.imp fun _ _ h => SegP.keep (by rw [eH5]; exact tup_frz (s4 _ _ eLL)) h
    walk_at "rd"
    refine rd_fld (s5 _ _ h1) T.cl_Sheet T.na_Sheet_gone (sh_gone D G) ?_
    walk_at "rd"
    refine rd_tpR (SqT.of (s5 _ _ h5)) ?_
    refine lcR_tup (xs := ys) (fun W2 i H' => Same H5 H' ∧ ∃ zs, H' W2 = some (.lst zs) ∧ ItP SegP H' zs ((gs.take i).map goneS)) (fun W2 i H' _ ⟨s, _⟩ => SqT.of ((s5.trans s) _ _ h5)) (fun W2 H' _ s e _ => ⟨s, [], e, .nil⟩) ?_ ?_
    · rintro W2 j y H6 hW2 hy ⟨s6, zs, eW2, ipz⟩
      obtain ⟨r, t, hr, rfl, et⟩ := (h6.mono (s5.trans s6)).getV hy
      have hj := (List.getElem?_eq_some_iff.mp hr).1
      have lz := ipz.1
      refine rd_gtup et rfl ?_
      walk_at "rd"
      refine ⟨rfl, ?_⟩
      walk_at "rd"
      refine rd_newT (by simp) fun t7 H7 _ s7 e7 _ => ?_
      have eW7 := s7 _ _ eW2
      refine rd_lcE eW7 (by rw [lz, List.length_map, List.length_take]; omega) fun H8 eH8 eW8 => ?_
      refine ⟨by rw [eH8]; exact Same.mut (s6.trans s7) hW2, zs ++ [.ref t7], eW8, ?_⟩
      rw [List.take_add_one, hr, List.map_append]
      have kp : TupS H7 H8 := by rw [eH8]; exact TupS.updL eW7
      exact (ipz.imp fun _ _ h => SegP.keep ((TupS.of s7).trans kp) h).snoc ⟨t7, rfl, kp _ _ e7⟩
    · rintro W2 H6 hW2 ⟨s6, zs, eW2, ipz⟩
      have lx := ip5.1
      have lz := ipz.1
      rw [h6.1, List.take_length] at ipz lz
      rw [List.length_map] at lx lz
      walk_at "rd"
      refine rd_cat (s6 _ _ eW5) eW2 (by omega) fun p H7 hp s7 ep _ => ?_
      have ipA : ItP SegP H7 (xs ++ zs) (segsOf ls gs) := (ip5.imp fun _ _ h => SegP.keep (.of (s6.trans s7)) h).append (ipz.imp fun _ _ h => SegP.keep (.of s7) h)
      obtain ⟨rs, e1, e2, e3⟩ := segs_refs ipA
      rw [e1] at ep
      have lr : rs.length = (segsOf ls gs).length := by rw [← e2, List.length_map]
      walk_at "rd"
      refine ⟨p, rs, fun a => (readS H7 a).1, rfl, rfl, ep, fun r hr => ⟨_, e3 r hr⟩, by rw [lr]; unfold segsOf; rw [List.length_append, List.length_map, List.length_map]; omega, fun q rs' pm pw hq => ?_⟩
      have s8 : Same H7 (upd H7 q (.lst (rs'.map V.ref))) := Same.new (Same.refl H7) hq
      have s18 : Same H (upd H7 q (.lst (rs'.map V.ref))) := s5.trans (s6.trans (s7.trans s8))
      have hq0 : H q = none := none_back (s5.trans (s6.trans s7)) hq
      refine k _ q _ (rs'.map (readS H7)) s18 hq0 upd_same ?_ (by rw [← e2]; exact pm.map _) (List.pairwise_map.mpr pw)
      exact (segs_of fun r hr => e3 r (pm.subset hr)).imp fun _ _ h => SegP.keep (.of s8) h
theorem cal_check_sheet (T : TX P K mg C_Sheet C_Layer C_Pointer C_BadSheet C_BadDay C_BadKey C_BadLayers D_Sheet_0 D_Sheet_1) : Cal P w K mg base 1 "check_sheet" (spChkSh C_Sheet) [] := by
  obtain ⟨f0, fd, D, dn⟩ := T.d_check_sheet
  refine cal0 D (D.fn.binds dn fun _ _ _ _ _ _ us hl => match us, hl with | [_], _ => rfl) .nil sc_check_sheet (by walk_at "len") (fun cdv A outer s H vs Q E hr h => ?_)
  obtain ⟨x, dx, fs, rfl, e, k⟩ := h
  refine ⟨_, (pss_one (ps_if (pt_not (pt_val (pe_callB (cr_isC T.i_Sheet) (by rfl) T.b_isinstance (by decide +kernel) (pa_cons (pv 0) (pa_cons (pe_gc rfl T.g_Sheet) pa_nil))))) (pss_one ps_never) pss_nil)), ?_⟩
  walk_at "rd"
  refine rd_isC e ?_
  walk_at "rd"
  exact k
theorem xal_check_sheet (T : TX P K mg C_Sheet C_Layer C_Pointer C_BadSheet C_BadDay C_BadKey C_BadLayers D_Sheet_0 D_Sheet_1) : CalX P w K mg base 1 "check_sheet" (spChkShX C_BadSheet) [] := by
  obtain ⟨f0, fd, D, dn⟩ := T.d_check_sheet
  refine calX0 D (D.fn.binds dn fun _ _ _ _ _ _ us hl => match us, hl with | [_], _ => rfl) .nil sc_check_sheet (by walk_at "len") (fun cdv A outer s H vs Q E hr h => ?_)
  obtain ⟨D, ls, rfl, e, k⟩ := h
  refine ⟨_, (pss_one (ps_if (pt_not (pt_val (pe_callB call_isi (by rfl) T.b_isinstance (by decide +kernel) (pa_cons (pv 0) (pa_cons (pe_gc rfl T.g_Sheet) pa_nil))))) (pss_one (ps_raiseO rfl (takes_of rfl rfl rfl rfl) T.x_BadSheet T.mg_BadSheet rfl)) pss_nil)), ?_⟩
  walk_at "rd"
  refine rd_isiCd e (T.nk_Sheet _ sub_dict) ?_
  walk_at "rd"
  exact rd_raise k
end
end Sl

set_option Elab.async false
set_option linter.all false
set_option maxRecDepth 100000
set_option maxHeartbeats 8000000
set_option exponentiation.threshold 9000
namespace Sl
open PySem L2 C8 StX Silt LiI RT
local macro_rules | `(tactic| walk_at "side") => `(tactic| first
  | exact cdivw (by omega) (by omega)
  | exact cmulw (by omega) (by omega) (by omega) (by omega)
  | exact Or.inr ⟨by omega, by omega⟩
  | exact Or.inl ⟨by omega, by omega⟩
  | omega
  | exact ⟨by omega, by omega, by decide⟩
  | decide)
local macro_rules | `(tactic| walk_at "rd1") => `(tactic| first
  | with_reducible refine rd_seq ?_
  | with_reducible refine rd_asg ?_
  | with_reducible refine rd_drop ?_
  | with_reducible refine rd_ret ?_
  | with_reducible refine rd_retN ?_
  | with_reducible refine rd_ifS ?_
  | ((with_reducible refine rd_var0 ?_); refine ⟨_, rfl, ?_⟩)
  | with_reducible refine rd_c ?_
  | with_reducible refine rd_op ?_
  | with_reducible refine rd_un ?_
  | with_reducible refine rd_I0 ?_
  | with_reducible refine rd_U ?_
  | ((with_reducible refine rd_I ?c ?_); (case c => walk_at "side"))
  | with_reducible refine rd_ipI ?_
  | with_reducible refine rd_eqI ?_
  | with_reducible refine rd_neI ?_
  | with_reducible refine rd_test ?_
  | with_reducible refine rd_tB ?_
  | with_reducible refine rd_bl ?_
  | with_reducible refine rd_not ?_
  | with_reducible refine rd_and ?_
  | with_reducible refine rd_or ?_
  | with_reducible refine rd_andV ?_
  | with_reducible refine rd_orV ?_
  | with_reducible refine rd_notV ?_
  | with_reducible refine rd_ifE ?_
  | with_reducible refine rd_chain ?_
  | with_reducible refine rd_chain3 ?_
  | with_reducible refine rd_nil ?_
  | with_reducible refine rd_cons ?_
  | with_reducible refine rd_call ?_
  | with_reducible refine rd_CB ?_
  | with_reducible refine rd_par ?_
  | with_reducible refine rd_par2 ?_
  | with_reducible refine rd_par3 ?_
  | with_reducible refine rd_par4 ?_
  | ((with_reducible refine rd_aug0 ?_); refine ⟨_, rfl, ?_⟩)
  | with_reducible refine rd_gname ?_
  | with_reducible refine rd_gcons ?_
  | with_reducible refine rd_gnil ?_
  | with_reducible refine rd_max ?_
  | with_reducible refine rd_min ?_
  | with_reducible refine rd_int1 ?_
  | with_reducible refine rd_abs ?_
  | with_reducible refine rd_lst ?_
  | with_reducible refine rd_tup ?_
  | with_reducible refine rd_bm ?_
  | with_reducible refine rd_fld0 ?_
  | with_reducible refine rd_sl0 ?_
  | with_reducible refine rd_noP ?_
  | with_reducible refine rd_part ?_
  | with_reducible refine rd_part2 ?_
  | with_reducible refine rd_meth0 ?_
  | with_reducible refine rd_star ?_
  | with_reducible refine rd_for ?_
  | with_reducible refine rd_rng1 ?_
  | with_reducible refine rd_rng2 ?_
  | with_reducible refine rd_rng3 ?_
  | with_reducible refine rd_iList ?_
  | with_reducible refine rd_iTup ?_
  | with_reducible refine rd_iEnum ?_
  | with_reducible refine rd_lc ?_
  | with_reducible refine rd_yes ?_
  | with_reducible refine rd_augS ?_
  | with_reducible refine rd_drawNew ?_
  | with_reducible refine rd_make0 ?_
  | with_reducible refine rd_next ?_
  | with_reducible refine rd_break ?_
  | with_reducible refine rd_cont ?_
  | with_reducible refine rd_iteTT ?_
  | with_reducible refine rd_iteFF ?_
  | with_reducible refine rd_iteNTT ?_
  | with_reducible refine rd_iteNFF ?_
  | with_reducible refine rd_con0 ?_
  | with_reducible refine rd_truO0 ?_
  | with_reducible refine rd_gfld0 ?_
  | with_reducible refine rd_dc ?_
  | with_reducible refine rd_iKeys ?_
  | with_reducible refine rd_dget0 ?_
  | with_reducible refine rd_dput0 ?_
  | with_reducible refine rd_dnot0 ?_
  | with_reducible refine rd_iEnumT ?_
  | with_reducible refine rd_raP0 ?_
  | with_reducible refine rd_xf0 ?_
  | with_reducible refine rd_cKw ?_
  | with_reducible refine rd_iStr ?_
  | with_reducible refine rd_gSub ?_
  | with_reducible refine rd_asgG ?_)
local macro_rules | `(tactic| walk_at "rd") => `(tactic| repeat walk_at "rd1")
local macro_rules | `(tactic| walk_at "len") => `(tactic| first
  | (intro vs H Q E h; obtain ⟨h2, _⟩ := h; rw [h2]; rfl)
  | (intro vs H Q E h; obtain ⟨_, h2, _⟩ := h; rw [h2]; rfl)
  | (intro vs H Q E h; obtain ⟨_, _, h2, _⟩ := h; rw [h2]; rfl)
  | (intro vs H Q E h; obtain ⟨_, _, _, h2, _⟩ := h; rw [h2]; rfl)
  | (intro vs H Q E h; obtain ⟨_, _, _, _, h2, _⟩ := h; rw [h2]; rfl)
  | (intro vs H Q E h; obtain ⟨_, _, _, _, _, h2, _⟩ := h; rw [h2]; rfl)
  | (intro vs H Q E h; obtain ⟨_, _, _, _, _, _, h2, _⟩ := h; rw [h2]; rfl)
  | (intro vs H Q E h; obtain ⟨_, _, _, _, _, _, _, h2, _⟩ := h; rw [h2]; rfl)
  | (intro vs H Q E h; obtain ⟨_, _, _, _, _, _, _, _, h2, _⟩ := h; rw [h2]; rfl)
  | (intro vs H Q E h; obtain ⟨_, _, _, _, _, _, _, _, _, h2, _⟩ := h; rw [h2]; rfl)
  | (intro vs H Q E h; obtain ⟨_, _, _, _, _, _, _, _, _, _, h2, _⟩ := h; rw [h2]; rfl)
  | (intro vs H Q E h; obtain ⟨_, _, _, _, _, _, _, _, _, _, _, h2, _⟩ := h; rw [h2]; rfl)
  | (intro vs H Q E h; obtain ⟨_, _, _, _, _, _, _, _, _, _, _, _, h2, _⟩ := h; rw [h2]; rfl))
theorem put_ly2 (f l : Int) : putF "last" (.int l) (putF "first" (.int f) []) = [(("first" : Str), V.int f), (("last" : Str), V.int l)] := by
  have h1 : ¬ (("first" : Str) = "last") := by decide +kernel
  show (if ("first" : Str) = "last" then [(("first" : Str), V.int l)] else (("first" : Str), V.int f) :: putF "last" (V.int l) []) = _
  rw [if_neg h1]
  rfl
def lyD (f l : Int) (rs : List Rw) : PyData := .tuple [.int f, .int l, rowsD rs]
theorem eqv_ly (f l f' l' : Int) (rs ss : List Rw) : PyData.eqv (lyD f l rs) (lyD f' l' ss) = decide (f = f' ∧ l = l' ∧ rs = ss) := by
  have := eqv_rows rs ss
  simp only [lyD, PyData.eqv, PyData.eqvAll, this]
  rw [Bool.eq_iff_iff]
  simp
theorem shaped_ly (f l : Int) (rs : List Rw) : SeqAt.shaped (lyD f l rs) = true := by
  obtain ⟨h1, h2⟩ := shn_tup shn_row rs
  refine ShN.sh (n := 5) ⟨?_, ?_⟩ (by decide)
  · simp [lyD, rowsD, PyData.canLay0, PyData.canLayAll0] at *
    exact h1
  · simp [lyD, rowsD, PyData.depth, PyData.depthAll] at *
    omega
theorem rows_dt {H : Hp} {G : Addr} {ys : List V} {rs : List Rw} (e : H G = some (.tup ys)) (i : ItP RowP H ys rs) : Dt H (.ref G) (rowsD rs) := .tup e (itDt (fun _ _ => RowP.dt) i)
def laySeg (d : Int) (g : Seg) : Rw := (g.1, g.2.1, [(d, g.2.2)])
def spLayOf (C CL : Addr) : Sp := fun vs H Q _ => ∃ (d : Int) (x : Addr) (ls : List (Int × V)) (gs : List Iv), vs = [.int d, .ref x] ∧ 1 ≤ d ∧ ShP C H x ls gs ∧ ls.length + gs.length ≤ 60 ∧
  ∀ H' y (S : List Seg), Same H H' → H y = none → LyP CL H' y d d (S.map (laySeg d)) → S.Perm (segsOf ls gs) → S.Pairwise (fun a b => a.1 ≤ b.1) → Q (.ref y) H'
theorem hasB_at {rs : List Rw} {k : Int} {r s : Rw} (h1 : rs.head? = some r) (h2 : rs.getLast? = some s) : hasB rs k = (decide (r.1 ≤ k) && decide (k ≤ s.2.1)) := by
  unfold hasB
  rw [h1, h2]
section
variable {P : Program} {w : World} {K : PySem.W.Frag} {mg : Str → Option Value} {base : Heap} {C_Sheet C_Layer C_Pointer C_BadSheet C_BadDay C_BadKey C_BadLayers D_Sheet_0 D_Sheet_1 : Addr}
theorem mak_Layer_init (T : TX P K mg C_Sheet C_Layer C_Pointer C_BadSheet C_BadDay C_BadKey C_BadLayers D_Sheet_0 D_Sheet_1) : Mak P w K mg base 1 "Layer" C_Layer (spLyI K C_Layer) [] := by
  obtain ⟨f0, fd, D, dn, mk⟩ := T.m_Layer_init
  refine mak0 mk T.mg_Layer D (D.binds dn fun _ _ _ _ _ _ us hl => match us, hl with | [_, _, _, _], _ => rfl) .nil sc_Layer_init (by walk_at "len") (fun cdv A outer s H vs Q E hr h => ?_)
  obtain ⟨self, dx, p, f, l, xs, H0, rfl, s0, h0, e, ep, k⟩ := h
  refine ⟨_, (pss_cons (ps_asg (pv 1) (pg_attr (pv 0)))
      (pss_cons (ps_asg (pv 2) (pg_attr (pv 0)))
      (pss_one (ps_asg (pe_callTy cr_tupOf (by rfl) T.b_tuple (by decide +kernel) (pa_cons (pv 3) pa_nil)) (pg_attr (pv 0)))))), ?_⟩
  walk_at "rd"
  refine rd_gfld e T.cl_Layer T.na_Layer_first (by decide) fun H1 eH1 e1 => ?_
  walk_at "rd"
  refine rd_gfld e1 T.cl_Layer T.na_Layer_last (by show 1 < 1000; decide) fun H2 eH2 e2 => ?_
  walk_at "rd"
  have hps : p ≠ self := fun z => by rw [z, e] at ep; cases ep
  have ep2 : H2 p = some (.lst xs) := by rw [eH2, upd_ne hps, eH1, upd_ne hps]; exact ep
  refine rd_tupOfL ep2 fun G H3 hG s3 eG _ => ?_
  walk_at "rd"
  have hGs : G ≠ self := fun z => by rw [z, e2] at hG; cases hG
  refine rd_gfld (s3 _ _ e2) T.cl_Layer T.na_Layer_rows (by rw [put_ly2]; show 2 < 1000; decide) fun H4 eH4 e4 => ?_
  rw [put_ly] at e4
  have s02 : Same H0 H2 := by rw [eH2, eH1]; exact Same.mut (Same.mut s0 h0) h0
  refine k H4 G ?_ ?_ e4 (by rw [eH4, upd_ne hGs]; exact eG)
  · rw [eH4]
    exact Same.mut (s02.trans s3) h0
  · have t1 : TupS H H1 := by rw [eH1]; exact TupS.updI e
    have t2 : TupS H1 H2 := by rw [eH2]; exact TupS.updI e1
    have t4 : TupS H3 H4 := by rw [eH4]; exact TupS.updI (s3 _ _ e2)
    exact t1.trans (t2.trans ((TupS.of s3).trans t4))
theorem met_Layer_eq (T : TX P K mg C_Sheet C_Layer C_Pointer C_BadSheet C_BadDay C_BadKey C_BadLayers D_Sheet_0 D_Sheet_1) : Met P w K mg base 1 C_Layer "__eq__" (spLyEq C_Layer) [] := by
  obtain ⟨f0, fd, D, dn, me, _⟩ := T.m_Layer_eq
  refine met0 T.cl_Layer me D (D.binds dn fun _ _ _ _ _ _ us hl => match us, hl with | [_, _], _ => rfl) sc_Layer_eq (by walk_at "len") (fun cdv A outer s H vs Q E hr h => ?_)
  obtain ⟨x, y, f, l, rs, rfl, ly, h⟩ := h
  obtain ⟨dx, G, ys, h1, h2, h3⟩ := ly.ex
  rcases h with ⟨b, f', l', ss, rfl, ly', k⟩ | ⟨i, rfl, k⟩
  · obtain ⟨dx', G', ys', h1', h2', h3'⟩ := ly'.ex
    refine ⟨_, (pss_cons (ps_if (pt_not (pt_val (pe_callB call_isi (by rfl) T.b_isinstance (by decide +kernel) (pa_cons (pv 1) (pa_cons (pe_gc rfl T.g_Layer) pa_nil))))) (pss_one (ps_ret pe_bl)) pss_nil)
      (pss_one (ps_ret (pe_cmpR (op_eqD hr.units) (pe_tup (pa_cons (pe_fld (pv 0) rfl) (pa_cons (pe_fld (pv 0) rfl) (pa_cons (pe_fld (pv 0) rfl) pa_nil)))) (pe_tup (pa_cons (pe_fld (pv 1) rfl) (pa_cons (pe_fld (pv 1) rfl) (pa_cons (pe_fld (pv 1) rfl) pa_nil)))) (nomark _))))), ?_⟩
    walk_at "rd"
    refine rd_isiC T.i_Layer h1' ?_
    walk_at "rd"
    refine rd_fld h1 T.cl_Layer T.na_Layer_first rfl ?_
    walk_at "rd"
    refine rd_fld h1 T.cl_Layer T.na_Layer_last (ly_last f l G) ?_
    walk_at "rd"
    refine rd_fld h1 T.cl_Layer T.na_Layer_rows (ly_rows f l G) ?_
    walk_at "rd"
    refine rd_newT (by simp) fun t1 H1 _ s1 e1 _ => ?_
    walk_at "rd"
    refine rd_fld (s1 _ _ h1') T.cl_Layer T.na_Layer_first rfl ?_
    walk_at "rd"
    refine rd_fld (s1 _ _ h1') T.cl_Layer T.na_Layer_last (ly_last f' l' G') ?_
    walk_at "rd"
    refine rd_fld (s1 _ _ h1') T.cl_Layer T.na_Layer_rows (ly_rows f' l' G') ?_
    walk_at "rd"
    refine rd_newT (by simp) fun t2 H2 _ s2 e2 _ => ?_
    have s12 := s1.trans s2
    refine rd_eqD (d := lyD f l rs) (e := lyD f' l' ss) (.tup (s2 _ _ e1) (.cons (.int _) (.cons (.int _) (.cons (rows_dt (s12 _ _ h2) (rowsKeep (.of s12) h3)) .nil)))) (.tup e2 (.cons (.int _) (.cons (.int _) (.cons (rows_dt (s12 _ _ h2') (rowsKeep (.of s12) h3')) .nil)))) (shaped_ly _ _ _) (shaped_ly _ _ _) ?_
    rw [eqv_ly]
    exact k H2 s12
  · refine ⟨_, (pss_cons (ps_if (pt_not (pt_val (pe_callB call_isi (by rfl) T.b_isinstance (by decide +kernel) (pa_cons (pv 1) (pa_cons (pe_gc rfl T.g_Layer) pa_nil))))) (pss_one (ps_ret pe_bl)) pss_nil)
      (pss_one (ps_ret (pe_cmpR (op_eqD hr.units) (pe_tup (pa_cons (pe_fld (pv 0) rfl) (pa_cons (pe_fld (pv 0) rfl) (pa_cons (pe_fld (pv 0) rfl) pa_nil)))) (pe_tup (pa_cons (pe_fld (pv 1) rfl) (pa_cons (pe_fld (pv 1) rfl) (pa_cons (pe_fld (pv 1) rfl) pa_nil)))) (nomark _))))), ?_⟩
    walk_at "rd"
    refine rd_isiCi (T.nk_Layer _ sub_int) ?_
    walk_at "rd"
    exact k
theorem met_Layer_versions (T : TX P K mg C_Sheet C_Layer C_Pointer C_BadSheet C_BadDay C_BadKey C_BadLayers D_Sheet_0 D_Sheet_1) : Met P w K mg base 4 C_Layer "versions" (spVers C_Layer) [] := by
  obtain ⟨f0, fd, D, dn, me, _⟩ := T.m_Layer_versions
  have G_check_key := cal_check_key (P := P) (w := w) (base := base) T
  refine met0 T.cl_Layer me D (D.binds dn fun _ _ _ _ _ _ us hl => match us, hl with | [_, _], _ => rfl) sc_Layer_versions (by walk_at "len") (fun cdv A outer s H vs Q E hr h => ?_)
  obtain ⟨x, k0, f, l, rs, rfl, ly, hk, k⟩ := h
  obtain ⟨dx, G, ys, h1, h2, h3⟩ := ly.ex
  refine ⟨_, (pss_cons (ps_expr (pe_c G_check_key hr (by decide) rfl (pa_cons (pv 1) pa_nil)))
      (pss_cons (ps_for PassesOwn.never rfl (pi_tup (pe_fld (pv 0) rfl)) (pg_tup rfl (pgs_cons (pg_n 2 sc_Layer_versions.nd) (pgs_cons (pg_n 3 sc_Layer_versions.nd) (pgs_cons (pg_n 4 sc_Layer_versions.nd) pgs_nil)))) (pss_one (ps_if (pt_chain op_le op_le (pv 2) (pv 1) (pv 3)) (pss_one (ps_ret (pv 4))) pss_nil)))
      (pss_one (ps_ret (pe_tup pa_nil))))), ?_⟩
  walk_at "rd"
  refine ⟨.int k0, rfl, decide_eq_true hk, ?_⟩
  walk_at "rd"
  refine rd_fld h1 T.cl_Layer T.na_Layer_rows (ly_rows f l G) ?_
  walk_at "rd"
  refine rd_tpR (SqT.of h2) ?_
  refine forR_tup (xs := ys) (fun i σ H' => Same H H' ∧ (∀ r ∈ rs.take i, ¬ hasK r k0) ∧ ∃ v2 v3 v4, σ = [some (.ref x), some (.int k0), v2, v3, v4]) (fun i σ H' ⟨s, _⟩ => SqT.of (s _ _ h2)) ⟨Same.refl H, (fun r h => by cases h), _, _, _, rfl⟩ ?_ ?_
  · rintro i y σ H1 hy ⟨s1, hn, v2, v3, v4, rfl⟩
    obtain ⟨r, hr, a, w, rfl, ea, td⟩ := (rowsKeep (.of s1) h3).getV hy
    refine rd_gtup ea rfl ?_
    walk_at "rd"
    have fin : ¬ hasK r k0 → ∀ z ∈ rs.take (i + 1), ¬ hasK z k0 := by
      intro c z hz
      rw [List.take_add_one, hr] at hz
      rcases List.mem_append.mp hz with q | q
      · exact hn z q
      · have : z = r := by simpa using q
        rw [this]
        exact c
    have at_ : hasK r k0 → atR rs k0 = r.2.2 := by
      intro c
      have e : rs = rs.take i ++ r :: rs.drop (i + 1) := by
        obtain ⟨hi, e⟩ := List.getElem?_eq_some_iff.mp hr
        have := List.take_append_drop i rs
        rw [List.drop_eq_getElem_cons hi, e] at this
        exact this.symm
      rw [e]
      clear e
      revert hn
      generalize rs.take i = pre
      intro hn
      induction pre with
      | nil =>
        show (if hasK r k0 then _ else _) = _
        rw [if_pos c]
      | cons z pre ih =>
        show (if hasK z k0 then _ else _) = _
        rw [if_neg (hn z List.mem_cons_self)]
        exact ih fun q hq => hn q (List.mem_cons_of_mem _ hq)
    refine rd_ite (fun c => ?_) (fun c => ?_)
    · walk_at "rd"
      refine rd_ite (fun c2 => ?_) (fun c2 => ?_)
      · walk_at "rd"
        exact k H1 w s1 (by rw [at_ ⟨c, c2⟩]; exact td)
      · walk_at "rd"
        exact ⟨s1, fin (fun z => c2 z.2), _, _, _, rfl⟩
    · walk_at "rd"
      exact ⟨s1, fin (fun z => c z.1), _, _, _, rfl⟩
  · rintro σ H1 ⟨s1, hn, v2, v3, v4, rfl⟩
    rw [h3.1, List.take_length] at hn
    walk_at "rd"
    refine rd_newT (by simp) fun t H2 _ s2 et _ => ?_
    refine k H2 _ (s1.trans s2) ?_
    rw [at_no hn]
    exact ⟨t, [], rfl, et, .nil⟩
theorem met_Layer_has (T : TX P K mg C_Sheet C_Layer C_Pointer C_BadSheet C_BadDay C_BadKey C_BadLayers D_Sheet_0 D_Sheet_1) : Met P w K mg base 4 C_Layer "has" (spHas C_Layer) [] := by
  obtain ⟨f0, fd, D, dn, me, _⟩ := T.m_Layer_has
  have G_check_key := cal_check_key (P := P) (w := w) (base := base) T
  refine met0 T.cl_Layer me D (D.binds dn fun _ _ _ _ _ _ us hl => match us, hl with | [_, _], _ => rfl) sc_Layer_has (by walk_at "len") (fun cdv A outer s H vs Q E hr h => ?_)
  obtain ⟨x, k0, f, l, rs, rfl, ly, hk, hl, k⟩ := h
  obtain ⟨dx, G, ys, h1, h2, h3⟩ := ly.ex
  have lx := h3.1
  refine ⟨_, (pss_cons (ps_expr (pe_c G_check_key hr (by decide) rfl (pa_cons (pv 1) pa_nil)))
      (pss_one (ps_ret (pe_and (pe_cmpR (op_neD hr.units) (pe_fld (pv 0) rfl) (pe_tup pa_nil) (nomark _)) (pe_one (pe_chain op_le op_le (pe_ix ix_tup (pe_ix ix_tup (pe_fld (pv 0) rfl) pe_int (fun _ _ => rfl)) pe_int (fun _ _ => rfl)) (pv 1) (pe_ix ix_tup (pe_ix ix_tup (pe_fld (pv 0) rfl) (pe_un un_neg pe_int) (fun _ _ => rfl)) pe_int (fun _ _ => rfl)))))))), ?_⟩
  walk_at "rd"
  refine ⟨.int k0, rfl, decide_eq_true hk, ?_⟩
  walk_at "rd"
  refine rd_fld h1 T.cl_Layer T.na_Layer_rows (ly_rows f l G) ?_
  walk_at "rd"
  refine rd_newT (by simp) fun u H1 _ s1 eu _ => ?_
  refine rd_neD (d := rowsD rs) (e := rowsD []) (rows_dt (s1 _ _ h2) (rowsKeep (.of s1) h3)) (.tup eu .nil) (shaped_rows _) (shaped_rows _) ?_
  rw [eqv_rows]
  by_cases c : rs = []
  · subst c
    refine ⟨false, rfl, ?_⟩
    walk_at "rd"
    exact k H1 s1
  · rw [decide_eq_false c]
    refine ⟨true, rfl, ?_⟩
    walk_at "rd"
    have hp : 0 < rs.length := List.length_pos_iff.mpr c
    obtain ⟨r, hr⟩ : ∃ r, rs[0]? = some r := ⟨_, List.getElem?_eq_getElem hp⟩
    obtain ⟨g, s, hs⟩ : ∃ g s, rs = g ++ [s] := by
      rcases List.eq_nil_or_concat rs with z | ⟨g, s, z⟩
      · exact absurd z c
      · exact ⟨g, s, by rw [z, List.concat_eq_append]⟩
    obtain ⟨y0, hy0, a0, w0, rfl, ea0, _⟩ := (rowsKeep (.of s1) h3).get hr
    obtain ⟨zs, y9, ey, _, a9, w9, rfl, ea9, _⟩ := ItP.last (by rw [← hs]; exact rowsKeep (.of s1) h3)
    have hb := hasB_at (k := k0) (rs := rs) (r := r) (s := s) (by rw [List.head?_eq_getElem?]; exact hr) (by rw [hs]; simp)
    refine rd_fld (s1 _ _ h1) T.cl_Layer T.na_Layer_rows (ly_rows f l G) ?_
    walk_at "rd"
    refine rd_ixT (s1 _ _ h2) (atI_nat' (i := 0) hy0) ?_
    walk_at "rd"
    refine rd_ixT ea0 (atI_nat' (i := 0) rfl) ?_
    walk_at "rd"
    refine rd_ite (fun c1 => ?_) (fun c1 => ?_)
    · walk_at "rd"
      refine rd_fld (s1 _ _ h1) T.cl_Layer T.na_Layer_rows (ly_rows f l G) ?_
      walk_at "rd"
      refine rd_ixT (s1 _ _ h2) (v := .ref a9) (by rw [ey]; exact atI_last _ _) ?_
      walk_at "rd"
      refine rd_ixT ea9 (atI_nat' (i := 1) rfl) ?_
      have := k H1 s1
      rw [hb, decide_eq_true c1, Bool.true_and] at this
      walk_at "rd"
      exact this
    · have := k H1 s1
      rw [hb, decide_eq_false c1, Bool.false_and] at this
      exact this
theorem cal_layer_of (T : TX P K mg C_Sheet C_Layer C_Pointer C_BadSheet C_BadDay C_BadKey C_BadLayers D_Sheet_0 D_Sheet_1) : Cal P w K mg base 3 "layer_of" (spLayOf C_Sheet C_Layer) [] := by
  obtain ⟨f0, fd, D, dn⟩ := T.d_layer_of
  have G_is_whole := cal_is_whole (P := P) (w := w) (base := base) T
  have G_check_sheet := cal_check_sheet (P := P) (w := w) (base := base) T
  have G_Layer_init := mak_Layer_init (P := P) (w := w) (base := base) T
  have G_Sheet_segments := met_Sheet_segments (P := P) (w := w) (base := base) T
  refine cal0 D (D.fn.binds dn fun _ _ _ _ _ _ us hl => match us, hl with | [_, _], _ => rfl) .nil sc_layer_of (by walk_at "len") (fun cdv A outer s H vs Q E hr h => ?_)
  obtain ⟨d, x, ls, gs, rfl, hd, sh, hl, k⟩ := h
  obtain ⟨dx, D, G, ys, h1, _⟩ := id sh
  refine ⟨_, (pss_cons (ps_if (PW.pt (pw_or (pt_not (pt_val (pe_c G_is_whole hr (by decide) rfl (pa_cons (pv 0) pa_nil)))) (pw_or1 (pt_cmpR op_lt (pv 0) pe_int (nomark _))))) (pss_one ps_never) pss_nil)
      (pss_cons (ps_expr (pe_c G_check_sheet hr (by decide) rfl (pa_cons (pv 1) pa_nil)))
      (pss_one (ps_ret (pe_mk G_Layer_init hr (by decide) rfl (pa_cons (pv 0) (pa_cons (pv 0) (pa_cons (pe_lc (own := [("low", 2), ("high", 3), ("value", 4)]) (g := gTup _ 3 (gCons (gName 2) (gCons (gName 3) (gCons (gName 4) gNil)))) (tt := tYes) rfl sc_layer_of.nd (pi_list (pe_mt0 (pl := _) G_Sheet_segments hr (by decide) (pv 1))) (blkOk_by (own := [("low", 2), ("high", 3), ("value", 4)]) (N := N_layer_of) (sc := fnScope s_layer_of) (by decide +kernel)) (fun _ _ _ _ _ => (pg_tup rfl (pgs_cons (pg_n 2 sc_layer_of.nd) (pgs_cons (pg_n 3 sc_layer_of.nd) (pgs_cons (pg_n 4 sc_layer_of.nd) pgs_nil))))) (fun _ _ _ _ _ => pts_nil) (fun _ _ _ _ _ => (pe_tup (pa_cons (pv 2) (pa_cons (pv 3) (pa_cons (pe_tup (pa_cons (pe_tup (pa_cons (pv 0) (pa_cons (pv 4) pa_nil))) pa_nil)) pa_nil)))))) pa_nil)))))))), ?_⟩
  walk_at "rd"
  refine ⟨.int d, rfl, rfl, ?_⟩
  refine ⟨true, rfl, ?_⟩
  walk_at "rd"
  refine rd_iteF (by omega) ?_
  walk_at "rd"
  refine ⟨x, dx, _, rfl, h1, ?_⟩
  walk_at "rd"
  refine ⟨x, dx, _, rfl, h1, rfl, ?_⟩
  refine ⟨x, ls, gs, rfl, sh, hl, fun H1 p xs S s1 hp ep ip pm pw => ?_⟩
  have lS : S.length = ls.length + gs.length := by
    rw [pm.length_eq]
    unfold segsOf
    rw [List.length_append, List.length_map, List.length_map]
  have lx := ip.1
  walk_at "rd"
  refine rd_lsR (SqL.of ep) ?_
  refine lcR_lst (xs := xs) (fun W i H' => Same H1 H' ∧ ∃ zs, H' W = some (.lst zs) ∧ ItP RowP H' zs ((S.take i).map (laySeg d))) (fun W i H' _ ⟨s, _⟩ => SqL.of (s _ _ ep)) (fun W H' _ s e _ => ⟨s, [], e, .nil⟩) ?_ ?_
  · rintro W i y H2 hW hy ⟨s2, zs, eW, ipz⟩
    obtain ⟨g, hg, a, rfl, ea⟩ := (ip.imp (H' := H2) fun _ _ h => SegP.keep (.of s2) h).getV hy
    have lz := ipz.1
    refine rd_gtup ea rfl ?_
    walk_at "rd"
    refine ⟨rfl, ?_⟩
    walk_at "rd"
    refine rd_newT (by simp) fun t1 H3 _ s3 e3 _ => ?_
    walk_at "rd"
    refine rd_newT (by simp) fun t2 H4 _ s4 e4 _ => ?_
    walk_at "rd"
    refine rd_newT (by simp) fun t3 H5 _ s5 e5 _ => ?_
    have s25 := s3.trans (s4.trans s5)
    have eW5 := s25 _ _ eW
    refine rd_lcE eW5 (by rw [lz, List.length_map, List.length_take]; omega) fun H6 eH6 eW6 => ?_
    refine ⟨by rw [eH6]; exact Same.mut (s2.trans s25) hW, zs ++ [.ref t3], eW6, ?_⟩
    rw [List.take_add_one, hg, List.map_append]
    have kp : TupS H5 H6 := by rw [eH6]; exact TupS.updL eW5
    refine (rowsKeep ((TupS.of s25).trans kp) ipz).snoc ⟨t3, .ref t2, rfl, kp _ _ e5, t2, [.ref t1], rfl, kp _ _ (s5 _ _ e4), ItP.one ⟨t1, rfl, kp _ _ ((s4.trans s5) _ _ e3)⟩⟩
  · rintro W H2 hW ⟨s2, zs, eW, ipz⟩
    rw [lx, List.take_length] at ipz
    walk_at "rd"
    refine rd_make fun y dy H3 s3 hy ey => ?_
    have s13 := s1.trans (s2.trans s3)
    refine ⟨y, dy, W, d, d, zs, H2, rfl, s3, hy, ey, s3 _ _ eW, fun H4 G4 s4 t4 e4 eG4 => ⟨rfl, ?_⟩⟩
    have s04 : Same H H4 := (s1.trans s2).trans s4
    exact k H4 y S s04 (none_back (s1.trans s2) hy) ⟨dy, G4, zs, e4, eG4, rowsKeep ((TupS.of s3).trans t4) ipz⟩ pm pw
end
end Sl

set_option Elab.async false
set_option linter.all false
set_option maxRecDepth 100000
set_option maxHeartbeats 8000000
set_option exponentiation.threshold 9000
namespace Sl
open PySem L2 C8 StX Silt LiI RT
local macro_rules | `(tactic| walk_at "side") => `(tactic| first
  | exact cdivw (by omega) (by omega)
  | exact cmulw (by omega) (by omega) (by omega) (by omega)
  | exact Or.inr ⟨by omega, by omega⟩
  | exact Or.inl ⟨by omega, by omega⟩
  | omega
  | exact ⟨by omega, by omega, by decide⟩
  | decide)
local macro_rules | `(tactic| walk_at "rd1") => `(tactic| first
  | with_reducible refine rd_seq ?_
  | with_reducible refine rd_asg ?_
  | with_reducible refine rd_drop ?_
  | with_reducible refine rd_ret ?_
  | with_reducible refine rd_retN ?_
  | with_reducible refine rd_ifS ?_
  | ((with_reducible refine rd_var0 ?_); refine ⟨_, rfl, ?_⟩)
  | with_reducible refine rd_c ?_
  | with_reducible refine rd_op ?_
  | with_reducible refine rd_un ?_
  | with_reducible refine rd_I0 ?_
  | with_reducible refine rd_U ?_
  | ((with_reducible refine rd_I ?c ?_); (case c => walk_at "side"))
  | with_reducible refine rd_ipI ?_
  | with_reducible refine rd_eqI ?_
  | with_reducible refine rd_neI ?_
  | with_reducible refine rd_test ?_
  | with_reducible refine rd_tB ?_
  | with_reducible refine rd_bl ?_
  | with_reducible refine rd_not ?_
  | with_reducible refine rd_and ?_
  | with_reducible refine rd_or ?_
  | with_reducible refine rd_andV ?_
  | with_reducible refine rd_orV ?_
  | with_reducible refine rd_notV ?_
  | with_reducible refine rd_ifE ?_
  | with_reducible refine rd_chain ?_
  | with_reducible refine rd_chain3 ?_
  | with_reducible refine rd_nil ?_
  | with_reducible refine rd_cons ?_
  | with_reducible refine rd_call ?_
  | with_reducible refine rd_CB ?_
  | with_reducible refine rd_par ?_
  | with_reducible refine rd_par2 ?_
  | with_reducible refine rd_par3 ?_
  | with_reducible refine rd_par4 ?_
  | ((with_reducible refine rd_aug0 ?_); refine ⟨_, rfl, ?_⟩)
  | with_reducible refine rd_gname ?_
  | with_reducible refine rd_gcons ?_
  | with_reducible refine rd_gnil ?_
  | with_reducible refine rd_max ?_
  | with_reducible refine rd_min ?_
  | with_reducible refine rd_int1 ?_
  | with_reducible refine rd_abs ?_
  | with_reducible refine rd_lst ?_
  | with_reducible refine rd_tup ?_
  | with_reducible refine rd_bm ?_
  | with_reducible refine rd_fld0 ?_
  | with_reducible refine rd_sl0 ?_
  | with_reducible refine rd_noP ?_
  | with_reducible refine rd_part ?_
  | with_reducible refine rd_part2 ?_
  | with_reducible refine rd_meth0 ?_
  | with_reducible refine rd_star ?_
  | with_reducible refine rd_for ?_
  | with_reducible refine rd_rng1 ?_
  | with_reducible refine rd_rng2 ?_
  | with_reducible refine rd_rng3 ?_
  | with_reducible refine rd_iList ?_
  | with_reducible refine rd_iTup ?_
  | with_reducible refine rd_iEnum ?_
  | with_reducible refine rd_lc ?_
  | with_reducible refine rd_yes ?_
  | with_reducible refine rd_augS ?_
  | with_reducible refine rd_drawNew ?_
  | with_reducible refine rd_make0 ?_
  | with_reducible refine rd_next ?_
  | with_reducible refine rd_break ?_
  | with_reducible refine rd_cont ?_
  | with_reducible refine rd_iteTT ?_
  | with_reducible refine rd_iteFF ?_
  | with_reducible refine rd_iteNTT ?_
  | with_reducible refine rd_iteNFF ?_
  | with_reducible refine rd_con0 ?_
  | with_reducible refine rd_truO0 ?_
  | with_reducible refine rd_gfld0 ?_
  | with_reducible refine rd_dc ?_
  | with_reducible refine rd_iKeys ?_
  | with_reducible refine rd_dget0 ?_
  | with_reducible refine rd_dput0 ?_
  | with_reducible refine rd_dnot0 ?_
  | with_reducible refine rd_iEnumT ?_
  | with_reducible refine rd_raP0 ?_
  | with_reducible refine rd_xf0 ?_
  | with_reducible refine rd_cKw ?_
  | with_reducible refine rd_iStr ?_
  | with_reducible refine rd_gSub ?_
  | with_reducible refine rd_asgG ?_)
local macro_rules | `(tactic| walk_at "rd") => `(tactic| repeat walk_at "rd1")
local macro_rules | `(tactic| walk_at "len") => `(tactic| first
  | (intro vs H Q E h; obtain ⟨h2, _⟩ := h; rw [h2]; rfl)
  | (intro vs H Q E h; obtain ⟨_, h2, _⟩ := h; rw [h2]; rfl)
  | (intro vs H Q E h; obtain ⟨_, _, h2, _⟩ := h; rw [h2]; rfl)
  | (intro vs H Q E h; obtain ⟨_, _, _, h2, _⟩ := h; rw [h2]; rfl)
  | (intro vs H Q E h; obtain ⟨_, _, _, _, h2, _⟩ := h; rw [h2]; rfl)
  | (intro vs H Q E h; obtain ⟨_, _, _, _, _, h2, _⟩ := h; rw [h2]; rfl)
  | (intro vs H Q E h; obtain ⟨_, _, _, _, _, _, h2, _⟩ := h; rw [h2]; rfl)
  | (intro vs H Q E h; obtain ⟨_, _, _, _, _, _, _, h2, _⟩ := h; rw [h2]; rfl)
  | (intro vs H Q E h; obtain ⟨_, _, _, _, _, _, _, _, h2, _⟩ := h; rw [h2]; rfl)
  | (intro vs H Q E h; obtain ⟨_, _, _, _, _, _, _, _, _, h2, _⟩ := h; rw [h2]; rfl)
  | (intro vs H Q E h; obtain ⟨_, _, _, _, _, _, _, _, _, _, h2, _⟩ := h; rw [h2]; rfl)
  | (intro vs H Q E h; obtain ⟨_, _, _, _, _, _, _, _, _, _, _, h2, _⟩ := h; rw [h2]; rfl)
  | (intro vs H Q E h; obtain ⟨_, _, _, _, _, _, _, _, _, _, _, _, h2, _⟩ := h; rw [h2]; rfl))
local macro_rules | `(tactic| walk_at "rd1") => `(tactic| first
  | with_reducible refine rd_fldaug0 ?_)
theorem asc_ints_len : ∀ {l : List Int} {lo m : Int}, l.Pairwise (· < ·) → (∀ x ∈ l, lo ≤ x ∧ x ≤ m) → lo ≤ m + 1 → (l.length : Int) ≤ m + 1 - lo
  | [], lo, m, _, _, h => by show (0 : Int) ≤ _; omega
  | x :: l, lo, m, hp, hb, h => by
    have p := List.pairwise_cons.mp hp
    have hx := hb x List.mem_cons_self
    have := asc_ints_len (l := l) (lo := x + 1) (m := m) p.2 (fun y hy => ⟨by have := p.1 y hy; omega, (hb y (List.mem_cons_of_mem _ hy)).2⟩) (by omega)
    show ((l.length + 1 : Nat) : Int) ≤ _
    omega
theorem le_lt_nodup {l : List Int} (h : l.Pairwise (· ≤ ·)) (nd : l.Nodup) : l.Pairwise (· < ·) := by
  have := List.Pairwise.and h nd
  exact this.imp fun ⟨a, b⟩ => by omega
theorem nodup_len {l : List Int} {m : Int} (nd : l.Nodup) (hb : ∀ x ∈ l, 0 ≤ x ∧ x ≤ m) (hm : 0 ≤ m + 1) : (l.length : Int) ≤ m + 1 := by
  have pm := List.mergeSort_perm l (fun a b => decide (a ≤ b))
  have so : (l.mergeSort fun a b => decide (a ≤ b)).Pairwise (· ≤ ·) := by
    refine (List.pairwise_mergeSort (fun a b c h1 h2 => ?_) (fun a b => ?_) l).imp fun h => of_decide_eq_true h
    · have h1 := of_decide_eq_true h1
      have h2 := of_decide_eq_true h2
      exact decide_eq_true (by omega)
    · rw [Bool.or_eq_true, decide_eq_true_iff, decide_eq_true_iff]
      omega
  have := asc_ints_len (lo := 0) (m := m) (le_lt_nodup so (pm.nodup_iff.mpr nd)) (fun x hx => hb x (pm.subset hx)) (by omega)
  rw [pm.length_eq] at this
  omega
/-- a tuple of rows -/
def GP (H : Hp) (x : V) (rs : List Rw) : Prop := ∃ G ys, x = .ref G ∧ H G = some (.tup ys) ∧ ItP RowP H ys rs
theorem GP.keep {H H' : Hp} {x : V} {rs : List Rw} (s : TupS H H') (h : GP H x rs) : GP H' x rs := by
  obtain ⟨G, ys, e, z, i⟩ := h
  exact ⟨G, ys, e, s _ _ z, rowsKeep s i⟩
def KeysIn (m : Int) (LL : List (List Rw)) : Prop := ∀ rs ∈ LL, ∀ r ∈ rs, 0 ≤ r.1 ∧ r.1 ≤ r.2.1 ∧ r.2.1 ≤ m
def spCuts : Sp := fun vs H Q _ => ∃ (a : Addr) (xs : List V) (LL : List (List Rw)) (m : Int), vs = [.ref a] ∧ H a = some (.lst xs) ∧ ItP GP H xs LL ∧ KeysIn m LL ∧ (0 ≤ m ∧ m ≤ 60) ∧
  ∀ H' p cs, Same H H' → H p = none → H' p = some (.lst (cs.map V.int)) → Cuts LL cs → (∀ c ∈ cs, 0 ≤ c ∧ c ≤ m + 1) → Q (.ref p) H'
/-- pointers -/
def PtF (G : Addr) (n : Int) : List (Str × V) := [("rows", .ref G), ("at", .int n)]
theorem put_pt0 (G : Addr) : putF "at" (.int 0) (putF "rows" (.ref G) []) = PtF G 0 := by
  have h1 : ¬ (("rows" : Str) = "at") := by decide +kernel
  show (if ("rows" : Str) = "at" then [(("rows" : Str), V.int 0)] else (("rows" : Str), V.ref G) :: putF "at" (V.int 0) []) = _
  rw [if_neg h1]
  rfl
theorem put_pt (G : Addr) (n k : Int) : putF "at" (.int k) (PtF G n) = PtF G k := by
  have h1 : ¬ (("rows" : Str) = "at") := by decide +kernel
  show (if ("rows" : Str) = "at" then _ else (("rows" : Str), V.ref G) :: (if ("at" : Str) = "at" then (("at" : Str), V.int k) :: [] else _)) = _
  rw [if_neg h1, if_pos rfl]
  rfl
theorem pt_at (G : Addr) (n : Int) : (PtF G n).lookup ("at" : Str) = some (V.int n) := by rfl
def KeepX (x : Addr) (H H' : Hp) : Prop := ∀ b o, b ≠ x → H b = some o → H' b = some o
theorem KeepX.tup {x : Addr} {H H' : Hp} {C dx : Addr} {fs : List (Str × V)} (e : H x = some (.ins C dx fs)) (k : KeepX x H H') : TupS H H' := fun a xs h => k a _ (fun z => by rw [z, e] at h; cases h) h
def spPtI (K : PySem.W.Frag) (C : Addr) : Sp := fun vs H Q _ => ∃ (self dx G : Addr) (H0 : Hp), vs = [.ref self, .ref G] ∧ Same H0 H ∧ H0 self = none ∧ H self = some (.ins C dx []) ∧ ∀ H', Same H0 H' → H' self = some (.ins C dx (PtF G 0)) → Q .non H'
def spPtT (C : Addr) : Sp := fun vs H Q _ => ∃ (x dx G : Addr) (ys : List V) (rs : List Rw) (n : Nat) (key : Int), vs = [.ref x, .int key] ∧ H x = some (.ins C dx (PtF G n)) ∧ H G = some (.tup ys) ∧ ItP RowP H ys rs ∧ Asc rs ∧ (∀ r ∈ rs, r.1 ≤ r.2.1) ∧ n ≤ rs.length ∧ (∀ r ∈ rs.take n, r.2.1 < key) ∧
  ∀ H' y n', KeepX x H H' → H' x = some (.ins C dx (PtF G (n' : Nat))) → n' ≤ rs.length → (∀ r ∈ rs.take n', r.2.1 < key) → TldP H' y (atR rs key) → Q y H'
theorem at_skip {rs : List Rw} {n : Nat} {key : Int} (h : ∀ r ∈ rs.take n, r.2.1 < key) : atR rs key = atR (rs.drop n) key := by
  induction n generalizing rs with
  | zero => rfl
  | succ n ih =>
    cases rs with
    | nil => rfl
    | cons r rs =>
      show (if hasK r key then _ else _) = atR (rs.drop n) key
      rw [if_neg (fun z => by have := h r (by simp); unfold hasK at z; omega)]
      exact ih fun x hx => h x (by rw [List.take_succ_cons]; exact List.mem_cons_of_mem _ hx)
section
variable {P : Program} {w : World} {K : PySem.W.Frag} {mg : Str → Option Value} {base : Heap} {C_Sheet C_Layer C_Pointer C_BadSheet C_BadDay C_BadKey C_BadLayers D_Sheet_0 D_Sheet_1 : Addr}
theorem cal_cuts_of (T : TX P K mg C_Sheet C_Layer C_Pointer C_BadSheet C_BadDay C_BadKey C_BadLayers D_Sheet_0 D_Sheet_1) : Cal P w K mg base 1 "cuts_of" (spCuts) [] := by
  obtain ⟨f0, fd, D, dn⟩ := T.d_cuts_of
  refine cal0 D (D.fn.binds dn fun _ _ _ _ _ _ us hl => match us, hl with | [_], _ => rfl) .nil sc_cuts_of (by walk_at "len") (fun cdv A outer s H vs Q E hr h => ?_)
  obtain ⟨a, xs, LL, m, rfl, ea, ip, ki, hm, k⟩ := h
  refine ⟨_, (pss_cons (ps_s 1 sc_cuts_of.nd pe_dnewK)
      (pss_cons (ps_for PassesOwn.never rfl (pi_list (pv 0)) (pg_n 2 sc_cuts_of.nd) (pss_one (ps_for PassesOwn.never rfl (pi_tup (pv 2)) (pg_tup rfl (pgs_cons (pg_n 3 sc_cuts_of.nd) (pgs_cons (pg_n 4 sc_cuts_of.nd) (pgs_cons (pg_n 5 sc_cuts_of.nd) pgs_nil)))) (pss_cons (ps_dput (hu_of hr) (pv 1) (pv 3) pe_bl rfl)
      (pss_one (ps_dput (hu_of hr) (pv 1) (pe_op op_add (pv 4) pe_int) pe_bl rfl))))))
      (pss_one (ps_ret (pe_callB (cr_sortDI rfl) (by rfl) T.b_sorted (by decide +kernel) (pa_cons (pv 1) pa_nil)))))), ?_⟩
  walk_at "rd"
  refine rd_dnew fun D H1 hD s1 eD _ => ?_
  walk_at "rd"
  refine rd_lsR (SqL.of (s1 _ _ ea)) ?_
  refine forR_lst (xs := xs) (fun i σ H' => ∃ (ls : List (Int × V)) (v2 v3 v4 v5 : Option V), Same H H' ∧ H' D = some (.dK (dV ls)) ∧ (keysL ls).Nodup ∧ (∀ c ∈ keysL ls, 0 ≤ c ∧ c ≤ m + 1) ∧ (∀ rs ∈ LL.take i, ∀ r ∈ rs, r.1 ∈ keysL ls ∧ r.2.1 + 1 ∈ keysL ls) ∧ σ = [some (.ref a), some (.ref D), v2, v3, v4, v5]) (fun i σ H' ⟨_, _, _, _, _, s, _⟩ => SqL.of (s _ _ ea)) ⟨[], _, _, _, _, s1, eD, List.nodup_nil, (fun c h => by cases h), (fun rs h => by cases h), rfl⟩ ?_ ?_
  · rintro i x σ H2 hx ⟨ls, v2, v3, v4, v5, s2, eD2, nd, kb, cov, rfl⟩
    obtain ⟨rs, hrs, G, ys, rfl, eG, iy⟩ := (ip.imp (H' := H2) fun _ _ h => GP.keep (.of s2) h).getV hx
    have hmem : rs ∈ LL := List.mem_of_getElem? hrs
    have eG0 : H G = some (.tup ys) := by
      obtain ⟨G', ys', e1, e2, _⟩ := ip.2 i _ _ hx hrs
      cases e1
      have := s2 _ _ e2
      rw [eG] at this
      cases this
      exact e2
    walk_at "rd"
    refine rd_tpR (SqT.of eG) ?_
    refine forR_tup (xs := ys) (fun j σ H' => ∃ (ls : List (Int × V)) (v3 v4 v5 : Option V), Same H H' ∧ H' D = some (.dK (dV ls)) ∧ (keysL ls).Nodup ∧ (∀ c ∈ keysL ls, 0 ≤ c ∧ c ≤ m + 1) ∧ (∀ rs ∈ LL.take i, ∀ r ∈ rs, r.1 ∈ keysL ls ∧ r.2.1 + 1 ∈ keysL ls) ∧ (∀ r ∈ rs.take j, r.1 ∈ keysL ls ∧ r.2.1 + 1 ∈ keysL ls) ∧ σ = [some (.ref a), some (.ref D), some (.ref G), v3, v4, v5]) (fun j σ H' ⟨_, _, _, _, s, _⟩ => SqT.of (s _ _ eG0)) ⟨ls, _, _, _, s2, eD2, nd, kb, cov, (fun r h => by cases h), rfl⟩ ?_ ?_
    · rintro j y σ H3 hy ⟨ls3, v3, v4, v5, s3, eD3, nd3, kb3, cov3, cr3, rfl⟩
      have iy0 : ItP RowP H ys rs := by
        obtain ⟨G', ys', e1, e2, e3⟩ := ip.2 i _ _ hx hrs
        cases e1
        rw [eG0] at e2
        cases e2
        exact e3
      obtain ⟨r, hr, b, w, rfl, eb, td⟩ := (rowsKeep (.of s3) iy0).getV hy
      have kr := ki rs hmem r (List.mem_of_getElem? hr)
      have big : ∀ {l : List (Int × V)}, (keysL l).Nodup → (∀ c ∈ keysL l, 0 ≤ c ∧ c ≤ m + 1) → (dV l).length < sizeLine := by
        intro l h1 h2
        have := nodup_len h1 h2 (by omega)
        unfold keysL at this
        rw [List.length_map] at this
        rw [dV_len]
        exact Nat.lt_of_lt_of_le (show l.length < 100 by omega) (by decide)
      refine rd_gtup eb rfl ?_
      walk_at "rd"
      refine ⟨D, _, rfl, DPut.k (k := Sum.inl r.1) eD3 (big nd3 kb3), ?_⟩
      rw [dV_put]
      have nd4 := putL_nodup (k := r.1) (v := .bl true) nd3
      have kb4 : ∀ c ∈ keysL (putL ls3 r.1 (.bl true)), 0 ≤ c ∧ c ≤ m + 1 := by
        intro c hc
        rw [putL_keys] at hc
        split at hc
        · exact kb3 c hc
        · rcases List.mem_append.mp hc with z | z
          · exact kb3 c z
          · rw [List.mem_singleton.mp z]; omega
      have mono : ∀ {l : List (Int × V)} {k c : Int}, c ∈ keysL l → c ∈ keysL (putL l k (.bl true)) := by
        intro l k c h
        rw [putL_keys]
        split
        · exact h
        · exact List.mem_append_left _ h
      have self : ∀ {l : List (Int × V)} {k : Int}, k ∈ keysL (putL l k (.bl true)) := by
        intro l k
        rw [putL_keys]
        split
        · assumption
        · simp
      obtain ⟨H4, eH4⟩ : ∃ H4, H4 = upd H3 D (.dK (dV (putL ls3 r.1 (.bl true)))) := ⟨_, rfl⟩
      rw [← eH4]
      have eD4 : H4 D = some (.dK (dV (putL ls3 r.1 (.bl true)))) := by rw [eH4]; exact upd_same
      have s4 : Same H H4 := by rw [eH4]; exact Same.mut s3 hD
      walk_at "rd"
      refine ⟨D, _, rfl, DPut.k (k := Sum.inl (r.2.1 + 1)) eD4 (big nd4 kb4), ?_⟩
      rw [dV_put]
      refine ⟨_, _, _, _, Same.mut s4 hD, upd_same, putL_nodup nd4, ?_, fun q hq z hz => ⟨mono (mono (cov3 q hq z hz).1), mono (mono (cov3 q hq z hz).2)⟩, ?_, rfl⟩
      · intro c hc
        rw [putL_keys] at hc
        split at hc
        · exact kb4 c hc
        · rcases List.mem_append.mp hc with z | z
          · exact kb4 c z
          · rw [List.mem_singleton.mp z]; omega
      · intro z hz
        rw [List.take_add_one, hr] at hz
        rcases List.mem_append.mp hz with q | q
        · exact ⟨mono (mono (cr3 z q).1), mono (mono (cr3 z q).2)⟩
        · have : z = r := by simpa using q
          rw [this]
          exact ⟨mono self, self⟩
    · rintro σ H3 ⟨ls3, v3, v4, v5, s3, eD3, nd3, kb3, cov3, cr3, rfl⟩
      rw [iy.1, List.take_length] at cr3
      refine ⟨ls3, _, _, _, _, s3, eD3, nd3, kb3, ?_, rfl⟩
      intro q hq z hz
      rw [List.take_add_one, hrs] at hq
      rcases List.mem_append.mp hq with w | w
      · exact cov3 q w z hz
      · have : q = rs := by simpa using w
        rw [this] at hz
        exact cr3 z hz
  · rintro σ H2 ⟨ls, v2, v3, v4, v5, s2, eD2, nd, kb, cov, rfl⟩
    rw [ip.1, List.take_length] at cov
    walk_at "rd"
    refine ⟨D, _, keysL ls, rfl, .inl eD2, dV_keys ls, ?_, fun ys p pm so hp => ?_⟩
    · have := nodup_len nd kb (by omega)
      omega
    · refine k _ p ys (s2.trans (Same.new (Same.refl H2) hp)) (none_back s2 hp) upd_same ⟨le_lt_nodup so (pm.nodup_iff.mpr nd), fun rs hrs r hr => ?_⟩ (fun c hc => kb c (pm.subset hc))
      exact ⟨pm.mem_iff.mpr (cov rs hrs r hr).1, pm.mem_iff.mpr (cov rs hrs r hr).2⟩
theorem mak_Pointer_init (T : TX P K mg C_Sheet C_Layer C_Pointer C_BadSheet C_BadDay C_BadKey C_BadLayers D_Sheet_0 D_Sheet_1) : Mak P w K mg base 1 "Pointer" C_Pointer (spPtI K C_Pointer) [] := by
  obtain ⟨f0, fd, D, dn, mk⟩ := T.m_Pointer_init
  refine mak0 mk T.mg_Pointer D (D.binds dn fun _ _ _ _ _ _ us hl => match us, hl with | [_, _], _ => rfl) .nil sc_Pointer_init (by walk_at "len") (fun cdv A outer s H vs Q E hr h => ?_)
  obtain ⟨self, dx, G, H0, rfl, s0, h0, e, k⟩ := h
  refine ⟨_, (pss_cons (ps_asg (pv 1) (pg_attr (pv 0)))
      (pss_one (ps_asg pe_int (pg_attr (pv 0))))), ?_⟩
  walk_at "rd"
  refine rd_gfld e T.cl_Pointer T.na_Pointer_rows (by decide) fun H1 eH1 e1 => ?_
  walk_at "rd"
  refine rd_gfld e1 T.cl_Pointer T.na_Pointer_at (by show 1 < 1000; decide) fun H2 eH2 e2 => ?_
  rw [put_pt0] at e2
  refine k H2 ?_ e2
  rw [eH2, eH1]
  exact Same.mut (Same.mut s0 h0) h0
theorem met_Pointer_told (T : TX P K mg C_Sheet C_Layer C_Pointer C_BadSheet C_BadDay C_BadKey C_BadLayers D_Sheet_0 D_Sheet_1) : Met P w K mg base 1 C_Pointer "told" (spPtT C_Pointer) [] := by
  obtain ⟨f0, fd, D, dn, me, _⟩ := T.m_Pointer_told
  refine met0 T.cl_Pointer me D (D.binds dn fun _ _ _ _ _ _ us hl => match us, hl with | [_, _], _ => rfl) sc_Pointer_told (by walk_at "len") (fun cdv A outer s H vs Q E hr h => ?_)
  obtain ⟨x, dx, G, ys, rs, n, key, rfl, e, eG, iy, ha, hle, hn, hb, k⟩ := h
  have ly := iy.1
  refine ⟨_, (pss_cons (ps_while PassesOwn.never (PW.pt (pw_and (pt_cmpR op_lt (pe_fld (pv 0) rfl) (pe_callB cr_lenS (by rfl) T.b_len (by decide +kernel) (pa_cons (pe_fld (pv 0) rfl) pa_nil)) (nomark _)) (pw_and1 (pt_cmpR op_lt (pe_ix ix_tup (pe_ix ix_tup (pe_fld (pv 0) rfl) (pe_fld (pv 0) rfl) (fun _ _ => rfl)) pe_int (fun _ _ => rfl)) (pv 1) (nomark _))))) (pss_one (ps_fldaug (pv 0) pe_int in_add)))
      (pss_cons (ps_if (PW.pt (pw_and (pt_cmpR op_lt (pe_fld (pv 0) rfl) (pe_callB cr_lenS (by rfl) T.b_len (by decide +kernel) (pa_cons (pe_fld (pv 0) rfl) pa_nil)) (nomark _)) (pw_and1 (pt_cmpR op_le (pe_ix ix_tup (pe_ix ix_tup (pe_fld (pv 0) rfl) (pe_fld (pv 0) rfl) (fun _ _ => rfl)) pe_int (fun _ _ => rfl)) (pv 1) (nomark _))))) (pss_one (ps_ret (pe_ix ix_tup (pe_ix ix_tup (pe_fld (pv 0) rfl) (pe_fld (pv 0) rfl) (fun _ _ => rfl)) pe_int (fun _ _ => rfl)))) pss_nil)
      (pss_one (ps_ret (pe_tup pa_nil))))), ?_⟩
  walk_at "rd"
  have one : ∀ {H' : Hp} {n' : Nat} {Q' : VK} {r : Rw}, KeepX x H H' → H' x = some (.ins C_Pointer dx (PtF G (n' : Nat))) → rs[n']? = some r → (∀ (b : Addr) (w : V), H' b = some (.tup [.int r.1, .int r.2.1, w]) → TldP H' w r.2.2 → Q' (.ref b) H') → rIxT K (.ref G) (.int (n' : Nat)) H' Q' := by
    intro H' n' Q' r kx ex hr q
    obtain ⟨y, hy, b, w, rfl, eb, td⟩ := (rowsKeep (KeepX.tup e kx) iy).get hr
    exact rd_ixT (kx _ _ (fun z => by rw [z, e] at eG; cases eG) eG) (atI_nat' hy) (q b w eb td)
  refine rd_while (fun m σ H' => ∃ n' : Nat, m = rs.length - n' ∧ KeepX x H H' ∧ H' x = some (.ins C_Pointer dx (PtF G (n' : Nat))) ∧ n' ≤ rs.length ∧ (∀ r ∈ rs.take n', r.2.1 < key) ∧ σ = [some (.ref x), some (.int key)]) (rs.length - n) ⟨n, rfl, (fun b o _ h => h), e, hn, hb, rfl⟩ ?_
  rintro m σ H1 ⟨n1, rfl, k1, e1, hn1, hb1, rfl⟩
  have eG1 : H1 G = some (.tup ys) := k1 _ _ (fun z => by rw [z, e] at eG; cases eG) eG
  walk_at "rd"
  refine rd_fld e1 T.cl_Pointer T.na_Pointer_at (pt_at G n1) ?_
  walk_at "rd"
  refine rd_fld e1 T.cl_Pointer T.na_Pointer_rows rfl ?_
  walk_at "rd"
  refine rd_lenT eG1 ?_
  walk_at "rd"
  rw [ly]
  by_cases c : n1 < rs.length
  · obtain ⟨r, hr⟩ : ∃ r, rs[n1]? = some r := ⟨_, List.getElem?_eq_getElem c⟩
    refine rd_iteT (by omega) ?_
    walk_at "rd"
    refine rd_fld e1 T.cl_Pointer T.na_Pointer_rows rfl ?_
    walk_at "rd"
    refine rd_fld e1 T.cl_Pointer T.na_Pointer_at (pt_at G n1) ?_
    walk_at "rd"
    refine one k1 e1 hr fun b w eb td => ?_
    walk_at "rd"
    refine rd_ixT eb (atI_nat' (i := 1) rfl) ?_
    walk_at "rd"
    refine rd_ite (fun c1 => ?_) (fun c1 => ?_)
    · refine rd_whN ?_
      walk_at "rd"
      refine rd_fldaugI e1 T.cl_Pointer T.na_Pointer_at (pt_at G n1) (by show 2 < 1000; decide) rfl ?_
      rw [put_pt]
      refine ⟨rs.length - (n1 + 1), by omega, n1 + 1, rfl, fun b o nb h => ?_, ?_, c, fun z hz => ?_, rfl⟩
      · rw [upd_ne nb]
        exact k1 b o nb h
      · exact upd_same
      · rw [List.take_add_one, hr] at hz
        rcases List.mem_append.mp hz with q | q
        · exact hb1 z q
        · have : z = r := by simpa using q
          rw [this]
          exact c1
    · walk_at "rd"
      refine rd_fld e1 T.cl_Pointer T.na_Pointer_at (pt_at G n1) ?_
      walk_at "rd"
      refine rd_fld e1 T.cl_Pointer T.na_Pointer_rows rfl ?_
      walk_at "rd"
      refine rd_lenT eG1 ?_
      walk_at "rd"
      rw [ly]
      refine rd_iteT (by omega) ?_
      walk_at "rd"
      refine rd_fld e1 T.cl_Pointer T.na_Pointer_rows rfl ?_
      walk_at "rd"
      refine rd_fld e1 T.cl_Pointer T.na_Pointer_at (pt_at G n1) ?_
      walk_at "rd"
      refine one k1 e1 hr fun b w eb td => ?_
      walk_at "rd"
      refine rd_ixT eb (atI_nat' (i := 0) rfl) ?_
      walk_at "rd"
      have hrest : rs.drop n1 = r :: rs.drop (n1 + 1) := by
        obtain ⟨hi, z⟩ := List.getElem?_eq_some_iff.mp hr
        rw [List.drop_eq_getElem_cons hi, z]
      have hat : atR rs key = atR (r :: rs.drop (n1 + 1)) key := by rw [at_skip hb1, hrest]
      refine rd_ite (fun c2 => ?_) (fun c2 => ?_)
      · walk_at "rd"
        refine rd_fld e1 T.cl_Pointer T.na_Pointer_rows rfl ?_
        walk_at "rd"
        refine rd_fld e1 T.cl_Pointer T.na_Pointer_at (pt_at G n1) ?_
        walk_at "rd"
        refine one k1 e1 hr fun b w eb td => ?_
        walk_at "rd"
        refine rd_ixT eb (atI_nat' (i := 2) rfl) ?_
        refine k H1 w n1 k1 e1 hn1 hb1 ?_
        rw [hat]
        show TldP H1 w (if hasK r key then r.2.2 else _)
        rw [if_pos ⟨c2, by omega⟩]
        exact td
      · walk_at "rd"
        refine rd_newT (by simp) fun t H2 ht s2 et _ => ?_
        refine k H2 _ n1 (fun b o nb h => s2 _ _ (k1 b o nb h)) (s2 _ _ e1) hn1 hb1 ?_
        have : atR rs key = [] := by
          rw [hat]
          refine at_no fun z hz q => ?_
          unfold hasK at q
          rcases List.mem_cons.mp hz with rfl | hz
          · omega
          · have asc2 : Asc (rs.drop n1) := List.Pairwise.sublist (List.drop_sublist _ _) ha
            rw [hrest] at asc2
            have := (List.pairwise_cons.mp asc2).1 z hz
            have := hle r (List.mem_of_getElem? hr)
            omega
        rw [this]
        exact ⟨t, [], rfl, et, .nil⟩
  · refine rd_iteF (by omega) ?_
    walk_at "rd"
    refine rd_fld e1 T.cl_Pointer T.na_Pointer_at (pt_at G n1) ?_
    walk_at "rd"
    refine rd_fld e1 T.cl_Pointer T.na_Pointer_rows rfl ?_
    walk_at "rd"
    refine rd_lenT eG1 ?_
    walk_at "rd"
    rw [ly]
    refine rd_iteF (by omega) ?_
    walk_at "rd"
    refine rd_newT (by simp) fun t H2 ht s2 et _ => ?_
    refine k H2 _ n1 (fun b o nb h => s2 _ _ (k1 b o nb h)) (s2 _ _ e1) hn1 hb1 ?_
    rw [at_skip hb1, List.drop_of_length_le (by omega)]
    exact ⟨t, [], rfl, et, .nil⟩
end
end Sl

set_option Elab.async false
set_option linter.all false
set_option maxRecDepth 100000
set_option maxHeartbeats 8000000
set_option exponentiation.threshold 9000
namespace Sl
open PySem L2 C8 StX Silt LiI RT
local macro_rules | `(tactic| walk_at "side") => `(tactic| first
  | exact cdivw (by omega) (by omega)
  | exact cmulw (by omega) (by omega) (by omega) (by omega)
  | exact Or.inr ⟨by omega, by omega⟩
  | exact Or.inl ⟨by omega, by omega⟩
  | omega
  | exact ⟨by omega, by omega, by decide⟩
  | decide)
local macro_rules | `(tactic| walk_at "rd1") => `(tactic| first
  | with_reducible refine rd_seq ?_
  | with_reducible refine rd_asg ?_
  | with_reducible refine rd_drop ?_
  | with_reducible refine rd_ret ?_
  | with_reducible refine rd_retN ?_
  | with_reducible refine rd_ifS ?_
  | ((with_reducible refine rd_var0 ?_); refine ⟨_, rfl, ?_⟩)
  | with_reducible refine rd_c ?_
  | with_reducible refine rd_op ?_
  | with_reducible refine rd_un ?_
  | with_reducible refine rd_I0 ?_
  | with_reducible refine rd_U ?_
  | ((with_reducible refine rd_I ?c ?_); (case c => walk_at "side"))
  | with_reducible refine rd_ipI ?_
  | with_reducible refine rd_eqI ?_
  | with_reducible refine rd_neI ?_
  | with_reducible refine rd_test ?_
  | with_reducible refine rd_tB ?_
  | with_reducible refine rd_bl ?_
  | with_reducible refine rd_not ?_
  | with_reducible refine rd_and ?_
  | with_reducible refine rd_or ?_
  | with_reducible refine rd_andV ?_
  | with_reducible refine rd_orV ?_
  | with_reducible refine rd_notV ?_
  | with_reducible refine rd_ifE ?_
  | with_reducible refine rd_chain ?_
  | with_reducible refine rd_chain3 ?_
  | with_reducible refine rd_nil ?_
  | with_reducible refine rd_cons ?_
  | with_reducible refine rd_call ?_
  | with_reducible refine rd_CB ?_
  | with_reducible refine rd_par ?_
  | with_reducible refine rd_par2 ?_
  | with_reducible refine rd_par3 ?_
  | with_reducible refine rd_par4 ?_
  | ((with_reducible refine rd_aug0 ?_); refine ⟨_, rfl, ?_⟩)
  | with_reducible refine rd_gname ?_
  | with_reducible refine rd_gcons ?_
  | with_reducible refine rd_gnil ?_
  | with_reducible refine rd_max ?_
  | with_reducible refine rd_min ?_
  | with_reducible refine rd_int1 ?_
  | with_reducible refine rd_abs ?_
  | with_reducible refine rd_lst ?_
  | with_reducible refine rd_tup ?_
  | with_reducible refine rd_bm ?_
  | with_reducible refine rd_fld0 ?_
  | with_reducible refine rd_sl0 ?_
  | with_reducible refine rd_noP ?_
  | with_reducible refine rd_part ?_
  | with_reducible refine rd_part2 ?_
  | with_reducible refine rd_meth0 ?_
  | with_reducible refine rd_star ?_
  | with_reducible refine rd_for ?_
  | with_reducible refine rd_rng1 ?_
  | with_reducible refine rd_rng2 ?_
  | with_reducible refine rd_rng3 ?_
  | with_reducible refine rd_iList ?_
  | with_reducible refine rd_iTup ?_
  | with_reducible refine rd_iEnum ?_
  | with_reducible refine rd_lc ?_
  | with_reducible refine rd_yes ?_
  | with_reducible refine rd_augS ?_
  | with_reducible refine rd_drawNew ?_
  | with_reducible refine rd_make0 ?_
  | with_reducible refine rd_next ?_
  | with_reducible refine rd_break ?_
  | with_reducible refine rd_cont ?_
  | with_reducible refine rd_iteTT ?_
  | with_reducible refine rd_iteFF ?_
  | with_reducible refine rd_iteNTT ?_
  | with_reducible refine rd_iteNFF ?_
  | with_reducible refine rd_con0 ?_
  | with_reducible refine rd_truO0 ?_
  | with_reducible refine rd_gfld0 ?_
  | with_reducible refine rd_dc ?_
  | with_reducible refine rd_iKeys ?_
  | with_reducible refine rd_dget0 ?_
  | with_reducible refine rd_dput0 ?_
  | with_reducible refine rd_dnot0 ?_
  | with_reducible refine rd_iEnumT ?_
  | with_reducible refine rd_raP0 ?_
  | with_reducible refine rd_xf0 ?_
  | with_reducible refine rd_cKw ?_
  | with_reducible refine rd_iStr ?_
  | with_reducible refine rd_gSub ?_
  | with_reducible refine rd_asgG ?_)
local macro_rules | `(tactic| walk_at "rd") => `(tactic| repeat walk_at "rd1")
local macro_rules | `(tactic| walk_at "len") => `(tactic| first
  | (intro vs H Q E h; obtain ⟨h2, _⟩ := h; rw [h2]; rfl)
  | (intro vs H Q E h; obtain ⟨_, h2, _⟩ := h; rw [h2]; rfl)
  | (intro vs H Q E h; obtain ⟨_, _, h2, _⟩ := h; rw [h2]; rfl)
  | (intro vs H Q E h; obtain ⟨_, _, _, h2, _⟩ := h; rw [h2]; rfl)
  | (intro vs H Q E h; obtain ⟨_, _, _, _, h2, _⟩ := h; rw [h2]; rfl)
  | (intro vs H Q E h; obtain ⟨_, _, _, _, _, h2, _⟩ := h; rw [h2]; rfl)
  | (intro vs H Q E h; obtain ⟨_, _, _, _, _, _, h2, _⟩ := h; rw [h2]; rfl)
  | (intro vs H Q E h; obtain ⟨_, _, _, _, _, _, _, h2, _⟩ := h; rw [h2]; rfl)
  | (intro vs H Q E h; obtain ⟨_, _, _, _, _, _, _, _, h2, _⟩ := h; rw [h2]; rfl)
  | (intro vs H Q E h; obtain ⟨_, _, _, _, _, _, _, _, _, h2, _⟩ := h; rw [h2]; rfl)
  | (intro vs H Q E h; obtain ⟨_, _, _, _, _, _, _, _, _, _, h2, _⟩ := h; rw [h2]; rfl)
  | (intro vs H Q E h; obtain ⟨_, _, _, _, _, _, _, _, _, _, _, h2, _⟩ := h; rw [h2]; rfl)
  | (intro vs H Q E h; obtain ⟨_, _, _, _, _, _, _, _, _, _, _, _, h2, _⟩ := h; rw [h2]; rfl))
local macro_rules | `(tactic| walk_at "rd1") => `(tactic| first
  | with_reducible refine rd_iZip ?_)
/-- a list or a tuple in the heap -/
def SeqP (H : Hp) (a : Addr) (xs : List V) : Prop := H a = some (.lst xs) ∨ H a = some (.tup xs)
theorem SeqP.mono {H H' : Hp} {a : Addr} {xs : List V} (s : Same H H') (h : SeqP H a xs) : SeqP H' a xs := h.imp (s _ _) (s _ _)
theorem SeqP.q {K : PySem.W.Frag} {H : Hp} {a : Addr} {xs : List V} (h : SeqP H a xs) : SqQ K H a xs := h.imp SqL.of SqT.of
abbrev Lay := Int × Int × List Rw
def LayP (C : Addr) (H : Hp) (x : V) (L : Lay) : Prop := ∃ b, x = .ref b ∧ LyP C H b L.1 L.2.1 L.2.2
theorem LayP.mono {C : Addr} {H H' : Hp} {x : V} {L : Lay} (s : Same H H') (h : LayP C H x L) : LayP C H' x L := by
  obtain ⟨b, e, l⟩ := h
  exact ⟨b, e, l.mono s⟩
def rowsO (Ls : List Lay) : List (List Rw) := Ls.map (·.2.2)
/-- a pointer that has not gone beyond -/
def PtrP (C : Addr) (B : Int → Prop) (H : Hp) (x : V) (rs : List Rw) : Prop := ∃ (p dx G : Addr) (ys : List V) (n : Nat), x = .ref p ∧ H p = some (.ins C dx (PtF G n)) ∧ H G = some (.tup ys) ∧ ItP RowP H ys rs ∧ n ≤ rs.length ∧ ∀ r ∈ rs.take n, ∀ c, B c → r.2.1 < c
theorem PtrP.mono {C : Addr} {B B' : Int → Prop} {H H' : Hp} {x : V} {rs : List Rw} (s : ∀ p, x = .ref p → H' p = H p) (t : TupS H H') (b : ∀ c, B' c → B c) (h : PtrP C B H x rs) : PtrP C B' H' x rs := by
  obtain ⟨p, dx, G, ys, n, e, e1, e2, i, hn, hb⟩ := h
  exact ⟨p, dx, G, ys, n, e, by rw [s p e]; exact e1, t _ _ e2, rowsKeep t i, hn, fun r hr c hc => hb r hr c (b c hc)⟩
theorem ItP.imp2 {β : Type} {R R' : Hp → V → β → Prop} {H H' : Hp} {xs : List V} {ys : List β} (h : ItP R H xs ys) (f : ∀ x y, R H x y → R' H' x y) : ItP R' H' xs ys := ⟨h.1, fun i x y h1 h2 => f x y (h.2 i x y h1 h2)⟩
theorem strL_get {LL : List (List Rw)} {cs : List Int} {i : Nat} {c d : Int} (h1 : cs[i]? = some c) (h2 : cs[i + 1]? = some d) : (strL LL cs)[i]? = some (c, d - 1, catAt LL c) := by
  unfold strL
  have e : cs.tail[i]? = some d := by rw [List.getElem?_tail]; exact h2
  rw [List.getElem?_map, (List.getElem?_zip_eq_some (z := (c, d))).mpr ⟨h1, e⟩]
  rfl
theorem strL_len (LL : List (List Rw)) (cs : List Int) : (strL LL cs).length = cs.length - 1 := by
  unfold strL
  rw [List.length_map, List.length_zip, List.length_tail]
  omega
theorem cat_take {LL : List (List Rw)} {i : Nat} {rs : List Rw} (h : LL[i]? = some rs) (k : Int) : catAt (LL.take (i + 1)) k = catAt (LL.take i) k ++ atR rs k := by
  unfold catAt
  rw [List.take_add_one, h, List.flatMap_append]
  show _ ++ (atR rs k ++ []) = _
  rw [List.append_nil]
theorem cat_le {LL : List (List Rw)} {i : Nat} {k : Int} : (catAt (LL.take i) k).length ≤ (catAt LL k).length := by
  have : catAt LL k = catAt (LL.take i) k ++ catAt (LL.drop i) k := by
    unfold catAt
    rw [← List.flatMap_append, List.take_append_drop]
  rw [this, List.length_append]
  omega
def spStr (C : Addr) : Sp := fun vs H Q _ => ∃ (a : Addr) (xs : List V) (Ls : List Lay) (m : Int), vs = [.ref a] ∧ SeqP H a xs ∧ ItP (LayP C) H xs Ls ∧ KeysIn m (rowsO Ls) ∧ (∀ rs ∈ rowsO Ls, Asc rs) ∧ (0 ≤ m ∧ m ≤ 60) ∧ Ls.length ≤ 1000 ∧ (∀ k, (catAt (rowsO Ls) k).length ≤ 1000) ∧
  ∀ H' p zs cs, Same H H' → H p = none → H' p = some (.lst zs) → Cuts (rowsO Ls) cs → (∀ c ∈ cs, 0 ≤ c ∧ c ≤ m + 1) → ItP RowP H' zs (strL (rowsO Ls) cs) → Q (.ref p) H'
def spGoneT : Sp := fun vs H Q _ => ∃ (y : V) (t : Vs), vs = [y] ∧ TldP H y t ∧ t.length ≤ 1000 ∧ ∀ H', Same H H' → Q (.bl (goneV t)) H'
theorem all_bs {K : PySem.W.Frag} {H : Hp} {Q : VK} {D : Addr} {bs : List Bool} (e : H D = some (.lst (bs.map V.bl))) (h : Q (.bl (bs.all id)) H) : rAll K [.ref D] H Q := ⟨D, bs, rfl, SqL.of e, h⟩
theorem oV_non (o : Option Tx) : decide (oV o = .non) = o.isNone := by cases o <;> rfl
section
variable {P : Program} {w : World} {K : PySem.W.Frag} {mg : Str → Option Value} {base : Heap} {C_Sheet C_Layer C_Pointer C_BadSheet C_BadDay C_BadKey C_BadLayers D_Sheet_0 D_Sheet_1 : Addr}
theorem cal_is_gone (T : TX P K mg C_Sheet C_Layer C_Pointer C_BadSheet C_BadDay C_BadKey C_BadLayers D_Sheet_0 D_Sheet_1) : Cal P w K mg base 1 "is_gone" (spGoneT) [] := by
  obtain ⟨f0, fd, D, dn⟩ := T.d_is_gone
  refine cal0 D (D.fn.binds dn fun _ _ _ _ _ _ us hl => match us, hl with | [_], _ => rfl) .nil sc_is_gone (by walk_at "len") (fun cdv A outer s H vs Q E hr h => ?_)
  obtain ⟨y, t, rfl, ⟨a, xs, rfl, ea, ix⟩, hl, k⟩ := h
  refine ⟨_, (pss_one (ps_ret (pe_callB (cr_all rfl) (by rfl) T.b_all (by decide +kernel) (pa_cons (pe_lc (own := [("day", 1), ("value", 2)]) (g := gTup _ 2 (gCons (gName 1) (gCons (gName 2) gNil))) (tt := tYes) rfl sc_is_gone.nd (pi_tup (pv 0)) (blkOk_by (own := [("day", 1), ("value", 2)]) (N := N_is_gone) (sc := fnScope s_is_gone) (by decide +kernel)) (fun _ _ _ _ _ => (pg_tup rfl (pgs_cons (pg_n 1 sc_is_gone.nd) (pgs_cons (pg_n 2 sc_is_gone.nd) pgs_nil)))) (fun _ _ _ _ _ => pts_nil) (fun _ _ _ _ _ => (pe_cmpR op_isNn (pv 2) pe_non (nomark _)))) pa_nil)))), ?_⟩
  walk_at "rd"
  refine rd_tpR (SqT.of ea) ?_
  refine lcR_tup (xs := xs) (fun W i H' => Same H H' ∧ H' W = some (.lst (((t.take i).map fun v => v.2.isNone).map V.bl))) (fun W i H' _ ⟨s, _⟩ => SqT.of (s _ _ ea)) (fun W H' _ s e _ => ⟨s, e⟩) ?_ ?_
  · rintro W i x H1 hW hx ⟨s1, eW⟩
    obtain ⟨v, hv, b, rfl, eb⟩ := (versKeep (.of s1) ix).getV hx
    refine rd_gtup eb rfl ?_
    walk_at "rd"
    refine ⟨rfl, ?_⟩
    walk_at "rd"
    refine rd_isN0 ?_
    rw [oV_non]
    refine rd_lcE eW (by rw [List.length_map, List.length_map, List.length_take]; omega) fun H2 eH2 eW2 => ?_
    refine ⟨by rw [eH2]; exact Same.mut s1 hW, ?_⟩
    rw [eW2, List.take_add_one, hv, List.map_append, List.map_append]
    rfl
  · rintro W H1 hW ⟨s1, eW⟩
    rw [ix.1, List.take_length] at eW
    walk_at "rd"
    refine all_bs eW ?_
    have := k H1 s1
    unfold goneV at this
    rw [List.all_map]
    exact this
theorem cal_stretches (T : TX P K mg C_Sheet C_Layer C_Pointer C_BadSheet C_BadDay C_BadKey C_BadLayers D_Sheet_0 D_Sheet_1) : Cal P w K mg base 3 "stretches" (spStr C_Layer) [] := by
  obtain ⟨f0, fd, D, dn⟩ := T.d_stretches
  have G_cuts_of := cal_cuts_of (P := P) (w := w) (base := base) T
  have G_Pointer_init := mak_Pointer_init (P := P) (w := w) (base := base) T
  have G_Pointer_told := met_Pointer_told (P := P) (w := w) (base := base) T
  refine cal0 D (D.fn.binds dn fun _ _ _ _ _ _ us hl => match us, hl with | [_], _ => rfl) .nil sc_stretches (by walk_at "len") (fun cdv A outer s H vs Q E hr h => ?_)
  obtain ⟨a, xs, Ls, m, rfl, ea, ip, ki, asc, hm, hL, hcat, k⟩ := h
  have lx := ip.1
  refine ⟨_, (pss_cons (ps_setLc (i := 1) (own := [("layer", 2)]) (g := gName 2) (tt := tYes) rfl sc_stretches.nd rfl rfl (sw_true rfl rfl rfl (by decide +kernel)) (pi_alt (pi_list (pv 0)) (pi_tup (pv 0))) (blkOk_by (own := [("layer", 2)]) (N := N_stretches) (sc := fnScope s_stretches) (by decide +kernel)) (fun _ _ _ _ _ => (pg_n 2 sc_stretches.nd)) (fun _ _ _ _ _ => pts_nil) (fun _ _ _ _ _ => (pe_fldK K (pe_fld (pv 2) rfl))))
      (pss_cons (ps_par (i := 3) (j := 4) rfl sc_stretches.nd rfl rfl (by decide) rfl rfl (pa_cons (pe_c G_cuts_of hr (by decide) rfl (pa_cons (pv 1) pa_nil)) (pa_cons (pe_lc (own := [("rows", 5)]) (g := gName 5) (tt := tYes) rfl sc_stretches.nd (pi_list (pv 1)) (blkOk_by (own := [("rows", 5)]) (N := N_stretches) (sc := fnScope s_stretches) (by decide +kernel)) (fun _ _ _ _ _ => (pg_n 5 sc_stretches.nd)) (fun _ _ _ _ _ => pts_nil) (fun _ _ _ _ _ => (pe_mk G_Pointer_init hr (by decide) rfl (pa_cons (pv 5) pa_nil)))) pa_nil)) (by rfl))
      (pss_cons (ps_s 6 sc_stretches.nd (pe_lst pa_nil))
      (pss_cons (ps_for PassesOwn.never rfl (pi_zip rfl T.b_zip (pa_cons (pv 3) (pa_cons (pe_slice sl_list (pv 3) (po_some pe_int) po_none) pa_nil))) (pg_tup rfl (pgs_cons (pg_n 7 sc_stretches.nd) (pgs_cons (pg_n 8 sc_stretches.nd) pgs_nil))) (pss_cons (ps_s 9 sc_stretches.nd (pe_tup pa_nil))
      (pss_cons (ps_for PassesOwn.never rfl (pi_list (pv 4)) (pg_n 10 sc_stretches.nd) (pss_one (ps_s 9 sc_stretches.nd (pe_tup (pa_star (pv 9) (pa_star (pe_mt G_Pointer_told hr (by decide) (pv 10) (pa_cons (pv 7) pa_nil)) pa_nil))))))
      (pss_one (ps_expr (pe_bm PySem.F.plainAttrs_list PySem.F.slot_list_append PySem.F.type_list_append mt_append (pv 6) (pa_cons (pe_tup (pa_cons (pv 7) (pa_cons (pe_op op_sub (pv 8) pe_int) (pa_cons (pv 9) pa_nil)))) pa_nil)))))))
      (pss_one (ps_ret (pv 6))))))), ?_⟩
  walk_at "rd"
  refine altQ rfl ea.q fun J hJ => ?_
  refine lcR_Q hJ (fun W i H' => Same H H' ∧ ∃ gs, H' W = some (.lst gs) ∧ ItP GP H' gs ((rowsO Ls).take i)) (fun W i H' _ ⟨s, _⟩ => s) (fun W H' _ s e _ => ⟨s, [], e, .nil⟩) ?_ ?_
  · rintro W i x H1 hW hx ⟨s1, gs, eW, ig⟩
    obtain ⟨L, hLi, b, rfl, ly⟩ := ip.getV hx
    obtain ⟨dx, G, ys, h1, h2, h3⟩ := (ly.mono s1).ex
    have lg := ig.1
    walk_at "rd"
    refine ⟨rfl, ?_⟩
    walk_at "rd"
    refine rd_fld h1 T.cl_Layer T.na_Layer_rows (ly_rows _ _ G) ?_
    refine rd_lcE eW (by rw [lg, List.length_take]; unfold rowsO; rw [List.length_map]; omega) fun H2 eH2 eW2 => ?_
    refine ⟨by rw [eH2]; exact Same.mut s1 hW, gs ++ [.ref G], eW2, ?_⟩
    have kp : TupS H1 H2 := by rw [eH2]; exact TupS.updL eW
    have e : (rowsO Ls)[i]? = some L.2.2 := by unfold rowsO; rw [List.getElem?_map, hLi]; rfl
    rw [List.take_add_one, e]
    exact (ig.imp fun _ _ h => GP.keep kp h).snoc (GP.keep kp ⟨G, ys, rfl, h2, h3⟩)
  rintro W H1 hW ⟨s1, gs, eW, ig⟩
  have lLL : (rowsO Ls).length = Ls.length := by unfold rowsO; rw [List.length_map]
  rw [lx, ← lLL, List.take_length] at ig
  have lg := ig.1
  walk_at "rd"
  refine ⟨W, gs, rowsO Ls, m, rfl, eW, ig, ki, hm, fun H2 c cs s2 hc ec C cb => ?_⟩
  walk_at "rd"
  refine rd_lsR (SqL.of (s2 _ _ eW)) ?_
  refine lcR_lst (xs := gs) (fun P i H' => Same H2 H' ∧ ∃ ps : List Addr, H' P = some (.lst (ps.map V.ref)) ∧ ps.Nodup ∧ (∀ p ∈ ps, H2 p = none) ∧ ItP (PtrP C_Pointer fun _ => True) H' (ps.map V.ref) ((rowsO Ls).take i)) (fun P i H' _ ⟨s, _⟩ => SqL.of ((s2.trans s) _ _ eW)) (fun P H' _ s e _ => ⟨s, [], e, List.nodup_nil, (fun p h => by cases h), .nil⟩) ?_ ?_
  · rintro P i x H3 hP hx ⟨s3, ps, eP, nd, pn, iq⟩
    obtain ⟨rs, hrs, G, ys, rfl, eG, iy⟩ := (ig.imp (H' := H3) fun _ _ h => GP.keep (.of (s2.trans s3)) h).getV hx
    have lq := iq.1
    walk_at "rd"
    refine ⟨rfl, ?_⟩
    walk_at "rd"
    refine rd_make fun y dy H4 s4 hy ey => ?_
    refine ⟨y, dy, G, H3, rfl, s4, hy, ey, fun H5 s5 e5 => ⟨rfl, ?_⟩⟩
    have eP5 := s5 _ _ eP
    refine rd_lcE eP5 (by rw [lq, List.length_take]; omega) fun H6 eH6 eP6 => ?_
    have kp : TupS H5 H6 := by rw [eH6]; exact TupS.updL eP5
    have hyP : y ≠ P := fun z => by rw [z, eP] at hy; cases hy
    refine ⟨by rw [eH6]; exact Same.mut (s3.trans s5) hP, ps ++ [y], by rw [eP6, List.map_append]; rfl, ?_, fun p hp => ?_, ?_⟩
    · rw [List.nodup_append]
      refine ⟨nd, by simp, fun q hq z hz w => ?_⟩
      rw [List.mem_singleton.mp hz] at w
      obtain ⟨j, hj⟩ := List.getElem?_of_mem hq
      obtain ⟨rs', _, p', dx', G', ys', n', e1, e2, _⟩ := iq.getV (x := .ref q) (i := j) (by rw [List.getElem?_map, hj]; rfl)
      cases e1
      rw [w, hy] at e2
      cases e2
    · rcases List.mem_append.mp hp with z | z
      · exact pn p z
      · rw [List.mem_singleton.mp z]
        exact none_back s3 hy
    · rw [List.take_add_one, hrs, List.map_append]
      refine (ItP.imp (R := PtrP C_Pointer fun _ => True) (H := H3) (H' := H6) iq fun v r h => ?_).snoc ⟨y, dy, G, ys, 0, rfl, ?_, kp _ _ (s5 _ _ eG), rowsKeep ((TupS.of s5).trans kp) iy, Nat.zero_le _, (fun r hr => by cases hr)⟩
      · refine PtrP.mono (fun p e => ?_) ((TupS.of s5).trans kp) (fun _ h => h) h
        obtain ⟨p', dx', G', ys', n', e1, e2, _⟩ := h
        rw [e] at e1
        cases e1
        rw [eH6, upd_ne (fun z => by rw [z, eP] at e2; cases e2), s5 _ _ e2, e2]
      · rw [eH6, upd_ne hyP]
        exact e5
  rintro P H3 hP ⟨s3, ps, eP, nd, pn, iq⟩
  rw [lg, List.take_length] at iq
  have lq := iq.1
  rw [List.length_map] at lq
  walk_at "rd"
  refine rd_newL (by decide) fun F H4 hF s4 eF _ => ?_
  have ec4 := (s3.trans s4) _ _ ec
  walk_at "rd"
  refine rd_slL (SqL.of ec4) fun c2 H5 hc2 s5 ec2 _ => ?_
  have ecut : cutV (cs.map V.int) (some 1) none = (cs.map V.int).drop 1 := cutN_drop (m := 1)
  rw [ecut] at ec2
  have s35 := s4.trans s5
  have s15 : Same H H5 := s1.trans (s2.trans (s3.trans s35))
  have hF0 : H F = none := none_back (s1.trans (s2.trans s3)) hF
  have hFc : F ≠ c := fun z => by rw [z, (s3 _ _ ec)] at hF; cases hF
  have hFc2 : F ≠ c2 := fun z => by rw [z] at eF; rw [eF] at hc2; cases hc2
  have hFP : F ≠ P := fun z => by rw [z, eP] at hF; cases hF
  have pH : ∀ p ∈ ps, H p = none := fun p hp => none_back (s1.trans s2) (pn p hp)
  have lc : cs.length ≤ 62 := by
    have := asc_ints_len (lo := 0) (m := m + 1) C.asc cb (by omega)
    omega
  -- what stands while pointers go on
  walk_at "rd"
  refine rd_zpR (xs := cs.map V.int) (ys := (cs.map V.int).drop 1) (SqL.of (s5 _ _ ec4)) (SqL.of ec2) ?_
  have inv0 : ItP (PtrP C_Pointer fun c => c ∈ cs.drop 0) H5 (ps.map V.ref) (rowsO Ls) := iq.imp2 fun v r h => by
    refine PtrP.mono (fun p e => ?_) (TupS.of s35) (fun _ _ => trivial) h
    obtain ⟨p', dx', G', ys', n', e1, e2, _⟩ := h
    rw [e] at e1
    cases e1
    rw [s35 _ _ e2, e2]
  refine forR_zip (cs.length - 1) (by rw [List.length_drop, List.length_map]; omega)
    (fun j σ H' => ∃ (zs : List V) (v7 v8 v9 v10 : Option V), Same H H' ∧ H' c = some (.lst (cs.map V.int)) ∧ H' c2 = some (.lst ((cs.map V.int).drop 1)) ∧ H' P = some (.lst (ps.map V.ref)) ∧ H' F = some (.lst zs) ∧ ItP RowP H' zs ((strL (rowsO Ls) cs).take j) ∧ ItP (PtrP C_Pointer fun c => c ∈ cs.drop j) H' (ps.map V.ref) (rowsO Ls) ∧ σ = [some (.ref a), some (.ref W), none, some (.ref c), some (.ref P), none, some (.ref F), v7, v8, v9, v10])
    (fun j σ H' ⟨_, _, _, _, _, _, e1, e2, _⟩ => ⟨SqL.of e1, SqL.of e2⟩) ⟨[], _, _, _, _, s15, s5 _ _ ec4, ec2, (s35) _ _ eP, s5 _ _ eF, .nil, inv0, rfl⟩ ?_ ?_
  · rintro j x y σ H6 t H7 hj hx hy ⟨zs, v7, v8, v9, v10, s6, e6c, e6c2, e6P, e6F, iz, ipt, rfl⟩ ht s67 et
    rw [List.getElem?_map] at hx
    rw [List.getElem?_drop, List.getElem?_map] at hy
    obtain ⟨low, hlow, rfl⟩ : ∃ z, cs[j]? = some z ∧ x = .int z := by
      cases q : cs[j]? with
      | none => rw [q] at hx; cases hx
      | some z => rw [q] at hx; exact ⟨z, rfl, (Option.some.inj hx).symm⟩
    obtain ⟨late, hlate, rfl⟩ : ∃ z, cs[j + 1]? = some z ∧ y = .int z := by
      rw [Nat.add_comm 1 j] at hy
      cases q : cs[j + 1]? with
      | none => rw [q] at hy; cases hy
      | some z => rw [q] at hy; exact ⟨z, rfl, (Option.some.inj hy).symm⟩
    have hlz := iz.1
    refine rd_gtup et rfl ?_
    walk_at "rd"
    refine rd_newT (by simp) fun t0 H8 ht0 s8 et0 _ => ?_
    have s68 := s67.trans s8
    have keepPt : ∀ {Hx Hy : Hp} {B : Int → Prop}, Same Hx Hy → ItP (PtrP C_Pointer B) Hx (ps.map V.ref) (rowsO Ls) → ItP (PtrP C_Pointer B) Hy (ps.map V.ref) (rowsO Ls) := fun s i => i.imp fun v r h => by
      refine PtrP.mono (fun p e => ?_) (TupS.of s) (fun _ h => h) h
      obtain ⟨p', dx', G', ys', n', e1, e2, _⟩ := h
      rw [e] at e1
      cases e1
      rw [s _ _ e2, e2]
    walk_at "rd"
    refine rd_lsR (SqL.of (s68 _ _ e6P)) ?_
    refine forR_lst (xs := ps.map V.ref) (fun i σ H' => ∃ (tv : V) (v10 : Option V), Same H H' ∧ H' c = some (.lst (cs.map V.int)) ∧ H' c2 = some (.lst ((cs.map V.int).drop 1)) ∧ H' P = some (.lst (ps.map V.ref)) ∧ H' F = some (.lst zs) ∧ ItP RowP H' zs ((strL (rowsO Ls) cs).take j) ∧ ItP (PtrP C_Pointer fun c => c ∈ cs.drop j) H' (ps.map V.ref) (rowsO Ls) ∧ TldP H' tv (catAt ((rowsO Ls).take i) low) ∧ σ = [some (.ref a), some (.ref W), none, some (.ref c), some (.ref P), none, some (.ref F), some (.int low), some (.int late), some tv, v10])
      (fun i σ H' ⟨_, _, _, _, _, e, _⟩ => SqL.of e) ⟨_, _, s6.trans s68, s68 _ _ e6c, s68 _ _ e6c2, s68 _ _ e6P, s68 _ _ e6F, rowsKeep (.of s68) iz, keepPt s68 ipt, ⟨t0, [], rfl, et0, .nil⟩, rfl⟩ ?_ ?_
    · rintro i x σ H9 hx ⟨tv, v10, s9, e9c, e9c2, e9P, e9F, iz9, ip9, ⟨ta, tx, rfl, eta, itx⟩, rfl⟩
      obtain ⟨p, hp, rfl⟩ := refs_get hx
      obtain ⟨rs, hrs, p', dx, G, ys, n, e1, e2, eG, iy, hn, hb⟩ := ip9.getV hx
      cases e1
      have hmem : rs ∈ rowsO Ls := List.mem_of_getElem? hrs
      walk_at "rd"
      refine ⟨ta, tx, rfl, .inl (SqT.of eta), ?_⟩
      walk_at "rd"
      refine ⟨p, dx, _, rfl, e2, rfl, ?_⟩
      walk_at "rd"
      have lowin : low ∈ cs.drop j := by
        rw [List.mem_iff_getElem?]
        exact ⟨0, by rw [List.getElem?_drop]; exact hlow⟩
      refine ⟨p, dx, G, ys, rs, n, low, rfl, e2, eG, iy, asc rs hmem, fun r hr => (ki rs hmem r hr).2.1, hn, fun r hr => hb r hr low lowin, fun H10 yv n' kx e10 hn' hb' td => ?_⟩
      obtain ⟨tb, ty, rfl, etb, ity⟩ := td
      refine ⟨tb, ty, rfl, .inl (SqT.of etb), ?_⟩
      walk_at "rd"
      have tk : TupS H9 H10 := KeepX.tup e2 kx
      have l1 := itx.1
      have l2 := ity.1
      have l3 : (catAt ((rowsO Ls).take i) low).length + (atR rs low).length ≤ 1000 := by
        rw [← List.length_append, ← cat_take hrs low]
        exact Nat.le_trans cat_le (hcat low)
      refine rd_newT (by simp; omega) fun tn H11 htn s11 etn _ => ?_
      rw [List.append_nil] at etn
      have tk11 : TupS H9 H11 := tk.trans (.of s11)
      have lst : ∀ b l, H9 b = some (.lst l) → H11 b = some (.lst l) := fun b l h => s11 _ _ (kx _ _ (fun z => by rw [z, e2] at h; cases h) h)
      refine ⟨.ref tn, _, fun b o hbo => ?_, lst _ _ e9c, lst _ _ e9c2, lst _ _ e9P, lst _ _ e9F, rowsKeep tk11 iz9, ?_, ?_, rfl⟩
      · refine s11 _ _ (kx _ _ (fun z => ?_) (s9 _ _ hbo))
        rw [z, pH p (List.mem_of_getElem? hp)] at hbo
        cases hbo
      · -- the pointers
        refine ⟨ip9.1, fun i2 x2 r2 h1 h2 => ?_⟩
        have old := ip9.2 i2 x2 r2 h1 h2
        by_cases c : i2 = i
        · subst c
          rw [hx] at h1
          cases h1
          rw [hrs] at h2
          cases h2
          refine ⟨p, dx, G, ys, n', rfl, s11 _ _ e10, tk11 _ _ eG, rowsKeep tk11 iy, hn', fun r hr cc hcc => ?_⟩
          have := hb' r hr
          have : low ≤ cc := by
            rw [List.drop_eq_getElem_cons (List.getElem?_eq_some_iff.mp hlow).1, (List.getElem?_eq_some_iff.mp hlow).2] at hcc
            have pw : (cs.drop j).Pairwise (· < ·) := List.Pairwise.sublist (List.drop_sublist _ _) C.asc
            rw [List.drop_eq_getElem_cons (List.getElem?_eq_some_iff.mp hlow).1, (List.getElem?_eq_some_iff.mp hlow).2] at pw
            rcases List.mem_cons.mp hcc with z | z
            · omega
            · have := (List.pairwise_cons.mp pw).1 cc z
              omega
          omega
        · refine PtrP.mono (fun q e => ?_) tk11 (fun _ h => h) old
          obtain ⟨p', dx', G', ys', n'', e1, e3, _⟩ := old
          rw [e] at e1
          cases e1
          have hqp : q ≠ p := by
            intro z
            subst z
            obtain ⟨q', hq', ez⟩ := refs_get (h1.trans (by rw [e]))
            cases ez
            obtain ⟨hi, ei⟩ := List.getElem?_eq_some_iff.mp hq'
            obtain ⟨hj2, ej⟩ := List.getElem?_eq_some_iff.mp hp
            rcases Nat.lt_or_gt_of_ne c with z | z
            · exact List.pairwise_iff_getElem.mp nd i2 i hi hj2 z (ei.trans ej.symm)
            · exact List.pairwise_iff_getElem.mp nd i i2 hj2 hi z (ej.trans ei.symm)
          rw [s11 _ _ (kx _ _ hqp e3), e3]
      · rw [cat_take hrs low]
        exact ⟨tn, tx ++ ty, rfl, etn, (versKeep tk11 itx).append (versKeep (.of s11) ity)⟩
    · rintro σ H9 ⟨tv, v10, s9, e9c, e9c2, e9P, e9F, iz9, ip9, td9, rfl⟩
      rw [List.length_map, lq, List.take_length] at td9
      walk_at "rd"
      refine rd_tyL e9F ?_
      walk_at "rd"
      refine rd_newT (by simp) fun tr H10 htr s10 etr _ => ?_
      walk_at "rd"
      have e10F := s10 _ _ e9F
      refine rd_app e10F (by rw [hlz, List.length_take, strL_len]; omega) fun H11 eH11 e11F => ?_
      have tk : TupS H9 H11 := (TupS.of s10).trans (by rw [eH11]; exact TupS.updL e10F)
      have ne : ∀ b, b ≠ F → H10 b = H11 b := fun b h => by rw [eH11, upd_ne h]
      refine ⟨zs ++ [.ref tr], _, _, _, _, by rw [eH11]; exact Same.mut (s9.trans s10) hF0, by rw [← ne _ hFc.symm]; exact s10 _ _ e9c, by rw [← ne _ hFc2.symm]; exact s10 _ _ e9c2, by rw [← ne _ hFP.symm]; exact s10 _ _ e9P, e11F, ?_, ?_, rfl⟩
      · rw [List.take_add_one, strL_get hlow hlate]
        exact (rowsKeep tk iz9).snoc ⟨tr, tv, rfl, by rw [eH11]; exact (TupS.updL e10F) _ _ etr, td9.keep tk⟩
      · refine ip9.imp2 fun v r h => ?_
        refine PtrP.mono (fun p e => ?_) tk (fun cc hcc => ?_) h
        · obtain ⟨p', dx', G', ys', n'', e1, e3, _⟩ := h
          rw [e] at e1
          cases e1
          rw [← ne _ (fun z => by rw [z, e9F] at e3; cases e3), s10 _ _ e3, e3]
        · have : (cs.drop (j + 1)) = (cs.drop j).drop 1 := by rw [List.drop_drop]
          rw [this] at hcc
          exact List.mem_of_mem_drop hcc
  · rintro σ H6 ⟨zs, v7, v8, v9, v10, s6, e6c, e6c2, e6P, e6F, iz, ipt, rfl⟩
    rw [← strL_len (rowsO Ls) cs, List.take_length] at iz
    walk_at "rd"
    exact k H6 F zs cs s6 hF0 e6F C cb iz
end
end Sl

set_option Elab.async false
set_option linter.all false
set_option maxRecDepth 100000
set_option maxHeartbeats 8000000
set_option exponentiation.threshold 9000
namespace Sl
open PySem L2 C8 StX Silt LiI RT
local macro_rules | `(tactic| walk_at "side") => `(tactic| first
  | exact cdivw (by omega) (by omega)
  | exact cmulw (by omega) (by omega) (by omega) (by omega)
  | exact Or.inr ⟨by omega, by omega⟩
  | exact Or.inl ⟨by omega, by omega⟩
  | omega
  | exact ⟨by omega, by omega, by decide⟩
  | decide)
local macro_rules | `(tactic| walk_at "rd1") => `(tactic| first
  | with_reducible refine rd_seq ?_
  | with_reducible refine rd_asg ?_
  | with_reducible refine rd_drop ?_
  | with_reducible refine rd_ret ?_
  | with_reducible refine rd_retN ?_
  | with_reducible refine rd_ifS ?_
  | ((with_reducible refine rd_var0 ?_); refine ⟨_, rfl, ?_⟩)
  | with_reducible refine rd_c ?_
  | with_reducible refine rd_op ?_
  | with_reducible refine rd_un ?_
  | with_reducible refine rd_I0 ?_
  | with_reducible refine rd_U ?_
  | ((with_reducible refine rd_I ?c ?_); (case c => walk_at "side"))
  | with_reducible refine rd_ipI ?_
  | with_reducible refine rd_eqI ?_
  | with_reducible refine rd_neI ?_
  | with_reducible refine rd_test ?_
  | with_reducible refine rd_tB ?_
  | with_reducible refine rd_bl ?_
  | with_reducible refine rd_not ?_
  | with_reducible refine rd_and ?_
  | with_reducible refine rd_or ?_
  | with_reducible refine rd_andV ?_
  | with_reducible refine rd_orV ?_
  | with_reducible refine rd_notV ?_
  | with_reducible refine rd_ifE ?_
  | with_reducible refine rd_chain ?_
  | with_reducible refine rd_chain3 ?_
  | with_reducible refine rd_nil ?_
  | with_reducible refine rd_cons ?_
  | with_reducible refine rd_call ?_
  | with_reducible refine rd_CB ?_
  | with_reducible refine rd_par ?_
  | with_reducible refine rd_par2 ?_
  | with_reducible refine rd_par3 ?_
  | with_reducible refine rd_par4 ?_
  | ((with_reducible refine rd_aug0 ?_); refine ⟨_, rfl, ?_⟩)
  | with_reducible refine rd_gname ?_
  | with_reducible refine rd_gcons ?_
  | with_reducible refine rd_gnil ?_
  | with_reducible refine rd_max ?_
  | with_reducible refine rd_min ?_
  | with_reducible refine rd_int1 ?_
  | with_reducible refine rd_abs ?_
  | with_reducible refine rd_lst ?_
  | with_reducible refine rd_tup ?_
  | with_reducible refine rd_bm ?_
  | with_reducible refine rd_fld0 ?_
  | with_reducible refine rd_sl0 ?_
  | with_reducible refine rd_noP ?_
  | with_reducible refine rd_part ?_
  | with_reducible refine rd_part2 ?_
  | with_reducible refine rd_meth0 ?_
  | with_reducible refine rd_star ?_
  | with_reducible refine rd_for ?_
  | with_reducible refine rd_rng1 ?_
  | with_reducible refine rd_rng2 ?_
  | with_reducible refine rd_rng3 ?_
  | with_reducible refine rd_iList ?_
  | with_reducible refine rd_iTup ?_
  | with_reducible refine rd_iEnum ?_
  | with_reducible refine rd_lc ?_
  | with_reducible refine rd_yes ?_
  | with_reducible refine rd_augS ?_
  | with_reducible refine rd_drawNew ?_
  | with_reducible refine rd_make0 ?_
  | with_reducible refine rd_next ?_
  | with_reducible refine rd_break ?_
  | with_reducible refine rd_cont ?_
  | with_reducible refine rd_iteTT ?_
  | with_reducible refine rd_iteFF ?_
  | with_reducible refine rd_iteNTT ?_
  | with_reducible refine rd_iteNFF ?_
  | with_reducible refine rd_con0 ?_
  | with_reducible refine rd_truO0 ?_
  | with_reducible refine rd_gfld0 ?_
  | with_reducible refine rd_dc ?_
  | with_reducible refine rd_iKeys ?_
  | with_reducible refine rd_dget0 ?_
  | with_reducible refine rd_dput0 ?_
  | with_reducible refine rd_dnot0 ?_
  | with_reducible refine rd_iEnumT ?_
  | with_reducible refine rd_raP0 ?_
  | with_reducible refine rd_xf0 ?_
  | with_reducible refine rd_cKw ?_
  | with_reducible refine rd_iStr ?_
  | with_reducible refine rd_gSub ?_
  | with_reducible refine rd_asgG ?_)
local macro_rules | `(tactic| walk_at "rd") => `(tactic| repeat walk_at "rd1")
local macro_rules | `(tactic| walk_at "len") => `(tactic| first
  | (intro vs H Q E h; obtain ⟨h2, _⟩ := h; rw [h2]; rfl)
  | (intro vs H Q E h; obtain ⟨_, h2, _⟩ := h; rw [h2]; rfl)
  | (intro vs H Q E h; obtain ⟨_, _, h2, _⟩ := h; rw [h2]; rfl)
  | (intro vs H Q E h; obtain ⟨_, _, _, h2, _⟩ := h; rw [h2]; rfl)
  | (intro vs H Q E h; obtain ⟨_, _, _, _, h2, _⟩ := h; rw [h2]; rfl)
  | (intro vs H Q E h; obtain ⟨_, _, _, _, _, h2, _⟩ := h; rw [h2]; rfl)
  | (intro vs H Q E h; obtain ⟨_, _, _, _, _, _, h2, _⟩ := h; rw [h2]; rfl)
  | (intro vs H Q E h; obtain ⟨_, _, _, _, _, _, _, h2, _⟩ := h; rw [h2]; rfl)
  | (intro vs H Q E h; obtain ⟨_, _, _, _, _, _, _, _, h2, _⟩ := h; rw [h2]; rfl)
  | (intro vs H Q E h; obtain ⟨_, _, _, _, _, _, _, _, _, h2, _⟩ := h; rw [h2]; rfl)
  | (intro vs H Q E h; obtain ⟨_, _, _, _, _, _, _, _, _, _, h2, _⟩ := h; rw [h2]; rfl)
  | (intro vs H Q E h; obtain ⟨_, _, _, _, _, _, _, _, _, _, _, h2, _⟩ := h; rw [h2]; rfl)
  | (intro vs H Q E h; obtain ⟨_, _, _, _, _, _, _, _, _, _, _, _, h2, _⟩ := h; rw [h2]; rfl))
theorem shn_lst {β : Type} {f : β → PyData} {n : Nat} (h : ∀ a, ShN n (f a)) (l : List β) : ShN (n + 1) (.list (l.map f)) := by
  obtain ⟨i1, i2⟩ := shn_all h l
  refine ⟨by simp [PyData.canLay0, i1], ?_⟩
  simp [PyData.depth]
  omega
def spTidy : Sp := fun vs H Q _ => ∃ (a : Addr) (xs : List V) (rs : List Rw), vs = [.ref a] ∧ H a = some (.lst xs) ∧ ItP RowP H xs rs ∧ Asc rs ∧ (∀ r ∈ rs, r.1 ≤ r.2.1 ∧ (goneV r.2.2 = false → r.1 = r.2.1) ∧ r.2.2.length ≤ 1000) ∧ rs.length ≤ 1000 ∧
  ∀ H' p zs f, Same H H' → H p = none → H' p = some (.lst zs) → ItP RowP H' zs f → Tidy f → (∀ k, atR f k = atR rs k) → (∀ x ∈ f, ∃ r ∈ rs, ∃ s ∈ rs, x.1 = r.1 ∧ x.2.1 = s.2.1) → Q (.ref p) H'
def spNeed (K : PySem.W.Frag) : Sp := fun vs H Q _ => ∃ (d l : Int) (a : Addr) (pins : List Int), vs = [.int d, .int l, .ref a] ∧ SqQ K H a (pins.map V.int) ∧ pins.length ≤ 1000 ∧ ∀ H', Same H H' → Q (.bl (ndP pins d l)) H'
def spKept (K : PySem.W.Frag) : Sp := fun vs H Q _ => ∃ (y : V) (a : Addr) (b : Bool) (t : Vs) (pins : List Int), vs = [y, .ref a, .bl b] ∧ TldP H y t ∧ t.length ≤ 1000 ∧ SqQ K H a (pins.map V.int) ∧ pins.length ≤ 1000 ∧ ∀ H' w, Same H H' → TldP H' w (keptF pins b t) → Q w H'
theorem any_bs {K : PySem.W.Frag} {H : Hp} {Q : VK} {D : Addr} {bs : List Bool} (e : H D = some (.lst (bs.map V.bl))) (h : Q (.bl (bs.any id)) H) : rAny K [.ref D] H Q := ⟨D, bs, rfl, SqL.of e, h⟩
theorem ints_at {l : List Int} {i : Nat} {v : V} (h : (l.map V.int)[i]? = some v) : ∃ m, l[i]? = some m ∧ v = .int m := by
  rw [List.getElem?_map] at h
  cases q : l[i]? with
  | none => rw [q] at h; cases h
  | some m => rw [q] at h; exact ⟨m, rfl, (Option.some.inj h).symm⟩
theorem upto_take {t : Vs} {i : Nat} {u : Ver} (h : t[i]? = some u) (l : Option Int) : upto l (t.take (i + 1)) = some u.1 := by
  have sn : ∀ (a : Vs) (l : Option Int), upto l (a ++ [u]) = some u.1 := by
    intro a
    induction a with
    | nil => exact fun _ => rfl
    | cons v a ih => exact fun l => ih _
  rw [List.take_add_one, h]
  exact sn _ _
theorem at_cut {rs : List Rw} {j : Nat} {r : Rw} (h : rs[j]? = some r) (a : Asc rs) (l : ∀ x ∈ rs, x.1 ≤ x.2.1) (k : Int) : atR (rs.take (j + 1)) k = if hasK r k then r.2.2 else atR (rs.take j) k := by
  rw [List.take_add_one, h]
  have a2 : Asc (rs.take (j + 1)) := List.Pairwise.sublist (List.take_sublist _ _) a
  have l2 : ∀ x ∈ rs.take (j + 1), x.1 ≤ x.2.1 := fun x hx => l x (List.mem_of_mem_take hx)
  rw [List.take_add_one, h] at a2 l2
  exact at_snoc a2 l2 k
section
variable {P : Program} {w : World} {K : PySem.W.Frag} {mg : Str → Option Value} {base : Heap} {C_Sheet C_Layer C_Pointer C_BadSheet C_BadDay C_BadKey C_BadLayers D_Sheet_0 D_Sheet_1 : Addr}
theorem cal_is_needed (T : TX P K mg C_Sheet C_Layer C_Pointer C_BadSheet C_BadDay C_BadKey C_BadLayers D_Sheet_0 D_Sheet_1) : Cal P w K mg base 1 "is_needed" (spNeed K) [] := by
  obtain ⟨f0, fd, D, dn⟩ := T.d_is_needed
  refine cal0 D (D.fn.binds dn fun _ _ _ _ _ _ us hl => match us, hl with | [_, _, _], _ => rfl) .nil sc_is_needed (by walk_at "len") (fun cdv A outer s H vs Q E hr h => ?_)
  obtain ⟨d, l, a, pins, rfl, ep, lp, k⟩ := h
  have lx : (pins.map V.int).length = pins.length := List.length_map _
  refine ⟨_, (pss_one (ps_ret (pe_callB (cr_any rfl) (by rfl) T.b_any (by decide +kernel) (pa_cons (pe_lc (own := [("pin", 3)]) (g := gName 3) (tt := tYes) rfl sc_is_needed.nd (pi_alt (pi_list (pv 2)) (pi_tup (pv 2))) (blkOk_by (own := [("pin", 3)]) (N := N_is_needed) (sc := fnScope s_is_needed) (by decide +kernel)) (fun _ _ _ _ _ => (pg_n 3 sc_is_needed.nd)) (fun _ _ _ _ _ => pts_nil) (fun _ _ _ _ _ => (pe_chain op_le op_lt (pv 0) (pv 3) (pv 1)))) pa_nil)))), ?_⟩
  walk_at "rd"
  refine altQ rfl ep fun J hJ => ?_
  refine lcR_Q hJ (fun W i H' => Same H H' ∧ H' W = some (.lst (((pins.take i).map fun q => decide (d ≤ q ∧ q < l)).map V.bl))) (fun W i H' _ ⟨s, _⟩ => s) (fun W H' _ s e _ => ⟨s, e⟩) ?_ ?_
  · rintro W i y H2 hW hy ⟨s2, eW⟩
    have hi := (List.getElem?_eq_some_iff.mp hy).1
    obtain ⟨m, hm, rfl⟩ := ints_at hy
    have fin : ∀ b, b = (decide (d ≤ m ∧ m < l)) → LcE W (fun H' => Same H H' ∧ H' W = some (.lst (((pins.take (i + 1)).map fun q => decide (d ≤ q ∧ q < l)).map V.bl))) (.bl b) H2 := by
      rintro b rfl
      refine rd_lcE eW (by rw [List.length_map, List.length_map, List.length_take]; omega) fun H3 eH3 eW3 => ?_
      refine ⟨by rw [eH3]; exact Same.mut s2 hW, ?_⟩
      rw [eW3, List.take_add_one, hm, List.map_append, List.map_append]
      rfl
    walk_at "rd"
    refine ⟨rfl, ?_⟩
    walk_at "rd"
    refine rd_ite (fun c => ?_) (fun c => ?_)
    · walk_at "rd"
      exact fin _ (by by_cases z : m < l <;> simp [c, z])
    · walk_at "rd"
      exact fin _ (by rw [decide_eq_false (fun z => c z.1)])
  rintro W H2 hW ⟨s2, eW⟩
  rw [lx, List.take_length] at eW
  walk_at "rd"
  refine any_bs eW ?_
  have := k _ s2
  unfold ndP at this
  rw [List.any_map]
  exact this
theorem cal_kept (T : TX P K mg C_Sheet C_Layer C_Pointer C_BadSheet C_BadDay C_BadKey C_BadLayers D_Sheet_0 D_Sheet_1) : Cal P w K mg base 2 "kept" (spKept K) [] := by
  obtain ⟨f0, fd, D, dn⟩ := T.d_kept
  have G_is_needed := cal_is_needed (P := P) (w := w) (base := base) T
  refine cal0 D (D.fn.binds dn fun _ _ _ _ _ _ us hl => match us, hl with | [_, _, _], _ => rfl) .nil sc_kept (by walk_at "len") (fun cdv A outer s H vs Q E hr h => ?_)
  obtain ⟨y, a, b, t, pins, rfl, td, lt, ep, lp, k⟩ := h
  obtain ⟨ta, tx, rfl, eta, itx⟩ := td
  have ltx := itx.1
  refine ⟨_, (pss_cons (ps_s 3 sc_kept.nd (pe_lst pa_nil))
      (pss_cut (ps_for PassesOwn.never rfl (pi_enumT (by rfl) T.b_enumerate (pa_cons (pv 0) pa_nil)) (pg_tup rfl (pgs_cons (pg_n 4 sc_kept.nd) (pgs_cons (pg_tup rfl (pgs_cons (pg_n 5 sc_kept.nd) (pgs_cons (pg_n 6 sc_kept.nd) pgs_nil))) pgs_nil))) (pss_one (ps_if (PW.pt (pw_or (pt_cmpR op_eq (pv 4) pe_int (nomark _)) (pw_or1 (pt_val (pe_c G_is_needed hr (by decide) rfl (pa_cons (pv 5) (pa_cons (pe_ix ix_tup (pe_ix ix_tup (pv 0) (pe_op op_sub (pv 4) pe_int) (fun _ _ => rfl)) pe_int (fun _ _ => rfl)) (pa_cons (pv 1) pa_nil)))))))) (pss_one (ps_expr (pe_bm PySem.F.plainAttrs_list PySem.F.slot_list_append PySem.F.type_list_append mt_append (pv 3) (pa_cons (pe_tup (pa_cons (pv 5) (pa_cons (pv 6) pa_nil))) pa_nil)))) pss_nil)))
      (pss_cons (ps_while PassesOwn.never (PW.pt (pw_and (pt_val (pv 2)) (pw_and (pt_cmpR (op_neD hr.units) (pv 3) (pe_lst pa_nil) (nomark _)) (pw_and1 (pt_cmpR op_isNn (pe_ix ix_tup (pe_ix ix_list (pv 3) (pe_un un_neg pe_int) (fun _ _ => rfl)) pe_int (fun _ _ => rfl)) pe_non (nomark _)))))) (pss_one (ps_expr (pe_bm0 PySem.F.plainAttrs_list PySem.F.slot_list_pop PySem.F.type_list_pop mt_pop (pv 3)))))
      (pss_one (ps_ret (pe_callTy cr_tupOf (by rfl) T.b_tuple (by decide +kernel) (pa_cons (pv 3) pa_nil))))))), ?_⟩
  walk_at "rd"
  refine rd_newL (by decide) fun F H1 hF s1 eF _ => ?_
  walk_at "rd"
  refine ⟨fun σ H' => ∃ (zs : List V) (v4 v5 v6 : Option V), Same H H' ∧ H' F = some (.lst zs) ∧ ItP VerP H' zs (kp pins none t) ∧ σ = [some (.ref ta), some (.ref a), some (.bl b), some (.ref F), v4, v5, v6], ?_, ?_⟩
  · walk_at "rd"
    refine rd_enRT (SqT.of (s1 _ _ eta)) ?_
    refine forR_enumT (xs := tx) (fun i σ H' => ∃ (zs : List V) (v4 v5 v6 : Option V), Same H H' ∧ H' F = some (.lst zs) ∧ ItP VerP H' zs (kp pins none (t.take i)) ∧ σ = [some (.ref ta), some (.ref a), some (.bl b), some (.ref F), v4, v5, v6]) (fun i σ H' ⟨_, _, _, _, s, _⟩ => SqT.of (s _ _ eta)) ⟨[], _, _, _, s1, eF, .nil, rfl⟩ ?_ ?_
    · rintro i x σ H2 tp H3 hx ⟨zs, v4, v5, v6, s2, eF2, iz, rfl⟩ htp s23 etp _
      obtain ⟨v, hv, va, rfl, eva⟩ := (versKeep (.of (s2.trans s23)) itx).getV hx
      have lz := iz.1
      have lk : (kp pins none (t.take i)).length ≤ 1000 := Nat.le_trans kp_sub.length_le (by rw [List.length_take]; omega)
      have s3 := s2.trans s23
      have eF3 := s23 _ _ eF2
      have iz3 := versKeep (.of s23) iz
      have step : kp pins none (t.take (i + 1)) = kp pins none (t.take i) ++ kp pins (upto none (t.take i)) [v] := by
        rw [List.take_add_one, hv]
        exact kp_append
      refine rd_gtup etp rfl ?_
      walk_at "rd"
      refine rd_gtup eva rfl ?_
      walk_at "rd"
      have yes : ∀ H4, Same H3 H4 → needP pins (upto none (t.take i)) v.1 = true → ∀ H5 tn, Same H4 H5 → H5 tn = some (.tup [.int v.1, oV v.2]) → ∀ H6, H6 = upd H5 F (.lst (zs ++ [.ref tn])) → H6 F = some (.lst (zs ++ [.ref tn])) → ∃ (zs : List V) (v4 v5 v6 : Option V), Same H H6 ∧ H6 F = some (.lst zs) ∧ ItP VerP H6 zs (kp pins none (t.take (i + 1))) ∧ [some (.ref ta), some (.ref a), some (.bl b), some (.ref F), some (.int i), some (.int v.1), some (oV v.2)] = [some (.ref ta), some (.ref a), some (.bl b), some (.ref F), v4, v5, v6] := by
        intro H4 s4 hn H5 tn s5 etn H6 eH6 eF6
        have e : kp pins (upto none (t.take i)) [v] = [v] := by
          show (if needP pins (upto none (t.take i)) v.1 = true then _ else _) = _
          rw [if_pos hn]
          rfl
        rw [step, e]
        have eF5 := (s4.trans s5) _ _ eF3
        have kpt : TupS H5 H6 := by rw [eH6]; exact TupS.updL eF5
        exact ⟨_, _, _, _, by rw [eH6]; exact Same.mut (s3.trans (s4.trans s5)) hF, eF6, (versKeep ((TupS.of (s4.trans s5)).trans kpt) iz3).snoc ⟨tn, rfl, kpt _ _ etn⟩, rfl⟩
      have no : ∀ H4, Same H3 H4 → needP pins (upto none (t.take i)) v.1 = false → ∃ (zs : List V) (v4 v5 v6 : Option V), Same H H4 ∧ H4 F = some (.lst zs) ∧ ItP VerP H4 zs (kp pins none (t.take (i + 1))) ∧ [some (.ref ta), some (.ref a), some (.bl b), some (.ref F), some (.int i), some (.int v.1), some (oV v.2)] = [some (.ref ta), some (.ref a), some (.bl b), some (.ref F), v4, v5, v6] := by
        intro H4 s4 hn
        have e : kp pins (upto none (t.take i)) [v] = [] := by
          show (if needP pins (upto none (t.take i)) v.1 = true then _ else _) = _
          rw [if_neg (by rw [hn]; decide)]
          rfl
        rw [step, e, List.append_nil]
        exact ⟨_, _, _, _, s3.trans s4, s4 _ _ eF3, versKeep (.of s4) iz3, rfl⟩
      cases i with
      | zero =>
        refine rd_iteT (by rfl) ?_
        walk_at "rd"
        refine rd_tyL ((Same.refl H3) _ _ eF3) ?_
        walk_at "rd"
        refine rd_newT (by simp) fun tn H5 _ s5 etn _ => ?_
        walk_at "rd"
        refine rd_app (((Same.refl H3).trans s5) _ _ eF3) (by omega) fun H6 eH6 eF6 => ?_
        exact yes H3 (Same.refl H3) rfl H5 tn s5 etn H6 eH6 eF6
      | succ i =>
        refine rd_iteF (by omega) ?_
        walk_at "rd"
        obtain ⟨u, hu⟩ : ∃ u, t[i]? = some u := ⟨_, List.getElem?_eq_getElem (by have := (List.getElem?_eq_some_iff.mp hv).1; omega)⟩
        obtain ⟨_, hux, ua, rfl, eua⟩ := (versKeep (.of s3) itx).get hu
        refine rd_ixT (s3 _ _ eta) (v := .ref ua) (by rw [show ((i + 1 : Nat) : Int) - 1 = (i : Nat) by omega]; exact atI_nat' hux) ?_
        walk_at "rd"
        refine rd_ixT eua (atI_nat' (i := 0) rfl) ?_
        walk_at "rd"
        refine ⟨v.1, u.1, a, pins, rfl, ep.mono s3, lp, fun H4 s4 => ?_⟩
        have en : needP pins (upto none (t.take (i + 1))) v.1 = ndP pins v.1 u.1 := by rw [upto_take hu]; rfl
        refine ⟨_, rfl, ?_⟩
        cases hb : ndP pins v.1 u.1
        · refine rd_iteFF ?_
          walk_at "rd"
          exact no H4 s4 (by rw [en, hb])
        · refine rd_iteTT ?_
          walk_at "rd"
          refine rd_tyL (s4 _ _ eF3) ?_
          walk_at "rd"
          refine rd_newT (by simp) fun tn H5 _ s5 etn _ => ?_
          walk_at "rd"
          refine rd_app ((s4.trans s5) _ _ eF3) (by omega) fun H6 eH6 eF6 => ?_
          exact yes H4 s4 (by rw [en, hb]) H5 tn s5 etn H6 eH6 eF6
    · rintro σ H2 ⟨zs, v4, v5, v6, s2, eF2, iz, rfl⟩
      rw [ltx, List.take_length] at iz
      exact ⟨zs, _, _, _, s2, eF2, iz, rfl⟩
  clear s1 eF
  rintro σ H1 ⟨zs, v4, v5, v6, s1, eF, iz, rfl⟩
  have fin : ∀ (H2 : Hp) (zs : List V) (f : Vs), Same H H2 → H2 F = some (.lst zs) → ItP VerP H2 zs f → f = keptF pins b t → rTupOf K [.ref F] H2 Q := by
    intro H2 zs f s2 e2 i2 hf
    refine rd_tupOfL e2 fun p H3 hp s3 ep3 _ => ?_
    exact k H3 _ (s2.trans s3) ⟨p, zs, rfl, ep3, by rw [← hf]; exact versKeep (.of s3) i2⟩
  walk_at "rd"
  refine rd_while (fun m σ H' => ∃ (zs : List V) (f : Vs), m = f.length ∧ Same H H' ∧ H' F = some (.lst zs) ∧ ItP VerP H' zs f ∧ popB b f = keptF pins b t ∧ σ = [some (.ref ta), some (.ref a), some (.bl b), some (.ref F), v4, v5, v6]) (kp pins none t).length ⟨zs, _, rfl, s1, eF, iz, rfl, rfl⟩ ?_
  rintro m σ H2 ⟨zs2, f, rfl, s2, eF2, iz2, hp, rfl⟩
  walk_at "rd"
  cases b
  · refine rd_iteFF ?_
    walk_at "rd"
    exact fin H2 zs2 f s2 eF2 iz2 hp
  · refine rd_iteTT ?_
    walk_at "rd"
    refine rd_newL (by simp) fun w H3 _ s3 ew _ => ?_
    refine rd_neD (d := .list (f.map verD)) (e := .list []) (.lst (s3 _ _ eF2) (itDt (fun _ _ => VerP.dt) (versKeep (.of s3) iz2))) (.lst ew .nil) ((shn_lst shn_ver f).sh (by decide)) (by rfl) ?_
    rw [eqv_nil]
    rcases List.eq_nil_or_concat f with z | ⟨g, u, z⟩
    · subst z
      refine ⟨_, rfl, rd_iteNF rfl ?_⟩
      walk_at "rd"
      exact fin H3 zs2 [] (s2.trans s3) (s3 _ _ eF2) (versKeep (.of s3) iz2) hp
    · rw [List.concat_eq_append] at z
      subst z
      obtain ⟨zg, x, rfl, ig, ux, rfl, eux⟩ := iz2.last
      refine ⟨_, rfl, rd_iteNT (by simp) ?_⟩
      walk_at "rd"
      refine rd_ixL (s3 _ _ eF2) (atI_last _ _) ?_
      walk_at "rd"
      refine rd_ixT (s3 _ _ eux) (atI_nat' (i := 1) rfl) ?_
      walk_at "rd"
      refine rd_isN0 ?_
      rw [oV_non]
      refine ⟨_, rfl, ?_⟩
      have hp' : popN (g ++ [u]) = keptF pins true t := hp
      rw [popN_snoc] at hp'
      cases hn : u.2.isNone
      · refine rd_iteFF ?_
        walk_at "rd"
        rw [hn] at hp'
        exact fin H3 _ (g ++ [u]) (s2.trans s3) (s3 _ _ eF2) (versKeep (.of s3) iz2) hp'
      · refine rd_iteTT ?_
        rw [hn] at hp'
        refine rd_whN ?_
        walk_at "rd"
        refine ⟨_, rfl, ?_⟩
        refine rd_tyL (s3 _ _ eF2) ?_
        refine rd_pop (s3 _ _ eF2) fun H4 eH4 e4 => ?_
        have kpt : TupS H3 H4 := by rw [eH4]; exact TupS.updL (s3 _ _ eF2)
        exact ⟨g.length, by simp, zg, g, rfl, by rw [eH4]; exact Same.mut (s2.trans s3) hF, e4, versKeep ((TupS.of s3).trans kpt) ig, hp', rfl⟩
theorem cal_tidied (T : TX P K mg C_Sheet C_Layer C_Pointer C_BadSheet C_BadDay C_BadKey C_BadLayers D_Sheet_0 D_Sheet_1) : Cal P w K mg base 2 "tidied" spTidy [] := by
  obtain ⟨f0, fd, D, dn⟩ := T.d_tidied
  have G_is_gone := cal_is_gone (P := P) (w := w) (base := base) T
  refine cal0 D (D.fn.binds dn fun _ _ _ _ _ _ us hl => match us, hl with | [_], _ => rfl) .nil sc_tidied (by walk_at "len") (fun cdv A outer s H vs Q E hr h => ?_)
  obtain ⟨a, xs, rs, rfl, ea, ix, asc, hrs, lr, k⟩ := h
  have lx := ix.1
  have hle : ∀ x ∈ rs, x.1 ≤ x.2.1 := fun x hx => (hrs x hx).1
  refine ⟨_, (pss_cons (ps_s 1 sc_tidied.nd (pe_lst pa_nil))
      (pss_cons (ps_for PassesOwn.never rfl (pi_list (pv 0)) (pg_tup rfl (pgs_cons (pg_n 2 sc_tidied.nd) (pgs_cons (pg_n 3 sc_tidied.nd) (pgs_cons (pg_n 4 sc_tidied.nd) pgs_nil)))) (pss_one (ps_if (pt_cmpR (op_neD hr.units) (pv 4) (pe_tup pa_nil) (nomark _)) (pss_one (ps_if (PW.pt (pw_and (pt_cmpR (op_neD hr.units) (pv 1) (pe_lst pa_nil) (nomark _)) (pw_and (pt_cmpR op_eq (pe_op op_add (pe_ix ix_tup (pe_ix ix_list (pv 1) (pe_un un_neg pe_int) (fun _ _ => rfl)) pe_int (fun _ _ => rfl)) pe_int) (pv 2) (nomark _)) (pw_and (pt_cmpR (op_eqD hr.units) (pe_ix ix_tup (pe_ix ix_list (pv 1) (pe_un un_neg pe_int) (fun _ _ => rfl)) pe_int (fun _ _ => rfl)) (pv 4) (nomark _)) (pw_and1 (pt_val (pe_c G_is_gone hr (by decide) rfl (pa_cons (pv 4) pa_nil)))))))) (pss_one (ps_asg (pe_tup (pa_cons (pe_ix ix_tup (pe_ix ix_list (pv 1) (pe_un un_neg pe_int) (fun _ _ => rfl)) pe_int (fun _ _ => rfl)) (pa_cons (pv 3) (pa_cons (pv 4) pa_nil)))) (pg_sub (pv 1) (pe_un un_neg pe_int) set_list))) (pss_one (ps_expr (pe_bm PySem.F.plainAttrs_list PySem.F.slot_list_append PySem.F.type_list_append mt_append (pv 1) (pa_cons (pe_tup (pa_cons (pv 2) (pa_cons (pv 3) (pa_cons (pv 4) pa_nil)))) pa_nil)))))) pss_nil)))
      (pss_one (ps_ret (pv 1))))), ?_⟩
  walk_at "rd"
  refine rd_newL (by decide) fun F H1 hF s1 eF _ => ?_
  walk_at "rd"
  refine rd_lsR (SqL.of (s1 _ _ ea)) ?_
  refine forR_lst (xs := xs) (fun j σ H' => ∃ (zs : List V) (f : List Rw) (v2 v3 v4 : Option V), Same H H' ∧ H' F = some (.lst zs) ∧ ItP RowP H' zs f ∧ Tidy f ∧ (∀ k, atR f k = atR (rs.take j) k) ∧ (∀ x ∈ f, ∃ r ∈ rs.take j, ∃ s ∈ rs.take j, x.1 = r.1 ∧ x.2.1 = s.2.1) ∧ f.length ≤ j ∧ σ = [some (.ref a), some (.ref F), v2, v3, v4]) (fun j σ H' ⟨_, _, _, _, _, s, _⟩ => SqL.of (s _ _ ea)) ⟨[], [], _, _, _, s1, eF, .nil, Tidy.nil, (fun _ => rfl), (fun x h => by cases h), Nat.le_refl _, rfl⟩ ?_ ?_
  · rintro j x σ H2 hx ⟨zs, f, v2, v3, v4, s2, eF2, iz, tf, hat, orig, lf, rfl⟩
    obtain ⟨r, hrj, ra, w, rfl, era, td⟩ := (rowsKeep (.of s2) ix).getV hx
    have hmem := List.mem_of_getElem? hrj
    have hj := (List.getElem?_eq_some_iff.mp hrj).1
    obtain ⟨r1, r2, r3⟩ := hrs r hmem
    have before : ∀ s ∈ rs.take j, s.2.1 < r.1 := by
      intro s hs
      have a2 : Asc (rs.take (j + 1)) := List.Pairwise.sublist (List.take_sublist _ _) asc
      rw [List.take_add_one, hrj] at a2
      exact (List.pairwise_append.mp a2).2.2 s hs r (by simp)
    have fb : ∀ x ∈ f, x.2.1 < r.1 := by
      intro x hx
      obtain ⟨_, _, s, hs, _, e⟩ := orig x hx
      rw [e]
      exact before s hs
    have o1 : ∀ s ∈ rs.take j, s ∈ rs.take (j + 1) := fun s hs => by rw [List.take_add_one]; exact List.mem_append_left _ hs
    have o2 : r ∈ rs.take (j + 1) := by rw [List.take_add_one, hrj]; exact List.mem_append_right _ (by simp)
    have orig1 : ∀ x ∈ f, ∃ r ∈ rs.take (j + 1), ∃ s ∈ rs.take (j + 1), x.1 = r.1 ∧ x.2.1 = s.2.1 := fun x hx => by
      obtain ⟨p, hp, s, hs, e⟩ := orig x hx
      exact ⟨p, o1 p hp, s, o1 s hs, e⟩
    have lz := iz.1
    refine rd_gtup era rfl ?_
    walk_at "rd"
    refine rd_newT (by simp) fun u H3 _ s3 eu _ => ?_
    refine rd_neD (d := tldD r.2.2) (e := tldD []) (td.keep (.of s3)).dt (.tup eu .nil) (shaped_tld _) (shaped_tld _) ?_
    rw [eqv_tld]
    by_cases c : r.2.2 = []
    · rw [decide_eq_true c]
      walk_at "rd"
      refine ⟨zs, f, _, _, _, s2.trans s3, s3 _ _ eF2, rowsKeep (.of s3) iz, tf, fun k => ?_, orig1, by omega, rfl⟩
      rw [hat k, at_cut hrj asc hle, c]
      split
      · rename_i hk
        exact at_no fun s hs z => by have := before s hs; unfold hasK at z hk; omega
      · rfl
    · rw [decide_eq_false c]
      walk_at "rd"
      refine rd_newL (by simp) fun w2 H4 _ s4 ew _ => ?_
      have s34 := s3.trans s4
      have eF4 := s34 _ _ eF2
      have iz4 := rowsKeep (.of s34) iz
      have td4 := td.keep (H' := H4) (.of s34)
      refine rd_neD (d := .list (f.map rowD)) (e := .list []) (.lst eF4 (itDt (fun _ _ => RowP.dt) iz4)) (.lst ew .nil) ((shn_lst shn_row f).sh (by decide)) (by rfl) ?_
      rw [eqv_nil]
      have addNew : ∀ (H5 : Hp), Same H4 H5 → (∀ g l, f = g ++ [l] → ¬ (l.2.1 + 1 = r.1 ∧ l.2.2 = r.2.2 ∧ goneV r.2.2 = true)) → ∀ H6 tn, Same H5 H6 → H6 tn = some (.tup [.int r.1, .int r.2.1, w]) → ∀ H7, H7 = upd H6 F (.lst (zs ++ [.ref tn])) → H7 F = some (.lst (zs ++ [.ref tn])) → ∃ (zs : List V) (f : List Rw) (v2 v3 v4 : Option V), Same H H7 ∧ H7 F = some (.lst zs) ∧ ItP RowP H7 zs f ∧ Tidy f ∧ (∀ k, atR f k = atR (rs.take (j + 1)) k) ∧ (∀ x ∈ f, ∃ r ∈ rs.take (j + 1), ∃ s ∈ rs.take (j + 1), x.1 = r.1 ∧ x.2.1 = s.2.1) ∧ f.length ≤ j + 1 ∧ [some (.ref a), some (.ref F), some (.int r.1), some (.int r.2.1), some w] = [some (.ref a), some (.ref F), v2, v3, v4] := by
        intro H5 s5 hl H6 tn s6 etn H7 eH7 eF7
        obtain ⟨t1, t2⟩ := tidy_new tf ⟨r1, c, r2⟩ fb hl
        have eF6 := (s5.trans s6) _ _ eF4
        have kpt : TupS H6 H7 := by rw [eH7]; exact TupS.updL eF6
        have k47 : TupS H4 H7 := (TupS.of (s5.trans s6)).trans kpt
        refine ⟨_, f ++ [r], _, _, _, by rw [eH7]; exact Same.mut (s2.trans (s34.trans (s5.trans s6))) hF, eF7, (rowsKeep k47 iz4).snoc ⟨tn, w, rfl, kpt _ _ etn, td4.keep k47⟩, t1, fun k => ?_, fun x hx => ?_, by rw [List.length_append]; exact Nat.succ_le_succ lf, rfl⟩
        · rw [t2 k, at_cut hrj asc hle, hat k]
        · rcases List.mem_append.mp hx with z | z
          · exact orig1 x z
          · rw [List.mem_singleton.mp z]
            exact ⟨r, o2, r, o2, rfl, rfl⟩
      rcases List.eq_nil_or_concat f with z | ⟨g, l, z⟩
      · subst z
        refine ⟨_, rfl, rd_iteNF rfl ?_⟩
        walk_at "rd"
        refine rd_tyL ((Same.refl H4) _ _ eF4) ?_
        walk_at "rd"
        refine rd_newT (by simp) fun tn H6 _ s6 etn _ => ?_
        walk_at "rd"
        refine rd_app (((Same.refl H4).trans s6) _ _ eF4) (by omega) fun H7 eH7 eF7 => ?_
        exact addNew H4 (Same.refl H4) (fun g l h => by simp at h) H6 tn s6 etn H7 eH7 eF7
      · rw [List.concat_eq_append] at z
        subst z
        obtain ⟨zg, x, rfl, ig, la, lw, rfl, ela, ltd⟩ := iz4.last
        have uniq : ∀ g' l', g ++ [l] = g' ++ [l'] → l' = l := fun g' l' h => by
          have := congrArg List.getLast? h
          simpa using this.symm
        refine ⟨_, rfl, rd_iteNT (by simp) ?_⟩
        walk_at "rd"
        refine rd_ixL eF4 (atI_last _ _) ?_
        walk_at "rd"
        refine rd_ixT ela (atI_nat' (i := 1) rfl) ?_
        walk_at "rd"
        refine rd_ite (fun c1 => ?_) (fun c1 => ?_)
        · walk_at "rd"
          refine rd_ixL eF4 (atI_last _ _) ?_
          walk_at "rd"
          refine rd_ixT ela (atI_nat' (i := 2) rfl) ?_
          walk_at "rd"
          refine rd_eqD (d := tldD l.2.2) (e := tldD r.2.2) ltd.dt td4.dt (shaped_tld _) (shaped_tld _) ?_
          rw [eqv_tld]
          by_cases c2 : l.2.2 = r.2.2
          · rw [decide_eq_true c2]
            walk_at "rd"
            refine ⟨_, _, rfl, td4, r3, fun H5 s5 => ?_⟩
            refine ⟨_, rfl, ?_⟩
            cases c3 : goneV r.2.2
            · refine rd_iteFF ?_
              walk_at "rd"
              refine rd_tyL (s5 _ _ eF4) ?_
              walk_at "rd"
              refine rd_newT (by simp) fun tn H6 _ s6 etn _ => ?_
              walk_at "rd"
              refine rd_app ((s5.trans s6) _ _ eF4) (by omega) fun H7 eH7 eF7 => ?_
              exact addNew H5 s5 (fun g' l' h z => by rw [c3] at z; cases z.2.2) H6 tn s6 etn H7 eH7 eF7
            · refine rd_iteTT ?_
              walk_at "rd"
              refine rd_ixL (s5 _ _ eF4) (atI_last _ _) ?_
              walk_at "rd"
              refine rd_ixT (s5 _ _ ela) (atI_nat' (i := 0) rfl) ?_
              walk_at "rd"
              refine rd_newT (by simp) fun tn H6 _ s6 etn _ => ?_
              walk_at "rd"
              have eF6 := (s5.trans s6) _ _ eF4
              refine rd_setL (j := zg.length) eF6 (by rw [List.length_append]; exact ixN_end) fun H7 eH7 eF7 => ?_
              have eset : (zg ++ [V.ref la]).set zg.length (.ref tn) = zg ++ [.ref tn] := by simp
              rw [eset] at eH7 eF7
              have kpt : TupS H6 H7 := by rw [eH7]; exact TupS.updL eF6
              have k47 : TupS H4 H7 := (TupS.of (s5.trans s6)).trans kpt
              obtain ⟨t1, t2⟩ := tidy_ext tf r1 c1 c2 c3
              refine ⟨_, g ++ [(l.1, r.2.1, r.2.2)], _, _, _, by rw [eH7]; exact Same.mut (s2.trans (s34.trans (s5.trans s6))) hF, eF7, (rowsKeep k47 ig).snoc ⟨tn, w, rfl, kpt _ _ etn, td4.keep k47⟩, t1, fun k => ?_, fun x hx => ?_, by simp at lf ⊢; omega, rfl⟩
              · rw [t2 k, at_cut hrj asc hle, hat k]
              · rcases List.mem_append.mp hx with z | z
                · exact orig1 x (List.mem_append_left _ z)
                · rw [List.mem_singleton.mp z]
                  obtain ⟨p, hp, _, _, e, _⟩ := orig1 l (by simp)
                  exact ⟨p, hp, r, o2, e, rfl⟩
          · rw [decide_eq_false c2]
            walk_at "rd"
            refine rd_tyL ((Same.refl H4) _ _ eF4) ?_
            walk_at "rd"
            refine rd_newT (by simp) fun tn H6 _ s6 etn _ => ?_
            walk_at "rd"
            refine rd_app (((Same.refl H4).trans s6) _ _ eF4) (by omega) fun H7 eH7 eF7 => ?_
            exact addNew H4 (Same.refl H4) (fun g' l' h z => by rw [uniq g' l' h] at z; exact c2 z.2.1) H6 tn s6 etn H7 eH7 eF7
        · walk_at "rd"
          refine rd_tyL ((Same.refl H4) _ _ eF4) ?_
          walk_at "rd"
          refine rd_newT (by simp) fun tn H6 _ s6 etn _ => ?_
          walk_at "rd"
          refine rd_app (((Same.refl H4).trans s6) _ _ eF4) (by omega) fun H7 eH7 eF7 => ?_
          exact addNew H4 (Same.refl H4) (fun g' l' h z => by rw [uniq g' l' h] at z; exact c1 z.1) H6 tn s6 etn H7 eH7 eF7
  · rintro σ H2 ⟨zs, f, v2, v3, v4, s2, eF2, iz, tf, hat, orig, lf, rfl⟩
    rw [lx, List.take_length] at hat orig
    walk_at "rd"
    exact k H2 F zs f s2 hF eF2 iz tf hat orig
end
end Sl

set_option Elab.async false
set_option linter.all false
set_option maxRecDepth 100000
set_option maxHeartbeats 8000000
set_option exponentiation.threshold 9000
namespace Sl
open PySem L2 C8 StX Silt LiI RT
local macro_rules | `(tactic| walk_at "side") => `(tactic| first
  | exact cdivw (by omega) (by omega)
  | exact cmulw (by omega) (by omega) (by omega) (by omega)
  | exact Or.inr ⟨by omega, by omega⟩
  | exact Or.inl ⟨by omega, by omega⟩
  | omega
  | exact ⟨by omega, by omega, by decide⟩
  | decide)
local macro_rules | `(tactic| walk_at "rd1") => `(tactic| first
  | with_reducible refine rd_seq ?_
  | with_reducible refine rd_asg ?_
  | with_reducible refine rd_drop ?_
  | with_reducible refine rd_ret ?_
  | with_reducible refine rd_retN ?_
  | with_reducible refine rd_ifS ?_
  | ((with_reducible refine rd_var0 ?_); refine ⟨_, rfl, ?_⟩)
  | with_reducible refine rd_c ?_
  | with_reducible refine rd_op ?_
  | with_reducible refine rd_un ?_
  | with_reducible refine rd_I0 ?_
  | with_reducible refine rd_U ?_
  | ((with_reducible refine rd_I ?c ?_); (case c => walk_at "side"))
  | with_reducible refine rd_ipI ?_
  | with_reducible refine rd_eqI ?_
  | with_reducible refine rd_neI ?_
  | with_reducible refine rd_test ?_
  | with_reducible refine rd_tB ?_
  | with_reducible refine rd_bl ?_
  | with_reducible refine rd_not ?_
  | with_reducible refine rd_and ?_
  | with_reducible refine rd_or ?_
  | with_reducible refine rd_andV ?_
  | with_reducible refine rd_orV ?_
  | with_reducible refine rd_notV ?_
  | with_reducible refine rd_ifE ?_
  | with_reducible refine rd_chain ?_
  | with_reducible refine rd_chain3 ?_
  | with_reducible refine rd_nil ?_
  | with_reducible refine rd_cons ?_
  | with_reducible refine rd_call ?_
  | with_reducible refine rd_CB ?_
  | with_reducible refine rd_par ?_
  | with_reducible refine rd_par2 ?_
  | with_reducible refine rd_par3 ?_
  | with_reducible refine rd_par4 ?_
  | ((with_reducible refine rd_aug0 ?_); refine ⟨_, rfl, ?_⟩)
  | with_reducible refine rd_gname ?_
  | with_reducible refine rd_gcons ?_
  | with_reducible refine rd_gnil ?_
  | with_reducible refine rd_max ?_
  | with_reducible refine rd_min ?_
  | with_reducible refine rd_int1 ?_
  | with_reducible refine rd_abs ?_
  | with_reducible refine rd_lst ?_
  | with_reducible refine rd_tup ?_
  | with_reducible refine rd_bm ?_
  | with_reducible refine rd_fld0 ?_
  | with_reducible refine rd_sl0 ?_
  | with_reducible refine rd_noP ?_
  | with_reducible refine rd_part ?_
  | with_reducible refine rd_part2 ?_
  | with_reducible refine rd_meth0 ?_
  | with_reducible refine rd_star ?_
  | with_reducible refine rd_for ?_
  | with_reducible refine rd_rng1 ?_
  | with_reducible refine rd_rng2 ?_
  | with_reducible refine rd_rng3 ?_
  | with_reducible refine rd_iList ?_
  | with_reducible refine rd_iTup ?_
  | with_reducible refine rd_iEnum ?_
  | with_reducible refine rd_lc ?_
  | with_reducible refine rd_yes ?_
  | with_reducible refine rd_augS ?_
  | with_reducible refine rd_drawNew ?_
  | with_reducible refine rd_make0 ?_
  | with_reducible refine rd_next ?_
  | with_reducible refine rd_break ?_
  | with_reducible refine rd_cont ?_
  | with_reducible refine rd_iteTT ?_
  | with_reducible refine rd_iteFF ?_
  | with_reducible refine rd_iteNTT ?_
  | with_reducible refine rd_iteNFF ?_
  | with_reducible refine rd_con0 ?_
  | with_reducible refine rd_truO0 ?_
  | with_reducible refine rd_gfld0 ?_
  | with_reducible refine rd_dc ?_
  | with_reducible refine rd_iKeys ?_
  | with_reducible refine rd_dget0 ?_
  | with_reducible refine rd_dput0 ?_
  | with_reducible refine rd_dnot0 ?_
  | with_reducible refine rd_iEnumT ?_
  | with_reducible refine rd_raP0 ?_
  | with_reducible refine rd_xf0 ?_
  | with_reducible refine rd_cKw ?_
  | with_reducible refine rd_iStr ?_
  | with_reducible refine rd_gSub ?_
  | with_reducible refine rd_asgG ?_)
local macro_rules | `(tactic| walk_at "rd") => `(tactic| repeat walk_at "rd1")
local macro_rules | `(tactic| walk_at "len") => `(tactic| first
  | (intro vs H Q E h; obtain ⟨h2, _⟩ := h; rw [h2]; rfl)
  | (intro vs H Q E h; obtain ⟨_, h2, _⟩ := h; rw [h2]; rfl)
  | (intro vs H Q E h; obtain ⟨_, _, h2, _⟩ := h; rw [h2]; rfl)
  | (intro vs H Q E h; obtain ⟨_, _, _, h2, _⟩ := h; rw [h2]; rfl)
  | (intro vs H Q E h; obtain ⟨_, _, _, _, h2, _⟩ := h; rw [h2]; rfl)
  | (intro vs H Q E h; obtain ⟨_, _, _, _, _, h2, _⟩ := h; rw [h2]; rfl)
  | (intro vs H Q E h; obtain ⟨_, _, _, _, _, _, h2, _⟩ := h; rw [h2]; rfl)
  | (intro vs H Q E h; obtain ⟨_, _, _, _, _, _, _, h2, _⟩ := h; rw [h2]; rfl)
  | (intro vs H Q E h; obtain ⟨_, _, _, _, _, _, _, _, h2, _⟩ := h; rw [h2]; rfl)
  | (intro vs H Q E h; obtain ⟨_, _, _, _, _, _, _, _, _, h2, _⟩ := h; rw [h2]; rfl)
  | (intro vs H Q E h; obtain ⟨_, _, _, _, _, _, _, _, _, _, h2, _⟩ := h; rw [h2]; rfl)
  | (intro vs H Q E h; obtain ⟨_, _, _, _, _, _, _, _, _, _, _, h2, _⟩ := h; rw [h2]; rfl)
  | (intro vs H Q E h; obtain ⟨_, _, _, _, _, _, _, _, _, _, _, _, h2, _⟩ := h; rw [h2]; rfl))
theorem altIxF {K : PySem.W.Frag} {σ : L2.St} {H : Hp} {Q : VK} {n : Nat} {j : Int} {a : Addr} {xs : List V} {v : V} {th : TE} (hn : σ[n]? = some (some (.ref a))) (hth : ∀ R : VK, R (.int j) H → th σ H R) (e : SeqP H a xs) (hv : atI xs j = some v) (h : Q v H) : tOp (rIxL K) (tVar n) th σ H Q ∨ tOp (rIxT K) (tVar n) th σ H Q :=
  e.elim (fun z => .inl ⟨_, hn, hth _ (rd_ixL z hv h)⟩) fun z => .inr ⟨_, hn, hth _ (rd_ixT z hv h)⟩
/-- layers behind one another, the newest first -/
def Adj (Ls : List Lay) : Prop := ∀ (i : Nat) (L M : Lay), Ls[i]? = some L → Ls[i + 1]? = some M → M.2.1 = L.1 - 1
def spChkL (C : Addr) : Sp := fun vs H Q _ => ∃ (a : Addr) (xs : List V) (Ls : List Lay), vs = [.ref a] ∧ SeqP H a xs ∧ ItP (LayP C) H xs Ls ∧ Adj Ls ∧ ∀ H', Same H H' → Q .non H'
def spPins (K : PySem.W.Frag) : Sp := fun vs H Q _ => ∃ (a : Addr) (pins : List Int), vs = [.ref a] ∧ SqQ K H a (pins.map V.int) ∧ pins.length ≤ 1000 ∧ (∀ q ∈ pins, 0 ≤ q) ∧ ∀ H', Same H H' → Q .non H'
def spBake (K : PySem.W.Frag) (C : Addr) : Sp := fun vs H Q _ => ∃ (a p : Addr) (b : Bool) (xs : List V) (Ls : List Lay) (L0 L9 : Lay) (pins : List Int) (m : Int), vs = [.ref a, .ref p, .bl b] ∧ SeqP H a xs ∧ ItP (LayP C) H xs Ls ∧ Adj Ls ∧ (Ls.head? = some L0 ∧ Ls.getLast? = some L9) ∧ SqQ K H p (pins.map V.int) ∧ pins.length ≤ 1000 ∧ (∀ q ∈ pins, 0 ≤ q) ∧
  (∀ L ∈ Ls, Tidy L.2.2 ∧ ∀ r ∈ L.2.2, 0 ≤ r.1 ∧ r.2.1 ≤ m) ∧ (0 ≤ m ∧ m ≤ 60) ∧ Ls.length ≤ 1000 ∧ (∀ k, (catAt (rowsO Ls) k).length ≤ 1000) ∧
  ∀ H' y rs, Same H H' → H y = none → LyP C H' y L9.1 L0.2.1 rs → Tidy rs → (∀ k, atR rs k = keptF pins b (catAt (rowsO Ls) k)) → (∀ r ∈ rs, 0 ≤ r.1 ∧ r.2.1 ≤ m) → Q (.ref y) H'
theorem asc_map {rs : List Rw} {f : Vs → Vs} (h : Asc rs) : Asc (rs.map fun r => (r.1, r.2.1, f r.2.2)) := List.pairwise_map.mpr h
section
variable {P : Program} {w : World} {K : PySem.W.Frag} {mg : Str → Option Value} {base : Heap} {C_Sheet C_Layer C_Pointer C_BadSheet C_BadDay C_BadKey C_BadLayers D_Sheet_0 D_Sheet_1 : Addr}
theorem cal_check_pins (T : TX P K mg C_Sheet C_Layer C_Pointer C_BadSheet C_BadDay C_BadKey C_BadLayers D_Sheet_0 D_Sheet_1) : Cal P w K mg base 2 "check_pins" (spPins K) [] := by
  obtain ⟨f0, fd, D, dn⟩ := T.d_check_pins
  have G_is_whole := cal_is_whole (P := P) (w := w) (base := base) T
  refine cal0 D (D.fn.binds dn fun _ _ _ _ _ _ us hl => match us, hl with | [_], _ => rfl) .nil sc_check_pins (by walk_at "len") (fun cdv A outer s H vs Q E hr h => ?_)
  obtain ⟨a, pins, rfl, ep, lp, h0, k⟩ := h
  have lx : (pins.map V.int).length = pins.length := List.length_map _
  refine ⟨_, (pss_one (ps_if (PW.pt (pw_or (pt_not (pt_val (pe_callB call_isiT (by rfl) T.b_isinstance (by decide +kernel) (pa_cons (pv 0) (pa_cons (pe_tup (pa_cons (pe_bltn (v := .ty "list") (u := .type "list") rfl T.b_list (by decide +kernel) rfl) (pa_cons (pe_bltn (v := .ty "tuple") (u := .type "tuple") rfl T.b_tuple (by decide +kernel) rfl) pa_nil))) pa_nil))))) (pw_or1 (pt_not (pt_val (pe_callB (cr_all rfl) (by rfl) T.b_all (by decide +kernel) (pa_cons (pe_lc (own := [("one", 1)]) (g := gName 1) (tt := tYes) rfl sc_check_pins.nd (pi_alt (pi_list (pv 0)) (pi_tup (pv 0))) (blkOk_by (own := [("one", 1)]) (N := N_check_pins) (sc := fnScope s_check_pins) (by decide +kernel)) (fun _ _ _ _ _ => (pg_n 1 sc_check_pins.nd)) (fun _ _ _ _ _ => pts_nil) (fun _ _ _ _ _ => (pe_and (pe_c G_is_whole hr (by decide) rfl (pa_cons (pv 1) pa_nil)) (pe_one (pe_cmpR op_ge (pv 1) pe_int (nomark _)))))) pa_nil))))))) (pss_one ps_never) pss_nil)), ?_⟩
  walk_at "rd"
  refine rd_newT (by simp) fun u H1 _ s1 eu _ => ?_
  walk_at "rd"
  refine rd_isiTQ (ep.mono s1) eu ?_
  walk_at "rd"
  refine altQ rfl (ep.mono s1) fun J hJ => ?_
  refine lcR_Q hJ (fun W i H' => Same H1 H' ∧ H' W = some (.lst ((List.replicate i true).map V.bl))) (fun W i H' _ ⟨s, _⟩ => s) (fun W H' _ s e _ => ⟨s, e⟩) ?_ ?_
  · rintro W i y H2 hW hy ⟨s2, eW⟩
    have hi := (List.getElem?_eq_some_iff.mp hy).1
    obtain ⟨m, hm, rfl⟩ := ints_at hy
    have := h0 m (List.mem_of_getElem? hm)
    walk_at "rd"
    refine ⟨rfl, ?_⟩
    walk_at "rd"
    refine ⟨.int m, rfl, rfl, ?_⟩
    refine ⟨true, rfl, ?_⟩
    walk_at "rd"
    rw [decide_eq_true this]
    refine rd_lcE eW (by rw [List.length_map, List.length_replicate]; omega) fun H3 eH3 eW3 => ?_
    refine ⟨by rw [eH3]; exact Same.mut s2 hW, ?_⟩
    rw [eW3, List.replicate_succ', List.map_append]
    rfl
  rintro W H2 hW ⟨s2, eW⟩
  walk_at "rd"
  refine all_true eW ?_
  walk_at "rd"
  exact k _ (s1.trans s2)
theorem cal_check_layers (T : TX P K mg C_Sheet C_Layer C_Pointer C_BadSheet C_BadDay C_BadKey C_BadLayers D_Sheet_0 D_Sheet_1) : Cal P w K mg base 3 "check_layers" (spChkL C_Layer) [] := by
  obtain ⟨f0, fd, D, dn⟩ := T.d_check_layers
  refine cal0 D (D.fn.binds dn fun _ _ _ _ _ _ us hl => match us, hl with | [_], _ => rfl) .nil sc_check_layers (by walk_at "len") (fun cdv A outer s H vs Q E hr h => ?_)
  obtain ⟨a, xs, Ls, rfl, ea, ix, adj, k⟩ := h
  refine ⟨_, (pss_cons (ps_if (pt_not (pt_val (pe_callB call_isiT (by rfl) T.b_isinstance (by decide +kernel) (pa_cons (pv 0) (pa_cons (pe_tup (pa_cons (pe_bltn (v := .ty "list") (u := .type "list") rfl T.b_list (by decide +kernel) rfl) (pa_cons (pe_bltn (v := .ty "tuple") (u := .type "tuple") rfl T.b_tuple (by decide +kernel) rfl) pa_nil))) pa_nil))))) (pss_one ps_never) pss_nil)
      (pss_one (ps_for PassesOwn.never rfl (pi_alt (pi_enum (by rfl) T.b_enumerate (pa_cons (pv 0) pa_nil)) (pi_enumT (by rfl) T.b_enumerate (pa_cons (pv 0) pa_nil))) (pg_tup rfl (pgs_cons (pg_n 1 sc_check_layers.nd) (pgs_cons (pg_n 2 sc_check_layers.nd) pgs_nil))) (pss_one (ps_if (PW.pt (pw_or (pt_not (pt_val (pe_callB (cr_isC T.i_Layer) (by rfl) T.b_isinstance (by decide +kernel) (pa_cons (pv 2) (pa_cons (pe_gc rfl T.g_Layer) pa_nil))))) (pw_or1 (PW.pt (pw_and (pt_cmpR op_gt (pv 1) pe_int (nomark _)) (pw_and1 (pt_cmpR op_ne (pe_fld (pv 2) rfl) (pe_op op_sub (pe_fld (pe_alt (pe_ix ix_list (pv 0) (pe_op op_sub (pv 1) pe_int) (fun _ _ => rfl)) (pe_ix ix_tup (pv 0) (pe_op op_sub (pv 1) pe_int) (fun _ _ => rfl))) rfl) pe_int) (nomark _)))))))) (pss_one ps_never) pss_nil))))), ?_⟩
  walk_at "rd"
  refine rd_newT (by simp) fun u H1 _ s1 eu _ => ?_
  walk_at "rd"
  refine rd_isiTQ (ea.mono s1).q eu ?_
  walk_at "rd"
  refine altE rfl (ea.mono s1).q fun J hJ => ?_
  refine forR_E hJ (fun i σ H' => ∃ (v1 v2 : Option V), Same H1 H' ∧ σ = [some (.ref a), v1, v2]) (fun i σ H' ⟨_, _, s, _⟩ => s) ⟨_, _, Same.refl H1, rfl⟩ ?_ ?_
  · rintro i x σ H2 t H3 hx ⟨v1, v2, s2, rfl⟩ ht s23 et
    have s3 := s1.trans (s2.trans s23)
    obtain ⟨L, hL, b, rfl, ly⟩ := ix.getV hx
    obtain ⟨dx, G, ys, h1, h2, h3⟩ := (ly.mono s3).ex
    refine rd_gtup et rfl ?_
    walk_at "rd"
    refine rd_isC h1 ?_
    walk_at "rd"
    cases i with
    | zero =>
      refine rd_iteF (by omega) ?_
      walk_at "rd"
      exact ⟨_, _, s2.trans s23, rfl⟩
    | succ i =>
      refine rd_iteT (by omega) ?_
      walk_at "rd"
      refine rd_fld h1 T.cl_Layer T.na_Layer_last (ly_last _ _ G) ?_
      walk_at "rd"
      obtain ⟨M, hM⟩ : ∃ M, Ls[i]? = some M := ⟨_, List.getElem?_eq_getElem (by have := (List.getElem?_eq_some_iff.mp hL).1; omega)⟩
      obtain ⟨_, hxM, b2, rfl, ly2⟩ := ix.get hM
      obtain ⟨dx2, G2, ys2, g1, g2, g3⟩ := (ly2.mono s3).ex
      refine altIxF (j := ((i + 1 : Nat) : Int) - 1) rfl (fun R h => ?_) (ea.mono s3) (v := .ref b2) (by rw [show ((i + 1 : Nat) : Int) - 1 = (i : Nat) by omega]; exact atI_nat' hxM) ?_
      · walk_at "rd"
        exact h
      refine rd_fld g1 T.cl_Layer T.na_Layer_first rfl ?_
      walk_at "rd"
      have := adj i M L hM hL
      rw [decide_eq_true this]
      walk_at "rd"
      exact ⟨_, _, s2.trans s23, rfl⟩
  · rintro σ H2 ⟨v1, v2, s2, rfl⟩
    walk_at "rd"
    exact k H2 (s1.trans s2)
theorem cal2_bake (T : TX P K mg C_Sheet C_Layer C_Pointer C_BadSheet C_BadDay C_BadKey C_BadLayers D_Sheet_0 D_Sheet_1) : ∃ f fd D0, C8.Def K mg "bake" s_bake f fd ∧ (∃ ds, Vals [.ref D0, .bl false] ds ∧ Binds K fd P_bake ds) ∧ (∃ ds, Vals [.bl false] ds ∧ Binds K fd P_bake ds) ∧ (∃ g, KBn K fd P_bake 2 ["is_bottom"] g (fun vs zs => vs ++ zs)) ∧ FnOk P w K mg base C8.CX0 4 f fd P_bake (spBake K C_Layer) := by
  obtain ⟨f0, fd, D0, D, b0, b1, b2⟩ := T.d_bake
  have G_check_layers := cal_check_layers (P := P) (w := w) (base := base) T
  have G_check_pins := cal_check_pins (P := P) (w := w) (base := base) T
  have G_stretches := cal_stretches (P := P) (w := w) (base := base) T
  have G_kept := cal_kept (P := P) (w := w) (base := base) T
  have G_Layer_init := mak_Layer_init (P := P) (w := w) (base := base) T
  have G_tidied := cal_tidied (P := P) (w := w) (base := base) T
  refine ⟨f0, fd, D0, D, b0, b1, b2, fn0 D.fn sc_bake (by walk_at "len") (fun cdv A outer s H vs Q E hr h => ?_)⟩
  obtain ⟨a, p, b, xs, Ls, L0, L9, pins, m, rfl, ea, ix, adj, ⟨hh, hl⟩, ep, lp, hp, hL, hm, lL, hcat, k⟩ := h
  have lx := ix.1
  have rowsMem : ∀ rs ∈ rowsO Ls, ∃ L ∈ Ls, L.2.2 = rs := fun rs h => by
    obtain ⟨L, h1, h2⟩ := List.mem_map.mp h
    exact ⟨L, h1, h2⟩
  refine ⟨_, (pss_cons (ps_expr (pe_c G_check_layers hr (by decide) rfl (pa_cons (pv 0) pa_nil)))
      (pss_cons (ps_if (pt_cmpR op_eq (pe_callB cr_lenS (by rfl) T.b_len (by decide +kernel) (pa_cons (pv 0) pa_nil)) pe_int (nomark _)) (pss_one ps_never) pss_nil)
      (pss_cons (ps_expr (pe_c G_check_pins hr (by decide) rfl (pa_cons (pv 1) pa_nil)))
      (pss_cons (ps_setLc (i := 3) (own := [("low", 4), ("high", 5), ("told", 6)]) (g := gTup _ 3 (gCons (gName 4) (gCons (gName 5) (gCons (gName 6) gNil)))) (tt := tYes) rfl sc_bake.nd rfl rfl (sw_true rfl rfl rfl (by decide +kernel)) (pi_list (pe_c G_stretches hr (by decide) rfl (pa_cons (pv 0) pa_nil))) (blkOk_by (own := [("low", 4), ("high", 5), ("told", 6)]) (N := N_bake) (sc := fnScope s_bake) (by decide +kernel)) (fun _ _ _ _ _ => (pg_tup rfl (pgs_cons (pg_n 4 sc_bake.nd) (pgs_cons (pg_n 5 sc_bake.nd) (pgs_cons (pg_n 6 sc_bake.nd) pgs_nil))))) (fun _ _ _ _ _ => pts_nil) (fun _ _ _ _ _ => (pe_tup (pa_cons (pv 4) (pa_cons (pv 5) (pa_cons (pe_c G_kept hr (by decide) rfl (pa_cons (pv 6) (pa_cons (pv 1) (pa_cons (pv 2) pa_nil)))) pa_nil))))))
      (pss_one (ps_ret (pe_mk G_Layer_init hr (by decide) rfl (pa_cons (pe_fld (pe_alt (pe_ix ix_list (pv 0) (pe_un un_neg pe_int) (fun _ _ => rfl)) (pe_ix ix_tup (pv 0) (pe_un un_neg pe_int) (fun _ _ => rfl))) rfl) (pa_cons (pe_fld (pe_alt (pe_ix ix_list (pv 0) pe_int (fun _ _ => rfl)) (pe_ix ix_tup (pv 0) pe_int (fun _ _ => rfl))) rfl) (pa_cons (pe_c G_tidied hr (by decide) rfl (pa_cons (pv 3) pa_nil)) pa_nil)))))))))), ?_⟩
  walk_at "rd"
  refine ⟨a, xs, Ls, rfl, ea, ix, adj, fun H1 s1 => ?_⟩
  walk_at "rd"
  refine ⟨a, xs, rfl, (ea.mono s1).q, ?_⟩
  walk_at "rd"
  have hpos : 0 < Ls.length := by
    cases Ls with
    | nil => cases hh
    | cons _ _ => exact Nat.succ_pos _
  refine rd_iteF (by omega) ?_
  walk_at "rd"
  refine ⟨p, pins, rfl, ep.mono s1, lp, hp, fun H2 s2 => ?_⟩
  have s12 := s1.trans s2
  walk_at "rd"
  refine ⟨a, xs, Ls, m, rfl, ea.mono s12, ix.imp fun _ _ h => h.mono s12, ?_, ?_, hm, lL, hcat, fun H3 c zs cs s3 hc ec C cb iz => ?_⟩
  · intro rs hrs r hr
    obtain ⟨L, h1, rfl⟩ := rowsMem rs hrs
    exact ⟨((hL L h1).2 r hr).1, ((hL L h1).1.1 r hr).1, ((hL L h1).2 r hr).2⟩
  · intro rs hrs
    obtain ⟨L, h1, rfl⟩ := rowsMem rs hrs
    exact (hL L h1).1.asc
  have s13 := s12.trans s3
  have lz := iz.1
  have lS := strL_len (rowsO Ls) cs
  have lcs : cs.length ≤ 62 := by
    have := asc_ints_len (lo := 0) (m := m + 1) C.asc cb (by omega)
    omega
  have sl : ∀ r ∈ strL (rowsO Ls) cs, r.2.2.length ≤ 1000 := by
    intro r hr
    unfold strL at hr
    obtain ⟨q, _, rfl⟩ := List.mem_map.mp hr
    exact hcat q.1
  obtain ⟨ST, hST⟩ : ∃ ST, ST = strL (rowsO Ls) cs := ⟨_, rfl⟩
  rw [← hST] at iz lz lS sl
  walk_at "rd"
  refine rd_lsR (SqL.of ec) ?_
  refine lcR_lst (xs := zs) (fun W i H' => Same H3 H' ∧ ∃ ws, H' W = some (.lst ws) ∧ ItP RowP H' ws ((ST.take i).map fun r => (r.1, r.2.1, keptF pins b r.2.2))) (fun W i H' _ ⟨s, _⟩ => SqL.of (s _ _ ec)) (fun W H' _ s e _ => ⟨s, [], e, .nil⟩) ?_ ?_
  · rintro W i x H4 hW hx ⟨s4, ws, eW, iw⟩
    obtain ⟨r, hr, ra, w, rfl, era, td⟩ := (rowsKeep (.of s4) iz).getV hx
    have lw := iw.1
    have hi := (List.getElem?_eq_some_iff.mp hr).1
    refine rd_gtup era rfl ?_
    walk_at "rd"
    refine ⟨rfl, ?_⟩
    walk_at "rd"
    refine ⟨w, p, b, r.2.2, pins, rfl, td, sl r (List.mem_of_getElem? hr), ep.mono (s13.trans s4), lp, fun H5 w5 s5 td5 => ?_⟩
    walk_at "rd"
    refine rd_newT (by simp) fun tn H6 _ s6 etn _ => ?_
    have eW6 := (s5.trans s6) _ _ eW
    refine rd_lcE eW6 (by rw [lw, List.length_map, List.length_take]; omega) fun H7 eH7 eW7 => ?_
    have kpt : TupS H6 H7 := by rw [eH7]; exact TupS.updL eW6
    refine ⟨by rw [eH7]; exact Same.mut (s4.trans (s5.trans s6)) hW, ws ++ [.ref tn], eW7, ?_⟩
    rw [List.take_add_one, hr, List.map_append]
    exact (rowsKeep ((TupS.of (s5.trans s6)).trans kpt) iw).snoc ⟨tn, w5, rfl, kpt _ _ etn, td5.keep ((TupS.of s6).trans kpt)⟩
  rintro W H4 hW ⟨s4, ws, eW, iw⟩
  rw [lz, List.take_length] at iw
  have s14 := s13.trans s4
  obtain ⟨Lr, hLr⟩ : ∃ Lr, Ls = Lr ++ [L9] := by
    rcases List.eq_nil_or_concat Ls with z | ⟨g, l, z⟩
    · rw [z] at hh; cases hh
    · rw [List.concat_eq_append] at z
      refine ⟨g, ?_⟩
      rw [z] at hl
      simp at hl
      rw [z, hl]
  obtain ⟨xr, x9, rfl, _, b9, rfl, ly9⟩ := ItP.last (by rw [← hLr]; exact ix)
  obtain ⟨dx9, G9, ys9, g1, g2, g3⟩ := (ly9.mono s14).ex
  obtain ⟨x0, hx0, b0, rfl, ly0⟩ := ix.get (i := 0) (y := L0) (by rw [← List.head?_eq_getElem?]; exact hh)
  obtain ⟨dx0, G0, ys0, f1, f2, f3⟩ := (ly0.mono s14).ex
  walk_at "rd"
  refine altIxF (j := -1) rfl (fun R h => ?_) (ea.mono s14) (atI_last _ _) ?_
  · walk_at "rd"
    exact h
  refine rd_fld g1 T.cl_Layer T.na_Layer_first rfl ?_
  walk_at "rd"
  refine altIxF (j := 0) rfl (fun R h => ?_) (ea.mono s14) (atI_nat' (i := 0) hx0) ?_
  · walk_at "rd"
    exact h
  refine rd_fld f1 T.cl_Layer T.na_Layer_last (ly_last _ _ G0) ?_
  walk_at "rd"
  have oneL : ∀ rs ∈ rowsO Ls, ∀ r ∈ rs, RowOk r := fun rs hrs r hr => by
    obtain ⟨L, h1, rfl⟩ := rowsMem rs hrs
    exact (hL L h1).1.1 r hr
  refine ⟨W, ws, _, rfl, eW, iw, asc_map (by rw [hST]; exact strL_asc C.asc), ?_, ?_, fun H5 q vs f s5 hq eq iv tf hat orig => ?_⟩
  · intro r hr
    obtain ⟨s, hs, rfl⟩ := List.mem_map.mp hr
    rw [hST] at hs
    refine ⟨(strL_lo C.asc s hs).1, fun g => strL_one oneL (pre := []) C s hs (goneV_sub keptF_sub g), Nat.le_trans keptF_sub.length_le (sl s (by rw [hST]; exact hs))⟩
  · rw [List.length_map]; omega
  walk_at "rd"
  refine rd_make fun y dy H6 s6 hy ey => ?_
  have s15 := s14.trans s5
  refine ⟨y, dy, q, L9.1, L0.2.1, vs, H5, rfl, s6, hy, ey, s6 _ _ eq, fun H7 G7 s7 t7 e7 eG7 => ⟨rfl, ?_⟩⟩
  refine k H7 y f (s15.trans s7) (none_back s15 hy) ⟨dy, G7, vs, e7, eG7, rowsKeep ((TupS.of s6).trans t7) iv⟩ tf (fun kk => ?_) (fun x hx => ?_)
  · rw [hat kk, at_map keptF_nil, hST, strL_all C]
  · obtain ⟨r, hr, s, hs, e1, e2⟩ := orig x hx
    obtain ⟨r', hr', rfl⟩ := List.mem_map.mp hr
    obtain ⟨s', hs', rfl⟩ := List.mem_map.mp hs
    rw [hST] at hr' hs'
    have c1 := cb _ (strL_lo C.asc r' hr').2.1
    have c2 := cb _ (strL_lo C.asc s' hs').2.2
    rw [e1, e2]
    exact ⟨c1.1, by show s'.2.1 ≤ m; omega⟩
end
end Sl

set_option Elab.async false
set_option linter.all false
set_option maxRecDepth 100000
set_option maxHeartbeats 8000000
set_option exponentiation.threshold 9000
namespace Sl
open PySem L2 C8 StX Silt LiI RT
local macro_rules | `(tactic| walk_at "side") => `(tactic| first
  | exact cdivw (by omega) (by omega)
  | exact cmulw (by omega) (by omega) (by omega) (by omega)
  | exact Or.inr ⟨by omega, by omega⟩
  | exact Or.inl ⟨by omega, by omega⟩
  | omega
  | exact ⟨by omega, by omega, by decide⟩
  | decide)
local macro_rules | `(tactic| walk_at "rd1") => `(tactic| first
  | with_reducible refine rd_seq ?_
  | with_reducible refine rd_asg ?_
  | with_reducible refine rd_drop ?_
  | with_reducible refine rd_ret ?_
  | with_reducible refine rd_retN ?_
  | with_reducible refine rd_ifS ?_
  | ((with_reducible refine rd_var0 ?_); refine ⟨_, rfl, ?_⟩)
  | with_reducible refine rd_c ?_
  | with_reducible refine rd_op ?_
  | with_reducible refine rd_un ?_
  | with_reducible refine rd_I0 ?_
  | with_reducible refine rd_U ?_
  | ((with_reducible refine rd_I ?c ?_); (case c => walk_at "side"))
  | with_reducible refine rd_ipI ?_
  | with_reducible refine rd_eqI ?_
  | with_reducible refine rd_neI ?_
  | with_reducible refine rd_test ?_
  | with_reducible refine rd_tB ?_
  | with_reducible refine rd_bl ?_
  | with_reducible refine rd_not ?_
  | with_reducible refine rd_and ?_
  | with_reducible refine rd_or ?_
  | with_reducible refine rd_andV ?_
  | with_reducible refine rd_orV ?_
  | with_reducible refine rd_notV ?_
  | with_reducible refine rd_ifE ?_
  | with_reducible refine rd_chain ?_
  | with_reducible refine rd_chain3 ?_
  | with_reducible refine rd_nil ?_
  | with_reducible refine rd_cons ?_
  | with_reducible refine rd_call ?_
  | with_reducible refine rd_CB ?_
  | with_reducible refine rd_par ?_
  | with_reducible refine rd_par2 ?_
  | with_reducible refine rd_par3 ?_
  | with_reducible refine rd_par4 ?_
  | ((with_reducible refine rd_aug0 ?_); refine ⟨_, rfl, ?_⟩)
  | with_reducible refine rd_gname ?_
  | with_reducible refine rd_gcons ?_
  | with_reducible refine rd_gnil ?_
  | with_reducible refine rd_max ?_
  | with_reducible refine rd_min ?_
  | with_reducible refine rd_int1 ?_
  | with_reducible refine rd_abs ?_
  | with_reducible refine rd_lst ?_
  | with_reducible refine rd_tup ?_
  | with_reducible refine rd_bm ?_
  | with_reducible refine rd_fld0 ?_
  | with_reducible refine rd_sl0 ?_
  | with_reducible refine rd_noP ?_
  | with_reducible refine rd_part ?_
  | with_reducible refine rd_part2 ?_
  | with_reducible refine rd_meth0 ?_
  | with_reducible refine rd_star ?_
  | with_reducible refine rd_for ?_
  | with_reducible refine rd_rng1 ?_
  | with_reducible refine rd_rng2 ?_
  | with_reducible refine rd_rng3 ?_
  | with_reducible refine rd_iList ?_
  | with_reducible refine rd_iTup ?_
  | with_reducible refine rd_iEnum ?_
  | with_reducible refine rd_lc ?_
  | with_reducible refine rd_yes ?_
  | with_reducible refine rd_augS ?_
  | with_reducible refine rd_drawNew ?_
  | with_reducible refine rd_make0 ?_
  | with_reducible refine rd_next ?_
  | with_reducible refine rd_break ?_
  | with_reducible refine rd_cont ?_
  | with_reducible refine rd_iteTT ?_
  | with_reducible refine rd_iteFF ?_
  | with_reducible refine rd_iteNTT ?_
  | with_reducible refine rd_iteNFF ?_
  | with_reducible refine rd_con0 ?_
  | with_reducible refine rd_truO0 ?_
  | with_reducible refine rd_gfld0 ?_
  | with_reducible refine rd_dc ?_
  | with_reducible refine rd_iKeys ?_
  | with_reducible refine rd_dget0 ?_
  | with_reducible refine rd_dput0 ?_
  | with_reducible refine rd_dnot0 ?_
  | with_reducible refine rd_iEnumT ?_
  | with_reducible refine rd_raP0 ?_
  | with_reducible refine rd_xf0 ?_
  | with_reducible refine rd_cKw ?_
  | with_reducible refine rd_iStr ?_
  | with_reducible refine rd_gSub ?_
  | with_reducible refine rd_asgG ?_)
local macro_rules | `(tactic| walk_at "rd") => `(tactic| repeat walk_at "rd1")
local macro_rules | `(tactic| walk_at "len") => `(tactic| first
  | (intro vs H Q E h; obtain ⟨h2, _⟩ := h; rw [h2]; rfl)
  | (intro vs H Q E h; obtain ⟨_, h2, _⟩ := h; rw [h2]; rfl)
  | (intro vs H Q E h; obtain ⟨_, _, h2, _⟩ := h; rw [h2]; rfl)
  | (intro vs H Q E h; obtain ⟨_, _, _, h2, _⟩ := h; rw [h2]; rfl)
  | (intro vs H Q E h; obtain ⟨_, _, _, _, h2, _⟩ := h; rw [h2]; rfl)
  | (intro vs H Q E h; obtain ⟨_, _, _, _, _, h2, _⟩ := h; rw [h2]; rfl)
  | (intro vs H Q E h; obtain ⟨_, _, _, _, _, _, h2, _⟩ := h; rw [h2]; rfl)
  | (intro vs H Q E h; obtain ⟨_, _, _, _, _, _, _, h2, _⟩ := h; rw [h2]; rfl)
  | (intro vs H Q E h; obtain ⟨_, _, _, _, _, _, _, _, h2, _⟩ := h; rw [h2]; rfl)
  | (intro vs H Q E h; obtain ⟨_, _, _, _, _, _, _, _, _, h2, _⟩ := h; rw [h2]; rfl)
  | (intro vs H Q E h; obtain ⟨_, _, _, _, _, _, _, _, _, _, h2, _⟩ := h; rw [h2]; rfl)
  | (intro vs H Q E h; obtain ⟨_, _, _, _, _, _, _, _, _, _, _, h2, _⟩ := h; rw [h2]; rfl)
  | (intro vs H Q E h; obtain ⟨_, _, _, _, _, _, _, _, _, _, _, _, h2, _⟩ := h; rw [h2]; rfl))
theorem kitN {a : String} (h : a = "NoneType" ∨ a = "int") {K : PySem.W.Frag} : PySem.W.kitAny K (.type a) [.type "list", .type "tuple"] = some false := by
  rcases h with rfl | rfl <;> exact kitAny_cons (b := false) (kit_ty (by decide +kernel)) (fun _ => kitAny_cons (b := false) (kit_ty (by decide +kernel)) (fun _ => rfl) (fun h => nomatch h)) (fun h => nomatch h)
theorem sub_non {K : PySem.W.Frag} {C : Addr} : PySem.W.subIn K (.type "NoneType") (.ref C) = some false := by
  have e : fastBuiltinMro "NoneType" = some [.type "NoneType", .type "object"] := by decide +kernel
  show (fastBuiltinMro "NoneType").map (·.contains (.ref C)) = some false
  rw [e]
  rfl
theorem rd_isiNi {K : PySem.W.Frag} {H : Hp} {Q : VK} {u : Addr} {v : V} (hv : v = .non ∨ ∃ s, v = .int s) (eu : H u = some (.tup [.ty "list", .ty "tuple"])) (h : Q (.bl false) H) : rIsiT K [v, .ref u] H Q := by
  rcases hv with rfl | ⟨s, rfl⟩
  · exact ⟨_, u, _, _, [.type "list", .type "tuple"], false, rfl, eu, .cons (.ty _) (.cons (.ty _) .nil), .base .non, kitN (.inl rfl), h⟩
  · exact ⟨_, u, _, _, [.type "list", .type "tuple"], false, rfl, eu, .cons (.ty _) (.cons (.ty _) .nil), .base (.int _), kitN (.inr rfl), h⟩
/-- what are no layers: and the place that is told -/
def BadL (C : Addr) (H : Hp) (v z : V) : Prop := (v = .non ∧ z = .non) ∨ ∃ (a : Addr) (xs : List V) (y : V) (rest : List V) (Ls : List Lay), v = .ref a ∧ H a = some (.lst (xs ++ y :: rest)) ∧ ItP (LayP C) H xs Ls ∧ Adj Ls ∧ xs.length ≤ 1000 ∧ z = .int (Ls.length : Int) ∧
  ((y = .non ∨ ∃ i, y = .int i) ∨ ∃ L M, Ls.getLast? = some L ∧ LayP C H y M ∧ M.2.1 ≠ L.1 - 1)
def spChkLX (C CX : Addr) : Sp := fun vs H _ E => ∃ (v z : V), vs = [v] ∧ BadL C H v z ∧ ∀ d H', Same H H' → H' d = some (.xd [("place", z)]) → E (.ref CX) (some d) H'
def BadP (H : Hp) (v : V) : Prop := (v = .non ∨ ∃ i, v = .int i) ∨ ∃ (q : Addr) (y : V), v = .ref q ∧ H q = some (.lst [y]) ∧ Sc y ∧ (wholeB y = false ∨ ∃ i, y = .int i ∧ i < 0)
theorem BadP.mono {H H' : Hp} {v : V} (s : Same H H') (h : BadP H v) : BadP H' v := by
  rcases h with h | ⟨q, y, e, z, r⟩
  · exact .inl h
  · exact .inr ⟨q, y, e, s _ _ z, r⟩
def spPinsX (CX : Addr) : Sp := fun vs H _ E => ∃ (v : V), vs = [v] ∧ BadP H v ∧ ∀ H', Same H H' → E (.ref CX) none H'
def spBake1X (C CX : Addr) : Sp := fun vs H _ E => ∃ (v p b z : V), vs = [v, p, b] ∧ (BadL C H v z ∨ ∃ a, v = .ref a ∧ H a = some (.lst []) ∧ z = .non) ∧ ∀ d H', Same H H' → H' d = some (.xd [("place", z)]) → E (.ref CX) (some d) H'
def spBake2X (C CX : Addr) : Sp := fun vs H _ E => ∃ (a : Addr) (v b : V) (xs : List V) (Ls : List Lay), vs = [.ref a, v, b] ∧ SeqP H a xs ∧ ItP (LayP C) H xs Ls ∧ Adj Ls ∧ 0 < Ls.length ∧ BadP H v ∧ ∀ H', Same H H' → E (.ref CX) none H'
def spLayX (CD CS : Addr) : Sp := fun vs H _ E => ∃ (d : Int) (x : V), vs = [.int d, x] ∧ ((d < 1 ∧ E (.ref CD) none H) ∨ ∃ (D : Addr) (ls : List (Int × V)), x = .ref D ∧ 1 ≤ d ∧ H D = some (.dK (dV ls)) ∧ E (.ref CS) none H)
def spVersX (C : Addr) : Sp := fun vs H Q E => ∃ (x : Addr) (v : V), vs = [.ref x, v] ∧ Sc v ∧ keyB v = false ∧ E (.ref C) none H
theorem get_last {α : Type} {l : List α} {x : α} (h : l.getLast? = some x) : l[l.length - 1]? = some x := by rw [← List.getLast?_eq_getElem?]; exact h
section
variable {P : Program} {w : World} {K : PySem.W.Frag} {mg : Str → Option Value} {base : Heap} {C_Sheet C_Layer C_Pointer C_BadSheet C_BadDay C_BadKey C_BadLayers D_Sheet_0 D_Sheet_1 : Addr}
theorem xal_check_layers (T : TX P K mg C_Sheet C_Layer C_Pointer C_BadSheet C_BadDay C_BadKey C_BadLayers D_Sheet_0 D_Sheet_1) : CalX P w K mg base 3 "check_layers" (spChkLX C_Layer C_BadLayers) [] := by
  obtain ⟨f0, fd, D, dn⟩ := T.d_check_layers
  refine calX0 D (D.fn.binds dn fun _ _ _ _ _ _ us hl => match us, hl with | [_], _ => rfl) .nil sc_check_layers (by walk_at "len") (fun cdv A outer s H vs Q E hr h => ?_)
  obtain ⟨v, z, rfl, hb, k⟩ := h
  rcases hb with ⟨rfl, rfl⟩ | ⟨a, xs, y, rest, Ls, rfl, e, ix, adj, lx, rfl, bad⟩
  · refine ⟨_, (pss_cons (ps_if (pt_not (pt_val (pe_callB call_isiT (by rfl) T.b_isinstance (by decide +kernel) (pa_cons (pv 0) (pa_cons (pe_tup (pa_cons (pe_bltn (v := .ty "list") (u := .type "list") rfl T.b_list (by decide +kernel) rfl) (pa_cons (pe_bltn (v := .ty "tuple") (u := .type "tuple") rfl T.b_tuple (by decide +kernel) rfl) pa_nil))) pa_nil))))) (pss_one (ps_raiseP rfl (takes_of rfl rfl rfl rfl) T.y_BadLayers ss_BadLayers T.b_super T.mg_BadLayers hr (by decide) rfl pe_non)) pss_nil)
      (pss_one (ps_for (passes_of rfl) rfl (pi_alt (pi_enum (by rfl) T.b_enumerate (pa_cons (pv 0) pa_nil)) (pi_enumT (by rfl) T.b_enumerate (pa_cons (pv 0) pa_nil))) (pg_tup rfl (pgs_cons (pg_n 1 sc_check_layers.nd) (pgs_cons (pg_n 2 sc_check_layers.nd) pgs_nil))) (pss_one (ps_if (PW.pt (pw_or (pt_not (pt_val (pe_callB call_isi (by rfl) T.b_isinstance (by decide +kernel) (pa_cons (pv 2) (pa_cons (pe_gc rfl T.g_Layer) pa_nil))))) (pw_or1 (PW.pt (pw_and (pt_cmpR op_gt (pv 1) pe_int (nomark _)) (pw_and1 (pt_cmpR op_ne (pe_fld (pv 2) rfl) (pe_op op_sub (pe_fld (pe_alt (pe_ix ix_list (pv 0) (pe_op op_sub (pv 1) pe_int) (fun _ _ => rfl)) (pe_ix ix_tup (pv 0) (pe_op op_sub (pv 1) pe_int) (fun _ _ => rfl))) rfl) pe_int) (nomark _)))))))) (pss_one (ps_raiseP rfl (takes_of rfl rfl rfl rfl) T.y_BadLayers ss_BadLayers T.b_super T.mg_BadLayers hr (by decide) rfl (pv 1))) pss_nil))))), ?_⟩
    walk_at "rd"
    refine rd_newT (by decide) fun u H1 _ s1 eu _ => ?_
    walk_at "rd"
    refine rd_isiNi (.inl rfl) eu ?_
    walk_at "rd"
    exact rd_raP fun d H' hd s e => k d H' (s1.trans s) e
  · refine ⟨_, (pss_cons (ps_if (pt_not (pt_val (pe_callB call_isiT (by rfl) T.b_isinstance (by decide +kernel) (pa_cons (pv 0) (pa_cons (pe_tup (pa_cons (pe_bltn (v := .ty "list") (u := .type "list") rfl T.b_list (by decide +kernel) rfl) (pa_cons (pe_bltn (v := .ty "tuple") (u := .type "tuple") rfl T.b_tuple (by decide +kernel) rfl) pa_nil))) pa_nil))))) (pss_one (ps_raiseP rfl (takes_of rfl rfl rfl rfl) T.y_BadLayers ss_BadLayers T.b_super T.mg_BadLayers hr (by decide) rfl pe_non)) pss_nil)
      (pss_one (ps_for (passes_of rfl) rfl (pi_alt (pi_enum (by rfl) T.b_enumerate (pa_cons (pv 0) pa_nil)) (pi_enumT (by rfl) T.b_enumerate (pa_cons (pv 0) pa_nil))) (pg_tup rfl (pgs_cons (pg_n 1 sc_check_layers.nd) (pgs_cons (pg_n 2 sc_check_layers.nd) pgs_nil))) (pss_one (ps_if (PW.pt (pw_or (pt_not (pt_val (pe_callB call_isi (by rfl) T.b_isinstance (by decide +kernel) (pa_cons (pv 2) (pa_cons (pe_gc rfl T.g_Layer) pa_nil))))) (pw_or1 (PW.pt (pw_and (pt_cmpR op_gt (pv 1) pe_int (nomark _)) (pw_and1 (pt_cmpR op_ne (pe_fld (pv 2) rfl) (pe_op op_sub (pe_fld (pe_alt (pe_ix ix_list (pv 0) (pe_op op_sub (pv 1) pe_int) (fun _ _ => rfl)) (pe_ix ix_tup (pv 0) (pe_op op_sub (pv 1) pe_int) (fun _ _ => rfl))) rfl) pe_int) (nomark _)))))))) (pss_one (ps_raiseP rfl (takes_of rfl rfl rfl rfl) T.y_BadLayers ss_BadLayers T.b_super T.mg_BadLayers hr (by decide) rfl (pv 1))) pss_nil))))), ?_⟩
    have lxs := ix.1
    walk_at "rd"
    refine rd_newT (by simp) fun u H1 _ s1 eu _ => ?_
    have e1 := s1 _ _ e
    walk_at "rd"
    refine rd_isiTQ (.inl (SqL.of e1)) eu ?_
    walk_at "rd"
    refine altE rfl (SqL.of e1 |> .inl) fun J hJ => ?_
    refine forR_E hJ (fun j σ H' => ∃ (v2 v3 : Option V), j ≤ xs.length ∧ Same H1 H' ∧ σ = [some (.ref a), v2, v3]) (fun j σ H' ⟨_, _, _, s, _⟩ => s) ⟨_, _, Nat.zero_le _, Same.refl H1, rfl⟩ ?_ ?_
    · rintro j x σ H2 q H3 hx ⟨v2, v3, hjl, s2, rfl⟩ _ s3 eq3
      have s13 := s1.trans (s2.trans s3)
      have e3 : SeqP H3 a (xs ++ y :: rest) := .inl (s13 _ _ e)
      have prev : ∀ (i : Nat), j = i + 1 → j ≤ xs.length → ∃ M b2 dx2 G2 ys2, Ls[i]? = some M ∧ (xs ++ y :: rest)[i]? = some (.ref b2) ∧ H3 b2 = some (.ins C_Layer dx2 (LyF M.1 M.2.1 G2)) ∧ H3 G2 = some (.tup ys2) := by
        intro i hi hj
        obtain ⟨M, hM⟩ : ∃ M, Ls[i]? = some M := ⟨_, List.getElem?_eq_getElem (by omega)⟩
        obtain ⟨_, hxM, b2, rfl, ly2⟩ := ix.get hM
        obtain ⟨dx2, G2, ys2, g1, g2, g3⟩ := (ly2.mono s13).ex
        exact ⟨M, b2, dx2, G2, ys2, hM, by rw [List.getElem?_append_left (by omega)]; exact hxM, g1, g2⟩
      refine rd_gtup eq3 rfl ?_
      walk_at "rd"
      by_cases hj : j < xs.length
      · rw [List.getElem?_append_left hj] at hx
        obtain ⟨L, hL, b, rfl, ly⟩ := ix.getV hx
        obtain ⟨dx, G, ys, h1, h2, h3⟩ := (ly.mono s13).ex
        refine rd_isiC T.i_Layer h1 ?_
        walk_at "rd"
        cases j with
        | zero =>
          refine rd_iteF (by omega) ?_
          walk_at "rd"
          exact ⟨_, _, hj, s2.trans s3, rfl⟩
        | succ i =>
          refine rd_iteT (by omega) ?_
          walk_at "rd"
          refine rd_fld h1 T.cl_Layer T.na_Layer_last (ly_last _ _ G) ?_
          walk_at "rd"
          obtain ⟨M, b2, dx2, G2, ys2, hM, hxM, g1, g2⟩ := prev i rfl (by omega)
          refine altIxF (j := ((i + 1 : Nat) : Int) - 1) rfl (fun R h => ?_) e3 (v := .ref b2) (by rw [show ((i + 1 : Nat) : Int) - 1 = (i : Nat) by omega]; exact atI_nat' hxM) ?_
          · walk_at "rd"
            exact h
          refine rd_fld g1 T.cl_Layer T.na_Layer_first rfl ?_
          walk_at "rd"
          have := adj i M L hM hL
          rw [decide_eq_true this]
          walk_at "rd"
          exact ⟨_, _, hj, s2.trans s3, rfl⟩
      · have ej : j = xs.length := by omega
        have hx2 : x = y := by
          rw [ej, List.getElem?_append_right (Nat.le_refl _), Nat.sub_self] at hx
          exact (Option.some.inj hx).symm
        subst hx2
        rcases bad with hb | ⟨L, M, hL, ⟨b, rfl, ly⟩, hne⟩
        · have isn : ∀ {R : VK}, R (.bl false) H3 → rIsi K [x, .ref C_Layer] H3 R := by
            intro R h
            rcases hb with rfl | ⟨i, rfl⟩
            · exact rd_isiCn (T.nk_Layer _ sub_non) h
            · exact rd_isiCi (T.nk_Layer _ sub_int) h
          refine isn ?_
          walk_at "rd"
          rw [show (j : Int) = (Ls.length : Int) by omega]
          exact rd_raP fun d H' hd s e => k d H' (s13.trans s) e
        · obtain ⟨dx, G, ys, h1, h2, h3⟩ := (ly.mono s13).ex
          refine rd_isiC T.i_Layer h1 ?_
          walk_at "rd"
          have hl := get_last hL
          have hpos : 0 < Ls.length := by
            cases Ls with
            | nil => cases hL
            | cons _ _ => exact Nat.succ_pos _
          obtain ⟨i, hi⟩ : ∃ i, j = i + 1 := ⟨j - 1, by omega⟩
          subst hi
          refine rd_iteT (by omega) ?_
          walk_at "rd"
          refine rd_fld h1 T.cl_Layer T.na_Layer_last (ly_last _ _ G) ?_
          walk_at "rd"
          obtain ⟨M2, b2, dx2, G2, ys2, hM, hxM, g1, g2⟩ := prev i rfl (by omega)
          have : Ls.length - 1 = i := by omega
          rw [this, hM] at hl
          cases hl
          refine altIxF (j := ((i + 1 : Nat) : Int) - 1) rfl (fun R h => ?_) e3 (v := .ref b2) (by rw [show ((i + 1 : Nat) : Int) - 1 = (i : Nat) by omega]; exact atI_nat' hxM) ?_
          · walk_at "rd"
            exact h
          refine rd_fld g1 T.cl_Layer T.na_Layer_first rfl ?_
          walk_at "rd"
          rw [decide_eq_false hne]
          walk_at "rd"
          rw [show ((i + 1 : Nat) : Int) = (Ls.length : Int) by omega]
          exact rd_raP fun d H' hd s e => k d H' (s13.trans s) e
    · rintro σ H2 ⟨v2, v3, hjl, _⟩
      rw [List.length_append] at hjl
      simp only [List.length_cons] at hjl
      omega
theorem xal_check_pins (T : TX P K mg C_Sheet C_Layer C_Pointer C_BadSheet C_BadDay C_BadKey C_BadLayers D_Sheet_0 D_Sheet_1) : CalX P w K mg base 2 "check_pins" (spPinsX C_BadDay) [] := by
  obtain ⟨f0, fd, D, dn⟩ := T.d_check_pins
  have G_is_whole := cal_is_whole (P := P) (w := w) (base := base) T
  refine calX0 D (D.fn.binds dn fun _ _ _ _ _ _ us hl => match us, hl with | [_], _ => rfl) .nil sc_check_pins (by walk_at "len") (fun cdv A outer s H vs Q E hr h => ?_)
  obtain ⟨v, rfl, hb, k⟩ := h
  rcases hb with hb | ⟨q, y, rfl, eq, hy, bad⟩
  · refine ⟨_, (pss_one (ps_if (PW.pt (pw_or (pt_not (pt_val (pe_callB call_isiT (by rfl) T.b_isinstance (by decide +kernel) (pa_cons (pv 0) (pa_cons (pe_tup (pa_cons (pe_bltn (v := .ty "list") (u := .type "list") rfl T.b_list (by decide +kernel) rfl) (pa_cons (pe_bltn (v := .ty "tuple") (u := .type "tuple") rfl T.b_tuple (by decide +kernel) rfl) pa_nil))) pa_nil))))) (pw_or1 (pt_not (pt_val (pe_callB (cr_all rfl) (by rfl) T.b_all (by decide +kernel) (pa_cons (pe_lc (own := [("one", 1)]) (g := gName 1) (tt := tYes) rfl sc_check_pins.nd (pi_alt (pi_list (pv 0)) (pi_tup (pv 0))) (blkOk_by (own := [("one", 1)]) (N := N_check_pins) (sc := fnScope s_check_pins) (by decide +kernel)) (fun _ _ _ _ _ => (pg_n 1 sc_check_pins.nd)) (fun _ _ _ _ _ => pts_nil) (fun _ _ _ _ _ => (pe_and (pe_c G_is_whole hr (by decide) rfl (pa_cons (pv 1) pa_nil)) (pe_one (pe_cmpR op_ge (pv 1) pe_int (nomark _)))))) pa_nil))))))) (pss_one (ps_raiseO rfl (takes_of rfl rfl rfl rfl) T.x_BadDay T.mg_BadDay rfl)) pss_nil)), ?_⟩
    walk_at "rd"
    refine rd_newT (by decide) fun u H1 _ s1 eu _ => ?_
    walk_at "rd"
    refine rd_isiNi hb eu ?_
    walk_at "rd"
    exact rd_raise (k H1 s1)
  · refine ⟨_, (pss_one (ps_if (PW.pt (pw_or (pt_not (pt_val (pe_callB call_isiT (by rfl) T.b_isinstance (by decide +kernel) (pa_cons (pv 0) (pa_cons (pe_tup (pa_cons (pe_bltn (v := .ty "list") (u := .type "list") rfl T.b_list (by decide +kernel) rfl) (pa_cons (pe_bltn (v := .ty "tuple") (u := .type "tuple") rfl T.b_tuple (by decide +kernel) rfl) pa_nil))) pa_nil))))) (pw_or1 (pt_not (pt_val (pe_callB (cr_all rfl) (by rfl) T.b_all (by decide +kernel) (pa_cons (pe_lc (own := [("one", 1)]) (g := gName 1) (tt := tYes) rfl sc_check_pins.nd (pi_alt (pi_list (pv 0)) (pi_tup (pv 0))) (blkOk_by (own := [("one", 1)]) (N := N_check_pins) (sc := fnScope s_check_pins) (by decide +kernel)) (fun _ _ _ _ _ => (pg_n 1 sc_check_pins.nd)) (fun _ _ _ _ _ => pts_nil) (fun _ _ _ _ _ => (pe_and (pe_c G_is_whole hr (by decide) rfl (pa_cons (pv 1) pa_nil)) (pe_one (pe_cmpR op_ge (pv 1) pe_int (nomark _)))))) pa_nil))))))) (pss_one (ps_raiseO rfl (takes_of rfl rfl rfl rfl) T.x_BadDay T.mg_BadDay rfl)) pss_nil)), ?_⟩
    walk_at "rd"
    refine rd_newT (by simp) fun u H1 _ s1 eu _ => ?_
    have e1 := s1 _ _ eq
    walk_at "rd"
    refine rd_isiTQ (.inl (SqL.of e1)) eu ?_
    walk_at "rd"
    refine altQ rfl (.inl (SqL.of e1)) fun J hJ => ?_
    refine lcR_Q hJ (fun W i H' => Same H1 H' ∧ H' W = some (.lst ((List.replicate i false).map V.bl))) (fun W i H' _ ⟨s, _⟩ => s) (fun W H' _ s e _ => ⟨s, e⟩) ?_ ?_
    · rintro W i x H2 hW hx ⟨s2, eW⟩
      have hi : i = 0 := by have := (List.getElem?_eq_some_iff.mp hx).1; simp at this; exact this
      subst hi
      cases hx
      walk_at "rd"
      refine ⟨rfl, ?_⟩
      walk_at "rd"
      refine ⟨y, rfl, hy, ?_⟩
      refine ⟨_, rfl, ?_⟩
      have fin : LcE W (fun H' => Same H1 H' ∧ H' W = some (.lst ((List.replicate (0 + 1) false).map V.bl))) (.bl false) H2 := by
        refine rd_lcE eW (by simp) fun H3 eH3 eW3 => ?_
        exact ⟨by rw [eH3]; exact Same.mut s2 hW, eW3⟩
      rcases bad with hw | ⟨i, rfl, hi⟩
      · rw [hw]
        exact fin
      · show if true = true then _ else _
        refine rd_iteTT ?_
        walk_at "rd"
        rw [decide_eq_false (by omega)]
        exact fin
    · rintro W H2 hW ⟨s2, eW⟩
      walk_at "rd"
      refine all_bs eW ?_
      rw [show (List.replicate [y].length false).all id = false from rfl]
      walk_at "rd"
      exact rd_raise (k H2 (s1.trans s2))
theorem xal2_bake (T : TX P K mg C_Sheet C_Layer C_Pointer C_BadSheet C_BadDay C_BadKey C_BadLayers D_Sheet_0 D_Sheet_1) : ∃ f fd D0, C8.Def K mg "bake" s_bake f fd ∧ (∃ ds, Vals [.ref D0, .bl false] ds ∧ Binds K fd P_bake ds) ∧ (∃ ds, Vals [.bl false] ds ∧ Binds K fd P_bake ds) ∧ FnOk P w K mg base (L2.CX P w) 4 f fd P_bake (spBake1X C_Layer C_BadLayers) := by
  obtain ⟨f0, fd, D0, D, b0, b1, b2⟩ := T.d_bake
  have G_check_layers := cal_check_layers (P := P) (w := w) (base := base) T
  have X_check_layers := xal_check_layers (P := P) (w := w) (base := base) T
  refine ⟨f0, fd, D0, D, b0, b1, fnX D.fn sc_bake (by walk_at "len") (fun cdv A outer s H vs Q E hr h => ?_)⟩
  obtain ⟨v, p, b, z, rfl, hb, k⟩ := h
  rcases hb with hb | ⟨a, rfl, ea, rfl⟩
  · refine ⟨_, (pss_cons (ps_expr (pe_cX X_check_layers hr (by decide) rfl (fun σ => passAt (takes_of rfl rfl rfl rfl) σ) (pa_cons (pv 0) pa_nil)))
      (pss_cons ps_never
      (pss_cons ps_never
      (pss_cons ps_never
      (pss_one ps_never))))), ?_⟩
    walk_at "rd"
    refine rd_callSd ?_
    walk_at "rd"
    exact rd_callSd2 ⟨v, z, rfl, hb, k⟩
  · refine ⟨_, (pss_cons (ps_expr (pe_c G_check_layers hr (by decide) rfl (pa_cons (pv 0) pa_nil)))
      (pss_cons (ps_if (pt_cmpR op_eq (pe_callB cr_lenS (by rfl) T.b_len (by decide +kernel) (pa_cons (pv 0) pa_nil)) pe_int (nomark _)) (pss_one (ps_raiseP rfl (takes_of rfl rfl rfl rfl) T.y_BadLayers ss_BadLayers T.b_super T.mg_BadLayers hr (by decide) rfl pe_non)) pss_nil)
      (pss_cons ps_never
      (pss_cons ps_never
      (pss_one ps_never))))), ?_⟩
    walk_at "rd"
    refine ⟨a, [], [], rfl, .inl ea, .nil, (fun i L M h => by cases h), fun H1 s1 => ?_⟩
    walk_at "rd"
    refine ⟨a, [], rfl, .inl (SqL.of (s1 _ _ ea)), ?_⟩
    walk_at "rd"
    refine rd_iteT (by rfl) ?_
    walk_at "rd"
    exact rd_raP fun d H' hd s e => k d H' (s1.trans s) e
theorem xal2_bake_pn (T : TX P K mg C_Sheet C_Layer C_Pointer C_BadSheet C_BadDay C_BadKey C_BadLayers D_Sheet_0 D_Sheet_1) : ∃ f fd D0, C8.Def K mg "bake" s_bake f fd ∧ (∃ ds, Vals [.ref D0, .bl false] ds ∧ Binds K fd P_bake ds) ∧ (∃ ds, Vals [.bl false] ds ∧ Binds K fd P_bake ds) ∧ FnOk P w K mg base (L2.CX P w) 4 f fd P_bake (spBake2X C_Layer C_BadDay) := by
  obtain ⟨f0, fd, D0, D, b0, b1, b2⟩ := T.d_bake
  have G_check_layers := cal_check_layers (P := P) (w := w) (base := base) T
  have X_check_pins := xal_check_pins (P := P) (w := w) (base := base) T
  refine ⟨f0, fd, D0, D, b0, b1, fnX D.fn sc_bake (by walk_at "len") (fun cdv A outer s H vs Q E hr h => ?_)⟩
  obtain ⟨a, v, b, xs, Ls, rfl, ea, ix, adj, hpos, hb, k⟩ := h
  have lx := ix.1
  refine ⟨_, (pss_cons (ps_expr (pe_c G_check_layers hr (by decide) rfl (pa_cons (pv 0) pa_nil)))
      (pss_cons (ps_if (pt_cmpR op_eq (pe_callB cr_lenS (by rfl) T.b_len (by decide +kernel) (pa_cons (pv 0) pa_nil)) pe_int (nomark _)) (pss_one (ps_raiseP rfl (takes_of rfl rfl rfl rfl) T.y_BadLayers ss_BadLayers T.b_super T.mg_BadLayers hr (by decide) rfl pe_non)) pss_nil)
      (pss_cons (ps_expr (pe_cX X_check_pins hr (by decide) rfl (fun σ => passAt (takes_of rfl rfl rfl rfl) σ) (pa_cons (pv 1) pa_nil)))
      (pss_cons ps_never
      (pss_one ps_never))))), ?_⟩
  walk_at "rd"
  refine ⟨a, xs, Ls, rfl, ea, ix, adj, fun H1 s1 => ?_⟩
  walk_at "rd"
  refine ⟨a, xs, rfl, (ea.mono s1).q, ?_⟩
  walk_at "rd"
  refine rd_iteF (by omega) ?_
  walk_at "rd"
  refine rd_callSd ?_
  walk_at "rd"
  exact rd_callSd2 ⟨v, rfl, hb.mono s1, fun H2 s2 => k H2 (s1.trans s2)⟩
theorem xal_bake_1 (T : TX P K mg C_Sheet C_Layer C_Pointer C_BadSheet C_BadDay C_BadKey C_BadLayers D_Sheet_0 D_Sheet_1) : ∃ D0 : Addr, CalX P w K mg base 4 "bake" (spBake1X C_Layer C_BadLayers) [.ref D0, .bl false] := by
  obtain ⟨f, fd, D0, D, ⟨ds, v, b⟩, _, F⟩ := xal2_bake (P := P) (w := w) (base := base) T
  exact ⟨D0, f, fd, _, ds, F, D.mgf, D.kp, b, v⟩
theorem xal_bake_2 (T : TX P K mg C_Sheet C_Layer C_Pointer C_BadSheet C_BadDay C_BadKey C_BadLayers D_Sheet_0 D_Sheet_1) : CalX P w K mg base 4 "bake" (spBake2X C_Layer C_BadDay) [.bl false] := by
  obtain ⟨f, fd, D0, D, _, ⟨ds, v, b⟩, F⟩ := xal2_bake_pn (P := P) (w := w) (base := base) T
  exact ⟨f, fd, _, ds, F, D.mgf, D.kp, b, v⟩
theorem cal_bake_2 (T : TX P K mg C_Sheet C_Layer C_Pointer C_BadSheet C_BadDay C_BadKey C_BadLayers D_Sheet_0 D_Sheet_1) : Cal P w K mg base 4 "bake" (spBake K C_Layer) [.bl false] := by
  obtain ⟨f, fd, D0, D, _, ⟨ds, v, b⟩, _, F⟩ := cal2_bake (P := P) (w := w) (base := base) T
  exact ⟨f, fd, _, ds, F, D.mgf, D.kp, b, v⟩
theorem cal_bake_kw (T : TX P K mg C_Sheet C_Layer C_Pointer C_BadSheet C_BadDay C_BadKey C_BadLayers D_Sheet_0 D_Sheet_1) : CalN P w K mg base 4 "bake" (spBake K C_Layer) 2 ["is_bottom"] (fun vs zs => vs ++ zs) := by
  obtain ⟨f, fd, D0, D, _, _, ⟨g, b⟩, F⟩ := cal2_bake (P := P) (w := w) (base := base) T
  exact ⟨f, fd, _, g, F, D.mgf, D.kp, b⟩
theorem xal_layer_of (T : TX P K mg C_Sheet C_Layer C_Pointer C_BadSheet C_BadDay C_BadKey C_BadLayers D_Sheet_0 D_Sheet_1) : CalX P w K mg base 3 "layer_of" (spLayX C_BadDay C_BadSheet) [] := by
  obtain ⟨f0, fd, D, dn⟩ := T.d_layer_of
  have G_is_whole := cal_is_whole (P := P) (w := w) (base := base) T
  have X_check_sheet := xal_check_sheet (P := P) (w := w) (base := base) T
  refine calX0 D (D.fn.binds dn fun _ _ _ _ _ _ us hl => match us, hl with | [_, _], _ => rfl) .nil sc_layer_of (by walk_at "len") (fun cdv A outer s H vs Q E hr h => ?_)
  obtain ⟨d, x, rfl, h⟩ := h
  rcases h with ⟨hd, k⟩ | ⟨D, ls, rfl, hd, eD, k⟩
  · refine ⟨_, (pss_cons (ps_if (PW.pt (pw_or (pt_not (pt_val (pe_c G_is_whole hr (by decide) rfl (pa_cons (pv 0) pa_nil)))) (pw_or1 (pt_cmpR op_lt (pv 0) pe_int (nomark _))))) (pss_one (ps_raiseO rfl (takes_of rfl rfl rfl rfl) T.x_BadDay T.mg_BadDay rfl)) pss_nil)
      (pss_cons ps_never
      (pss_one ps_never))), ?_⟩
    walk_at "rd"
    refine ⟨.int d, rfl, rfl, ?_⟩
    refine ⟨true, rfl, ?_⟩
    walk_at "rd"
    refine rd_iteT (by omega) ?_
    walk_at "rd"
    exact rd_raise k
  · refine ⟨_, (pss_cons (ps_if (PW.pt (pw_or (pt_not (pt_val (pe_c G_is_whole hr (by decide) rfl (pa_cons (pv 0) pa_nil)))) (pw_or1 (pt_cmpR op_lt (pv 0) pe_int (nomark _))))) (pss_one (ps_raiseO rfl (takes_of rfl rfl rfl rfl) T.x_BadDay T.mg_BadDay rfl)) pss_nil)
      (pss_cons (ps_expr (pe_cX X_check_sheet hr (by decide) rfl (fun σ => passAt (takes_of rfl rfl rfl rfl) σ) (pa_cons (pv 1) pa_nil)))
      (pss_one ps_never))), ?_⟩
    walk_at "rd"
    refine ⟨.int d, rfl, rfl, ?_⟩
    refine ⟨true, rfl, ?_⟩
    walk_at "rd"
    refine rd_iteF (by omega) ?_
    walk_at "rd"
    refine rd_callSd ?_
    walk_at "rd"
    exact rd_callSd2 ⟨D, ls, rfl, eD, k⟩
theorem xet_Layer_versions (T : TX P K mg C_Sheet C_Layer C_Pointer C_BadSheet C_BadDay C_BadKey C_BadLayers D_Sheet_0 D_Sheet_1) : MetX P w K mg base 4 C_Layer "versions" (spVersX C_BadKey) [] := by
  obtain ⟨f0, fd, D, dn, me, _⟩ := T.m_Layer_versions
  have X_check_key := xal_check_key (P := P) (w := w) (base := base) T
  refine metX0 T.cl_Layer me D (D.binds dn fun _ _ _ _ _ _ us hl => match us, hl with | [_, _], _ => rfl) sc_Layer_versions (by walk_at "len") (fun cdv A outer s H vs Q E hr h => ?_)
  obtain ⟨x, v, rfl, hv, kb, k⟩ := h
  refine ⟨_, (pss_cons (ps_expr (pe_cX X_check_key hr (by decide) rfl (fun σ => passAt (takes_of rfl rfl rfl rfl) σ) (pa_cons (pv 1) pa_nil)))
      (pss_cons ps_never
      (pss_one ps_never))), ?_⟩
  walk_at "rd"
  refine rd_callSd ?_
  walk_at "rd"
  exact rd_callSd2 ⟨v, rfl, hv, fun z => (by rw [kb] at z; cases z), fun _ => k⟩
end
end Sl

set_option Elab.async false
set_option linter.all false
set_option maxRecDepth 100000
set_option maxHeartbeats 8000000
set_option exponentiation.threshold 9000
namespace Sl
open PySem L2 C8 StX Silt LiI RT
local macro_rules | `(tactic| walk_at "side") => `(tactic| first
  | exact cdivw (by omega) (by omega)
  | exact cmulw (by omega) (by omega) (by omega) (by omega)
  | exact Or.inr ⟨by omega, by omega⟩
  | exact Or.inl ⟨by omega, by omega⟩
  | omega
  | exact ⟨by omega, by omega, by decide⟩
  | decide)
local macro_rules | `(tactic| walk_at "rd1") => `(tactic| first
  | with_reducible refine rd_seq ?_
  | with_reducible refine rd_asg ?_
  | with_reducible refine rd_drop ?_
  | with_reducible refine rd_ret ?_
  | with_reducible refine rd_retN ?_
  | with_reducible refine rd_ifS ?_
  | ((with_reducible refine rd_var0 ?_); refine ⟨_, rfl, ?_⟩)
  | with_reducible refine rd_c ?_
  | with_reducible refine rd_op ?_
  | with_reducible refine rd_un ?_
  | with_reducible refine rd_I0 ?_
  | with_reducible refine rd_U ?_
  | ((with_reducible refine rd_I ?c ?_); (case c => walk_at "side"))
  | with_reducible refine rd_ipI ?_
  | with_reducible refine rd_eqI ?_
  | with_reducible refine rd_neI ?_
  | with_reducible refine rd_test ?_
  | with_reducible refine rd_tB ?_
  | with_reducible refine rd_bl ?_
  | with_reducible refine rd_not ?_
  | with_reducible refine rd_and ?_
  | with_reducible refine rd_or ?_
  | with_reducible refine rd_andV ?_
  | with_reducible refine rd_orV ?_
  | with_reducible refine rd_notV ?_
  | with_reducible refine rd_ifE ?_
  | with_reducible refine rd_chain ?_
  | with_reducible refine rd_chain3 ?_
  | with_reducible refine rd_nil ?_
  | with_reducible refine rd_cons ?_
  | with_reducible refine rd_call ?_
  | with_reducible refine rd_CB ?_
  | with_reducible refine rd_par ?_
  | with_reducible refine rd_par2 ?_
  | with_reducible refine rd_par3 ?_
  | with_reducible refine rd_par4 ?_
  | ((with_reducible refine rd_aug0 ?_); refine ⟨_, rfl, ?_⟩)
  | with_reducible refine rd_gname ?_
  | with_reducible refine rd_gcons ?_
  | with_reducible refine rd_gnil ?_
  | with_reducible refine rd_max ?_
  | with_reducible refine rd_min ?_
  | with_reducible refine rd_int1 ?_
  | with_reducible refine rd_abs ?_
  | with_reducible refine rd_lst ?_
  | with_reducible refine rd_tup ?_
  | with_reducible refine rd_bm ?_
  | with_reducible refine rd_fld0 ?_
  | with_reducible refine rd_sl0 ?_
  | with_reducible refine rd_noP ?_
  | with_reducible refine rd_part ?_
  | with_reducible refine rd_part2 ?_
  | with_reducible refine rd_meth0 ?_
  | with_reducible refine rd_star ?_
  | with_reducible refine rd_for ?_
  | with_reducible refine rd_rng1 ?_
  | with_reducible refine rd_rng2 ?_
  | with_reducible refine rd_rng3 ?_
  | with_reducible refine rd_iList ?_
  | with_reducible refine rd_iTup ?_
  | with_reducible refine rd_iEnum ?_
  | with_reducible refine rd_lc ?_
  | with_reducible refine rd_yes ?_
  | with_reducible refine rd_augS ?_
  | with_reducible refine rd_drawNew ?_
  | with_reducible refine rd_make0 ?_
  | with_reducible refine rd_next ?_
  | with_reducible refine rd_break ?_
  | with_reducible refine rd_cont ?_
  | with_reducible refine rd_iteTT ?_
  | with_reducible refine rd_iteFF ?_
  | with_reducible refine rd_iteNTT ?_
  | with_reducible refine rd_iteNFF ?_
  | with_reducible refine rd_con0 ?_
  | with_reducible refine rd_truO0 ?_
  | with_reducible refine rd_gfld0 ?_
  | with_reducible refine rd_dc ?_
  | with_reducible refine rd_iKeys ?_
  | with_reducible refine rd_dget0 ?_
  | with_reducible refine rd_dput0 ?_
  | with_reducible refine rd_dnot0 ?_
  | with_reducible refine rd_iEnumT ?_
  | with_reducible refine rd_raP0 ?_
  | with_reducible refine rd_xf0 ?_
  | with_reducible refine rd_cKw ?_
  | with_reducible refine rd_iStr ?_
  | with_reducible refine rd_gSub ?_
  | with_reducible refine rd_asgG ?_)
local macro_rules | `(tactic| walk_at "rd") => `(tactic| repeat walk_at "rd1")
local macro_rules | `(tactic| walk_at "len") => `(tactic| first
  | (intro vs H Q E h; obtain ⟨h2, _⟩ := h; rw [h2]; rfl)
  | (intro vs H Q E h; obtain ⟨_, h2, _⟩ := h; rw [h2]; rfl)
  | (intro vs H Q E h; obtain ⟨_, _, h2, _⟩ := h; rw [h2]; rfl)
  | (intro vs H Q E h; obtain ⟨_, _, _, h2, _⟩ := h; rw [h2]; rfl)
  | (intro vs H Q E h; obtain ⟨_, _, _, _, h2, _⟩ := h; rw [h2]; rfl)
  | (intro vs H Q E h; obtain ⟨_, _, _, _, _, h2, _⟩ := h; rw [h2]; rfl)
  | (intro vs H Q E h; obtain ⟨_, _, _, _, _, _, h2, _⟩ := h; rw [h2]; rfl)
  | (intro vs H Q E h; obtain ⟨_, _, _, _, _, _, _, h2, _⟩ := h; rw [h2]; rfl)
  | (intro vs H Q E h; obtain ⟨_, _, _, _, _, _, _, _, h2, _⟩ := h; rw [h2]; rfl)
  | (intro vs H Q E h; obtain ⟨_, _, _, _, _, _, _, _, _, h2, _⟩ := h; rw [h2]; rfl)
  | (intro vs H Q E h; obtain ⟨_, _, _, _, _, _, _, _, _, _, h2, _⟩ := h; rw [h2]; rfl)
  | (intro vs H Q E h; obtain ⟨_, _, _, _, _, _, _, _, _, _, _, h2, _⟩ := h; rw [h2]; rfl)
  | (intro vs H Q E h; obtain ⟨_, _, _, _, _, _, _, _, _, _, _, _, h2, _⟩ := h; rw [h2]; rfl))
section
variable {σ : L2.St} {H : Hp} {Q : VK} {K : PySem.W.Frag} {g : TG} {tb : TS} {nx bk ct : L2.St → Hp → Prop} {rt : VK}
theorem forR_zipT {a b : Addr} {xs ys : List V} (n : Nat) (hn : n = min xs.length ys.length) (Pv : Nat → L2.St → Hp → Prop) (hl : ∀ i σ H, Pv i σ H → SqT K H a xs ∧ SqT K H b ys) (h0 : Pv 0 σ H)
    (hs : ∀ (i : Nat) x y σ H t H', i < n → xs[i]? = some x → ys[i]? = some y → Pv i σ H → H t = none → Same H H' → H' t = some (.tup [x, y]) → g (.ref t) σ H' fun σ2 H2 => tb ⟨Pv (i + 1), rt, nx, Pv (i + 1)⟩ σ2 H2) (hd : ∀ σ H, Pv n σ H → nx σ H) :
    ForR (RZ.ItzT K a b) g tb ⟨nx, rt, bk, ct⟩ σ H :=
  forR_gen _ n Pv h0 (fun i σ H h p => ⟨xs, ys, xs[i]'(by omega), ys[i]'(by omega), (hl i σ H p).1, (hl i σ H p).2, by simp, by simp⟩) (fun σ H p => ⟨xs, ys, (hl _ σ H p).1, (hl _ σ H p).2, by omega⟩)
    (fun i σ H x H' hi p ⟨t, x1, y1, e1, e2, e3, e4, e5⟩ => by subst e1; subst e3; exact hs i x1 y1 σ H t _ hi (e4 xs (hl i σ _ p).1) (e5 ys (hl i σ _ p).2) p e2 (Same.new (Same.refl H) e2) upd_same) hd
def zpAR (K : PySem.W.Frag) (R : It → Hp → Prop) (vs : List V) (H1 : Hp) : Prop := ∃ a b xs ys, vs = [.ref a, .ref b] ∧ ((SqL K H1 a xs ∧ SqL K H1 b ys ∧ R (Itz K a b) H1) ∨ (SqT K H1 a xs ∧ SqT K H1 b ys ∧ R (RZ.ItzT K a b) H1))
theorem rd_iZipA {ta : TA} {R : It → Hp → Prop} (h : ta σ H fun vs H1 => zpAR K R vs H1) : RZ.iZipA K ta σ H R := h
theorem rd_zpAT {a b : Addr} {xs ys : List V} {R : It → Hp → Prop} (e1 : SqT K H a xs) (e2 : SqT K H b ys) (h : R (RZ.ItzT K a b) H) : zpAR K R [.ref a, .ref b] H := ⟨a, b, xs, ys, rfl, .inr ⟨e1, e2, h⟩⟩
end
local macro_rules | `(tactic| walk_at "rd1") => `(tactic| first
  | with_reducible refine rd_iZipA ?_
  | with_reducible refine rd_iEnumS ?_)
theorem cut_init (xs : List V) : cutV xs none (some (-1)) = xs.take (xs.length - 1) := by
  unfold cutV
  have e1 : HT.sIx xs.length 0 none = 0 := rfl
  have e2 : HT.sIx xs.length xs.length (some (-1)) = xs.length - 1 := by
    show (if (-1 : Int) < 0 then ((-1 : Int) + xs.length).toNat else min (-1 : Int).toNat xs.length) = _
    rw [if_pos (by decide)]
    omega
  rw [e1, e2, List.drop_zero, Nat.sub_zero]
/-! what is told by the law -/
abbrev Tl := List (Int × V) × List Int × List Iv
def TolP (H : Hp) (x : V) (T : Tl) : Prop := ∃ t D M R xs, x = .ref t ∧ H t = some (.tup [.ref D, .ref M, .ref R]) ∧ H D = some (.dK (dV T.1)) ∧ (keysL T.1).Nodup ∧ H M = some (.lst (T.2.1.map V.int)) ∧ H R = some (.lst xs) ∧ IvP H xs T.2.2 ∧ T.2.2.length ≤ 1000 ∧ ∀ q ∈ T.1, valB q.2 = true
theorem TolP.mono {H H' : Hp} {x : V} {T : Tl} (s : Same H H') (h : TolP H x T) : TolP H' x T := by
  obtain ⟨t, D, M, R, xs, e, h1, h2, h3, h4, h5, h6, h7⟩ := h
  exact ⟨t, D, M, R, xs, e, s _ _ h1, s _ _ h2, h3, s _ _ h4, s _ _ h5, h6.mono s, h7⟩
def tellT (T : Tl) (k : Int) : List V := tellL T.1 T.2.1 T.2.2 k
def tellV (T : Tl) (d k : Int) : Vs := (tellT T k).map fun v => (d, txO v)
theorem valO_mem {ls : List (Int × V)} {k : Int} (nd : (keysL ls).Nodup) (h : k ∈ keysL ls) : (k, valO ls k) ∈ ls := by
  obtain ⟨q, hq, rfl⟩ := List.mem_map.mp h
  have := dV_val nd (k := q.1) (v := q.2) hq
  unfold valO
  rw [this]
  exact hq
theorem tell_ok {T : Tl} (nd : (keysL T.1).Nodup) (ok : ∀ q ∈ T.1, valB q.2 = true) {k : Int} {v : V} (h : v ∈ tellT T k) : oV (txO v) = v := by
  unfold tellT tellL at h
  split at h
  · rename_i c
    rw [List.mem_singleton.mp h]
    exact oV_txO (ok _ (valO_mem nd c))
  · split at h
    · rw [List.mem_singleton.mp h]
      rfl
    · cases h
theorem tell_len (T : Tl) (k : Int) : (tellT T k).length ≤ 1 := by
  unfold tellT tellL
  split
  · exact Nat.le_refl _
  · split
    · exact Nat.le_refl _
    · exact Nat.zero_le _
/-- the versions of a key, the newest first; the oldest day is c -/
def vers (c k : Int) : List Tl → Vs
  | [] => []
  | T :: Ts => vers (c + 1) k Ts ++ tellV T c k
theorem vers_snoc (k : Int) (T : Tl) : ∀ (Ts : List Tl) (c : Int), vers c k (Ts ++ [T]) = tellV T (c + (Ts.length : Nat)) k ++ vers c k Ts
  | [], c => by
    show [] ++ tellV T c k = tellV T (c + ((0 : Nat) : Int)) k ++ []
    rw [show c + ((0 : Nat) : Int) = c by omega, List.nil_append, List.append_nil]
  | S :: Ts, c => by
    show vers (c + 1) k (Ts ++ [T]) ++ tellV S c k = _
    rw [vers_snoc k T Ts (c + 1), List.append_assoc]
    show tellV T (c + 1 + (Ts.length : Nat)) k ++ (vers (c + 1) k Ts ++ tellV S c k) = tellV T (c + ((Ts.length + 1 : Nat) : Int)) k ++ (vers (c + 1) k Ts ++ tellV S c k)
    rw [show c + 1 + (Ts.length : Int) = c + ((Ts.length + 1 : Nat) : Int) by omega]
theorem vers_len (k : Int) : ∀ (Ts : List Tl) (c : Int), (vers c k Ts).length ≤ Ts.length
  | [], _ => Nat.le_refl _
  | T :: Ts, c => by
    show (vers (c + 1) k Ts ++ tellV T c k).length ≤ _
    have := vers_len k Ts (c + 1)
    have l1 := tell_len T k
    rw [List.length_append]
    show _ + ((tellT T k).map _).length ≤ _
    rw [List.length_map, List.length_cons]
    omega
def spVersL : Sp := fun vs H Q _ => ∃ (a : Addr) (xs : List V) (Ts : List Tl) (k0 : Int), vs = [.ref a, .int k0] ∧ H a = some (.lst xs) ∧ ItP TolP H xs Ts ∧ Ts.length ≤ 100 ∧ ∀ H' p zs, Same H H' → H p = none → H' p = some (.lst zs) → ItP VerP H' zs (vers 1 k0 Ts) → Q (.ref p) H'
def spKeptL : Sp := fun vs H Q _ => ∃ (a q : Addr) (b : Bool) (xs : List V) (t : Vs) (pins : List Int), vs = [.ref a, .ref q, .bl b] ∧ H a = some (.lst xs) ∧ ItP VerP H xs t ∧ t.length ≤ 1000 ∧ H q = some (.lst (pins.map V.int)) ∧ pins.length ≤ 1000 ∧ ∀ H' w, Same H H' → TldP H' w (keptF pins b t) → Q w H'
def spTidyL : Sp := fun vs H Q _ => ∃ (G : Addr) (ys : List V) (rs : List Rw), vs = [.ref G] ∧ H G = some (.tup ys) ∧ ItP RowP H ys rs ∧ Tidy rs ∧ rs.length ≤ 1000 ∧ (∀ r ∈ rs, r.2.2.length ≤ 1000) ∧ ∀ H', Same H H' → Q (.bl true) H'
theorem any_none (t : Vs) : (t.map fun v => !v.2.isNone).any id = !goneV t := by
  unfold goneV
  induction t with
  | nil => rfl
  | cons v t ih =>
    rw [List.map_cons, List.any_cons, List.all_cons, ih]
    cases v.2.isNone <;> rfl
section
variable {P : Program} {w : World} {K : PySem.W.Frag} {mg : Str → Option Value} {base : Heap} {C_Sheet C_Layer C_Pointer C_BadSheet C_BadDay C_BadKey C_BadLayers D_Sheet_0 D_Sheet_1 : Addr}
theorem cal__law_versions (T : TX P K mg C_Sheet C_Layer C_Pointer C_BadSheet C_BadDay C_BadKey C_BadLayers D_Sheet_0 D_Sheet_1) : Cal P w K mg base 2 "_law_versions" spVersL [] := by
  obtain ⟨f0, fd, D, dn⟩ := T.d__law_versions
  have G__law_tells := cal__law_tells (P := P) (w := w) (base := base) T
  refine cal0 D (D.fn.binds dn fun _ _ _ _ _ _ us hl => match us, hl with | [_, _], _ => rfl) .nil sc__law_versions (by walk_at "len") (fun cdv A outer s H vs Q E hr h => ?_)
  obtain ⟨a, xs, Ts, k0, rfl, ea, ix, lT, k⟩ := h
  have lx := ix.1
  refine ⟨_, (pss_cons (ps_s 2 sc__law_versions.nd (pe_lst pa_nil))
      (pss_cons (ps_for PassesOwn.never rfl (pi_enumS (by rfl) T.b_enumerate (pa_cons (pv 0) (pa_cons pe_int pa_nil))) (pg_tup rfl (pgs_cons (pg_n 3 sc__law_versions.nd) (pgs_cons (pg_n 4 sc__law_versions.nd) pgs_nil))) (pss_one (ps_s 2 sc__law_versions.nd (pe_op op_cat (pe_lc (own := [("_law_value", 5)]) (g := gName 5) (tt := tYes) rfl sc__law_versions.nd (pi_list (pe_c G__law_tells hr (by decide) rfl (pa_cons (pv 4) (pa_cons (pv 1) pa_nil)))) (blkOk_by (own := [("_law_value", 5)]) (N := N__law_versions) (sc := fnScope s__law_versions) (by decide +kernel)) (fun _ _ _ _ _ => (pg_n 5 sc__law_versions.nd)) (fun _ _ _ _ _ => pts_nil) (fun _ _ _ _ _ => (pe_tup (pa_cons (pv 3) (pa_cons (pv 5) pa_nil))))) (pv 2)))))
      (pss_one (ps_ret (pv 2))))), ?_⟩
  walk_at "rd"
  refine rd_newL (by decide) fun p0 H1 hp0 s1 ep0 _ => ?_
  walk_at "rd"
  refine rd_enRS (SqL.of (s1 _ _ ea)) (by decide) ?_
  refine forR_enumS (xs := xs) (fun i σ H' => ∃ (p : Addr) (zs : List V) (v3 v4 v5 : Option V), Same H H' ∧ H p = none ∧ H' p = some (.lst zs) ∧ ItP VerP H' zs (vers 1 k0 (Ts.take i)) ∧ σ = [some (.ref a), some (.int k0), some (.ref p), v3, v4, v5]) (fun i σ H' ⟨_, _, _, _, _, s, _⟩ => SqL.of (s _ _ ea)) ⟨p0, [], _, _, _, s1, hp0, ep0, .nil, rfl⟩ ?_ ?_
  · rintro i x σ H2 tp H3 hx ⟨p, zs, v3, v4, v5, s2, hp, ep, iz, rfl⟩ htp s23 etp _
    have s3 := s2.trans s23
    obtain ⟨T, hT, t, D, M, R, rs, rfl, h1, h2, h3, h4, h5, h6, h7, h8⟩ := (ix.imp (H' := H3) fun _ _ h => TolP.mono s3 h).getV hx
    have hi := (List.getElem?_eq_some_iff.mp hx).1
    have lz := iz.1
    have lv := vers_len k0 (Ts.take i) 1
    rw [List.length_take] at lv
    refine rd_gtup etp rfl ?_
    walk_at "rd"
    refine ⟨t, D, M, R, k0, T.1, T.2.1, rs, T.2.2, rfl, h1, h2, h3, h4, h5, h6, h7, fun H4 q s4 eq => ?_⟩
    have tl := tell_len T k0
    refine rd_lsR (SqL.of eq) ?_
    refine lcR_lst (xs := tellT T k0) (fun W j H' => Same H4 H' ∧ ∃ ws, H' W = some (.lst ws) ∧ ItP VerP H' ws (((tellT T k0).take j).map fun v => (1 + (i : Int), txO v))) (fun W j H' _ ⟨s, _⟩ => SqL.of (s _ _ eq)) (fun W H' _ s e _ => ⟨s, [], e, .nil⟩) ?_ ?_
    · rintro W j v H5 hW hv ⟨s5, ws, eW, iw⟩
      have lw := iw.1
      rw [List.length_map, List.length_take] at lw
      walk_at "rd"
      refine ⟨rfl, ?_⟩
      walk_at "rd"
      refine rd_newT (by simp) fun tn H6 _ s6 etn _ => ?_
      have eW6 := s6 _ _ eW
      refine rd_lcE eW6 (by omega) fun H7 eH7 eW7 => ?_
      have kpt : TupS H6 H7 := by rw [eH7]; exact TupS.updL eW6
      refine ⟨by rw [eH7]; exact Same.mut (s5.trans s6) hW, ws ++ [.ref tn], eW7, ?_⟩
      rw [List.take_add_one, hv, List.map_append]
      refine (versKeep ((TupS.of s6).trans kpt) iw).snoc ⟨tn, rfl, ?_⟩
      show H7 tn = some (.tup [.int (1 + (i : Int)), oV (txO v)])
      rw [tell_ok h3 h8 (List.mem_of_getElem? hv)]
      exact kpt _ _ etn
    · rintro W H5 hW ⟨s5, ws, eW, iw⟩
      rw [List.take_length] at iw
      have lw := iw.1
      rw [List.length_map] at lw
      walk_at "rd"
      have ep5 := (s23.trans (s4.trans s5)) _ _ ep
      refine rd_cat eW ep5 (by omega) fun r H6 hr s6 er _ => ?_
      walk_at "rd"
      have s26 := s23.trans (s4.trans (s5.trans s6))
      refine ⟨r, ws ++ zs, _, _, _, s2.trans s26, none_back (s3.trans (s4.trans s5)) hr, er, ?_, rfl⟩
      rw [List.take_add_one, hT]
      show ItP VerP H6 (ws ++ zs) (vers 1 k0 (Ts.take i ++ [T]))
      rw [vers_snoc]
      refine ItP.append ?_ (versKeep (.of s26) iz)
      have e : (1 : Int) + ((Ts.take i).length : Nat) = 1 + (i : Int) := by rw [List.length_take]; omega
      rw [e]
      exact versKeep (.of s6) iw
  · rintro σ H2 ⟨p, zs, v3, v4, v5, s2, hp, ep, iz, rfl⟩
    rw [lx, List.take_length] at iz
    walk_at "rd"
    exact k H2 p zs s2 hp ep iz
theorem cal__law_kept (T : TX P K mg C_Sheet C_Layer C_Pointer C_BadSheet C_BadDay C_BadKey C_BadLayers D_Sheet_0 D_Sheet_1) : Cal P w K mg base 1 "_law_kept" spKeptL [] := by
  obtain ⟨f0, fd, D, dn⟩ := T.d__law_kept
  refine cal0 D (D.fn.binds dn fun _ _ _ _ _ _ us hl => match us, hl with | [_, _, _], _ => rfl) .nil sc__law_kept (by walk_at "len") (fun cdv A outer s H vs Q E hr h => ?_)
  obtain ⟨ta, a, b, tx, t, pins, rfl, eta, itx, lt, ep, lp, k⟩ := h
  have ltx := itx.1
  refine ⟨_, (pss_cons (ps_s 3 sc__law_kept.nd (pe_lst pa_nil))
      (pss_cut (ps_for PassesOwn.never rfl (pi_enum (by rfl) T.b_enumerate (pa_cons (pv 0) pa_nil)) (pg_tup rfl (pgs_cons (pg_n 4 sc__law_kept.nd) (pgs_cons (pg_tup rfl (pgs_cons (pg_n 5 sc__law_kept.nd) (pgs_cons (pg_n 6 sc__law_kept.nd) pgs_nil))) pgs_nil))) (pss_one (ps_if (PW.pt (pw_or (pt_cmpR op_eq (pv 4) pe_int (nomark _)) (pw_or1 (pt_val (pe_callB (cr_any rfl) (by rfl) T.b_any (by decide +kernel) (pa_cons (pe_lc (own := [("_law_pin", 7)]) (g := gName 7) (tt := tYes) rfl sc__law_kept.nd (pi_list (pv 1)) (blkOk_by (own := [("_law_pin", 7)]) (N := N__law_kept) (sc := fnScope s__law_kept) (by decide +kernel)) (fun _ _ _ _ _ => (pg_n 7 sc__law_kept.nd)) (fun _ _ _ _ _ => pts_nil) (fun _ _ _ _ _ => (pe_chain op_le op_lt (pv 5) (pv 7) (pe_ix (ixK rIxT K ix_tup) (pe_ix (ixK rIxL K ix_list) (pv 0) (pe_op op_sub (pv 4) pe_int) (fun _ _ => rfl)) pe_int (fun _ _ => rfl))))) pa_nil)))))) (pss_one (ps_expr (pe_bm PySem.F.plainAttrs_list PySem.F.slot_list_append PySem.F.type_list_append mt_append (pv 3) (pa_cons (pe_tup (pa_cons (pv 5) (pa_cons (pv 6) pa_nil))) pa_nil)))) pss_nil)))
      (pss_cons (ps_while PassesOwn.never (PW.pt (pw_and (pt_val (pv 2)) (pw_and (pt_cmpR (op_neD hr.units) (pv 3) (pe_lst pa_nil) (nomark _)) (pw_and1 (pt_cmpR op_isNn (pe_ix ix_tup (pe_ix ix_list (pv 3) (pe_un un_neg pe_int) (fun _ _ => rfl)) pe_int (fun _ _ => rfl)) pe_non (nomark _)))))) (pss_one (ps_s 3 sc__law_kept.nd (pe_slice sl_list (pv 3) po_none (po_some (pe_un un_neg pe_int))))))
      (pss_one (ps_ret (pe_callTy cr_tupOf (by rfl) T.b_tuple (by decide +kernel) (pa_cons (pv 3) pa_nil))))))), ?_⟩
  walk_at "rd"
  refine rd_newL (by decide) fun F H1 hF s1 eF _ => ?_
  walk_at "rd"
  refine ⟨fun σ H' => ∃ (zs : List V) (v4 v5 v6 : Option V), Same H H' ∧ H' F = some (.lst zs) ∧ ItP VerP H' zs (kp pins none t) ∧ σ = [some (.ref ta), some (.ref a), some (.bl b), some (.ref F), v4, v5, v6, none], ?_, ?_⟩
  · walk_at "rd"
    refine rd_enR (SqL.of (s1 _ _ eta)) ?_
    refine forR_enum (xs := tx) (fun i σ H' => ∃ (zs : List V) (v4 v5 v6 : Option V), Same H H' ∧ H' F = some (.lst zs) ∧ ItP VerP H' zs (kp pins none (t.take i)) ∧ σ = [some (.ref ta), some (.ref a), some (.bl b), some (.ref F), v4, v5, v6, none]) (fun i σ H' ⟨_, _, _, _, s, _⟩ => SqL.of (s _ _ eta)) ⟨[], _, _, _, s1, eF, .nil, rfl⟩ ?_ ?_
    · rintro i x σ H2 tp H3 hx ⟨zs, v4, v5, v6, s2, eF2, iz, rfl⟩ htp s23 etp _
      obtain ⟨v, hv, va, rfl, eva⟩ := (versKeep (.of (s2.trans s23)) itx).getV hx
      have lz := iz.1
      have lk : (kp pins none (t.take i)).length ≤ 1000 := Nat.le_trans kp_sub.length_le (by rw [List.length_take]; omega)
      have s3 := s2.trans s23
      have eF3 := s23 _ _ eF2
      have iz3 := versKeep (.of s23) iz
      have step : kp pins none (t.take (i + 1)) = kp pins none (t.take i) ++ kp pins (upto none (t.take i)) [v] := by
        rw [List.take_add_one, hv]
        exact kp_append
      refine rd_gtup etp rfl ?_
      walk_at "rd"
      refine rd_gtup eva rfl ?_
      walk_at "rd"
      have yes : ∀ H4, Same H3 H4 → needP pins (upto none (t.take i)) v.1 = true → ∀ H5 tn, Same H4 H5 → H5 tn = some (.tup [.int v.1, oV v.2]) → ∀ H6, H6 = upd H5 F (.lst (zs ++ [.ref tn])) → H6 F = some (.lst (zs ++ [.ref tn])) → ∃ (zs : List V) (v4 v5 v6 : Option V), Same H H6 ∧ H6 F = some (.lst zs) ∧ ItP VerP H6 zs (kp pins none (t.take (i + 1))) ∧ [some (.ref ta), some (.ref a), some (.bl b), some (.ref F), some (.int i), some (.int v.1), some (oV v.2), none] = [some (.ref ta), some (.ref a), some (.bl b), some (.ref F), v4, v5, v6, none] := by
        intro H4 s4 hn H5 tn s5 etn H6 eH6 eF6
        have e : kp pins (upto none (t.take i)) [v] = [v] := by
          show (if needP pins (upto none (t.take i)) v.1 = true then _ else _) = _
          rw [if_pos hn]
          rfl
        rw [step, e]
        have eF5 := (s4.trans s5) _ _ eF3
        have kpt : TupS H5 H6 := by rw [eH6]; exact TupS.updL eF5
        exact ⟨_, _, _, _, by rw [eH6]; exact Same.mut (s3.trans (s4.trans s5)) hF, eF6, (versKeep ((TupS.of (s4.trans s5)).trans kpt) iz3).snoc ⟨tn, rfl, kpt _ _ etn⟩, rfl⟩
      have no : ∀ H4, Same H3 H4 → needP pins (upto none (t.take i)) v.1 = false → ∃ (zs : List V) (v4 v5 v6 : Option V), Same H H4 ∧ H4 F = some (.lst zs) ∧ ItP VerP H4 zs (kp pins none (t.take (i + 1))) ∧ [some (.ref ta), some (.ref a), some (.bl b), some (.ref F), some (.int i), some (.int v.1), some (oV v.2), none] = [some (.ref ta), some (.ref a), some (.bl b), some (.ref F), v4, v5, v6, none] := by
        intro H4 s4 hn
        have e : kp pins (upto none (t.take i)) [v] = [] := by
          show (if needP pins (upto none (t.take i)) v.1 = true then _ else _) = _
          rw [if_neg (by rw [hn]; decide)]
          rfl
        rw [step, e, List.append_nil]
        exact ⟨_, _, _, _, s3.trans s4, s4 _ _ eF3, versKeep (.of s4) iz3, rfl⟩
      cases i with
      | zero =>
        refine rd_iteT (by rfl) ?_
        walk_at "rd"
        refine rd_tyL eF3 ?_
        walk_at "rd"
        refine rd_newT (by simp) fun tn H5 _ s5 etn _ => ?_
        walk_at "rd"
        refine rd_app (s5 _ _ eF3) (by omega) fun H6 eH6 eF6 => ?_
        exact yes H3 (Same.refl H3) rfl H5 tn s5 etn H6 eH6 eF6
      | succ i =>
        refine rd_iteF (by omega) ?_
        walk_at "rd"
        obtain ⟨u, hu⟩ : ∃ u, t[i]? = some u := ⟨_, List.getElem?_eq_getElem (by have := (List.getElem?_eq_some_iff.mp hv).1; omega)⟩
        obtain ⟨_, hux, ua, rfl, eua⟩ := (versKeep (.of s3) itx).get hu
        have en : needP pins (upto none (t.take (i + 1))) v.1 = ndP pins v.1 u.1 := by rw [upto_take hu]; rfl
        refine rd_lsR (SqL.of (s3 _ _ ep)) ?_
        refine lcR_lst (xs := pins.map V.int) (fun W j H' => Same H3 H' ∧ H' W = some (.lst (((pins.take j).map fun q => decide (v.1 ≤ q ∧ q < u.1)).map V.bl))) (fun W j H' _ ⟨s, _⟩ => SqL.of ((s3.trans s) _ _ ep)) (fun W H' _ s e _ => ⟨s, e⟩) ?_ ?_
        · rintro W j y H4 hW hy ⟨s4, eW⟩
          obtain ⟨m, hm, rfl⟩ := ints_at hy
          have hj := (List.getElem?_eq_some_iff.mp hm).1
          have fin : ∀ b, b = (decide (v.1 ≤ m ∧ m < u.1)) → LcE W (fun H' => Same H3 H' ∧ H' W = some (.lst (((pins.take (j + 1)).map fun q => decide (v.1 ≤ q ∧ q < u.1)).map V.bl))) (.bl b) H4 := by
            rintro b rfl
            refine rd_lcE eW (by rw [List.length_map, List.length_map, List.length_take]; omega) fun H5 eH5 eW5 => ?_
            refine ⟨by rw [eH5]; exact Same.mut s4 hW, ?_⟩
            rw [eW5, List.take_add_one, hm, List.map_append, List.map_append]
            rfl
          walk_at "rd"
          refine ⟨rfl, ?_⟩
          walk_at "rd"
          refine rd_ite (fun c => ?_) (fun c => ?_)
          · walk_at "rd"
            refine rd_ixSq (SqL.of ((s3.trans s4) _ _ eta)) (v := .ref ua) (by rw [show ((i + 1 : Nat) : Int) - 1 = (i : Nat) by omega]; exact atI_nat' hux) ?_
            walk_at "rd"
            refine rd_ixT (s4 _ _ eua) (atI_nat' (i := 0) rfl) ?_
            walk_at "rd"
            exact fin _ (by by_cases z : m < u.1 <;> simp [c, z])
          · walk_at "rd"
            exact fin _ (by rw [decide_eq_false (fun z => c z.1)])
        · rintro W H4 hW ⟨s4, eW⟩
          rw [List.length_map, List.take_length] at eW
          walk_at "rd"
          refine any_bs eW ?_
          rw [List.any_map]
          have e2 : pins.any (id ∘ fun q => decide (v.1 ≤ q ∧ q < u.1)) = ndP pins v.1 u.1 := rfl
          rw [e2]
          refine ⟨_, rfl, ?_⟩
          cases hb : ndP pins v.1 u.1
          · refine rd_iteFF ?_
            walk_at "rd"
            exact no H4 s4 (by rw [en, hb])
          · refine rd_iteTT ?_
            walk_at "rd"
            refine rd_tyL (s4 _ _ eF3) ?_
            walk_at "rd"
            refine rd_newT (by simp) fun tn H5 _ s5 etn _ => ?_
            walk_at "rd"
            refine rd_app ((s4.trans s5) _ _ eF3) (by omega) fun H6 eH6 eF6 => ?_
            exact yes H4 s4 (by rw [en, hb]) H5 tn s5 etn H6 eH6 eF6
    · rintro σ H2 ⟨zs, v4, v5, v6, s2, eF2, iz, rfl⟩
      rw [ltx, List.take_length] at iz
      exact ⟨zs, _, _, _, s2, eF2, iz, rfl⟩
  clear s1 eF
  rintro σ H1 ⟨zs, v4, v5, v6, s1, eF, iz, rfl⟩
  have fin : ∀ (H2 : Hp) (F : Addr) (zs : List V) (f : Vs), Same H H2 → H2 F = some (.lst zs) → ItP VerP H2 zs f → f = keptF pins b t → rTupOf K [.ref F] H2 Q := by
    intro H2 F zs f s2 e2 i2 hf
    refine rd_tupOfL e2 fun p H3 hp s3 ep3 _ => ?_
    exact k H3 _ (s2.trans s3) ⟨p, zs, rfl, ep3, by rw [← hf]; exact versKeep (.of s3) i2⟩
  walk_at "rd"
  refine rd_while (fun m σ H' => ∃ (F : Addr) (zs : List V) (f : Vs), m = f.length ∧ Same H H' ∧ H' F = some (.lst zs) ∧ ItP VerP H' zs f ∧ popB b f = keptF pins b t ∧ σ = [some (.ref ta), some (.ref a), some (.bl b), some (.ref F), v4, v5, v6, none]) (kp pins none t).length ⟨F, zs, _, rfl, s1, eF, iz, rfl, rfl⟩ ?_
  rintro m σ H2 ⟨F2, zs2, f, rfl, s2, eF2, iz2, hp, rfl⟩
  walk_at "rd"
  cases b
  · refine rd_iteFF ?_
    walk_at "rd"
    exact fin H2 F2 zs2 f s2 eF2 iz2 hp
  · refine rd_iteTT ?_
    walk_at "rd"
    refine rd_newL (by simp) fun w H3 _ s3 ew _ => ?_
    refine rd_neD (d := .list (f.map verD)) (e := .list []) (.lst (s3 _ _ eF2) (itDt (fun _ _ => VerP.dt) (versKeep (.of s3) iz2))) (.lst ew .nil) ((shn_lst shn_ver f).sh (by decide)) (by rfl) ?_
    rw [eqv_nil]
    rcases List.eq_nil_or_concat f with z | ⟨g, u, z⟩
    · subst z
      refine ⟨_, rfl, rd_iteNF rfl ?_⟩
      walk_at "rd"
      exact fin H3 F2 zs2 [] (s2.trans s3) (s3 _ _ eF2) (versKeep (.of s3) iz2) hp
    · rw [List.concat_eq_append] at z
      subst z
      obtain ⟨zg, x, rfl, ig, ux, rfl, eux⟩ := iz2.last
      refine ⟨_, rfl, rd_iteNT (by simp) ?_⟩
      walk_at "rd"
      refine rd_ixL (s3 _ _ eF2) (atI_last _ _) ?_
      walk_at "rd"
      refine rd_ixT (s3 _ _ eux) (atI_nat' (i := 1) rfl) ?_
      walk_at "rd"
      refine rd_isN0 ?_
      rw [oV_non]
      refine ⟨_, rfl, ?_⟩
      have hp' : popN (g ++ [u]) = keptF pins true t := hp
      rw [popN_snoc] at hp'
      cases hn : u.2.isNone
      · refine rd_iteFF ?_
        walk_at "rd"
        rw [hn] at hp'
        exact fin H3 F2 _ (g ++ [u]) (s2.trans s3) (s3 _ _ eF2) (versKeep (.of s3) iz2) hp'
      · refine rd_iteTT ?_
        rw [hn] at hp'
        refine rd_whN ?_
        walk_at "rd"
        refine rd_slL (SqL.of (s3 _ _ eF2)) fun F4 H4 _ s4 e4 _ => ?_
        rw [cut_init, List.length_append] at e4
        have : (zg ++ [V.ref ux]).take (zg.length + [V.ref ux].length - 1) = zg := by simp
        rw [this] at e4
        exact ⟨g.length, by simp, F4, zg, g, rfl, s2.trans (s3.trans s4), e4, versKeep (.of (s3.trans s4)) ig, hp', rfl⟩
theorem cal__law_is_tidy (T : TX P K mg C_Sheet C_Layer C_Pointer C_BadSheet C_BadDay C_BadKey C_BadLayers D_Sheet_0 D_Sheet_1) : Cal P w K mg base 1 "_law_is_tidy" spTidyL [] := by
  obtain ⟨f0, fd, D, dn⟩ := T.d__law_is_tidy
  refine cal0 D (D.fn.binds dn fun _ _ _ _ _ _ us hl => match us, hl with | [_], _ => rfl) .nil sc__law_is_tidy (by walk_at "len") (fun cdv A outer s H vs Q E hr h => ?_)
  obtain ⟨G, ys, rs, rfl, eG, iy, tidy, lr, ll, k⟩ := h
  have ly := iy.1
  refine ⟨_, (pss_cut (ps_for PassesOwn.never rfl (pi_tup (pv 0)) (pg_tup rfl (pgs_cons (pg_n 1 sc__law_is_tidy.nd) (pgs_cons (pg_n 2 sc__law_is_tidy.nd) (pgs_cons (pg_n 3 sc__law_is_tidy.nd) pgs_nil)))) (pss_one (ps_if (PW.pt (pw_or (pt_cmpR op_gt (pv 1) (pv 2) (nomark _)) (pw_or (pt_cmpR (op_eqD hr.units) (pv 3) (pe_tup pa_nil) (nomark _)) (pw_or1 (PW.pt (pw_and (pt_val (pe_callB (cr_any rfl) (by rfl) T.b_any (by decide +kernel) (pa_cons (pe_lc (own := [("_law_day", 4), ("_law_value", 5)]) (g := gTup _ 2 (gCons (gName 4) (gCons (gName 5) gNil))) (tt := tYes) rfl sc__law_is_tidy.nd (pi_tup (pv 3)) (blkOk_by (own := [("_law_day", 4), ("_law_value", 5)]) (N := N__law_is_tidy) (sc := fnScope s__law_is_tidy) (by decide +kernel)) (fun _ _ _ _ _ => (pg_tup rfl (pgs_cons (pg_n 4 sc__law_is_tidy.nd) (pgs_cons (pg_n 5 sc__law_is_tidy.nd) pgs_nil)))) (fun _ _ _ _ _ => pts_nil) (fun _ _ _ _ _ => (pe_cmpR op_notNn (pv 5) pe_non (nomark _)))) pa_nil))) (pw_and1 (pt_cmpR op_ne (pv 1) (pv 2) (nomark _))))))))) (pss_one (ps_ret pe_bl)) pss_nil)))
      (pss_cons (ps_for PassesOwn.never rfl (RZ.pi_zipA rfl T.b_zip (pa_cons (pv 0) (pa_cons (pe_slice sl_tupA (pv 0) (po_some pe_int) po_none) pa_nil))) (pg_tup rfl (pgs_cons (pg_n 6 sc__law_is_tidy.nd) (pgs_cons (pg_n 7 sc__law_is_tidy.nd) pgs_nil))) (pss_cons (ps_if (pt_cmpR op_ge (pe_ix ix_tup (pv 6) pe_int (fun _ _ => rfl)) (pe_ix ix_tup (pv 7) pe_int (fun _ _ => rfl)) (nomark _)) (pss_one (ps_ret pe_bl)) pss_nil)
      (pss_one (ps_if (PW.pt (pw_and (pt_cmpR op_eq (pe_op op_add (pe_ix ix_tup (pv 6) pe_int (fun _ _ => rfl)) pe_int) (pe_ix ix_tup (pv 7) pe_int (fun _ _ => rfl)) (nomark _)) (pw_and (pt_cmpR (op_eqD hr.units) (pe_ix ix_tup (pv 6) pe_int (fun _ _ => rfl)) (pe_ix ix_tup (pv 7) pe_int (fun _ _ => rfl)) (nomark _)) (pw_and1 (pt_val (pe_callB (cr_all rfl) (by rfl) T.b_all (by decide +kernel) (pa_cons (pe_lc (own := [("_law_day", 4), ("_law_value", 5)]) (g := gTup _ 2 (gCons (gName 4) (gCons (gName 5) gNil))) (tt := tYes) rfl sc__law_is_tidy.nd (pi_tup (pe_ix ix_tup (pv 6) pe_int (fun _ _ => rfl))) (blkOk_by (own := [("_law_day", 4), ("_law_value", 5)]) (N := N__law_is_tidy) (sc := fnScope s__law_is_tidy) (by decide +kernel)) (fun _ _ _ _ _ => (pg_tup rfl (pgs_cons (pg_n 4 sc__law_is_tidy.nd) (pgs_cons (pg_n 5 sc__law_is_tidy.nd) pgs_nil)))) (fun _ _ _ _ _ => pts_nil) (fun _ _ _ _ _ => (pe_cmpR op_isNn (pv 5) pe_non (nomark _)))) pa_nil))))))) (pss_one (ps_ret pe_bl)) pss_nil))))
      (pss_one (ps_ret pe_bl)))), ?_⟩
  walk_at "rd"
  refine ⟨fun σ H' => ∃ v1 v2 v3 : Option V, Same H H' ∧ σ = [some (.ref G), v1, v2, v3, none, none, none, none], ?_, ?_⟩
  · walk_at "rd"
    refine rd_tpR (SqT.of eG) ?_
    refine forR_tup (xs := ys) (fun i σ H' => ∃ v1 v2 v3 : Option V, Same H H' ∧ σ = [some (.ref G), v1, v2, v3, none, none, none, none]) (fun i σ H' ⟨_, _, _, s, _⟩ => SqT.of (s _ _ eG)) ⟨_, _, _, Same.refl H, rfl⟩ ?_ ?_
    · rintro i x σ H1 hx ⟨v1, v2, v3, s1, rfl⟩
      obtain ⟨r, hr, ra, w, rfl, era, ta, txs, rfl, eta, itx⟩ := (rowsKeep (.of s1) iy).getV hx
      have hm := List.mem_of_getElem? hr
      obtain ⟨r1, r2, r3⟩ := tidy.1 r hm
      have lt := ll r hm
      have ltx := itx.1
      refine rd_gtup era rfl ?_
      walk_at "rd"
      refine rd_iteF (by omega) ?_
      walk_at "rd"
      refine rd_newT (by simp) fun u H2 _ s2 eu _ => ?_
      refine rd_eqD (d := tldD r.2.2) (e := tldD []) (TldP.dt ⟨ta, txs, rfl, s2 _ _ eta, versKeep (.of s2) itx⟩) (.tup eu .nil) (shaped_tld _) (shaped_tld _) ?_
      rw [eqv_tld, decide_eq_false r2]
      walk_at "rd"
      have eta2 := s2 _ _ eta
      have itx2 := versKeep (.of s2) itx
      refine rd_tpR (SqT.of eta2) ?_
      refine lcR_tup (xs := txs) (fun W j H' => Same H2 H' ∧ H' W = some (.lst (((r.2.2.take j).map fun v => !v.2.isNone).map V.bl))) (fun W j H' _ ⟨s, _⟩ => SqT.of (s _ _ eta2)) (fun W H' _ s e _ => ⟨s, e⟩) ?_ ?_
      · rintro W j y H3 hW hy ⟨s3, eW⟩
        obtain ⟨v, hv, b, rfl, eb⟩ := (versKeep (.of s3) itx2).getV hy
        refine rd_gtup eb rfl ?_
        walk_at "rd"
        refine ⟨rfl, ?_⟩
        walk_at "rd"
        refine rd_notN0 ?_
        rw [oV_non]
        refine rd_lcE eW (by rw [List.length_map, List.length_map, List.length_take]; omega) fun H4 eH4 eW4 => ?_
        refine ⟨by rw [eH4]; exact Same.mut s3 hW, ?_⟩
        rw [eW4, List.take_add_one, hv, List.map_append, List.map_append]
        rfl
      · rintro W H3 hW ⟨s3, eW⟩
        rw [ltx, List.take_length] at eW
        walk_at "rd"
        refine any_bs eW ?_
        rw [any_none]
        refine ⟨_, rfl, ?_⟩
        have s13 := s1.trans (s2.trans s3)
        cases hg : goneV r.2.2
        · refine rd_iteTT ?_
          walk_at "rd"
          have := r3 hg
          rw [decide_eq_true this]
          walk_at "rd"
          exact ⟨_, _, _, s13, rfl⟩
        · refine rd_iteFF ?_
          walk_at "rd"
          exact ⟨_, _, _, s13, rfl⟩
    · rintro σ H1 ⟨v1, v2, v3, s1, rfl⟩
      exact ⟨_, _, _, s1, rfl⟩
  rintro σ H1 ⟨v1, v2, v3, s1, rfl⟩
  walk_at "rd"
  have eG1 := s1 _ _ eG
  refine rd_slA eG1 fun p H2 s2 ep => ?_
  have ecut : cutV ys (some 1) none = ys.drop 1 := cutN_drop (m := 1)
  rw [ecut] at ep
  walk_at "rd"
  refine rd_zpAT (SqT.of (s2 _ _ eG1)) (SqT.of ep) ?_
  refine forR_zipT (rs.length - 1) (by rw [List.length_drop]; omega) (fun i σ H' => ∃ v6 v7 : Option V, Same H2 H' ∧ σ = [some (.ref G), v1, v2, v3, none, none, v6, v7]) (fun i σ H' ⟨_, _, s, _⟩ => ⟨SqT.of ((s2.trans s) _ _ eG1), SqT.of (s _ _ ep)⟩) ⟨_, _, Same.refl H2, rfl⟩ ?_ ?_
  · rintro i x y σ H3 t H4 hi hx hy ⟨v6, v7, s3, rfl⟩ ht s34 et
    have s4 := s1.trans (s2.trans (s3.trans s34))
    rw [List.getElem?_drop, Nat.add_comm] at hy
    obtain ⟨r, hr, ra, w, rfl, era, ta, txs, rfl, eta, itx⟩ := (rowsKeep (.of s4) iy).getV hx
    obtain ⟨q, hq, qa, w2, rfl, eqa, tb, tys, rfl, etb, ity⟩ := (rowsKeep (.of s4) iy).getV hy
    obtain ⟨h1, h2⟩ := List.getElem?_eq_some_iff.mp hr
    obtain ⟨h3, h4⟩ := List.getElem?_eq_some_iff.mp hq
    have ap : Apart r q := by
      have := List.pairwise_iff_getElem.mp tidy.2 i (i + 1) h1 h3 (by omega)
      rw [h2, h4] at this
      exact this
    obtain ⟨a1, a2⟩ := ap
    have lt := ll r (List.mem_of_getElem? hr)
    have ltx := itx.1
    refine rd_gtup et rfl ?_
    walk_at "rd"
    refine rd_ixT era (atI_nat' (i := 1) rfl) ?_
    walk_at "rd"
    refine rd_ixT eqa (atI_nat' (i := 0) rfl) ?_
    walk_at "rd"
    refine rd_iteF (by omega) ?_
    walk_at "rd"
    refine rd_ixT era (atI_nat' (i := 1) rfl) ?_
    walk_at "rd"
    refine rd_ixT eqa (atI_nat' (i := 0) rfl) ?_
    walk_at "rd"
    have out : ∀ H', Same H4 H' → ∃ v6 v7 : Option V, Same H2 H' ∧ [some (.ref G), v1, v2, v3, none, none, some (.ref ra), some (.ref qa)] = [some (.ref G), v1, v2, v3, none, none, v6, v7] := fun H' s => ⟨_, _, s3.trans (s34.trans s), rfl⟩
    refine rd_ite (fun c1 => ?_) (fun c1 => ?_)
    · walk_at "rd"
      refine rd_ixT era (atI_nat' (i := 2) rfl) ?_
      walk_at "rd"
      refine rd_ixT eqa (atI_nat' (i := 2) rfl) ?_
      refine rd_eqD (d := tldD r.2.2) (e := tldD q.2.2) (TldP.dt ⟨ta, txs, rfl, eta, itx⟩) (TldP.dt ⟨tb, tys, rfl, etb, ity⟩) (shaped_tld _) (shaped_tld _) ?_
      rw [eqv_tld]
      by_cases c2 : r.2.2 = q.2.2
      · rw [decide_eq_true c2]
        walk_at "rd"
        refine rd_ixT era (atI_nat' (i := 2) rfl) ?_
        refine rd_tpR (SqT.of eta) ?_
        refine lcR_tup (xs := txs) (fun W j H' => Same H4 H' ∧ H' W = some (.lst (((r.2.2.take j).map fun v => v.2.isNone).map V.bl))) (fun W j H' _ ⟨s, _⟩ => SqT.of (s _ _ eta)) (fun W H' _ s e _ => ⟨s, e⟩) ?_ ?_
        · rintro W j y H5 hW hy ⟨s5, eW⟩
          obtain ⟨v, hv, b, rfl, eb⟩ := (versKeep (.of s5) itx).getV hy
          refine rd_gtup eb rfl ?_
          walk_at "rd"
          refine ⟨rfl, ?_⟩
          walk_at "rd"
          refine rd_isN0 ?_
          rw [oV_non]
          refine rd_lcE eW (by rw [List.length_map, List.length_map, List.length_take]; omega) fun H6 eH6 eW6 => ?_
          refine ⟨by rw [eH6]; exact Same.mut s5 hW, ?_⟩
          rw [eW6, List.take_add_one, hv, List.map_append, List.map_append]
          rfl
        · rintro W H5 hW ⟨s5, eW⟩
          rw [ltx, List.take_length] at eW
          walk_at "rd"
          refine all_bs eW ?_
          rw [List.all_map]
          have e2 : r.2.2.all (id ∘ fun v => v.2.isNone) = goneV r.2.2 := rfl
          have e3 : goneV r.2.2 = false := Bool.eq_false_iff.mpr fun z => a2 ⟨c1, c2, z⟩
          rw [e2, e3]
          walk_at "rd"
          exact out H5 s5
      · rw [decide_eq_false c2]
        walk_at "rd"
        exact out H4 (Same.refl H4)
    · walk_at "rd"
      exact out H4 (Same.refl H4)
  · rintro σ H3 ⟨v6, v7, s3, rfl⟩
    walk_at "rd"
    exact k H3 (s1.trans (s2.trans s3))
end
end Sl

set_option Elab.async false
set_option linter.all false
set_option maxRecDepth 100000
set_option maxHeartbeats 8000000
set_option exponentiation.threshold 9000
namespace Sl
open PySem L2 C8 StX Silt LiI RT
local macro_rules | `(tactic| walk_at "side") => `(tactic| first
  | exact cdivw (by omega) (by omega)
  | exact cmulw (by omega) (by omega) (by omega) (by omega)
  | exact Or.inr ⟨by omega, by omega⟩
  | exact Or.inl ⟨by omega, by omega⟩
  | omega
  | exact ⟨by omega, by omega, by decide⟩
  | decide)
local macro_rules | `(tactic| walk_at "rd1") => `(tactic| first
  | with_reducible refine rd_seq ?_
  | with_reducible refine rd_asg ?_
  | with_reducible refine rd_drop ?_
  | with_reducible refine rd_ret ?_
  | with_reducible refine rd_retN ?_
  | with_reducible refine rd_ifS ?_
  | ((with_reducible refine rd_var0 ?_); refine ⟨_, rfl, ?_⟩)
  | with_reducible refine rd_c ?_
  | with_reducible refine rd_op ?_
  | with_reducible refine rd_un ?_
  | with_reducible refine rd_I0 ?_
  | with_reducible refine rd_U ?_
  | ((with_reducible refine rd_I ?c ?_); (case c => walk_at "side"))
  | with_reducible refine rd_ipI ?_
  | with_reducible refine rd_eqI ?_
  | with_reducible refine rd_neI ?_
  | with_reducible refine rd_test ?_
  | with_reducible refine rd_tB ?_
  | with_reducible refine rd_bl ?_
  | with_reducible refine rd_not ?_
  | with_reducible refine rd_and ?_
  | with_reducible refine rd_or ?_
  | with_reducible refine rd_andV ?_
  | with_reducible refine rd_orV ?_
  | with_reducible refine rd_notV ?_
  | with_reducible refine rd_ifE ?_
  | with_reducible refine rd_chain ?_
  | with_reducible refine rd_chain3 ?_
  | with_reducible refine rd_nil ?_
  | with_reducible refine rd_cons ?_
  | with_reducible refine rd_call ?_
  | with_reducible refine rd_CB ?_
  | with_reducible refine rd_par ?_
  | with_reducible refine rd_par2 ?_
  | with_reducible refine rd_par3 ?_
  | with_reducible refine rd_par4 ?_
  | ((with_reducible refine rd_aug0 ?_); refine ⟨_, rfl, ?_⟩)
  | with_reducible refine rd_gname ?_
  | with_reducible refine rd_gcons ?_
  | with_reducible refine rd_gnil ?_
  | with_reducible refine rd_max ?_
  | with_reducible refine rd_min ?_
  | with_reducible refine rd_int1 ?_
  | with_reducible refine rd_abs ?_
  | with_reducible refine rd_lst ?_
  | with_reducible refine rd_tup ?_
  | with_reducible refine rd_bm ?_
  | with_reducible refine rd_fld0 ?_
  | with_reducible refine rd_sl0 ?_
  | with_reducible refine rd_noP ?_
  | with_reducible refine rd_part ?_
  | with_reducible refine rd_part2 ?_
  | with_reducible refine rd_meth0 ?_
  | with_reducible refine rd_star ?_
  | with_reducible refine rd_for ?_
  | with_reducible refine rd_rng1 ?_
  | with_reducible refine rd_rng2 ?_
  | with_reducible refine rd_rng3 ?_
  | with_reducible refine rd_iList ?_
  | with_reducible refine rd_iTup ?_
  | with_reducible refine rd_iEnum ?_
  | with_reducible refine rd_lc ?_
  | with_reducible refine rd_yes ?_
  | with_reducible refine rd_augS ?_
  | with_reducible refine rd_drawNew ?_
  | with_reducible refine rd_make0 ?_
  | with_reducible refine rd_next ?_
  | with_reducible refine rd_break ?_
  | with_reducible refine rd_cont ?_
  | with_reducible refine rd_iteTT ?_
  | with_reducible refine rd_iteFF ?_
  | with_reducible refine rd_iteNTT ?_
  | with_reducible refine rd_iteNFF ?_
  | with_reducible refine rd_con0 ?_
  | with_reducible refine rd_truO0 ?_
  | with_reducible refine rd_gfld0 ?_
  | with_reducible refine rd_dc ?_
  | with_reducible refine rd_iKeys ?_
  | with_reducible refine rd_dget0 ?_
  | with_reducible refine rd_dput0 ?_
  | with_reducible refine rd_dnot0 ?_
  | with_reducible refine rd_iEnumT ?_
  | with_reducible refine rd_raP0 ?_
  | with_reducible refine rd_xf0 ?_
  | with_reducible refine rd_cKw ?_
  | with_reducible refine rd_iStr ?_
  | with_reducible refine rd_gSub ?_
  | with_reducible refine rd_asgG ?_)
local macro_rules | `(tactic| walk_at "rd") => `(tactic| repeat walk_at "rd1")
local macro_rules | `(tactic| walk_at "len") => `(tactic| first
  | (intro vs H Q E h; obtain ⟨h2, _⟩ := h; rw [h2]; rfl)
  | (intro vs H Q E h; obtain ⟨_, h2, _⟩ := h; rw [h2]; rfl)
  | (intro vs H Q E h; obtain ⟨_, _, h2, _⟩ := h; rw [h2]; rfl)
  | (intro vs H Q E h; obtain ⟨_, _, _, h2, _⟩ := h; rw [h2]; rfl)
  | (intro vs H Q E h; obtain ⟨_, _, _, _, h2, _⟩ := h; rw [h2]; rfl)
  | (intro vs H Q E h; obtain ⟨_, _, _, _, _, h2, _⟩ := h; rw [h2]; rfl)
  | (intro vs H Q E h; obtain ⟨_, _, _, _, _, _, h2, _⟩ := h; rw [h2]; rfl)
  | (intro vs H Q E h; obtain ⟨_, _, _, _, _, _, _, h2, _⟩ := h; rw [h2]; rfl)
  | (intro vs H Q E h; obtain ⟨_, _, _, _, _, _, _, _, h2, _⟩ := h; rw [h2]; rfl)
  | (intro vs H Q E h; obtain ⟨_, _, _, _, _, _, _, _, _, h2, _⟩ := h; rw [h2]; rfl)
  | (intro vs H Q E h; obtain ⟨_, _, _, _, _, _, _, _, _, _, h2, _⟩ := h; rw [h2]; rfl)
  | (intro vs H Q E h; obtain ⟨_, _, _, _, _, _, _, _, _, _, _, h2, _⟩ := h; rw [h2]; rfl)
  | (intro vs H Q E h; obtain ⟨_, _, _, _, _, _, _, _, _, _, _, _, h2, _⟩ := h; rw [h2]; rfl))
local macro_rules | `(tactic| walk_at "rd1") => `(tactic| first
  | with_reducible refine rd_makeX ?_
  | with_reducible refine rd_methX0 ?_
  | with_reducible refine rd_lstRev0 ?_)
theorem exm_no {K : PySem.W.Frag} {A B : Addr} (TB : XOwn K B) (h4 : PySem.W.subIn K (.ref A) (.ref B) = some false) : PySem.W.exmOne K (.ref A) (.ref B) = some false := by
  have e1 : (PySem.W.subIn K (.ref B) (.type "BaseException") == some true) = true := by rw [TB.b] <;> rfl
  have e2 : ((PySem.W.clsIn K B).isSome && PySem.W.typeIn K (.ref B) == some (.type "type")) = true := by
    have h2' : (PySem.W.clsIn K B).isSome = true := TB.i
    rw [h2', TB.t] <;> rfl
  show (if (PySem.W.subIn K (.ref B) (.type "BaseException") == some true) = true then (if ((PySem.W.clsIn K B).isSome && PySem.W.typeIn K (.ref B) == some (.type "type")) = true then PySem.W.subIn K (.ref A) (.ref B) else none) else none) = some false
  rw [if_pos e1, if_pos e2]
  exact h4
theorem rd_lstOfL {K : PySem.W.Frag} {H : Hp} {Q : VK} {a : Addr} {xs : List V} (e : H a = some (.lst xs)) (h : ∀ p H', H p = none → Same H H' → H' p = some (.lst xs) → H' = upd H p (.lst xs) → Q (.ref p) H') : rLstOf K [.ref a] H Q :=
  ⟨a, xs, rfl, .inl (SqL.of e), fun p hp => h p _ hp (Same.new (Same.refl H) hp) upd_same rfl⟩
def spRef (C : Addr) : Sp := fun vs H Q _ => ∃ (a f : Addr) (xs : List V) (Ls : List Lay) (ff lf : Int) (rs : List Rw), vs = [.ref a, .int (Ls.length : Int), .ref f] ∧ H a = some (.lst xs) ∧ ItP (LayP C) H xs Ls ∧ Adj Ls ∧ (∀ L ∈ Ls, L.1 = L.2.1) ∧ (0 < Ls.length ∧ Ls.length ≤ 100) ∧ LyP C H f ff lf rs ∧ ∀ H', Same H H' → Q (.bl true) H'
section
variable {P : Program} {w : World} {K : PySem.W.Frag} {mg : Str → Option Value} {base : Heap} {C_Sheet C_Layer C_Pointer C_BadSheet C_BadDay C_BadKey C_BadLayers D_Sheet_0 D_Sheet_1 : Addr}
theorem cal__law_refused (T : TX P K mg C_Sheet C_Layer C_Pointer C_BadSheet C_BadDay C_BadKey C_BadLayers D_Sheet_0 D_Sheet_1) : Cal P w K mg base 6 "_law_refused" (spRef C_Layer) [] := by
  obtain ⟨f0, fd, D, dn⟩ := T.d__law_refused
  have G_Layer_eq := met_Layer_eq (P := P) (w := w) (base := base) T
  have G_Sheet_init_1 := mak_Sheet_init_1 (P := P) (w := w) (base := base) T
  obtain ⟨D0_bake, X_bake_1⟩ := xal_bake_1 (P := P) (w := w) (base := base) T
  have X_bake_2 := xal_bake_2 (P := P) (w := w) (base := base) T
  have X_layer_of := xal_layer_of (P := P) (w := w) (base := base) T
  have X_Layer_versions := xet_Layer_versions (P := P) (w := w) (base := base) T
  refine cal0 D (D.fn.binds dn fun _ _ _ _ _ _ us hl => match us, hl with | [_, _, _], _ => rfl) .nil sc__law_refused (by walk_at "len") (fun cdv A outer s H vs Q E hr h => ?_)
  obtain ⟨a, f, xs, Ls, ff, lf, rs, rfl, ea, ix, adj, one, hL, lyf, k⟩ := h
  have lx := ix.1
  obtain ⟨L0, hL0⟩ : ∃ L0, Ls[0]? = some L0 := ⟨_, List.getElem?_eq_getElem hL.1⟩
  obtain ⟨x0, hx0, b0, rfl, ly0⟩ := ix.get hL0
  have one0 := one L0 (List.mem_of_getElem? hL0)
  refine ⟨_, (pss_cut (ps_for PassesOwn.never rfl (pi_tup (pe_tup (pa_cons (pe_tup (pa_cons pe_non (pa_cons pe_non pa_nil))) (pa_cons (pe_tup (pa_cons (pe_lst pa_nil) (pa_cons pe_non pa_nil))) (pa_cons (pe_tup (pa_cons (pe_lst (pa_cons (pe_ix ix_list (pv 0) pe_int (fun _ _ => rfl)) (pa_cons (pe_ix ix_list (pv 0) pe_int (fun _ _ => rfl)) pa_nil))) (pa_cons pe_int pa_nil))) (pa_cons (pe_tup (pa_cons (pe_op op_cat (pv 0) (pe_lst (pa_cons pe_int pa_nil))) (pa_cons (pv 1) pa_nil))) (pa_cons (pe_tup (pa_cons (pe_lst (pa_cons pe_non pa_nil)) (pa_cons pe_int pa_nil))) (pa_cons (pe_tup (pa_cons (pe_lstRev rfl rfl T.b_list rfl T.b_reversed (pe_callTy cr_lstOf (by rfl) T.b_list (by decide +kernel) (pa_cons (pv 0) pa_nil))) (pa_cons pe_int pa_nil))) pa_nil)))))))) (pg_tup rfl (pgs_cons (pg_n 3 sc__law_refused.nd) (pgs_cons (pg_n 4 sc__law_refused.nd) pgs_nil))) (pss_one (ps_if (pt_not (PW.pt (pw_and (pt_cmpR op_eq (pv 1) pe_int (nomark _)) (pw_and (pt_cmpR op_eq (pv 4) pe_int (nomark _)) (pw_and1 (pt_cmpR (op_neRM G_Layer_eq hr (by decide) hr.units T.si_Layer) (pv 3) (pe_lst (pa_cons (pe_ix ix_list (pv 0) pe_int (fun _ _ => rfl)) (pa_cons (pe_ix ix_list (pv 0) pe_int (fun _ _ => rfl)) pa_nil))) (nomark _))))))) (pss_one (ps_tryAsO (i := 5) rfl rfl sc__law_refused.nd rfl rfl ⟨rfl, by decide, .inl T.mg_BadLayers⟩ takesN (fun W pn xe tk => (pss_cons (ps_expr (pe_cX X_bake_1 hr (by decide) rfl (fun σ => passAt tk σ) (pa_cons (pv 3) pa_nil)))
      (pss_one (ps_ret pe_bl)))) (fun a oe cls d pn hz hf => (pss_one (ps_if (pt_cmpR op_ne (pe_xf T.y_BadLayers.xf T.y_BadLayers.np hz hf (pv 5)) (pv 4) (nomark _)) (pss_one (ps_ret pe_bl)) pss_nil))))) pss_nil)))
      (pss_cut (ps_for PassesOwn.never rfl (pi_tup (pe_tup (pa_cons pe_non (pa_cons (pe_lst (pa_cons (pe_un un_neg pe_int) pa_nil)) (pa_cons (pe_lst (pa_cons pe_bl pa_nil)) (pa_cons (pe_lst (pa_cons pe_str pa_nil)) (pa_cons pe_int pa_nil))))))) (pg_n 3 sc__law_refused.nd) (pss_one (ps_tryO rfl rfl ⟨rfl, by decide, .inl T.mg_BadDay⟩ takesN (fun W pn xe tk => (pss_cons (ps_expr (pe_cX X_bake_2 hr (by decide) rfl (fun σ => passAt tk σ) (pa_cons (pv 0) (pa_cons (pv 3) pa_nil))))
      (pss_one (ps_ret pe_bl)))) (fun a oe cls d pn => (pss_one ps_pass)))))
      (pss_cons (ps_for PassesOwn.never rfl (pi_range1 rfl T.b_range (pa_cons pe_int pa_nil)) (pg_n 6 sc__law_refused.nd) (pss_one (ps_manyO rfl rfl takesN (fun W pn xe tk => (pss_cons (ps_if (pt_cmpR op_eq (pv 6) pe_int (nomark _)) (pss_one (ps_expr (pe_cX X_layer_of hr (by decide) rfl (fun σ => passAt tk σ) (pa_cons pe_int (pa_cons (pe_mk G_Sheet_init_1 hr (by decide) rfl (pa_cons pe_dnewK pa_nil)) pa_nil))))) (pss_one (ps_if (pt_cmpR op_eq (pv 6) pe_int (nomark _)) (pss_one (ps_expr (pe_cX X_layer_of hr (by decide) rfl (fun σ => passAt tk σ) (pa_cons pe_int (pa_cons pe_dnewK pa_nil))))) (pss_one (ps_expr (pe_mtX (pl := _) X_Layer_versions hr (by decide) (fun σ => passAt tk σ) (pv 2) (pa_cons pe_int pa_nil)))))))
      (pss_one (ps_ret pe_bl)))) (hds_cons ⟨rfl, by decide, .inl T.mg_BadDay⟩ (fun a oe cls d pn => (pss_one (ps_if (pt_cmpR op_ne (pv 6) pe_int (nomark _)) (pss_one (ps_ret pe_bl)) pss_nil))) (hds_cons ⟨rfl, by decide, .inl T.mg_BadSheet⟩ (fun a oe cls d pn => (pss_one (ps_if (pt_cmpR op_ne (pv 6) pe_int (nomark _)) (pss_one (ps_ret pe_bl)) pss_nil))) (hds_cons ⟨rfl, by decide, .inl T.mg_BadKey⟩ (fun a oe cls d pn => (pss_one (ps_if (pt_cmpR op_ne (pv 6) pe_int (nomark _)) (pss_one (ps_ret pe_bl)) pss_nil))) .nil))))))
      (pss_one (ps_ret pe_bl))))), ?_⟩
  walk_at "rd"
  refine ⟨fun σ H' => ∃ v3 v4 v5 : Option V, Same H H' ∧ σ = [some (.ref a), some (.int (Ls.length : Int)), some (.ref f), v3, v4, v5, none], ?_, ?_⟩
  · walk_at "rd"
    refine rd_newT (by simp) fun t1 H1 _ s1 e1 _ => ?_
    walk_at "rd"
    refine rd_newL (by simp) fun b2 H2 _ s2 eb2 _ => ?_
    walk_at "rd"
    refine rd_newT (by simp) fun t2 H3 _ s3 e2 _ => ?_
    walk_at "rd"
    have q03 := s1.trans (s2.trans s3)
    refine rd_ixL (q03 _ _ ea) (atI_nat' (i := 0) hx0) ?_
    walk_at "rd"
    refine rd_ixL (q03 _ _ ea) (atI_nat' (i := 0) hx0) ?_
    walk_at "rd"
    refine rd_newL (by simp) fun b3 H4 _ s4 eb3 _ => ?_
    walk_at "rd"
    refine rd_newT (by simp) fun t3 H5 _ s5 e3 _ => ?_
    walk_at "rd"
    refine rd_newL (by simp) fun n4 H6 _ s6 en4 _ => ?_
    walk_at "rd"
    have q06 := q03.trans (s4.trans (s5.trans s6))
    refine rd_cat (q06 _ _ ea) en4 (by simp; omega) fun b4 H7 _ s7 eb4 _ => ?_
    walk_at "rd"
    refine rd_newT (by simp) fun t4 H8 _ s8 e4 _ => ?_
    walk_at "rd"
    refine rd_newL (by simp) fun b5 H9 _ s9 eb5 _ => ?_
    walk_at "rd"
    refine rd_newT (by simp) fun t5 H10 _ s10 e5 _ => ?_
    walk_at "rd"
    have q010 := q06.trans (s7.trans (s8.trans (s9.trans s10)))
    refine rd_lstOfL (q010 _ _ ea) fun n6 H11 _ s11 en6 _ => ?_
    walk_at "rd"
    refine rd_lstRev (SqL.of en6) fun b6 H12 _ s12 eb6 => ?_
    walk_at "rd"
    refine rd_newT (by simp) fun t6 H13 _ s13 e6 _ => ?_
    walk_at "rd"
    refine rd_newT (by simp) fun tt H14 _ s14 ett _ => ?_
    have q14 : Same H13 H14 := s14
    have q12 := s13.trans q14
    have q11 := s12.trans q12
    have q10 := s11.trans q11
    have q9 := s10.trans q10
    have q8 := s9.trans q9
    have q7 := s8.trans q8
    have q6 := s7.trans q7
    have q5 := s6.trans q6
    have q4 := s5.trans q5
    have q3 := s4.trans q4
    have q2 := s3.trans q3
    have q1 := s2.trans q2
    have q0 := s1.trans q1
    refine rd_tpR (SqT.of ett) ?_
    refine forR_tup (xs := [.ref t1, .ref t2, .ref t3, .ref t4, .ref t5, .ref t6]) (fun i σ H' => ∃ v3 v4 v5 : Option V, Same H14 H' ∧ σ = [some (.ref a), some (.int (Ls.length : Int)), some (.ref f), v3, v4, v5, none]) (fun i σ H' ⟨_, _, _, s, _⟩ => SqT.of (s _ _ ett)) ⟨_, _, _, Same.refl H14, rfl⟩ ?_ ?_
    · rintro i x σ HA hx ⟨v3, v4, v5, sA, rfl⟩
      have s0A : Same H HA := q0.trans sA
      have h6 : i < 6 := (List.getElem?_eq_some_iff.mp hx).1
      have ixA := ix.imp (H' := HA) fun _ _ h => h.mono s0A
      have eaA := s0A _ _ ea
      rcases (show i = 0 ∨ i = 1 ∨ i = 2 ∨ i = 3 ∨ i = 4 ∨ i = 5 by omega) with rfl | rfl | rfl | rfl | rfl | rfl
      · cases hx
        refine rd_gtup (sA _ _ (q1 _ _ e1)) rfl ?_
        walk_at "rd"
        refine rd_ite (fun c => ?_) (fun c => ?_)
        · walk_at "rd"
          refine rd_eq rfl ?_
          rw [decide_eq_false (by intro z; cases z)]
          walk_at "rd"
          refine rd_tryAs ?_
          walk_at "rd"
          refine rd_callSd ?_
          walk_at "rd"
          refine rd_callSd2 ⟨.non, _, _, .non, rfl, .inl (.inl ⟨rfl, rfl⟩), fun dd HB sB ed => ?_⟩
          refine rd_caughtAs T.y_BadLayers.e fun ea hea => ?_
          walk_at "rd"
          refine rd_xf ed rfl ?_
          walk_at "rd"
          refine rd_ne rfl ?_
          rw [decide_eq_true rfl]
          walk_at "rd"
          exact ⟨_, _, _, sA.trans sB, rfl⟩
        · walk_at "rd"
          refine rd_tryAs ?_
          walk_at "rd"
          refine rd_callSd ?_
          walk_at "rd"
          refine rd_callSd2 ⟨.non, _, _, .non, rfl, .inl (.inl ⟨rfl, rfl⟩), fun dd HB sB ed => ?_⟩
          refine rd_caughtAs T.y_BadLayers.e fun ea hea => ?_
          walk_at "rd"
          refine rd_xf ed rfl ?_
          walk_at "rd"
          refine rd_ne rfl ?_
          rw [decide_eq_true rfl]
          walk_at "rd"
          exact ⟨_, _, _, sA.trans sB, rfl⟩
      · cases hx
        refine rd_gtup (sA _ _ (q3 _ _ e2)) rfl ?_
        walk_at "rd"
        refine rd_ite (fun c => ?_) (fun c => ?_)
        · walk_at "rd"
          refine rd_eq rfl ?_
          rw [decide_eq_false (by intro z; cases z)]
          walk_at "rd"
          refine rd_tryAs ?_
          walk_at "rd"
          refine rd_callSd ?_
          walk_at "rd"
          refine rd_callSd2 ⟨.ref b2, _, _, .non, rfl, .inr ⟨b2, rfl, sA _ _ (q2 _ _ eb2), rfl⟩, fun dd HB sB ed => ?_⟩
          refine rd_caughtAs T.y_BadLayers.e fun ea hea => ?_
          walk_at "rd"
          refine rd_xf ed rfl ?_
          walk_at "rd"
          refine rd_ne rfl ?_
          rw [decide_eq_true rfl]
          walk_at "rd"
          exact ⟨_, _, _, sA.trans sB, rfl⟩
        · walk_at "rd"
          refine rd_tryAs ?_
          walk_at "rd"
          refine rd_callSd ?_
          walk_at "rd"
          refine rd_callSd2 ⟨.ref b2, _, _, .non, rfl, .inr ⟨b2, rfl, sA _ _ (q2 _ _ eb2), rfl⟩, fun dd HB sB ed => ?_⟩
          refine rd_caughtAs T.y_BadLayers.e fun ea hea => ?_
          walk_at "rd"
          refine rd_xf ed rfl ?_
          walk_at "rd"
          refine rd_ne rfl ?_
          rw [decide_eq_true rfl]
          walk_at "rd"
          exact ⟨_, _, _, sA.trans sB, rfl⟩
      · cases hx
        refine rd_gtup (sA _ _ (q5 _ _ e3)) rfl ?_
        walk_at "rd"
        refine rd_ite (fun c => ?_) (fun c => ?_)
        · walk_at "rd"
          refine rd_iteT (by rfl) ?_
          walk_at "rd"
          refine rd_ixL eaA (atI_nat' (i := 0) hx0) ?_
          walk_at "rd"
          refine rd_ixL eaA (atI_nat' (i := 0) hx0) ?_
          walk_at "rd"
          refine rd_newL (by simp) fun n7 HC _ sC en7 _ => ?_
          have sA := sA.trans sC
          have s0A := s0A.trans sC
          refine rd_neRM1 (rd_neRL0 (SqL.of (sA _ _ (q4 _ _ eb3))) (SqL.of en7) (fun y hy => by simp at hy; exact ⟨b0, hy⟩) ?_)
          walk_at "rd"
          refine rd_tryAs ?_
          walk_at "rd"
          refine rd_callSd ?_
          walk_at "rd"
          refine rd_callSd2 ⟨.ref b3, _, _, .int 1, rfl, .inl (.inr ⟨b3, [.ref b0], .ref b0, [], [L0], rfl, sA _ _ (q4 _ _ eb3), ItP.one ⟨b0, rfl, ly0.mono s0A⟩, (fun i L M h1 h2 => by cases i <;> cases h2), by simp, rfl, .inr ⟨L0, L0, rfl, ⟨b0, rfl, ly0.mono s0A⟩, by omega⟩⟩), fun dd HB sB ed => ?_⟩
          refine rd_caughtAs T.y_BadLayers.e fun ea hea => ?_
          walk_at "rd"
          refine rd_xf ed rfl ?_
          walk_at "rd"
          refine rd_iteNF (by rfl) ?_
          walk_at "rd"
          exact ⟨_, _, _, sA.trans sB, rfl⟩
        · walk_at "rd"
          refine rd_tryAs ?_
          walk_at "rd"
          refine rd_callSd ?_
          walk_at "rd"
          refine rd_callSd2 ⟨.ref b3, _, _, .int 1, rfl, .inl (.inr ⟨b3, [.ref b0], .ref b0, [], [L0], rfl, sA _ _ (q4 _ _ eb3), ItP.one ⟨b0, rfl, ly0.mono s0A⟩, (fun i L M h1 h2 => by cases i <;> cases h2), by simp, rfl, .inr ⟨L0, L0, rfl, ⟨b0, rfl, ly0.mono s0A⟩, by omega⟩⟩), fun dd HB sB ed => ?_⟩
          refine rd_caughtAs T.y_BadLayers.e fun ea hea => ?_
          walk_at "rd"
          refine rd_xf ed rfl ?_
          walk_at "rd"
          refine rd_iteNF (by rfl) ?_
          walk_at "rd"
          exact ⟨_, _, _, sA.trans sB, rfl⟩
      · cases hx
        refine rd_gtup (sA _ _ (q8 _ _ e4)) rfl ?_
        walk_at "rd"
        refine rd_ite (fun c => ?_) (fun c => ?_)
        · walk_at "rd"
          refine rd_iteT (by omega) ?_
          walk_at "rd"
          refine rd_ixL eaA (atI_nat' (i := 0) hx0) ?_
          walk_at "rd"
          refine rd_ixL eaA (atI_nat' (i := 0) hx0) ?_
          walk_at "rd"
          refine rd_newL (by simp) fun n7 HC _ sC en7 _ => ?_
          have sA := sA.trans sC
          have s0A := s0A.trans sC
          obtain ⟨dx0, G0, ys0, g1, g2, g3⟩ := (ly0.mono s0A).ex
          have exs : xs = [.ref b0] := by
            match xs, lx, hx0 with
            | [], l, h => cases h
            | [y], l, h => cases h; rfl
            | y :: z :: r, l, h => simp at l; omega
          have eb4' := sA _ _ (q7 _ _ eb4)
          rw [exs] at eb4'
          refine rd_neRM2 (r := b0) (o := b0) (i := 3) eb4' en7 g1 ?_
          refine ⟨b0, .int 3, L0.1, L0.2.1, L0.2.2, rfl, ly0.mono s0A, .inr ⟨3, rfl, rfl, ⟨eb4', en7⟩, ?_⟩⟩
          walk_at "rd"
          exact ⟨_, _, _, sA, rfl⟩
        · walk_at "rd"
          refine rd_tryAs ?_
          walk_at "rd"
          refine rd_callSd ?_
          walk_at "rd"
          refine rd_callSd2 ⟨.ref b4, _, _, .int (Ls.length : Int), rfl, .inl (.inr ⟨b4, xs, .int 3, [], Ls, rfl, sA _ _ (q7 _ _ eb4), ixA, adj, by omega, rfl, .inl (.inr ⟨3, rfl⟩)⟩), fun dd HB sB ed => ?_⟩
          refine rd_caughtAs T.y_BadLayers.e fun ea hea => ?_
          walk_at "rd"
          refine rd_xf ed rfl ?_
          walk_at "rd"
          refine rd_iteNF (by rfl) ?_
          walk_at "rd"
          exact ⟨_, _, _, sA.trans sB, rfl⟩
      · cases hx
        refine rd_gtup (sA _ _ (q10 _ _ e5)) rfl ?_
        walk_at "rd"
        refine rd_ite (fun c => ?_) (fun c => ?_)
        · walk_at "rd"
          refine rd_iteF (by decide) ?_
          walk_at "rd"
          refine rd_tryAs ?_
          walk_at "rd"
          refine rd_callSd ?_
          walk_at "rd"
          refine rd_callSd2 ⟨.ref b5, _, _, .int 0, rfl, .inl (.inr ⟨b5, [], .non, [], [], rfl, sA _ _ (q9 _ _ eb5), .nil, (fun i L M h1 h2 => by cases h1), by simp, rfl, .inl (.inl rfl)⟩), fun dd HB sB ed => ?_⟩
          refine rd_caughtAs T.y_BadLayers.e fun ea hea => ?_
          walk_at "rd"
          refine rd_xf ed rfl ?_
          walk_at "rd"
          refine rd_iteNF (by rfl) ?_
          walk_at "rd"
          exact ⟨_, _, _, sA.trans sB, rfl⟩
        · walk_at "rd"
          refine rd_tryAs ?_
          walk_at "rd"
          refine rd_callSd ?_
          walk_at "rd"
          refine rd_callSd2 ⟨.ref b5, _, _, .int 0, rfl, .inl (.inr ⟨b5, [], .non, [], [], rfl, sA _ _ (q9 _ _ eb5), .nil, (fun i L M h1 h2 => by cases h1), by simp, rfl, .inl (.inl rfl)⟩), fun dd HB sB ed => ?_⟩
          refine rd_caughtAs T.y_BadLayers.e fun ea hea => ?_
          walk_at "rd"
          refine rd_xf ed rfl ?_
          walk_at "rd"
          refine rd_iteNF (by rfl) ?_
          walk_at "rd"
          exact ⟨_, _, _, sA.trans sB, rfl⟩
      · cases hx
        refine rd_gtup (sA _ _ (q14 _ _ e6)) rfl ?_
        walk_at "rd"
        refine rd_ite (fun c => ?_) (fun c => ?_)
        · walk_at "rd"
          refine rd_iteT (by rfl) ?_
          walk_at "rd"
          refine rd_ixL eaA (atI_nat' (i := 0) hx0) ?_
          walk_at "rd"
          refine rd_ixL eaA (atI_nat' (i := 0) hx0) ?_
          walk_at "rd"
          refine rd_newL (by simp) fun n7 HC _ sC en7 _ => ?_
          have sA := sA.trans sC
          refine rd_neRM1 (rd_neRL1 (SqL.of (sA _ _ (q12 _ _ eb6))) (SqL.of en7) (by simp; omega) ?_)
          walk_at "rd"
          exact ⟨_, _, _, sA, rfl⟩
        · walk_at "rd"
          obtain ⟨g, M, L, hg⟩ : ∃ g M L, Ls = g ++ [M, L] := by
            rcases List.eq_nil_or_concat Ls with z | ⟨g1, L, z⟩
            · rw [z] at hL; exact absurd hL.1 (by decide)
            · rcases List.eq_nil_or_concat g1 with z1 | ⟨g, M, z1⟩
              · rw [z, z1] at c
                exact absurd rfl c
              · exact ⟨g, M, L, by rw [z, z1]; simp⟩
          obtain ⟨zs0, xl, e1, i1, hxl⟩ := ItP.last (ys := g ++ [M]) (y := L) (by rw [show (g ++ [M]) ++ [L] = Ls by rw [hg]; simp]; exact ix)
          obtain ⟨zs, xm, e2, i2, hxm⟩ := ItP.last i1
          have exs : xs = zs ++ [xm] ++ [xl] := by rw [e1, e2]
          have a1 := adj g.length M L (by rw [hg]; simp) (by rw [hg]; simp)
          have o1 := one M (by rw [hg]; simp)
          have o2 := one L (by rw [hg]; simp)
          refine rd_tryAs ?_
          walk_at "rd"
          refine rd_callSd ?_
          walk_at "rd"
          refine rd_callSd2 ⟨.ref b6, _, _, .int 1, rfl, .inl (.inr ⟨b6, [xl], xm, zs.reverse, [L], rfl, by rw [sA _ _ (q12 _ _ eb6), exs]; simp, ItP.one (hxl.mono s0A), (fun i L M h1 h2 => by cases i <;> cases h2), by simp, rfl, .inr ⟨L, M, rfl, hxm.mono s0A, by omega⟩⟩), fun dd HB sB ed => ?_⟩
          refine rd_caughtAs T.y_BadLayers.e fun ea hea => ?_
          walk_at "rd"
          refine rd_xf ed rfl ?_
          walk_at "rd"
          refine rd_iteNF (by rfl) ?_
          walk_at "rd"
          exact ⟨_, _, _, sA.trans sB, rfl⟩
    · rintro σ HA ⟨v3, v4, v5, sA, rfl⟩
      exact ⟨_, _, _, q0.trans sA, rfl⟩
  rintro σ H1 ⟨v3, v4, v5, s1, rfl⟩
  walk_at "rd"
  refine ⟨fun σ H' => ∃ v3 v4 v5 : Option V, Same H H' ∧ σ = [some (.ref a), some (.int (Ls.length : Int)), some (.ref f), v3, v4, v5, none], ?_, ?_⟩
  · walk_at "rd"
    refine rd_newL (by simp) fun b1 H2 _ s2 eb1 _ => ?_
    walk_at "rd"
    refine rd_newL (by simp) fun b2 H3 _ s3 eb2 _ => ?_
    walk_at "rd"
    refine rd_newL (by simp) fun b3 H4 _ s4 eb3 _ => ?_
    walk_at "rd"
    refine rd_newT (by simp) fun tt H5 _ s5 ett _ => ?_
    have q4 : Same H4 H5 := s5
    have q3 := s4.trans q4
    have q2 := s3.trans q3
    have q05 : Same H H5 := s1.trans (s2.trans q2)
    refine rd_tpR (SqT.of ett) ?_
    refine forR_tup (xs := [.non, .ref b1, .ref b2, .ref b3, .int 3]) (fun i σ H' => ∃ v3 v4 v5 : Option V, Same H5 H' ∧ σ = [some (.ref a), some (.int (Ls.length : Int)), some (.ref f), v3, v4, v5, none]) (fun i σ H' ⟨_, _, _, s, _⟩ => SqT.of (s _ _ ett)) ⟨_, _, _, Same.refl H5, rfl⟩ ?_ ?_
    · rintro i x σ HA hx ⟨v3, v4, v5, sA, rfl⟩
      have s0A : Same H HA := q05.trans sA
      have bad : BadP HA x := by
        have hm := List.mem_of_getElem? hx
        simp only [List.mem_cons, List.not_mem_nil, or_false] at hm
        rcases hm with rfl | rfl | rfl | rfl | rfl
        · exact .inl (.inl rfl)
        · exact .inr ⟨b1, _, rfl, sA _ _ (q2 _ _ eb1), rfl, .inr ⟨-1, rfl, by decide⟩⟩
        · exact .inr ⟨b2, _, rfl, sA _ _ (q3 _ _ eb2), rfl, .inl rfl⟩
        · exact .inr ⟨b3, _, rfl, sA _ _ (q4 _ _ eb3), rfl, .inl rfl⟩
        · exact .inl (.inr ⟨3, rfl⟩)
      walk_at "rd"
      refine rd_try ?_
      walk_at "rd"
      refine rd_callSd ?_
      walk_at "rd"
      refine rd_callSd2 ⟨a, x, _, xs, Ls, rfl, .inl (s0A _ _ ea), ix.imp fun _ _ h => h.mono s0A, adj, hL.1, bad, fun HB sB => ?_⟩
      refine rd_caught T.x_BadDay.e fun ea hea => ?_
      exact ⟨_, _, _, sA.trans sB, rfl⟩
    · rintro σ HA ⟨v3, v4, v5, sA, rfl⟩
      exact ⟨_, _, _, q05.trans sA, rfl⟩
  clear s1
  rintro σ H1 ⟨v3, v4, v5, s1, rfl⟩
  walk_at "rd"
  refine rd_rgR1 (by decide) (by decide) ?_
  refine forR_rng (fun i σ H' => ∃ v6 : Option V, Same H1 H' ∧ σ = [some (.ref a), some (.int (Ls.length : Int)), some (.ref f), v3, v4, v5, v6]) ⟨_, Same.refl H1, rfl⟩ ?_ ?_
  · rintro i σ HA hi ⟨v6, sA, rfl⟩
    have hi3 : i < 3 := hi
    have s0A := s1.trans sA
    walk_at "rd"
    refine rd_many ?_
    rcases (show i = 0 ∨ i = 1 ∨ i = 2 by omega) with rfl | rfl | rfl
    · walk_at "rd"
      refine rd_iteT (by rfl) ?_
      walk_at "rd"
      refine rd_callSd ?_
      walk_at "rd"
      refine rd_dnew fun D HB hD sB eD _ => ?_
      walk_at "rd"
      refine rd_make fun y dy HC sC hy ey => ?_
      refine ⟨y, dy, D, D_Sheet_0, D_Sheet_1, HB, [], [], [], [], rfl, sC, hy, ey, sC _ _ eD, List.nodup_nil, (fun q h => by cases h), .inr (emT_sq T.e_D_Sheet_0 _), (fun q h => by cases h), .inr (emT_sq T.e_D_Sheet_1 _), IvP.nil, (fun q h => by cases h), by simp, fun HD D' G ls' ys gs sD _ _ _ _ _ _ _ _ _ _ => ⟨rfl, ?_⟩⟩
      walk_at "rd"
      refine rd_callSd2 ⟨0, _, rfl, .inl ⟨by decide, ?_⟩⟩
      refine rd_manyY T.x_BadDay.e fun ea hea => ?_
      walk_at "rd"
      refine rd_iteNF (by rfl) ?_
      walk_at "rd"
      exact ⟨_, sA.trans (sB.trans sD), rfl⟩
    · walk_at "rd"
      refine rd_iteF (by decide) ?_
      walk_at "rd"
      refine rd_iteT (by rfl) ?_
      walk_at "rd"
      refine rd_callSd ?_
      walk_at "rd"
      refine rd_dnew fun D HB hD sB eD _ => ?_
      walk_at "rd"
      refine rd_callSd2 ⟨1, _, rfl, .inr ⟨D, [], rfl, by decide, eD, ?_⟩⟩
      refine rd_manyN (exm_no T.x_BadDay T.xn_BadSheet_BadDay) ?_
      refine rd_manyY T.x_BadSheet.e fun ea hea => ?_
      walk_at "rd"
      refine rd_iteNF (by rfl) ?_
      walk_at "rd"
      exact ⟨_, sA.trans sB, rfl⟩
    · walk_at "rd"
      refine rd_iteF (by decide) ?_
      walk_at "rd"
      refine rd_iteF (by decide) ?_
      walk_at "rd"
      obtain ⟨dxf, Gf, ysf, f1, f2, f3⟩ := (lyf.mono s0A).ex
      refine ⟨f, dxf, _, rfl, f1, rfl, ?_⟩
      walk_at "rd"
      refine ⟨f, .int 1000000, rfl, rfl, by decide, ?_⟩
      refine rd_manyN (exm_no T.x_BadDay T.xn_BadKey_BadDay) ?_
      refine rd_manyN (exm_no T.x_BadSheet T.xn_BadKey_BadSheet) ?_
      refine rd_manyY T.x_BadKey.e fun ea hea => ?_
      walk_at "rd"
      refine rd_iteNF (by rfl) ?_
      walk_at "rd"
      exact ⟨_, sA, rfl⟩
  · rintro σ HA ⟨v6, sA, rfl⟩
    walk_at "rd"
    exact k HA (s1.trans sA)
end
end Sl

set_option Elab.async false
set_option linter.all false
set_option maxRecDepth 100000
set_option maxHeartbeats 8000000
set_option exponentiation.threshold 9000
namespace Sl
open PySem L2 C8 StX Silt LiI RT
/-! the mathematics of the law: layers of drawn sheets, bakes of them -/
theorem tell_days {T : Tl} {d k : Int} {v : Ver} (h : v ∈ tellV T d k) : v.1 = d := by
  obtain ⟨_, _, rfl⟩ := List.mem_map.mp h
  rfl
theorem vers_days {k : Int} : ∀ {Ts : List Tl} {c : Int} {v : Ver}, v ∈ vers c k Ts → c ≤ v.1 ∧ v.1 ≤ c + Ts.length - 1
  | [], c, v, h => by cases h
  | T :: Ts, c, v, h => by
    rw [List.length_cons]
    rcases List.mem_append.mp (show v ∈ vers (c + 1) k Ts ++ tellV T c k from h) with z | z
    · have := vers_days z
      omega
    · have := tell_days z
      omega
theorem desc_short {vs : Vs} (h : vs.length ≤ 1) : Desc vs := by
  match vs, h with
  | [], _ => exact List.Pairwise.nil
  | [v], _ => exact List.pairwise_singleton _ _
theorem tellV_len (T : Tl) (d k : Int) : (tellV T d k).length ≤ 1 := by
  unfold tellV
  rw [List.length_map]
  exact tell_len T k
theorem vers_desc {k : Int} : ∀ {Ts : List Tl} {c : Int}, Desc (vers c k Ts)
  | [], c => List.Pairwise.nil
  | T :: Ts, c => by
    show Desc (vers (c + 1) k Ts ++ tellV T c k)
    unfold Desc
    rw [List.pairwise_append]
    refine ⟨vers_desc, desc_short (tellV_len T c k), fun x hx y hy => ?_⟩
    have := vers_days hx
    have := tell_days hy
    omega
theorem vers_append (k : Int) : ∀ (A B : List Tl) (c : Int), vers c k (A ++ B) = vers (c + A.length) k B ++ vers c k A
  | [], B, c => by
    show vers c k B = vers (c + ((0 : Nat) : Int)) k B ++ []
    rw [List.append_nil, show c + ((0 : Nat) : Int) = c by omega]
  | T :: A, B, c => by
    show vers (c + 1) k (A ++ B) ++ tellV T c k = vers (c + ((A.length + 1 : Nat) : Int)) k B ++ (vers (c + 1) k A ++ tellV T c k)
    rw [vers_append k A B (c + 1), List.append_assoc, show c + 1 + (A.length : Int) = c + ((A.length + 1 : Nat) : Int) by omega]
theorem vers_shift (k s : Int) : ∀ (Ts : List Tl) (c : Int), (vers c k Ts).map (fun v => (v.1 + s, v.2)) = vers (c + s) k Ts
  | [], _ => rfl
  | T :: Ts, c => by
    show (vers (c + 1) k Ts ++ tellV T c k).map _ = vers (c + s + 1) k Ts ++ tellV T (c + s) k
    rw [List.map_append, vers_shift k s Ts (c + 1), show c + 1 + s = c + s + 1 by omega]
    unfold tellV
    rw [List.map_map]
    rfl
theorem kp_short {P : List Int} {vs : Vs} (h : vs.length ≤ 1) : kp P none vs = vs := by
  match vs, h with
  | [], _ => rfl
  | [v], _ => rfl
/-! the layer of one day -/
def segD (a b : Rw) : Prop := (a.2.1 < b.1 ∨ b.2.1 < a.1) ∧ ¬ (a.2.1 + 1 = b.1 ∧ a.2.2 = b.2.2 ∧ goneV a.2.2 = true) ∧ ¬ (b.2.1 + 1 = a.1 ∧ b.2.2 = a.2.2 ∧ goneV b.2.2 = true)
theorem segD_symm {a b : Rw} (h : segD a b) : segD b a := ⟨h.1.symm, h.2.2, h.2.1⟩
theorem gone_leaf {z : Tx} {d : Int} : goneV [(d, some z)] = false := rfl
theorem lay_math {ls ls' : List (Int × V)} {ms : List Int} {rs gs : List Iv} {S : List Seg} {d : Int} (nd : (keysL ls).Nodup) (ok : ∀ q ∈ ls, valB q.2 = true) (pm : ls'.Perm ls) (so : (keysL ls').Pairwise (· < ·)) (cn : Canon gs)
    (cov : ∀ k, inR gs k ↔ (k ∈ ms ∨ inR rs k) ∧ k ∉ keysL ls) (ps : S.Perm (segsOf ls' gs)) (pw : S.Pairwise fun a b => a.1 ≤ b.1) (kl : ∀ q ∈ ls, 0 ≤ q.1 ∧ q.1 ≤ 11) (km : ∀ m ∈ ms, 0 ≤ m ∧ m ≤ 11) (kr : ∀ r ∈ rs, 0 ≤ r.1 ∧ r.2 ≤ 11) (hd : 1 ≤ d) :
    LyOk 11 d d (S.map (laySeg d)) ∧ ∀ k, atR (S.map (laySeg d)) k = tellV (ls, ms, rs) d k := by
  have keys' : ∀ k, k ∈ keysL ls' ↔ k ∈ keysL ls := fun k => (pm.map _).mem_iff
  have cases' : ∀ g ∈ S, (∃ q ∈ ls', g = leafS q) ∨ ∃ r ∈ gs, g = goneS r := by
    intro g hg
    rcases List.mem_append.mp (ps.mem_iff.mp hg) with h | h
    · obtain ⟨q, hq, rfl⟩ := List.mem_map.mp h
      exact .inl ⟨q, hq, rfl⟩
    · obtain ⟨q, hq, rfl⟩ := List.mem_map.mp h
      exact .inr ⟨q, hq, rfl⟩
  have okL : ∀ q ∈ ls', ∃ z : Tx, txO q.2 = some z := fun q hq => by
    obtain ⟨z, e, _⟩ := txO_val (ok q (pm.mem_iff.mp hq))
    exact ⟨z, e⟩
  have rowok : ∀ g ∈ S, RowOk (laySeg d g) := by
    intro g hg
    rcases cases' g hg with ⟨q, hq, rfl⟩ | ⟨r, hr, rfl⟩
    · exact ⟨Int.le_refl _, by simp [laySeg], fun _ => rfl⟩
    · exact ⟨cn.1 r hr, by simp [laySeg], fun h => by cases h⟩
  have dis : ∀ r ∈ gs, ∀ k, k ∈ keysL ls' → ¬ (r.1 ≤ k ∧ k ≤ r.2) := fun r hr k hk h => ((cov k).mp ⟨r, hr, h⟩).2 ((keys' k).mp hk)
  have pd : ((segsOf ls' gs).map (laySeg d)).Pairwise segD := by
    unfold segsOf
    rw [List.map_append, List.pairwise_append]
    refine ⟨?_, ?_, ?_⟩
    · rw [List.map_map]
      unfold keysL at so
      rw [List.pairwise_map] at so ⊢
      refine List.Pairwise.imp_of_mem (fun {a b} ha hb h => ?_) so
      obtain ⟨z, ez⟩ := okL a ha
      obtain ⟨y, ey⟩ := okL b hb
      refine ⟨.inl h, fun ⟨_, _, g⟩ => ?_, fun ⟨_, _, g⟩ => ?_⟩
      · have g : goneV [(d, txO a.2)] = true := g
        rw [ez] at g
        cases g
      · have g : goneV [(d, txO b.2)] = true := g
        rw [ey] at g
        cases g
    · rw [List.map_map, List.pairwise_map]
      refine List.Pairwise.imp_of_mem (fun {a b} ha hb h => ?_) cn.2
      have := cn.1 a ha
      have := cn.1 b hb
      exact ⟨.inl (show a.2 < b.1 by omega), fun ⟨e, _⟩ => (by have e : a.2 + 1 = b.1 := e; omega), fun ⟨e, _⟩ => (by have e : b.2 + 1 = a.1 := e; omega)⟩
    · intro x hx y hy
      obtain ⟨g, hg, rfl⟩ := List.mem_map.mp hx
      obtain ⟨q, hq, rfl⟩ := List.mem_map.mp hg
      obtain ⟨g2, hg2, rfl⟩ := List.mem_map.mp hy
      obtain ⟨r, hr, rfl⟩ := List.mem_map.mp hg2
      obtain ⟨z, ez⟩ := okL q hq
      have hk : q.1 ∈ keysL ls' := List.mem_map.mpr ⟨q, hq, rfl⟩
      have := dis r hr q.1 hk
      have := cn.1 r hr
      refine ⟨?_, fun ⟨_, e, _⟩ => ?_, fun ⟨_, e, _⟩ => ?_⟩
      · show q.1 < r.1 ∨ r.2 < q.1
        omega
      · have e : [(d, txO q.2)] = [(d, (none : Option Tx))] := e
        rw [ez] at e
        cases e
      · have e : [(d, (none : Option Tx))] = [(d, txO q.2)] := e
        rw [ez] at e
        cases e
  have pS : (S.map (laySeg d)).Pairwise segD := (ps.map (laySeg d)).pairwise_iff (fun h => segD_symm h) |>.mpr pd
  have tidy : Tidy (S.map (laySeg d)) := by
    refine ⟨fun r hr => ?_, ?_⟩
    · obtain ⟨g, hg, rfl⟩ := List.mem_map.mp hr
      exact rowok g hg
    · have both := List.Pairwise.and ((List.pairwise_map (R := fun a b : Rw => a.1 ≤ b.1) (f := laySeg d)).mpr pw) pS
      refine List.Pairwise.imp_of_mem (fun {a b} ha hb h => ?_) both
      obtain ⟨h1, h2, h3, h4⟩ := h
      obtain ⟨ga, hga, rfl⟩ := List.mem_map.mp ha
      obtain ⟨gb, hgb, rfl⟩ := List.mem_map.mp hb
      have oa := (rowok ga hga).1
      have ob := (rowok gb hgb).1
      exact ⟨by omega, h3⟩
  have mem : ∀ g ∈ segsOf ls' gs, laySeg d g ∈ S.map (laySeg d) := fun g hg => List.mem_map.mpr ⟨g, ps.mem_iff.mpr hg, rfl⟩
  refine ⟨⟨tidy, fun r hr => ?_, fun r hr => ?_, hd, Int.le_refl _⟩, fun k => ?_⟩
  · obtain ⟨g, hg, rfl⟩ := List.mem_map.mp hr
    rcases cases' g hg with ⟨q, hq, rfl⟩ | ⟨r2, hr2, rfl⟩
    · exact kl q (pm.mem_iff.mp hq)
    · have c := cn.1 r2 hr2
      have a1 := (cov r2.1).mp ⟨r2, hr2, Int.le_refl _, c⟩
      have a2 := (cov r2.2).mp ⟨r2, hr2, c, Int.le_refl _⟩
      have lo : ∀ k, k ∈ ms ∨ inR rs k → 0 ≤ k ∧ k ≤ 11 := by
        intro k h
        rcases h with h | ⟨x, hx, h1, h2⟩
        · exact km k h
        · have := kr x hx
          omega
      exact ⟨(lo _ a1.1).1, (lo _ a2.1).2⟩
  · obtain ⟨g, hg, rfl⟩ := List.mem_map.mp hr
    exact ⟨List.pairwise_singleton _ _, fun v hv => by rw [List.mem_singleton.mp hv]; exact ⟨Int.le_refl _, Int.le_refl _⟩⟩
  · have low : ∀ r ∈ S.map (laySeg d), r.1 ≤ r.2.1 := fun r hr => (tidy.1 r hr).1
    unfold tellV tellT tellL
    by_cases c : k ∈ keysL ls
    · rw [if_pos c]
      have hv := valO_mem nd c
      have hm := mem (leafS (k, valO ls k)) (List.mem_append_left _ (List.mem_map.mpr ⟨_, pm.mem_iff.mpr hv, rfl⟩))
      rw [at_mem tidy.asc low (k := k) hm ⟨Int.le_refl k, Int.le_refl k⟩]
      rfl
    · rw [if_neg c]
      by_cases c2 : tellB ms rs k = true
      · rw [if_pos c2]
        have : k ∈ ms ∨ inR rs k := by
          unfold tellB at c2
          rw [Bool.or_eq_true, decide_eq_true_iff, inRB_iff] at c2
          exact c2
        obtain ⟨r, hr, h⟩ := (cov k).mpr ⟨this, c⟩
        have hm := mem (goneS r) (List.mem_append_right _ (List.mem_map.mpr ⟨r, hr, rfl⟩))
        rw [at_mem tidy.asc low hm h]
        rfl
      · rw [if_neg c2]
        refine at_no fun r hr h => ?_
        obtain ⟨g, hg, rfl⟩ := List.mem_map.mp hr
        rcases cases' g hg with ⟨q, hq, rfl⟩ | ⟨r2, hr2, rfl⟩
        · have e : q.1 = k := by
            have h : q.1 ≤ k ∧ k ≤ q.1 := h
            omega
          exact c ((keys' k).mp (List.mem_map.mpr ⟨q, hq, e⟩))
        · have := (cov k).mp ⟨r2, hr2, h⟩
          refine c2 ?_
          unfold tellB
          rw [Bool.or_eq_true, decide_eq_true_iff, inRB_iff]
          exact this.1
/-! stacks of layers -/
/-- the layer of the sheets p, .. p + q - 1 -/
structure LayV (P : List Int) (Ts : List Tl) (fi : Int) (p q : Nat) (L : Lay) : Prop where
  f : L.1 = fi + p
  l : L.2.1 = fi + p + q - 1
  ok : LyOk 11 L.1 L.2.1 L.2.2
  at_ : ∀ k, atR L.2.2 k = kp P none (vers (fi + p) k ((Ts.drop p).take q))
def Stk (P : List Int) (Ts : List Tl) (fi : Int) : Nat → List Lay → Prop
  | top, [] => top = 0
  | top, L :: r => ∃ p q, 1 ≤ q ∧ p + q = top ∧ LayV P Ts fi p q L ∧ Stk P Ts fi p r
theorem stk_zero {P : List Int} {Ts : List Tl} {fi : Int} {top : Nat} {Ls : List Lay} (h : Stk P Ts fi top Ls) (ht : 0 < top) : ∃ L0 L9, Ls.head? = some L0 ∧ Ls.getLast? = some L9 ∧ L9.1 = fi ∧ L0.2.1 = fi + top - 1 := by
  induction Ls generalizing top with
  | nil =>
    have h : top = 0 := h
    omega
  | cons L r ih =>
    obtain ⟨p, q, hq, hpq, lv, hr⟩ := h
    by_cases c : p = 0
    · cases r with
      | nil => exact ⟨L, L, rfl, rfl, by rw [lv.f, c]; show fi + ((0 : Nat) : Int) = fi; omega, by rw [lv.l]; omega⟩
      | cons M r =>
        obtain ⟨p', q', h1, h2, _⟩ := hr
        omega
    · obtain ⟨L0, L9, h1, h2, h3, h4⟩ := ih hr (by omega)
      refine ⟨L, L9, rfl, ?_, h3, by rw [lv.l]; omega⟩
      cases r with
      | nil => cases h1
      | cons M r => rw [List.getLast?_cons_cons]; exact h2
theorem stk_adj {P : List Int} {Ts : List Tl} {fi : Int} : ∀ {top : Nat} {Ls : List Lay}, Stk P Ts fi top Ls → Adj Ls
  | _, [], _ => fun i L M h => by cases h
  | _, [L], _ => fun i A B h1 h2 => by cases i <;> cases h2
  | top, L :: M :: r, h => by
    obtain ⟨p, q, hq, hpq, lv, hr⟩ := h
    have hr' := hr
    obtain ⟨p2, q2, hq2, hpq2, lv2, hr2⟩ := hr
    intro i A B h1 h2
    cases i with
    | zero =>
      cases h1
      cases h2
      rw [lv.f, lv2.l]
      omega
    | succ i => exact stk_adj hr' i A B h1 h2
theorem stk_len {P : List Int} {Ts : List Tl} {fi : Int} : ∀ {top : Nat} {Ls : List Lay}, Stk P Ts fi top Ls → Ls.length ≤ top
  | _, [], _ => Nat.zero_le _
  | top, L :: r, h => by
    obtain ⟨p, q, hq, hpq, lv, hr⟩ := h
    have := stk_len hr
    rw [List.length_cons]
    omega
theorem stk_mem {P : List Int} {Ts : List Tl} {fi : Int} : ∀ {top : Nat} {Ls : List Lay}, Stk P Ts fi top Ls → ∀ L ∈ Ls, ∃ p q, 1 ≤ q ∧ p + q ≤ top ∧ LayV P Ts fi p q L
  | _, [], _, L, h => by cases h
  | top, A :: r, h, L, hL => by
    obtain ⟨p, q, hq, hpq, lv, hr⟩ := h
    rcases List.mem_cons.mp hL with rfl | hL
    · exact ⟨p, q, hq, by omega, lv⟩
    · obtain ⟨p', q', h1, h2, h3⟩ := stk_mem hr L hL
      exact ⟨p', q', h1, by omega, h3⟩
theorem layv_days {P : List Int} {Ts : List Tl} {fi : Int} {p q : Nat} {L : Lay} (h : LayV P Ts fi p q L) (k : Int) : Desc (atR L.2.2 k) ∧ ∀ v ∈ atR L.2.2 k, L.1 ≤ v.1 ∧ v.1 ≤ L.2.1 :=
  at_days (P := fun t => Desc t ∧ ∀ v ∈ t, L.1 ≤ v.1 ∧ v.1 ≤ L.2.1) ⟨List.Pairwise.nil, fun v h => by cases h⟩ (fun r hr => h.ok.days r hr) k
theorem cat_cons (L : Lay) (r : List Lay) (k : Int) : catAt (rowsO (L :: r)) k = atR L.2.2 k ++ catAt (rowsO r) k := rfl
theorem stk_days {P : List Int} {Ts : List Tl} {fi : Int} {k : Int} : ∀ {top : Nat} {Ls : List Lay}, Stk P Ts fi top Ls → Desc (catAt (rowsO Ls) k) ∧ ∀ v ∈ catAt (rowsO Ls) k, fi ≤ v.1 ∧ v.1 ≤ fi + top - 1
  | _, [], _ => ⟨List.Pairwise.nil, fun v h => by cases h⟩
  | top, L :: r, h => by
    obtain ⟨p, q, hq, hpq, lv, hr⟩ := h
    obtain ⟨i1, i2⟩ := stk_days (k := k) hr
    obtain ⟨d1, d2⟩ := layv_days lv k
    have lf := lv.f
    have ll := lv.l
    rw [cat_cons]
    constructor
    · unfold Desc
      rw [List.pairwise_append]
      refine ⟨d1, i1, fun x hx y hy => ?_⟩
      have := d2 x hx
      have := i2 y hy
      omega
    · intro v hv
      rcases List.mem_append.mp hv with z | z
      · have := d2 v z
        omega
      · have := i2 v z
        omega
theorem stk_kp {P : List Int} {Ts : List Tl} {fi : Int} {k : Int} : ∀ {top : Nat} {Ls : List Lay}, Stk P Ts fi top Ls → top ≤ Ts.length → kp P none (catAt (rowsO Ls) k) = kp P none (vers fi k (Ts.take top))
  | top, [], h, _ => by
    have h : top = 0 := h
    subst h
    rfl
  | top, L :: r, h, ht => by
    have hs := stk_days (k := k) h
    obtain ⟨p, q, hq, hpq, lv, hr⟩ := h
    have ih := stk_kp (k := k) hr (by omega)
    rw [cat_cons] at hs ⊢
    have e : Ts.take top = Ts.take p ++ (Ts.drop p).take q := by rw [← hpq, List.take_add]
    have lp : (Ts.take p).length = p := by rw [List.length_take]; omega
    have dv : Desc (vers (fi + p) k ((Ts.drop p).take q) ++ vers fi k (Ts.take p)) := by
      have := vers_desc (k := k) (Ts := Ts.take p ++ (Ts.drop p).take q) (c := fi)
      rw [vers_append, lp] at this
      exact this
    have dpw := List.pairwise_append.mp dv
    have x1 : kp P none (atR L.2.2 k) = atR L.2.2 k := by
      rw [lv.at_ k]
      exact kp_idem dpw.1
    have j1 := kp_join (P := P) hs.1
    have j2 := kp_join (P := P) dv
    rw [x1, ih] at j1
    rw [← j1, lv.at_ k, j2, e, vers_append, lp]
theorem cat_len {P : List Int} {Ts : List Tl} {fi : Int} {k : Int} {top : Nat} {Ls : List Lay} (h : Stk P Ts fi top Ls) : (catAt (rowsO Ls) k).length ≤ top := by
  obtain ⟨h1, h2⟩ := stk_days (k := k) h
  have := desc_len (f := fi) (l := fi + top - 1) h1 h2 (by omega)
  omega
/-- what baking two neighbours gives -/
theorem stk_merge {P : List Int} {Ts : List Tl} {fi : Int} {A B C : Lay} (hC1 : C.1 = B.1) (hC2 : C.2.1 = A.2.1) (ht : Tidy C.2.2) (hk : ∀ r ∈ C.2.2, 0 ≤ r.1 ∧ r.2.1 ≤ 11) (hat : ∀ k, atR C.2.2 k = kp P none (atR A.2.2 k ++ atR B.2.2 k)) (hfi : 1 ≤ fi) :
    ∀ {pre : List Lay} {post : List Lay} {top : Nat}, top ≤ Ts.length → Stk P Ts fi top (pre ++ A :: B :: post) → Stk P Ts fi top (pre ++ C :: post)
  | [], post, top, htop, h => by
    obtain ⟨p, q, hq, hpq, lv, p2, q2, hq2, hpq2, lv2, hr⟩ := h
    have f1 := lv.f
    have l1 := lv.l
    have f2 := lv2.f
    have l2 := lv2.l
    have e : (Ts.drop p2).take (q2 + q) = (Ts.drop p2).take q2 ++ (Ts.drop p).take q := by
      rw [List.take_add, List.drop_drop, hpq2]
    have lq : ((Ts.drop p2).take q2).length = q2 := by rw [List.length_take, List.length_drop]; omega
    have hv : ∀ k, atR C.2.2 k = kp P none (vers (fi + p2) k ((Ts.drop p2).take (q2 + q))) := by
      intro k
      have dv := vers_desc (k := k) (Ts := (Ts.drop p2).take q2 ++ (Ts.drop p).take q) (c := fi + p2)
      rw [vers_append, lq] at dv
      have ep : fi + p2 + (q2 : Int) = fi + p := by omega
      rw [ep] at dv
      rw [hat k, lv.at_ k, lv2.at_ k, e, vers_append, lq, ep, kp_join dv]
    have days : ∀ k, Desc (atR C.2.2 k) ∧ ∀ v ∈ atR C.2.2 k, C.1 ≤ v.1 ∧ v.1 ≤ C.2.1 := by
      intro k
      rw [hv k]
      refine ⟨Desc.sub kp_sub vers_desc, fun v hvv => ?_⟩
      have := vers_days (kp_sub.subset hvv)
      have l3 : ((Ts.drop p2).take (q2 + q)).length = q2 + q := by rw [List.length_take, List.length_drop]; omega
      rw [l3] at this
      rw [hC1, hC2]
      omega
    refine ⟨p2, q2 + q, by omega, by omega, ⟨by rw [hC1, f2], by rw [hC2, l1]; omega, ⟨ht, hk, fun r hr => ?_, by rw [hC1, hC2]; omega⟩, hv⟩, hr⟩
    have := days r.1
    rw [at_mem ht.asc (fun x hx => (ht.1 x hx).1) hr ⟨Int.le_refl _, (ht.1 r hr).1⟩] at this
    exact this
  | L :: pre, post, top, htop, h => by
    obtain ⟨p, q, hq, hpq, lv, hr⟩ := h
    exact ⟨p, q, hq, hpq, lv, stk_merge hC1 hC2 ht hk hat hfi (by omega) hr⟩
/-! what lies in a layer -/
theorem hasB_iff {rs : List Rw} (t : Tidy rs) (k : Int) : hasB rs k = true ↔ (∃ r ∈ rs, r.1 ≤ k) ∧ ∃ s ∈ rs, k ≤ s.2.1 := by
  cases rs with
  | nil => exact ⟨(fun h => by cases h), (fun ⟨⟨r, h, _⟩, _⟩ => by cases h)⟩
  | cons r rs =>
    obtain ⟨g, s, hs⟩ : ∃ g s, r :: rs = g ++ [s] := by
      rcases List.eq_nil_or_concat (r :: rs) with z | ⟨g, s, z⟩
      · cases z
      · exact ⟨g, s, by rw [z, List.concat_eq_append]⟩
    rw [hasB_at (r := r) (s := s) rfl (by rw [hs]; simp), Bool.and_eq_true, decide_eq_true_iff, decide_eq_true_iff]
    have lo : ∀ x ∈ r :: rs, r.1 ≤ x.1 := by
      intro x hx
      rcases List.mem_cons.mp hx with rfl | hx
      · exact Int.le_refl _
      · have := (List.pairwise_cons.mp t.2).1 x hx
        have := (t.1 r List.mem_cons_self).1
        have := this
        unfold Silt.Apart at *
        omega
    have hi : ∀ x ∈ r :: rs, x.2.1 ≤ s.2.1 := by
      intro x hx
      have t2 := t.2
      rw [hs] at hx t2
      rcases List.mem_append.mp hx with z | z
      · have a := (List.pairwise_append.mp t2).2.2 x z s (by simp)
        have := (t.1 s (by rw [hs]; simp)).1
        unfold Silt.Apart at a
        omega
      · rw [List.mem_singleton.mp z]
        exact Int.le_refl _
    constructor
    · rintro ⟨h1, h2⟩
      exact ⟨⟨r, List.mem_cons_self, h1⟩, s, by rw [hs]; simp, h2⟩
    · rintro ⟨⟨x, hx, h1⟩, y, hy, h2⟩
      have := lo x hx
      have := hi y hy
      omega
/-- the keys that are told of -/
def toldK (rs : List Rw) (n : Nat) : List Int := ((List.range n).map (fun i : Nat => (i : Int))).filter fun k => decide (atR rs k ≠ [])
theorem told_mem {rs : List Rw} {n : Nat} {k : Int} : k ∈ toldK rs n ↔ (0 ≤ k ∧ k < n) ∧ atR rs k ≠ [] := by
  unfold toldK
  rw [List.mem_filter, decide_eq_true_iff, List.mem_map]
  constructor
  · rintro ⟨⟨i, hi, rfl⟩, h⟩
    have := List.mem_range.mp hi
    exact ⟨⟨by omega, by omega⟩, h⟩
  · rintro ⟨⟨h0, h1⟩, h⟩
    exact ⟨⟨k.toNat, List.mem_range.mpr (by omega), by omega⟩, h⟩
theorem told_asc {rs : List Rw} {n : Nat} : (toldK rs n).Pairwise (· < ·) := by
  unfold toldK
  refine List.Pairwise.sublist List.filter_sublist ?_
  rw [List.pairwise_map]
  exact List.pairwise_lt_range.imp fun h => by omega
theorem told_has {rs : List Rw} {n : Nat} (t : Tidy rs) (hk : ∀ r ∈ rs, 0 ≤ r.1 ∧ r.2.1 < n) (k : Int) : hasB rs k = true ↔ (∃ i ∈ toldK rs n, i ≤ k) ∧ ∃ i ∈ toldK rs n, k ≤ i := by
  rw [hasB_iff t]
  have low : ∀ r ∈ rs, r.1 ≤ r.2.1 := fun r hr => (t.1 r hr).1
  constructor
  · rintro ⟨⟨r, hr, h1⟩, s, hs, h2⟩
    have kr := hk r hr
    have ks := hk s hs
    have lr := low r hr
    have lsx := low s hs
    refine ⟨⟨r.1, told_mem.mpr ⟨by omega, ?_⟩, h1⟩, s.2.1, told_mem.mpr ⟨by omega, ?_⟩, h2⟩
    · rw [at_mem t.asc low hr ⟨Int.le_refl _, lr⟩]
      exact (t.1 r hr).2.1
    · rw [at_mem t.asc low hs ⟨lsx, Int.le_refl _⟩]
      exact (t.1 s hs).2.1
  · rintro ⟨⟨i, hi, h1⟩, j, hj, h2⟩
    obtain ⟨r, hr, a, _⟩ := at_some (told_mem.mp hi).2
    obtain ⟨s, hs, b, _⟩ := at_some (told_mem.mp hj).2
    unfold hasK at a b
    exact ⟨⟨r, hr, by omega⟩, s, hs, by omega⟩
end Sl

set_option Elab.async false
set_option linter.all false
set_option maxRecDepth 100000
set_option maxHeartbeats 8000000
set_option exponentiation.threshold 9000
namespace Sl
open PySem L2 C8 StX Silt LiI RT
/-! layers of one day, stacks that can be baked -/
structure TBnd (T : Tl) : Prop where
  ll : T.1.length ≤ 3
  okl : ∀ q ∈ T.1, 0 ≤ q.1 ∧ q.1 ≤ 11 ∧ valB q.2 = true
  lm : T.2.1.length ≤ 2
  okm : ∀ m ∈ T.2.1, 0 ≤ m ∧ m ≤ 11 ∧ m ∉ keysL T.1
  lr : T.2.2.length ≤ 2
  okr : ∀ r ∈ T.2.2, 0 ≤ r.1 ∧ r.1 ≤ r.2 ∧ r.2 ≤ 11
structure OneV (T : Tl) (d : Int) (L : Lay) : Prop where
  f : L.1 = d
  l : L.2.1 = d
  ok : LyOk 11 d d L.2.2
  at_ : ∀ k, atR L.2.2 k = tellV T d k
theorem take_one {α : Type} {l : List α} {i : Nat} {x : α} (h : l[i]? = some x) : (l.drop i).take 1 = [x] := by
  obtain ⟨hi, e⟩ := List.getElem?_eq_some_iff.mp h
  rw [List.drop_eq_getElem_cons hi, e]
  rfl
theorem one_layv {P : List Int} {Ts : List Tl} {fi : Int} {p : Nat} {T : Tl} {L : Lay} (hT : Ts[p]? = some T) (h : OneV T (fi + (p : Nat)) L) : LayV P Ts fi p 1 L := by
  refine ⟨h.f, by rw [h.l]; omega, by rw [h.f, h.l]; exact h.ok, fun k => ?_⟩
  rw [take_one hT, h.at_ k]
  exact (kp_short (vs := vers (fi + (p : Nat)) k [T]) (by
    show (vers (fi + (p : Nat) + 1) k [] ++ tellV T (fi + (p : Nat)) k).length ≤ 1
    exact tellV_len T _ k)).symm
theorem stk_one {P : List Int} {Ts : List Tl} {fi : Int} : ∀ (n : Nat) {Rs : List Lay}, Rs.length = n → (∀ (i : Nat) L, Rs[i]? = some L → ∃ T, Ts[i]? = some T ∧ OneV T (fi + (i : Nat)) L) → Stk P Ts fi n Rs.reverse
  | 0, Rs, h, _ => by
    rw [List.length_eq_zero_iff.mp h]
    exact rfl
  | n + 1, Rs, h, g => by
    rcases List.eq_nil_or_concat Rs with rfl | ⟨A, L, rfl⟩
    · cases h
    · rw [List.concat_eq_append] at h g ⊢
      have hA : A.length = n := by simpa using h
      rw [List.reverse_append]
      obtain ⟨T, hT, o⟩ := g n L (by rw [List.getElem?_append_right (by omega), hA]; simp)
      show Stk P Ts fi (n + 1) (L :: A.reverse)
      refine ⟨n, 1, Nat.le_refl _, rfl, one_layv hT o, stk_one n hA fun i M hM => g i M ?_⟩
      rw [List.getElem?_append_left (List.getElem?_eq_some_iff.mp hM).1]
      exact hM
theorem stk_bake {P : List Int} {b : Bool} {Ts : List Tl} {fi : Int} {Ls : List Lay} (h : Stk P Ts fi Ts.length Ls) (k : Int) : keptF P b (catAt (rowsO Ls) k) = keptF P b (vers fi k Ts) := by
  unfold keptF
  rw [stk_kp h (Nat.le_refl _), List.take_length]
def BakeOk (Ls : List Lay) : Prop := Adj Ls ∧ (∀ L ∈ Ls, Tidy L.2.2 ∧ ∀ r ∈ L.2.2, 0 ≤ r.1 ∧ r.2.1 ≤ 11) ∧ Ls.length ≤ 1000 ∧ ∀ k, (catAt (rowsO Ls) k).length ≤ 1000
theorem stk_bok {P : List Int} {Ts : List Tl} {fi : Int} {top : Nat} {Ls : List Lay} (h : Stk P Ts fi top Ls) (ht : top ≤ 1000) : BakeOk Ls := by
  refine ⟨stk_adj h, fun L hL => ?_, Nat.le_trans (stk_len h) ht, fun k => Nat.le_trans (cat_len h) ht⟩
  obtain ⟨p, q, _, _, lv⟩ := stk_mem h L hL
  exact ⟨lv.ok.tidy, lv.ok.keys⟩
theorem bok_mid {A M B : List Lay} (h : BakeOk (A ++ (M ++ B))) : BakeOk M := by
  obtain ⟨h1, h2, h3, h4⟩ := h
  refine ⟨fun i L N hL hN => h1 (A.length + i) L N ?_ ?_, fun L hL => h2 L (by simp [hL]), by rw [List.length_append, List.length_append] at h3; omega, fun k => ?_⟩
  · rw [List.getElem?_append_right (by omega), Nat.add_sub_cancel_left, List.getElem?_append_left (List.getElem?_eq_some_iff.mp hL).1]
    exact hL
  · rw [List.getElem?_append_right (by omega), show A.length + i + 1 - A.length = i + 1 by omega, List.getElem?_append_left (List.getElem?_eq_some_iff.mp hN).1]
    exact hN
  · have := h4 k
    unfold catAt rowsO at this ⊢
    rw [List.map_append, List.map_append, List.flatMap_append, List.flatMap_append, List.length_append, List.length_append] at this
    omega
theorem ItP.rev {β : Type} {R : Hp → V → β → Prop} {H : Hp} : ∀ {xs : List V} {ys : List β}, ItP R H xs ys → ItP R H xs.reverse ys.reverse
  | [], [], _ => .nil
  | [], _ :: _, h => by cases h.1
  | _ :: _, [], h => by cases h.1
  | x :: xs, y :: ys, h => by
    rw [List.reverse_cons, List.reverse_cons]
    exact (ItP.rev (xs := xs) (ys := ys) (h.drop 1)).snoc (h.2 0 x y rfl rfl)
theorem sp_bake {K : PySem.W.Frag} {C : Addr} {H : Hp} {Q : VK} {E : XK} {a p : Addr} {b : Bool} {xs : List V} {Ls : List Lay} {L0 L9 : Lay} {pins : List Int} (e : SeqP H a xs) (ix : ItP (LayP C) H xs Ls) (ok : BakeOk Ls) (h0 : Ls.head? = some L0) (h9 : Ls.getLast? = some L9) (ep : SqQ K H p (pins.map V.int)) (lp : pins.length ≤ 2) (p0 : ∀ q ∈ pins, 0 ≤ q)
    (k : ∀ H' y rs, Same H H' → H y = none → LyP C H' y L9.1 L0.2.1 rs → Tidy rs → (∀ k, atR rs k = keptF pins b (catAt (rowsO Ls) k)) → (∀ r ∈ rs, 0 ≤ r.1 ∧ r.2.1 ≤ 11) → Q (.ref y) H') : spBake K C [.ref a, .ref p, .bl b] H Q E :=
  ⟨a, p, b, xs, Ls, L0, L9, pins, 11, rfl, e, ix, ok.1, ⟨h0, h9⟩, ep, by omega, p0, ok.2.1, by decide, ok.2.2.1, ok.2.2.2, k⟩
/-- the versions of the newest day alone -/
theorem vers_top {Ts : List Tl} {T : Tl} {fi k : Int} : (vers fi k (Ts ++ [T])).filter (fun v => decide (v.1 = fi + (Ts.length : Nat))) = tellV T (fi + (Ts.length : Nat)) k := by
  rw [vers_snoc, List.filter_append, List.filter_eq_self.mpr (fun v hv => by rw [tell_days hv]; exact decide_eq_true rfl), List.filter_eq_nil_iff.mpr (fun v hv => by
    have := vers_days hv
    rw [decide_eq_true_iff]
    omega), List.append_nil]
/-- what is found by a bake of all -/
structure Fnd (P : List Int) (b : Bool) (Ts : List Tl) (fi : Int) (rs : List Rw) : Prop where
  tidy : Tidy rs
  at_ : ∀ k, atR rs k = keptF P b (vers fi k Ts)
  keys : ∀ r ∈ rs, 0 ≤ r.1 ∧ r.2.1 ≤ 11
theorem Fnd.uniq {P : List Int} {b : Bool} {Ts : List Tl} {fi : Int} {rs ss : List Rw} (h : Fnd P b Ts fi rs) (g : Fnd P b Ts fi ss) : rs = ss := tidy_uniq h.tidy g.tidy fun k => by rw [h.at_, g.at_]
theorem Fnd.len {P : List Int} {b : Bool} {Ts : List Tl} {fi : Int} {rs : List Rw} (h : Fnd P b Ts fi rs) : rs.length ≤ 12 := by
  have := asc_len (lo := 0) (m := 11) h.tidy.asc (fun r hr => (h.tidy.1 r hr).1) (fun r hr => h.keys r hr) (by decide)
  omega
theorem Fnd.lenT {P : List Int} {b : Bool} {Ts : List Tl} {fi : Int} {rs : List Rw} (h : Fnd P b Ts fi rs) {r : Rw} (hr : r ∈ rs) : r.2.2.length ≤ Ts.length := by
  have e := at_mem h.tidy.asc (fun x hx => (h.tidy.1 x hx).1) hr (k := r.1) ⟨Int.le_refl _, (h.tidy.1 r hr).1⟩
  rw [← e, h.at_]
  exact Nat.le_trans keptF_sub.length_le (vers_len _ _ _)
theorem Fnd.bok {P : List Int} {b : Bool} {Ts : List Tl} {fi f l : Int} {rs : List Rw} (h : Fnd P b Ts fi rs) (ht : Ts.length ≤ 1000) : BakeOk [(f, l, rs)] := by
  refine ⟨(fun i L M h1 h2 => by cases i <;> cases h2), (fun L hL => by rw [List.mem_singleton.mp hL]; exact ⟨h.tidy, h.keys⟩), by simp, fun k => ?_⟩
  show (atR rs k ++ []).length ≤ 1000
  rw [List.append_nil, h.at_]
  exact Nat.le_trans keptF_sub.length_le (Nat.le_trans (vers_len _ _ _) ht)
theorem Fnd.again {P : List Int} {b : Bool} {Ts : List Tl} {fi f l : Int} {rs : List Rw} (h : Fnd P b Ts fi rs) (k : Int) : keptF P b (catAt (rowsO [(f, l, rs)]) k) = keptF P b (vers fi k Ts) := by
  show keptF P b (atR rs k ++ []) = _
  rw [List.append_nil, h.at_, kept_again vers_desc]
/-! the heap without an address (a list that is being made) -/
def remH (H : Hp) (W : Addr) : Hp := fun b => if b = W then none else H b
theorem rem_get {H : Hp} {W b : Addr} {o : HO} (n : b ≠ W) (e : H b = some o) : remH H W b = some o := (if_neg n).trans e
theorem rem_same {H : Hp} {W : Addr} : Same (remH H W) H := fun b o e => by
  unfold remH at e
  split at e
  · cases e
  · exact e
theorem rem_mono {H H' : Hp} {W : Addr} (s : Same H H') : Same (remH H W) (remH H' W) := fun b o e => by
  unfold remH at e ⊢
  split at e
  · cases e
  · rename_i c
    rw [if_neg c]
    exact s _ _ e
theorem rem_upd {H : Hp} {W : Addr} {o : HO} : remH (upd H W o) W = remH H W := by
  funext b
  unfold remH
  by_cases c : b = W
  · rw [if_pos c, if_pos c]
  · rw [if_neg c, if_neg c, upd_ne c]
theorem cutN_mid {xs : List V} {m j : Nat} (h : m + j ≤ xs.length) : cutV xs (some (m : Int)) (some ((m + j : Nat) : Int)) = (xs.drop m).take j := by
  unfold cutV
  have e1 : HT.sIx xs.length 0 (some (m : Int)) = m := by
    show (if (m : Int) < 0 then ((m : Int) + xs.length).toNat else min (m : Int).toNat xs.length) = _
    rw [if_neg (by omega)]
    simp
    omega
  have e2 : HT.sIx xs.length xs.length (some ((m + j : Nat) : Int)) = m + j := by
    show (if ((m + j : Nat) : Int) < 0 then (((m + j : Nat) : Int) + xs.length).toNat else min ((m + j : Nat) : Int).toNat xs.length) = _
    rw [if_neg (by omega), Int.toNat_natCast]
    omega
  rw [e1, e2, Nat.add_sub_cancel_left]
theorem eqv_int2 {a b c d : Int} : PyData.eqv (.tuple [.int a, .int b]) (.tuple [.int c, .int d]) = decide (a = c ∧ b = d) := by
  rw [Bool.eq_iff_iff]
  simp [PyData.eqv, PyData.eqvAll]
theorem shaped_int2 {a b : Int} : SeqAt.shaped (.tuple [.int a, .int b]) = true := by
  simp [SeqAt.shaped, PyData.canLay0, PyData.canLayAll0, PyData.depth, PyData.depthAll]
theorem dtInts {H : Hp} : ∀ l : List Int, DtAll H (l.map V.int) (l.map PyData.int)
  | [] => .nil
  | a :: l => .cons (.int a) (dtInts l)
theorem shapedInts (l : List Int) : SeqAt.shaped (.list (l.map PyData.int)) = true := (shn_lst (f := PyData.int) (n := 0) (fun a => ⟨by simp [PyData.canLay0], by simp [PyData.depth]⟩) l).sh (by decide)
theorem told_succ {rs : List Rw} {n : Nat} : toldK rs (n + 1) = toldK rs n ++ (if atR rs n = [] then [] else [(n : Int)]) := by
  unfold toldK
  rw [List.range_succ, List.map_append, List.filter_append]
  congr 1
  show List.filter _ [(n : Int)] = _
  rw [List.filter_cons]
  by_cases c : atR rs n = []
  · rw [if_pos c, if_neg (by simp [c])]
    rfl
  · rw [if_neg c, if_pos (by simp [c])]
    rfl
theorem told_len (rs : List Rw) : ∀ n : Nat, (toldK rs n).length ≤ n
  | 0 => Nat.le_refl _
  | n + 1 => by
    rw [told_succ, List.length_append]
    have := told_len rs n
    split <;> simp <;> omega
/-- what lies between the first key and the last one -/
theorem has_told {rs : List Rw} (t : Tidy rs) (hk : ∀ r ∈ rs, 0 ≤ r.1 ∧ r.2.1 ≤ 11) {l : List Int} (hl : toldK rs 14 = l) (k : Int) :
    (l = [] → hasB rs k = false) ∧ ∀ a b r g, l = a :: r → l = g ++ [b] → hasB rs k = (decide (a ≤ k) && decide (k ≤ b)) := by
  have h := told_has (n := 14) t (fun r hr => ⟨(hk r hr).1, by have := (hk r hr).2; omega⟩) k
  have asc := told_asc (rs := rs) (n := 14)
  rw [hl] at h asc
  constructor
  · rintro rfl
    rw [Bool.eq_false_iff]
    intro z
    obtain ⟨⟨i, hi, _⟩, _⟩ := h.mp z
    cases hi
  · rintro a b r g e1 e2
    rw [Bool.eq_iff_iff, h, Bool.and_eq_true, decide_eq_true_iff, decide_eq_true_iff]
    constructor
    · rintro ⟨⟨i, hi, h1⟩, j, hj, h2⟩
      constructor
      · rw [e1] at hi asc
        rcases List.mem_cons.mp hi with rfl | hi
        · exact h1
        · have := (List.pairwise_cons.mp asc).1 i hi
          omega
      · rw [e2] at hj asc
        rcases List.mem_append.mp hj with z | z
        · have := (List.pairwise_append.mp asc).2.2 j z b (by simp)
          omega
        · rw [List.mem_singleton.mp z] at h2
          exact h2
    · rintro ⟨h1, h2⟩
      exact ⟨⟨a, by rw [e1]; exact List.mem_cons_self, h1⟩, b, by rw [e2]; simp, h2⟩
theorem snoc_of_cons {α : Type} (a : α) (r : List α) : ∃ g b, a :: r = g ++ [b] := by
  rcases List.eq_nil_or_concat (a :: r) with h | ⟨g, b, h⟩
  · cases h
  · exact ⟨g, b, by rw [h, List.concat_eq_append]⟩
end Sl

set_option Elab.async false
set_option linter.all false
set_option maxRecDepth 100000
set_option maxHeartbeats 8000000
set_option exponentiation.threshold 9000
namespace Sl
open PySem L2 C8 StX Silt LiI RT
local macro_rules | `(tactic| walk_at "side") => `(tactic| first
  | exact cdivw (by omega) (by omega)
  | exact cmulw (by omega) (by omega) (by omega) (by omega)
  | exact Or.inr ⟨by omega, by omega⟩
  | exact Or.inl ⟨by omega, by omega⟩
  | omega
  | exact ⟨by omega, by omega, by decide⟩
  | decide)
local macro_rules | `(tactic| walk_at "rd1") => `(tactic| first
  | with_reducible refine rd_seq ?_
  | with_reducible refine rd_asg ?_
  | with_reducible refine rd_drop ?_
  | with_reducible refine rd_ret ?_
  | with_reducible refine rd_retN ?_
  | with_reducible refine rd_ifS ?_
  | ((with_reducible refine rd_var0 ?_); refine ⟨_, rfl, ?_⟩)
  | with_reducible refine rd_c ?_
  | with_reducible refine rd_op ?_
  | with_reducible refine rd_un ?_
  | with_reducible refine rd_I0 ?_
  | with_reducible refine rd_U ?_
  | ((with_reducible refine rd_I ?c ?_); (case c => walk_at "side"))
  | with_reducible refine rd_ipI ?_
  | with_reducible refine rd_eqI ?_
  | with_reducible refine rd_neI ?_
  | with_reducible refine rd_test ?_
  | with_reducible refine rd_tB ?_
  | with_reducible refine rd_bl ?_
  | with_reducible refine rd_not ?_
  | with_reducible refine rd_and ?_
  | with_reducible refine rd_or ?_
  | with_reducible refine rd_andV ?_
  | with_reducible refine rd_orV ?_
  | with_reducible refine rd_notV ?_
  | with_reducible refine rd_ifE ?_
  | with_reducible refine rd_chain ?_
  | with_reducible refine rd_chain3 ?_
  | with_reducible refine rd_nil ?_
  | with_reducible refine rd_cons ?_
  | with_reducible refine rd_call ?_
  | with_reducible refine rd_CB ?_
  | with_reducible refine rd_par ?_
  | with_reducible refine rd_par2 ?_
  | with_reducible refine rd_par3 ?_
  | with_reducible refine rd_par4 ?_
  | ((with_reducible refine rd_aug0 ?_); refine ⟨_, rfl, ?_⟩)
  | with_reducible refine rd_gname ?_
  | with_reducible refine rd_gcons ?_
  | with_reducible refine rd_gnil ?_
  | with_reducible refine rd_max ?_
  | with_reducible refine rd_min ?_
  | with_reducible refine rd_int1 ?_
  | with_reducible refine rd_abs ?_
  | with_reducible refine rd_lst ?_
  | with_reducible refine rd_tup ?_
  | with_reducible refine rd_bm ?_
  | with_reducible refine rd_fld0 ?_
  | with_reducible refine rd_sl0 ?_
  | with_reducible refine rd_noP ?_
  | with_reducible refine rd_part ?_
  | with_reducible refine rd_part2 ?_
  | with_reducible refine rd_meth0 ?_
  | with_reducible refine rd_star ?_
  | with_reducible refine rd_for ?_
  | with_reducible refine rd_rng1 ?_
  | with_reducible refine rd_rng2 ?_
  | with_reducible refine rd_rng3 ?_
  | with_reducible refine rd_iList ?_
  | with_reducible refine rd_iTup ?_
  | with_reducible refine rd_iEnum ?_
  | with_reducible refine rd_lc ?_
  | with_reducible refine rd_yes ?_
  | with_reducible refine rd_augS ?_
  | with_reducible refine rd_drawNew ?_
  | with_reducible refine rd_make0 ?_
  | with_reducible refine rd_next ?_
  | with_reducible refine rd_break ?_
  | with_reducible refine rd_cont ?_
  | with_reducible refine rd_iteTT ?_
  | with_reducible refine rd_iteFF ?_
  | with_reducible refine rd_iteNTT ?_
  | with_reducible refine rd_iteNFF ?_
  | with_reducible refine rd_con0 ?_
  | with_reducible refine rd_truO0 ?_
  | with_reducible refine rd_gfld0 ?_
  | with_reducible refine rd_dc ?_
  | with_reducible refine rd_iKeys ?_
  | with_reducible refine rd_dget0 ?_
  | with_reducible refine rd_dput0 ?_
  | with_reducible refine rd_dnot0 ?_
  | with_reducible refine rd_iEnumT ?_
  | with_reducible refine rd_raP0 ?_
  | with_reducible refine rd_xf0 ?_
  | with_reducible refine rd_cKw ?_
  | with_reducible refine rd_iStr ?_
  | with_reducible refine rd_gSub ?_
  | with_reducible refine rd_asgG ?_)
local macro_rules | `(tactic| walk_at "rd") => `(tactic| repeat walk_at "rd1")
local macro_rules | `(tactic| walk_at "len") => `(tactic| first
  | (intro vs H Q E h; obtain ⟨h2, _⟩ := h; rw [h2]; rfl)
  | (intro vs H Q E h; obtain ⟨_, h2, _⟩ := h; rw [h2]; rfl)
  | (intro vs H Q E h; obtain ⟨_, _, h2, _⟩ := h; rw [h2]; rfl)
  | (intro vs H Q E h; obtain ⟨_, _, _, h2, _⟩ := h; rw [h2]; rfl)
  | (intro vs H Q E h; obtain ⟨_, _, _, _, h2, _⟩ := h; rw [h2]; rfl)
  | (intro vs H Q E h; obtain ⟨_, _, _, _, _, h2, _⟩ := h; rw [h2]; rfl)
  | (intro vs H Q E h; obtain ⟨_, _, _, _, _, _, h2, _⟩ := h; rw [h2]; rfl)
  | (intro vs H Q E h; obtain ⟨_, _, _, _, _, _, _, h2, _⟩ := h; rw [h2]; rfl)
  | (intro vs H Q E h; obtain ⟨_, _, _, _, _, _, _, _, h2, _⟩ := h; rw [h2]; rfl)
  | (intro vs H Q E h; obtain ⟨_, _, _, _, _, _, _, _, _, h2, _⟩ := h; rw [h2]; rfl)
  | (intro vs H Q E h; obtain ⟨_, _, _, _, _, _, _, _, _, _, h2, _⟩ := h; rw [h2]; rfl)
  | (intro vs H Q E h; obtain ⟨_, _, _, _, _, _, _, _, _, _, _, h2, _⟩ := h; rw [h2]; rfl)
  | (intro vs H Q E h; obtain ⟨_, _, _, _, _, _, _, _, _, _, _, _, h2, _⟩ := h; rw [h2]; rfl))
local macro_rules | `(tactic| walk_at "rd1") => `(tactic| first
  | with_reducible refine rd_makeX ?_
  | with_reducible refine rd_methX0 ?_
  | with_reducible refine rd_callN ?_
  | with_reducible refine rd_callN1 ?_
  | with_reducible refine rd_lstRev0 ?_)
def spLaw (K : PySem.W.Frag) : Sp := fun vs H Q _ => ∃ (a : Addr) (ns : List Int), vs = [.ref a] ∧ SqL K H a (ns.map V.int) ∧ ns.length ≤ 63 ∧ ∀ H', Q (.bl true) H'
section
variable {P : Program} {w : World} {K : PySem.W.Frag} {mg : Str → Option Value} {base : Heap} {C_Sheet C_Layer C_Pointer C_BadSheet C_BadDay C_BadKey C_BadLayers D_Sheet_0 D_Sheet_1 : Addr}
theorem fn_law (T : TX P K mg C_Sheet C_Layer C_Pointer C_BadSheet C_BadDay C_BadKey C_BadLayers D_Sheet_0 D_Sheet_1) {f0 : Addr} {fd : FuncData} (D : C8.Def K mg "law" s_law f0 fd) : FnOk P w K mg base C8.CX0 7 f0 fd P_law (spLaw K) := by
  have G__law_draw := cal__law_draw (P := P) (w := w) (base := base) T
  have G__law_sheet := cal__law_sheet (P := P) (w := w) (base := base) T
  have G_Sheet_init := mak_Sheet_init (P := P) (w := w) (base := base) T
  have G_layer_of := cal_layer_of (P := P) (w := w) (base := base) T
  have G_bake_kw := cal_bake_kw (P := P) (w := w) (base := base) T
  have G__law_is_tidy := cal__law_is_tidy (P := P) (w := w) (base := base) T
  have G__law_versions := cal__law_versions (P := P) (w := w) (base := base) T
  have G_Layer_versions := met_Layer_versions (P := P) (w := w) (base := base) T
  have G__law_kept := cal__law_kept (P := P) (w := w) (base := base) T
  have G_Layer_has := met_Layer_has (P := P) (w := w) (base := base) T
  have G_bake_2 := cal_bake_2 (P := P) (w := w) (base := base) T
  have G_Layer_eq := met_Layer_eq (P := P) (w := w) (base := base) T
  have G__law_refused := cal__law_refused (P := P) (w := w) (base := base) T
  refine fn0 D.fn sc_law (by walk_at "len") (fun cdv A outer s H vs Q E hr h => ?_)
  obtain ⟨sc, ns, rfl, hsc, hns, k⟩ := h
  refine ⟨_, (pss_cons (ps_s 1 sc_law.nd (pe_op op_add pe_int (pe_c G__law_draw hr (by decide) rfl (pa_cons (pv 0) (pa_cons pe_int (pa_cons pe_int pa_nil))))))
      (pss_cons (ps_s 2 sc_law.nd (pe_op op_add pe_int (pe_c G__law_draw hr (by decide) rfl (pa_cons (pv 0) (pa_cons pe_int (pa_cons pe_int pa_nil))))))
      (pss_cut (ps_setLc (i := 3) (own := [("_law_turn", 4)]) (g := gName 4) (tt := tYes) rfl sc_law.nd rfl rfl (sw_true rfl rfl rfl (by decide +kernel)) (pi_range1 rfl T.b_range (pa_cons (pv 1) pa_nil)) (blkOk_by (own := [("_law_turn", 4)]) (N := N_law) (sc := fnScope s_law) (by decide +kernel)) (fun _ _ _ _ _ => (pg_n 4 sc_law.nd)) (fun _ _ _ _ _ => pts_nil) (fun _ _ _ _ _ => (pe_c G__law_sheet hr (by decide) rfl (pa_cons (pv 0) (pa_cons (pe_op op_add (pe_op op_mul pe_int (pv 4)) pe_int) (pa_cons pe_int pa_nil))))))
      (pss_cut (ps_setLc (i := 5) (own := [("_law_at", 6), ("_law_told", 7)]) (g := gTup _ 2 (gCons (gName 6) (gCons (gName 7) gNil))) (tt := tYes) rfl sc_law.nd rfl rfl (sw_true rfl rfl rfl (by decide +kernel)) (pi_enum (by rfl) T.b_enumerate (pa_cons (pv 3) pa_nil)) (blkOk_by (own := [("_law_at", 6), ("_law_told", 7)]) (N := N_law) (sc := fnScope s_law) (by decide +kernel)) (fun _ _ _ _ _ => (pg_tup rfl (pgs_cons (pg_n 6 sc_law.nd) (pgs_cons (pg_n 7 sc_law.nd) pgs_nil)))) (fun _ _ _ _ _ => pts_nil) (fun _ _ _ _ _ => (pe_c G_layer_of hr (by decide) rfl (pa_cons (pe_op op_add (pv 2) (pv 6)) (pa_cons (pe_mk G_Sheet_init hr (by decide) rfl (pa_cons (pe_ix (ixK rIxT K ix_tup) (pv 7) pe_int (fun _ _ => rfl)) (pa_cons (pe_ix (ixK rIxT K ix_tup) (pv 7) pe_int (fun _ _ => rfl)) (pa_cons (pe_ix (ixK rIxT K ix_tup) (pv 7) pe_int (fun _ _ => rfl)) pa_nil)))) pa_nil)))))
      (pss_cut (ps_s 5 sc_law.nd (pe_lstRev rfl rfl T.b_list rfl T.b_reversed (pe_callTy cr_lstOf (by rfl) T.b_list (by decide +kernel) (pa_cons (pv 5) pa_nil))))
      (pss_cut (ps_par (i := 8) (j := 9) rfl sc_law.nd rfl rfl (by decide) rfl rfl (pa_cons (pe_lc (own := [("_law_turn", 4)]) (g := gName 4) (tt := tYes) rfl sc_law.nd (pi_range1 rfl T.b_range (pa_cons (pe_c G__law_draw hr (by decide) rfl (pa_cons (pv 0) (pa_cons pe_int (pa_cons pe_int pa_nil)))) pa_nil)) (blkOk_by (own := [("_law_turn", 4)]) (N := N_law) (sc := fnScope s_law) (by decide +kernel)) (fun _ _ _ _ _ => (pg_n 4 sc_law.nd)) (fun _ _ _ _ _ => pts_nil) (fun _ _ _ _ _ => (pe_c G__law_draw hr (by decide) rfl (pa_cons (pv 0) (pa_cons (pe_op op_add pe_int (pv 4)) (pa_cons (pe_op op_add (pv 1) (pv 2)) pa_nil)))))) (pa_cons (pe_cmpR op_eq (pe_c G__law_draw hr (by decide) rfl (pa_cons (pv 0) (pa_cons pe_int (pa_cons pe_int pa_nil)))) pe_int (nomark _)) pa_nil)) (by rfl))
      (pss_cut (ps_s 10 sc_law.nd (pe_cN G_bake_kw hr (by decide) rfl (pa_cons (pv 5) (pa_cons (pe_callTy cr_tupOf (by rfl) T.b_tuple (by decide +kernel) (pa_cons (pv 8) pa_nil)) pa_nil)) (pk_cons (pv 9) pk_nil)))
      (pss_cut (ps_if (PW.pt (pw_or (pt_cmpR (op_neD hr.units) (pe_tup (pa_cons (pe_fld (pv 10) rfl) (pa_cons (pe_fld (pv 10) rfl) pa_nil))) (pe_tup (pa_cons (pv 2) (pa_cons (pe_op op_sub (pe_op op_add (pv 2) (pv 1)) pe_int) pa_nil))) (nomark _)) (pw_or1 (pt_not (pt_val (pe_c G__law_is_tidy hr (by decide) rfl (pa_cons (pe_fld (pv 10) rfl) pa_nil))))))) (pss_one (ps_ret pe_bl)) pss_nil)
      (pss_cut (ps_for PassesOwn.never rfl (pi_range1 rfl T.b_range (pa_cons pe_int pa_nil)) (pg_n 11 sc_law.nd) (pss_cons (ps_setLc (i := 12) (own := [("_law_day", 13), ("_law_value", 14)]) (g := gTup _ 2 (gCons (gName 13) (gCons (gName 14) gNil))) (tt := tYes) rfl sc_law.nd rfl rfl (sw_true rfl rfl rfl (by decide +kernel)) (pi_list (pe_c G__law_versions hr (by decide) rfl (pa_cons (pv 3) (pa_cons (pv 11) pa_nil)))) (blkOk_by (own := [("_law_day", 13), ("_law_value", 14)]) (N := N_law) (sc := fnScope s_law) (by decide +kernel)) (fun _ _ _ _ _ => (pg_tup rfl (pgs_cons (pg_n 13 sc_law.nd) (pgs_cons (pg_n 14 sc_law.nd) pgs_nil)))) (fun _ _ _ _ _ => pts_nil) (fun _ _ _ _ _ => (pe_tup (pa_cons (pe_op op_sub (pe_op op_add (pv 13) (pv 2)) pe_int) (pa_cons (pv 14) pa_nil)))))
      (pss_cons (ps_if (pt_cmpR (op_neD hr.units) (pe_mt G_Layer_versions hr (by decide) (pv 10) (pa_cons (pv 11) pa_nil)) (pe_c G__law_kept hr (by decide) rfl (pa_cons (pv 12) (pa_cons (pv 8) (pa_cons (pv 9) pa_nil)))) (nomark _)) (pss_one (ps_ret pe_bl)) pss_nil)
      (pss_one (ps_if (pt_cmpR (op_neD hr.units) (pe_mt G_Layer_versions hr (by decide) (pe_ix ix_list (pv 5) pe_int (fun _ _ => rfl)) (pa_cons (pv 11) pa_nil)) (pe_callTy cr_tupOf (by rfl) T.b_tuple (by decide +kernel) (pa_cons (pe_lc (own := [("_law_one", 15)]) (g := gName 15) (tt := _) rfl sc_law.nd (pi_list (pv 12)) (blkOk_by (own := [("_law_one", 15)]) (N := N_law) (sc := fnScope s_law) (by decide +kernel)) (fun _ _ _ _ _ => (pg_n 15 sc_law.nd)) (fun _ _ _ _ _ => (pts_one (pt_cmpR op_eq (pe_ix (ixK rIxT K ix_tup) (pv 15) pe_int (fun _ _ => rfl)) (pe_op op_sub (pe_op op_add (pv 2) (pv 1)) pe_int) (nomark _)))) (fun _ _ _ _ _ => (pv 15))) pa_nil)) (nomark _)) (pss_one (ps_ret pe_bl)) pss_nil)))))
      (pss_cut (ps_s 7 sc_law.nd (pe_lc (own := [("_law_key", 11)]) (g := gName 11) (tt := _) rfl sc_law.nd (pi_range1 rfl T.b_range (pa_cons pe_int pa_nil)) (blkOk_by (own := [("_law_key", 11)]) (N := N_law) (sc := fnScope s_law) (by decide +kernel)) (fun _ _ _ _ _ => (pg_n 11 sc_law.nd)) (fun _ _ _ _ _ => (pts_one (pt_cmpR (opK rNeD K (op_neD hr.units)) (pe_mt G_Layer_versions hr (by decide) (pv 10) (pa_cons (pv 11) pa_nil)) (pe_tup pa_nil) (nomark _)))) (fun _ _ _ _ _ => (pv 11))))
      (pss_cut (ps_if (pt_val (pe_callB (cr_any rfl) (by rfl) T.b_any (by decide +kernel) (pa_cons (pe_lc (own := [("_law_key", 11)]) (g := gName 11) (tt := tYes) rfl sc_law.nd (pi_range1 rfl T.b_range (pa_cons pe_int pa_nil)) (blkOk_by (own := [("_law_key", 11)]) (N := N_law) (sc := fnScope s_law) (by decide +kernel)) (fun _ _ _ _ _ => (pg_n 11 sc_law.nd)) (fun _ _ _ _ _ => pts_nil) (fun _ _ _ _ _ => (pe_cmpR op_ne (pe_mt G_Layer_has hr (by decide) (pv 10) (pa_cons (pv 11) pa_nil)) (pe_and (pe_cmpR (opK rNeD K (op_neD hr.units)) (pv 7) (pe_lst pa_nil) (nomark _)) (pe_one (pe_chain op_le op_le (pe_ix (ixK rIxL K ix_list) (pv 7) pe_int (fun _ _ => rfl)) (pv 11) (pe_ix (ixK rIxL K ix_list) (pv 7) (pe_un un_neg pe_int) (fun _ _ => rfl))))) (nomark _)))) pa_nil))) (pss_one (ps_ret pe_bl)) pss_nil)
      (pss_cut (ps_s 16 sc_law.nd (pe_callTy cr_lstOf (by rfl) T.b_list (by decide +kernel) (pa_cons (pv 5) pa_nil)))
      (pss_cut (ps_while PassesOwn.never (pt_cmpR op_gt (pe_callB cr_lenS (by rfl) T.b_len (by decide +kernel) (pa_cons (pv 16) pa_nil)) pe_int (nomark _)) (pss_cons (ps_s 6 sc_law.nd (pe_c G__law_draw hr (by decide) rfl (pa_cons (pv 0) (pa_cons (pe_op op_add pe_int (pe_callB cr_lenS (by rfl) T.b_len (by decide +kernel) (pa_cons (pv 16) pa_nil))) (pa_cons (pe_op op_sub (pe_callB cr_lenS (by rfl) T.b_len (by decide +kernel) (pa_cons (pv 16) pa_nil)) pe_int) pa_nil)))))
      (pss_one (ps_s 16 sc_law.nd (pe_op op_cat (pe_op op_cat (pe_slice sl_list (pv 16) po_none (po_some (pv 6))) (pe_lst (pa_cons (pe_c G_bake_2 hr (by decide) rfl (pa_cons (pe_slice sl_list (pv 16) (po_some (pv 6)) (po_some (pe_op op_add (pv 6) pe_int))) (pa_cons (pv 8) pa_nil))) pa_nil))) (pe_slice sl_list (pv 16) (po_some (pe_op op_add (pv 6) pe_int)) po_none))))))
      (pss_cut (ps_if (PW.pt (pw_or (pt_cmpR (op_neO G_Layer_eq hr (by decide) T.ic_Layer.hm T.ne_Layer) (pe_cN G_bake_kw hr (by decide) rfl (pa_cons (pv 16) (pa_cons (pv 8) pa_nil)) (pk_cons (pv 9) pk_nil)) (pv 10) (nomark _)) (pw_or (pt_cmpR (op_neO G_Layer_eq hr (by decide) T.ic_Layer.hm T.ne_Layer) (pe_cN G_bake_kw hr (by decide) rfl (pa_cons (pe_lst (pa_cons (pv 10) pa_nil)) (pa_cons (pv 8) pa_nil)) (pk_cons (pv 9) pk_nil)) (pv 10) (nomark _)) (pw_or1 (pt_cmpR (op_eqOI G_Layer_eq hr (by decide) sub_int) (pv 10) pe_int (nomark _)))))) (pss_one (ps_ret pe_bl)) pss_nil)
      (pss_cons (ps_if (pt_not (pt_val (pe_c G__law_refused hr (by decide) rfl (pa_cons (pv 5) (pa_cons (pv 1) (pa_cons (pv 10) pa_nil)))))) (pss_one (ps_ret pe_bl)) pss_nil)
      (pss_one (ps_ret pe_bl))))))))))))))))), ?_⟩
  walk_at "rd"
  refine ⟨sc, ns, _, _, rfl, hsc, hns, by omega, by omega, fun H1 n1 s1 n10 n11 => ?_⟩
  have hsc1 := L2.Same.seq s1 hsc
  walk_at "rd"
  refine ⟨sc, ns, _, _, rfl, hsc1, hns, by omega, by omega, fun H2 n2 s2 n20 n21 => ?_⟩
  have hsc2 := L2.Same.seq s2 hsc1
  obtain ⟨n, rfl⟩ : ∃ n : Nat, n1 = (n : Int) := ⟨n1.toNat, by omega⟩
  obtain ⟨fi, hfi⟩ : ∃ fi, fi = 1 + n2 := ⟨_, rfl⟩
  have hf : 1 ≤ fi ∧ fi ≤ 3 := by omega
  have hn : n ≤ 5 := by omega
  walk_at "rd"
  rw [← hfi]
  refine ⟨fun σ H' => ∃ S xs Ts, Same H2 H' ∧ H' S = some (.lst xs) ∧ ItP TolP H' xs Ts ∧ (∀ T ∈ Ts, TBnd T) ∧ Ts.length = n + 1 ∧ σ = [some (.ref sc), some (.int (1 + (n : Int))), some (.int fi), some (.ref S)] ++ List.replicate 13 none, ?_, ?_⟩
  · walk_at "rd"
    refine rd_rgR1 (by omega) (by omega) ?_
    rw [show (1 + (n : Int)).toNat = n + 1 by omega]
    refine lcR_rng (fun W i H' => Same H2 H' ∧ ∃ xs Ts, H' W = some (.lst xs) ∧ ItP TolP (remH H' W) xs Ts ∧ (∀ T ∈ Ts, TBnd T) ∧ Ts.length = i) (fun W H' _ s e _ => ⟨s, [], [], e, .nil, (fun T hT => by cases hT), rfl⟩) ?_ ?_
    · rintro W i H3 hW hi ⟨s3, xs, Ts, eW, ix, tb, lT⟩
      have lx := ix.1
      walk_at "rd"
      refine ⟨rfl, ?_⟩
      walk_at "rd"
      have dig : (toString (30 * (0 + (i : Int)) + 10) : Str).cps.toList.all sgB = true ∧ (toString (30 * (0 + (i : Int)) + 10) : Str).length ≤ 11 := by
        rcases (show i = 0 ∨ i = 1 ∨ i = 2 ∨ i = 3 ∨ i = 4 ∨ i = 5 by omega) with rfl | rfl | rfl | rfl | rfl | rfl <;> decide +kernel
      refine ⟨sc, ns, _, _, rfl, L2.Same.seq s3 hsc2, hns, by omega, by omega, dig, fun H4 t D M R ls ms ys rs s4 et dr nD nM nR => ?_⟩
      have eW4 := s4 _ _ eW
      refine rd_lcE eW4 (by omega) fun H5 eH5 eW5 => ?_
      have old : ∀ {b : Addr}, H3 b = none → b ≠ W := fun {b} e z => by rw [z, eW] at e; cases e
      have tp : ∀ (b : Addr) ys, H4 b = some (.tup ys) → remH H4 W b = some (.tup ys) := fun b ys e => rem_get (fun z => by rw [z, eW4] at e; cases e) e
      refine ⟨by rw [eH5]; exact Same.mut (s3.trans s4) hW, xs ++ [.ref t], Ts ++ [(ls, ms, rs)], eW5, ?_, ?_, by rw [List.length_append, lT]; rfl⟩
      · rw [eH5, rem_upd]
        exact ItP.snoc (ix.imp fun x T h => h.mono (rem_mono s4)) ⟨t, D, M, R, ys, rfl, tp _ _ et, rem_get (old nD) dr.eD, dr.nd, rem_get (old nM) dr.eM, rem_get (old nR) dr.eR, dr.iv.keep tp, by have := dr.lr; show rs.length ≤ 1000; omega, fun q hq => (dr.okl q hq).2.2.1⟩
      · intro T hT
        rcases List.mem_append.mp hT with z | z
        · exact tb T z
        · rw [List.mem_singleton.mp z]
          exact ⟨dr.ll, fun q hq => by have := dr.okl q hq; exact ⟨this.1, by omega, this.2.2.1⟩, dr.lm, fun m hm => by have := dr.okm m hm; exact ⟨this.1, by omega, this.2.2⟩, dr.lr, fun r hr => by have := dr.okr r hr; exact ⟨this.1, this.2.2.1, by omega⟩⟩
    rintro W H3 hW ⟨s3, xs, Ts, eW, ix, tb, lT⟩
    walk_at "rd"
    exact ⟨W, xs, Ts, s3, eW, ix.imp fun _ _ h => h.mono rem_same, tb, lT, rfl⟩
  rintro σ H3 ⟨S, xs, Ts, s3, eS, iS, tb, lT, rfl⟩
  have hsc3 := L2.Same.seq s3 hsc2
  have lS := iS.1
  walk_at "rd"
  refine ⟨fun σ H' => ∃ L ys Rs, Same H3 H' ∧ H' L = some (.lst ys) ∧ ItP (LayP C_Layer) H' ys Rs ∧ (∀ (i : Nat) L, Rs[i]? = some L → ∃ T, Ts[i]? = some T ∧ OneV T (fi + (i : Nat)) L) ∧ Rs.length = n + 1 ∧ σ = [some (.ref sc), some (.int (1 + (n : Int))), some (.int fi), some (.ref S), none, some (.ref L)] ++ List.replicate 11 none, ?_, ?_⟩
  · walk_at "rd"
    refine rd_enR (SqL.of eS) ?_
    refine lcR_enum (xs := xs) (fun W i H' => Same H3 H' ∧ ∃ ys Rs, H' W = some (.lst ys) ∧ ItP (LayP C_Layer) (remH H' W) ys Rs ∧ (∀ (j : Nat) L, Rs[j]? = some L → ∃ T, Ts[j]? = some T ∧ OneV T (fi + (j : Nat)) L) ∧ Rs.length = i) (fun W i H' _ ⟨s, _⟩ => SqL.of (s _ _ eS)) (fun W H' _ s e _ => ⟨s, [], [], e, .nil, (fun j L h => by cases h), rfl⟩) ?_ ?_
    · rintro W i y H4 t H5 hW hy ⟨s4, ys, Rs, eW, ir, one, lR⟩ ht s5 et _
      have lr := ir.1
      have hi := (List.getElem?_eq_some_iff.mp hy).1
      obtain ⟨T, hT, tl⟩ := iS.getV hy
      obtain ⟨T0, D, M, R, zs, rfl, e1, e2, nd, e3, e4, iv, lrr, okv⟩ := tl.mono (s4.trans s5)
      have tbT := tb T (List.mem_of_getElem? hT)
      refine rd_gtup et rfl ?_
      walk_at "rd"
      refine ⟨rfl, ?_⟩
      walk_at "rd"
      refine rd_ixT e1 (atI_nat' (i := 0) rfl) ?_
      walk_at "rd"
      refine rd_ixT e1 (atI_nat' (i := 1) rfl) ?_
      walk_at "rd"
      refine rd_ixT e1 (atI_nat' (i := 2) rfl) ?_
      walk_at "rd"
      refine rd_make fun x dx H6 s6 hx ex => ?_
      have kk : ∀ k : Int, 0 ≤ k → k ≤ 11 → keyB (.int k) = true := fun k h0 h1 => decide_eq_true (by omega)
      have l1 := tbT.ll
      have l2 := tbT.lm
      have l3 := tbT.lr
      refine ⟨x, dx, D, M, R, H5, T.1, T.2.1, zs, T.2.2, rfl, s6, hx, ex, s6 _ _ e2, nd, (fun q hq => ⟨kk _ (tbT.okl q hq).1 (tbT.okl q hq).2.1, okv q hq⟩), .inl (SqL.of (s6 _ _ e3)), (fun m hm => ⟨kk _ (tbT.okm m hm).1 (tbT.okm m hm).2.1, (tbT.okm m hm).2.2⟩), .inl (SqL.of (s6 _ _ e4)), iv.mono s6, (fun r hr => ⟨(tbT.okr r hr).1, (tbT.okr r hr).2.1, by have := (tbT.okr r hr).2.2; omega⟩), by omega, fun H7 D' G ls' zs' gs s7 ex7 eD7 pm so eG7 iv7 cn cov lg nD => ⟨rfl, ?_⟩⟩
      walk_at "rd"
      refine ⟨_, x, ls', gs, rfl, by omega, ⟨dx, D', G, zs', ex7, eD7, so, (fun q hq => okv q (pm.mem_iff.mp hq)), eG7, iv7, cn⟩, by rw [pm.length_eq]; exact lg, fun H8 y SS s8 hy8 ly ps pw => ?_⟩
      obtain ⟨lok, lat⟩ := lay_math (ms := T.2.1) (rs := T.2.2) (d := fi + (i : Nat)) nd okv pm so cn cov ps pw (fun q hq => ⟨(tbT.okl q hq).1, (tbT.okl q hq).2.1⟩) (fun m hm => ⟨(tbT.okm m hm).1, (tbT.okm m hm).2.1⟩) (fun r hr => ⟨(tbT.okr r hr).1, (tbT.okr r hr).2.2⟩) (by omega)
      have s48 := s5.trans (s7.trans s8)
      have eW8 := s48 _ _ eW
      refine rd_lcE eW8 (by omega) fun H9 eH9 eW9 => ?_
      have tp : ∀ (b : Addr) o, (∀ z, o ≠ .lst z) → H8 b = some o → remH H8 W b = some o := fun b o n e => rem_get (fun z => by rw [z, eW8] at e; cases e; exact n _ rfl) e
      have tt : TupS H8 (remH H8 W) := fun b ys e => tp b _ (fun z h => by cases h) e
      refine ⟨by rw [eH9]; exact Same.mut (s4.trans s48) hW, ys ++ [.ref y], Rs ++ [(fi + (i : Nat), fi + (i : Nat), SS.map (laySeg (fi + (i : Nat))))], eW9, ?_, ?_, by rw [List.length_append, lR]; rfl⟩
      · rw [eH9, rem_upd]
        obtain ⟨dy, Gy, vs, f1, f2, f3⟩ := ly.ex
        exact ItP.snoc (ir.imp fun x L h => h.mono (rem_mono s48)) ⟨y, rfl, ⟨dy, Gy, vs, tp _ _ (fun z h => by cases h) f1, tt _ _ f2, rowsKeep tt f3⟩⟩
      · intro j L hL
        by_cases c : j < Rs.length
        · rw [List.getElem?_append_left c] at hL
          exact one j L hL
        · rw [List.getElem?_append_right (by omega)] at hL
          have : j = i := by
            have := (List.getElem?_eq_some_iff.mp hL).1
            simp at this
            omega
          subst this
          rw [lR, Nat.sub_self] at hL
          cases hL
          exact ⟨T, hT, rfl, rfl, lok, lat⟩
    rintro W H4 hW ⟨s4, ys, Rs, eW, ir, one, lR⟩
    walk_at "rd"
    exact ⟨W, ys, Rs, s4, eW, ir.imp fun _ _ h => h.mono rem_same, one, by rw [lR, lS, lT], rfl⟩
  rintro σ H4 ⟨L', ys', Rs, s4, eL', iR, one, lR, rfl⟩
  have eS := s4 _ _ eS
  have iS := iS.imp (H' := H4) fun _ _ h => h.mono s4
  have hsc4 := L2.Same.seq s4 hsc3
  walk_at "rd"
  refine ⟨fun σ H' => ∃ L, Same H4 H' ∧ H' L = some (.lst ys'.reverse) ∧ σ = [some (.ref sc), some (.int (1 + (n : Int))), some (.int fi), some (.ref S), none, some (.ref L)] ++ List.replicate 11 none, ?_, ?_⟩
  · walk_at "rd"
    refine rd_lstOfL eL' fun p H5 _ s5 ep _ => ?_
    walk_at "rd"
    refine rd_lstRev (SqL.of ep) fun q H6 _ s6 eq => ?_
    walk_at "rd"
    exact ⟨q, s5.trans s6, eq, rfl⟩
  rintro σ H5 ⟨L, s5, eL, rfl⟩
  have eS := s5 _ _ eS
  have iS := iS.imp (H' := H5) fun _ _ h => h.mono s5
  have iL := (iR.imp (H' := H5) fun _ _ h => h.mono s5).rev
  have hsc5 := L2.Same.seq s5 hsc4
  obtain ⟨Ls, hLs⟩ : ∃ Ls, Ls = Rs.reverse := ⟨_, rfl⟩
  obtain ⟨ys, hys⟩ : ∃ ys, ys = ys'.reverse := ⟨_, rfl⟩
  rw [← hLs, ← hys] at iL
  rw [← hys] at eL
  have stk : ∀ P, Stk P Ts fi (n + 1) Ls := fun P => by rw [hLs]; exact stk_one (n + 1) lR one
  have lL : Ls.length = n + 1 := by rw [hLs, List.length_reverse, lR]
  walk_at "rd"
  refine ⟨fun σ H' => ∃ (PN : Addr) (pins : List Int) (b : Bool), Same H5 H' ∧ H' PN = some (.lst (pins.map V.int)) ∧ pins.length ≤ 2 ∧ (∀ q ∈ pins, 0 ≤ q) ∧ σ = [some (.ref sc), some (.int (1 + (n : Int))), some (.int fi), some (.ref S), none, some (.ref L), none, none, some (.ref PN), some (.bl b)] ++ List.replicate 7 none, ?_, ?_⟩
  · walk_at "rd"
    refine ⟨sc, ns, _, _, rfl, hsc5, hns, by omega, by omega, fun H6 m s6 m0 m1 => ?_⟩
    walk_at "rd"
    refine rd_rgR1 (by omega) (by omega) ?_
    refine lcR_rng (fun W i H' => Same H5 H' ∧ ∃ pins : List Int, H' W = some (.lst (pins.map V.int)) ∧ pins.length = i ∧ ∀ q ∈ pins, 0 ≤ q) (fun W H' _ s e _ => ⟨s6.trans s, [], e, rfl, (fun d hd => by cases hd)⟩) ?_ ?_
    · rintro W i H7 hW hi ⟨s7, pins, eW, lp, hq⟩
      walk_at "rd"
      refine ⟨rfl, ?_⟩
      walk_at "rd"
      refine ⟨sc, ns, _, _, rfl, L2.Same.seq s7 hsc5, hns, by omega, by omega, fun H8 q s8 q0 q1 => ?_⟩
      refine rd_lcE (s8 _ _ eW) (by rw [List.length_map]; omega) fun H9 eH9 eW9 => ?_
      refine ⟨by rw [eH9]; exact Same.mut (s7.trans s8) (none_back s6 hW), pins ++ [q], ?_, by rw [List.length_append, lp]; rfl, fun z hz => ?_⟩
      · rw [eW9, List.map_append]
        rfl
      · rcases List.mem_append.mp hz with h | h
        · exact hq z h
        · rw [List.mem_singleton.mp h]
          exact q0
    rintro W H7 hW ⟨s7, pins, eW, lp, hq⟩
    walk_at "rd"
    refine ⟨sc, ns, _, _, rfl, L2.Same.seq s7 hsc5, hns, by omega, by omega, fun H8 q s8 q0 q1 => ?_⟩
    walk_at "rd"
    exact ⟨W, pins, _, s7.trans s8, s8 _ _ eW, by omega, hq, rfl⟩
  rintro σ H6 ⟨PN, pins, b, s6, eP, lp, p0, rfl⟩
  have eS := s6 _ _ eS
  have eL := s6 _ _ eL
  have iS := iS.imp (H' := H6) fun _ _ h => h.mono s6
  have iL := iL.imp (H' := H6) fun _ _ h => h.mono s6
  have hsc6 := L2.Same.seq s6 hsc5
  have stk := stk pins
  have lTn : Ts.length ≤ 1000 := by omega
  obtain ⟨L0, L9, h0, h9, f9, l0⟩ := stk_zero stk (by omega)
  walk_at "rd"
  refine ⟨fun σ H' => ∃ Y rs, Same H6 H' ∧ LyP C_Layer H' Y fi (fi + n) rs ∧ Fnd pins b Ts fi rs ∧ σ = [some (.ref sc), some (.int (1 + (n : Int))), some (.int fi), some (.ref S), none, some (.ref L), none, none, some (.ref PN), some (.bl b), some (.ref Y)] ++ List.replicate 6 none, ?_, ?_⟩
  · walk_at "rd"
    refine rd_tupOfL eP fun tp H7 _ s7 etp _ => ?_
    walk_at "rd"
    refine rd_callN2 rfl rfl ?_
    refine sp_bake (.inl (s7 _ _ eL)) (iL.imp fun _ _ h => h.mono s7) (stk_bok stk (by omega)) h0 h9 (.inr (SqT.of etp)) lp p0 fun H8 Y rs s8 hY ly ti at8 kr => ?_
    walk_at "rd"
    rw [f9, l0, show fi + ((n + 1 : Nat) : Int) - 1 = fi + n by omega] at ly
    exact ⟨Y, rs, s7.trans s8, ly, ⟨ti, (fun k => by rw [at8, stk_bake (by rw [lT]; exact stk)]), kr⟩, rfl⟩
  rintro σ H7 ⟨Y, rs, s7, lyY, fnd, rfl⟩
  have eS := s7 _ _ eS
  have eL := s7 _ _ eL
  have eP := s7 _ _ eP
  have iS := iS.imp (H' := H7) fun _ _ h => h.mono s7
  have iL := iL.imp (H' := H7) fun _ _ h => h.mono s7
  have hsc7 := L2.Same.seq s7 hsc6
  clear s1 s2 s3 s4 s5 s6 s7
  have lfn := fnd.len
  have K4 : ∀ {H' : Hp}, Same H7 H' → ∀ {Q : VK} {E : XK} {key : Int}, 0 ≤ key → key ≤ 13 → (∀ H2 y, Same H' H2 → TldP H2 y (atR rs key) → Q y H2) → spVers C_Layer [.ref Y, .int key] H' Q E := fun s _ _ key k0 k1 q => ⟨Y, key, fi, fi + n, rs, rfl, lyY.mono s, by omega, q⟩
  walk_at "rd"
  refine ⟨fun σ H' => Same H7 H' ∧ σ = [some (.ref sc), some (.int (1 + (n : Int))), some (.int fi), some (.ref S), none, some (.ref L), none, none, some (.ref PN), some (.bl b), some (.ref Y)] ++ List.replicate 6 none, ?_, ?_⟩
  · walk_at "rd"
    obtain ⟨dY, GY, vy, e1, e2, e3⟩ := lyY.ex
    refine rd_fld e1 T.cl_Layer T.na_Layer_first rfl ?_
    walk_at "rd"
    refine rd_fld e1 T.cl_Layer T.na_Layer_last (ly_last _ _ GY) ?_
    walk_at "rd"
    refine rd_newT (by simp) fun t1 H8 _ s8 et1 _ => ?_
    walk_at "rd"
    refine rd_newT (by simp) fun t2 H9 _ s9 et2 _ => ?_
    refine rd_neD (d := .tuple [.int fi, .int (fi + n)]) (e := .tuple [.int fi, .int (fi + (1 + (n : Int)) - 1)]) (.tup (s9 _ _ et1) (.cons (.int _) (.cons (.int _) .nil))) (.tup et2 (.cons (.int _) (.cons (.int _) .nil))) shaped_int2 shaped_int2 ?_
    rw [eqv_int2, decide_eq_true (by constructor <;> omega)]
    have s79 := s8.trans s9
    refine ⟨_, rfl, rd_iteFF ?_⟩
    walk_at "rd"
    refine rd_fld (s79 _ _ e1) T.cl_Layer T.na_Layer_rows (ly_rows _ _ GY) ?_
    walk_at "rd"
    refine ⟨GY, vy, rs, rfl, s79 _ _ e2, rowsKeep (.of s79) e3, fnd.tidy, by omega, (fun r hr => by have := fnd.lenT hr; omega), fun H10 s10 => ?_⟩
    walk_at "rd"
    exact ⟨s79.trans s10, rfl⟩
  rintro σ H8 ⟨s78, rfl⟩
  walk_at "rd"
  refine ⟨fun σ H' => ∃ v11 v12, Same H7 H' ∧ σ = [some (.ref sc), some (.int (1 + (n : Int))), some (.int fi), some (.ref S), none, some (.ref L), none, none, some (.ref PN), some (.bl b), some (.ref Y), v11, v12] ++ List.replicate 4 none, ?_, ?_⟩
  · walk_at "rd"
    refine rd_rgR1 (by decide) (by decide) ?_
    refine forR_rng (fun i σ H' => ∃ v11 v12, Same H7 H' ∧ σ = [some (.ref sc), some (.int (1 + (n : Int))), some (.int fi), some (.ref S), none, some (.ref L), none, none, some (.ref PN), some (.bl b), some (.ref Y), v11, v12] ++ List.replicate 4 none) ⟨_, _, s78, rfl⟩ ?_ ?_
    · rintro i σ H9 hi ⟨v11, v12, s9, rfl⟩
      have hi14 : i < 14 := hi
      obtain ⟨key, hkey⟩ : ∃ key : Int, key = 0 + (i : Int) := ⟨_, rfl⟩
      rw [← hkey]
      have key0 : 0 ≤ key ∧ key ≤ 13 := by omega
      walk_at "rd"
      refine ⟨S, xs, Ts, key, rfl, s9 _ _ eS, iS.imp fun _ _ h => h.mono s9, by omega, fun H10 p zs s10 hp ep iz => ?_⟩
      walk_at "rd"
      have lz := iz.1
      have lv := vers_len key Ts 1
      refine rd_lsR (SqL.of ep) ?_
      refine lcR_lst (xs := zs) (fun W j H' => Same H10 H' ∧ ∃ ws, H' W = some (.lst ws) ∧ ItP VerP H' ws (((vers 1 key Ts).take j).map fun v => (v.1 + (fi - 1), v.2))) (fun W j H' _ ⟨s, _⟩ => SqL.of (s _ _ ep)) (fun W H' _ s e _ => ⟨s, [], e, .nil⟩) ?_ ?_
      · rintro W j y H11 hW hy ⟨s11, ws, eW, iw⟩
        obtain ⟨v, hv, va, rfl, ev⟩ := (versKeep (.of s11) iz).getV hy
        have lw := iw.1
        refine rd_gtup ev rfl ?_
        walk_at "rd"
        refine ⟨rfl, ?_⟩
        walk_at "rd"
        refine rd_newT (by simp) fun tn H12 _ s12 etn _ => ?_
        have eW12 := s12 _ _ eW
        refine rd_lcE eW12 (by rw [lw, List.length_map, List.length_take]; omega) fun H13 eH13 eW13 => ?_
        have kp : TupS H12 H13 := by rw [eH13]; exact TupS.updL eW12
        refine ⟨by rw [eH13]; exact Same.mut (s11.trans s12) hW, ws ++ [.ref tn], eW13, ?_⟩
        rw [List.take_add_one, hv, List.map_append]
        refine (versKeep ((TupS.of s12).trans kp) iw).snoc ⟨tn, rfl, kp _ _ ?_⟩
        rw [etn, show v.1 + fi - 1 = v.1 + (fi - 1) by omega]
      rintro W H11 hW ⟨s11, ws, eW, iw⟩
      rw [lz, List.take_length, vers_shift, show (1 : Int) + (fi - 1) = fi by omega] at iw
      have s711 := s9.trans (s10.trans s11)
      obtain ⟨dY, GY, vy, e1, e2, e3⟩ := (lyY.mono s711).ex
      have lvf := vers_len key Ts fi
      walk_at "rd"
      refine ⟨Y, dY, _, rfl, e1, rfl, ?_⟩
      walk_at "rd"
      refine K4 s711 key0.1 key0.2 fun H12 y s12 ty => ?_
      walk_at "rd"
      have s712 := s711.trans s12
      refine ⟨W, PN, b, ws, vers fi key Ts, pins, rfl, s12 _ _ eW, versKeep (.of s12) iw, by omega, s712 _ _ eP, by omega, fun H13 w s13 tw => ?_⟩
      refine rd_neD (ty.keep (.of s13)).dt tw.dt (shaped_tld _) (shaped_tld _) ?_
      rw [eqv_tld, decide_eq_true (fnd.at_ key)]
      walk_at "rd"
      have s713 := s712.trans s13
      obtain ⟨x0, hx0, b0, rfl, ly0⟩ := (iL.imp (H' := H13) fun _ _ h => h.mono s713).get (i := 0) (y := L0) (by rw [← List.head?_eq_getElem?]; exact h0)
      refine rd_ixL (s713 _ _ eL) (atI_nat' (i := 0) hx0) ?_
      walk_at "rd"
      obtain ⟨d0, G0, v0, f1, f2, f3⟩ := ly0.ex
      refine ⟨b0, d0, _, rfl, f1, rfl, ?_⟩
      walk_at "rd"
      refine ⟨b0, key, L0.1, L0.2.1, L0.2.2, rfl, ly0, by omega, fun H14 y s14 ty0 => ?_⟩
      walk_at "rd"
      have eW14 := (s12.trans (s13.trans s14)) _ _ eW
      have iw14 := versKeep (.of (s12.trans (s13.trans s14))) iw
      have lw := iw.1
      refine rd_lsR (SqL.of eW14) ?_
      refine lcR_lst (xs := ws) (fun W2 j H' => Same H14 H' ∧ ∃ us, H' W2 = some (.lst us) ∧ ItP VerP H' us (((vers fi key Ts).take j).filter fun v => decide (v.1 = fi + (n : Int)))) (fun W2 j H' _ ⟨s, _⟩ => SqL.of (s _ _ eW14)) (fun W2 H' _ s e _ => ⟨s, [], e, .nil⟩) ?_ ?_
      · rintro W2 j y2 H15 hW2 hy2 ⟨s15, us, eU, iu⟩
        obtain ⟨v, hv, va, rfl, ev⟩ := (versKeep (.of s15) iw14).getV hy2
        have lu := iu.1
        have luf := List.length_filter_le (fun v : Ver => decide (v.1 = fi + (n : Int))) ((vers fi key Ts).take j)
        rw [List.length_take] at luf
        walk_at "rd"
        refine ⟨rfl, ?_⟩
        walk_at "rd"
        refine rd_ixT ev (atI_nat' (i := 0) rfl) ?_
        walk_at "rd"
        rw [List.take_add_one, hv, List.filter_append]
        refine rd_ite (fun c => ?_) (fun c => ?_)
        · walk_at "rd"
          refine rd_lcE eU (by omega) fun H16 eH16 eU16 => ?_
          have kp : TupS H15 H16 := by rw [eH16]; exact TupS.updL eU
          refine ⟨by rw [eH16]; exact Same.mut s15 hW2, us ++ [.ref va], eU16, ?_⟩
          rw [show List.filter (fun v : Ver => decide (v.1 = fi + (n : Int))) (some v).toList = [v] from List.filter_eq_self.mpr fun z hz => by
            have : z = v := by simpa using hz
            rw [this]
            exact decide_eq_true (by omega)]
          exact (versKeep kp iu).snoc ⟨va, rfl, kp _ _ ev⟩
        · refine ⟨s15, us, eU, ?_⟩
          rw [show List.filter (fun v : Ver => decide (v.1 = fi + (n : Int))) (some v).toList = [] from List.filter_eq_nil_iff.mpr fun z hz => by
            have : z = v := by simpa using hz
            rw [this, decide_eq_true_iff]
            omega, List.append_nil]
          exact iu
      rintro W2 H15 hW2 ⟨s15, us, eU, iu⟩
      rw [lw, List.take_length] at iu
      walk_at "rd"
      refine rd_tupOfL eU fun tu H16 _ s16 etu _ => ?_
      obtain ⟨T9, hT9⟩ : ∃ T9, Ts[n]? = some T9 := ⟨_, List.getElem?_eq_getElem (by omega)⟩
      have eTs : Ts = Ts.take n ++ [T9] := by
        have := List.take_length (l := Ts)
        rw [lT, List.take_add_one, hT9] at this
        exact this.symm
      have ltk : (Ts.take n).length = n := by rw [List.length_take]; omega
      have top : (vers fi key Ts).filter (fun v => decide (v.1 = fi + (n : Int))) = tellV T9 (fi + (n : Int)) key := by
        have := vers_top (Ts := Ts.take n) (T := T9) (fi := fi) (k := key)
        rw [← eTs, ltk] at this
        exact this
      rw [top] at iu
      have at0 : atR L0.2.2 key = tellV T9 (fi + (n : Int)) key := by
        have hR : Rs[n]? = some L0 := by
          rw [hLs, List.head?_reverse, List.getLast?_eq_getElem?, lR] at h0
          exact h0
        obtain ⟨T, hT, o⟩ := one n L0 hR
        rw [hT9] at hT
        cases hT
        exact o.at_ key
      refine rd_neD (d := tldD (atR L0.2.2 key)) (e := tldD (tellV T9 (fi + (n : Int)) key)) (ty0.keep (.of (s15.trans s16))).dt (TldP.dt ⟨tu, us, rfl, etu, versKeep (.of s16) iu⟩) (shaped_tld _) (shaped_tld _) ?_
      rw [eqv_tld, decide_eq_true at0]
      walk_at "rd"
      exact ⟨_, _, s713.trans (s14.trans (s15.trans s16)), rfl⟩
    · rintro σ H9 ⟨v11, v12, s9, rfl⟩
      exact ⟨_, _, s9, rfl⟩
  clear s78
  rintro σ H9 ⟨v11, v12, s79, rfl⟩
  walk_at "rd"
  refine ⟨fun σ H' => ∃ TL, Same H7 H' ∧ H' TL = some (.lst ((toldK rs 14).map V.int)) ∧ σ = [some (.ref sc), some (.int (1 + (n : Int))), some (.int fi), some (.ref S), none, some (.ref L), none, some (.ref TL), some (.ref PN), some (.bl b), some (.ref Y), v11, v12] ++ List.replicate 4 none, ?_, ?_⟩
  · walk_at "rd"
    refine rd_rgR1 (by decide) (by decide) ?_
    refine lcR_rng (fun W i H' => Same H9 H' ∧ H' W = some (.lst ((toldK rs i).map V.int))) (fun W H' _ s e _ => ⟨s, e⟩) ?_ ?_
    · rintro W i H10 hW hi ⟨s10, eW⟩
      have hi14 : i < 14 := hi
      have lt := told_len rs i
      have s710 := s79.trans s10
      obtain ⟨dY, GY, vy, e1, e2, e3⟩ := (lyY.mono s710).ex
      walk_at "rd"
      refine ⟨rfl, ?_⟩
      walk_at "rd"
      refine ⟨Y, dY, _, rfl, e1, rfl, ?_⟩
      walk_at "rd"
      refine K4 s710 (by omega) (by omega) fun H11 y s11 ty => ?_
      walk_at "rd"
      refine rd_newT (by simp) fun u H12 _ s12 eu _ => ?_
      refine rd_neD (d := tldD (atR rs (0 + (i : Int)))) (e := tldD []) (ty.keep (.of s12)).dt (.tup eu .nil) (shaped_tld _) (shaped_tld _) ?_
      rw [eqv_tld]
      have ei : (0 : Int) + (i : Int) = (i : Int) := by omega
      rw [ei]
      rw [told_succ, List.map_append]
      have eW12 := (s11.trans s12) _ _ eW
      by_cases c : atR rs (i : Int) = []
      · rw [decide_eq_true c, if_pos c]
        refine ⟨_, rfl, ?_⟩
        rw [Bool.not_true, if_neg Bool.false_ne_true]
        exact ⟨s10.trans (s11.trans s12), by rw [eW12, List.map_nil, List.append_nil]⟩
      · rw [decide_eq_false c, if_neg c]
        refine ⟨_, rfl, ?_⟩
        rw [Bool.not_false, if_pos rfl]
        walk_at "rd"
        refine rd_lcE eW12 (by rw [List.length_map]; omega) fun H13 eH13 eW13 => ?_
        exact ⟨by rw [eH13]; exact Same.mut (s10.trans (s11.trans s12)) hW, eW13⟩
    rintro W H10 hW ⟨s10, eW⟩
    walk_at "rd"
    exact ⟨W, s79.trans s10, eW, rfl⟩
  clear s79
  rintro σ H10 ⟨TL, s710, eTL, rfl⟩
  obtain ⟨tk, htk⟩ : ∃ tk, toldK rs 14 = tk := ⟨_, rfl⟩
  rw [htk] at eTL
  walk_at "rd"
  refine ⟨fun σ H' => Same H7 H' ∧ σ = [some (.ref sc), some (.int (1 + (n : Int))), some (.int fi), some (.ref S), none, some (.ref L), none, some (.ref TL), some (.ref PN), some (.bl b), some (.ref Y), v11, v12] ++ List.replicate 4 none, ?_, ?_⟩
  · walk_at "rd"
    refine rd_rgR1 (by decide) (by decide) ?_
    refine lcR_rng (fun W i H' => Same H10 H' ∧ H' W = some (.lst ((List.replicate i false).map V.bl))) (fun W H' _ s e _ => ⟨s, e⟩) ?_ ?_
    · rintro W i H11 hW hi ⟨s11, eW⟩
      have hi14 : i < 14 := hi
      have s711 := s710.trans s11
      obtain ⟨dY, GY, vy, e1, e2, e3⟩ := (lyY.mono s711).ex
      obtain ⟨hh1, hh2⟩ := has_told fnd.tidy fnd.keys htk (0 + (i : Int))
      walk_at "rd"
      refine ⟨rfl, ?_⟩
      walk_at "rd"
      refine ⟨Y, dY, _, rfl, e1, rfl, ?_⟩
      walk_at "rd"
      refine ⟨Y, 0 + (i : Int), fi, fi + n, rs, rfl, lyY.mono s711, by omega, by omega, fun H12 s12 => ?_⟩
      walk_at "rd"
      refine rd_newL (by simp) fun u H13 _ s13 eu _ => ?_
      have s1113 := s12.trans s13
      have eT13 := (s11.trans s1113) _ _ eTL
      refine rd_neD (d := .list (tk.map PyData.int)) (e := .list []) (.lst eT13 (dtInts tk)) (.lst eu .nil) (shapedInts tk) (by rfl) ?_
      rw [eqv_nil]
      have fin : ∀ H', Same H13 H' → LcE W (fun H' => Same H10 H' ∧ H' W = some (.lst ((List.replicate (i + 1) false).map V.bl))) (.bl false) H' := fun H' s' => by
        refine rd_lcE ((s1113.trans s') _ _ eW) (by rw [List.length_map, List.length_replicate]; omega) fun H14 eH14 eW14 => ?_
        refine ⟨by rw [eH14]; exact Same.mut (s11.trans (s1113.trans s')) hW, ?_⟩
        rw [eW14, List.replicate_succ', List.map_append]
        rfl
      cases tk with
      | nil =>
        rw [hh1 rfl]
        refine ⟨_, rfl, rd_iteNF rfl ?_⟩
        refine rd_ne rfl ?_
        rw [decide_eq_true rfl]
        exact fin H13 (Same.refl _)
      | cons a r =>
        obtain ⟨g, z, hz⟩ := snoc_of_cons a r
        have hb := hh2 a z r g rfl hz
        refine ⟨_, rfl, rd_iteNT (by simp) ?_⟩
        walk_at "rd"
        refine rd_ixL eT13 (atI_nat' (i := 0) rfl) ?_
        walk_at "rd"
        rw [hb]
        refine rd_ite (fun c => ?_) (fun c => ?_)
        · rw [decide_eq_true c, Bool.true_and]
          walk_at "rd"
          refine rd_ixL eT13 (v := .int z) (by rw [hz, List.map_append]; exact atI_last _ _) ?_
          walk_at "rd"
          refine rd_ne rfl ?_
          rw [decide_eq_true rfl]
          exact fin H13 (Same.refl _)
        · rw [decide_eq_false c, Bool.false_and]
          walk_at "rd"
          refine rd_ne rfl ?_
          rw [decide_eq_true rfl]
          exact fin H13 (Same.refl _)
    rintro W H11 hW ⟨s11, eW⟩
    walk_at "rd"
    refine any_bs eW ?_
    rw [show (List.replicate (Int.toNat 14) false).any id = false by decide]
    walk_at "rd"
    exact ⟨s710.trans s11, rfl⟩
  clear s710 eTL
  rintro σ H11 ⟨s711, rfl⟩
  walk_at "rd"
  refine ⟨fun σ H' => ∃ SK, Same H7 H' ∧ H' SK = some (.lst ys) ∧ σ = [some (.ref sc), some (.int (1 + (n : Int))), some (.int fi), some (.ref S), none, some (.ref L), none, some (.ref TL), some (.ref PN), some (.bl b), some (.ref Y), v11, v12] ++ List.replicate 3 none ++ [some (.ref SK)], ?_, ?_⟩
  · walk_at "rd"
    refine rd_lstOfL (s711 _ _ eL) fun SK H12 _ s12 eSK _ => ?_
    walk_at "rd"
    exact ⟨SK, s711.trans s12, eSK, rfl⟩
  clear s711
  rintro σ H12 ⟨SK, s712, eSK, rfl⟩
  walk_at "rd"
  refine ⟨fun σ H' => ∃ SK zs Ms v6, Same H7 H' ∧ H' SK = some (.lst zs) ∧ ItP (LayP C_Layer) H' zs Ms ∧ Stk pins Ts fi (n + 1) Ms ∧ σ = [some (.ref sc), some (.int (1 + (n : Int))), some (.int fi), some (.ref S), none, some (.ref L), v6, some (.ref TL), some (.ref PN), some (.bl b), some (.ref Y), v11, v12] ++ List.replicate 3 none ++ [some (.ref SK)], ?_, ?_⟩
  · walk_at "rd"
    refine rd_while (fun m σ H' => ∃ SK zs Ms v6, m = Ms.length ∧ Same H7 H' ∧ H' SK = some (.lst zs) ∧ ItP (LayP C_Layer) H' zs Ms ∧ Stk pins Ts fi (n + 1) Ms ∧ σ = [some (.ref sc), some (.int (1 + (n : Int))), some (.int fi), some (.ref S), none, some (.ref L), v6, some (.ref TL), some (.ref PN), some (.bl b), some (.ref Y), v11, v12] ++ List.replicate 3 none ++ [some (.ref SK)]) Ls.length ⟨SK, ys, Ls, _, rfl, s712, eSK, iL.imp fun _ _ h => h.mono s712, stk, rfl⟩ ?_
    rintro m σ H13 ⟨SK, zs, Ms, v6, rfl, s13, eSK, iz, st, rfl⟩
    have lz := iz.1
    have lM := stk_len st
    walk_at "rd"
    refine ⟨SK, zs, rfl, .inl (SqL.of eSK), ?_⟩
    walk_at "rd"
    refine rd_ite (fun c => ?_) (fun c => ?_)
    · refine rd_whN ?_
      walk_at "rd"
      refine ⟨SK, zs, rfl, .inl (SqL.of eSK), ?_⟩
      walk_at "rd"
      refine ⟨SK, zs, rfl, .inl (SqL.of eSK), ?_⟩
      walk_at "rd"
      refine ⟨sc, ns, _, _, rfl, L2.Same.seq s13 hsc7, hns, by omega, by omega, fun H14 at_ s14 a0 a1 => ?_⟩
      obtain ⟨q, rfl⟩ : ∃ q : Nat, at_ = (q : Int) := ⟨at_.toNat, by omega⟩
      have hq : q + 1 < zs.length := by omega
      obtain ⟨A, hA⟩ : ∃ A, Ms[q]? = some A := ⟨_, List.getElem?_eq_getElem (by omega)⟩
      obtain ⟨B, hB⟩ : ∃ B, Ms[q + 1]? = some B := ⟨_, List.getElem?_eq_getElem (by omega)⟩
      have eM : Ms = Ms.take q ++ A :: B :: Ms.drop (q + 2) := by
        obtain ⟨p1, p2⟩ := List.getElem?_eq_some_iff.mp hA
        obtain ⟨p3, p4⟩ := List.getElem?_eq_some_iff.mp hB
        rw [← p2, ← p4, ← List.drop_eq_getElem_cons p3, ← List.drop_eq_getElem_cons p1, List.take_append_drop]
      have mid : (Ms.drop q).take 2 = [A, B] := by
        obtain ⟨p1, p2⟩ := List.getElem?_eq_some_iff.mp hA
        obtain ⟨p3, p4⟩ := List.getElem?_eq_some_iff.mp hB
        rw [List.drop_eq_getElem_cons p1, List.drop_eq_getElem_cons p3, p2, p4]
        rfl
      walk_at "rd"
      refine rd_slL (SqL.of (s14 _ _ eSK)) fun P1 H15 _ s15 eP1 _ => ?_
      rw [cutN_take] at eP1
      walk_at "rd"
      refine rd_slL (SqL.of ((s14.trans s15) _ _ eSK)) fun P2 H16 _ s16 eP2 _ => ?_
      rw [show (q : Int) + 2 = ((q + 2 : Nat) : Int) by omega, cutN_mid (by omega)] at eP2
      walk_at "rd"
      have s716 := s13.trans (s14.trans (s15.trans s16))
      have iz16 := iz.imp (H' := H16) fun _ _ h => h.mono (s14.trans (s15.trans s16))
      have i2 := (iz16.drop q).take 2
      rw [mid] at i2
      refine sp_bake (L0 := A) (L9 := B) (.inl eP2) i2 (bok_mid (A := Ms.take q) (B := Ms.drop (q + 2)) (by show BakeOk (Ms.take q ++ A :: B :: Ms.drop (q + 2)); rw [← eM]; exact stk_bok st (by omega))) rfl rfl (.inl (SqL.of (s716 _ _ eP))) lp p0 fun H17 y cs s17 hy ly ti at17 kr => ?_
      walk_at "rd"
      refine rd_newL (by simp) fun P3 H18 _ s18 eP3 _ => ?_
      walk_at "rd"
      refine rd_cat ((s16.trans (s17.trans s18)) _ _ eP1) eP3 (by simp; omega) fun P4 H19 _ s19 eP4 _ => ?_
      walk_at "rd"
      have s1519 := s16.trans (s17.trans (s18.trans s19))
      refine rd_slL (SqL.of ((s14.trans (s15.trans s1519)) _ _ eSK)) fun P5 H20 _ s20 eP5 _ => ?_
      rw [show (q : Int) + 2 = ((q + 2 : Nat) : Int) by omega, cutN_drop] at eP5
      walk_at "rd"
      refine rd_cat (s20 _ _ eP4) eP5 (by simp; omega) fun P6 H21 _ s21 eP6 _ => ?_
      walk_at "rd"
      have s1721 := s18.trans (s19.trans (s20.trans s21))
      have s1321 := s14.trans (s15.trans (s16.trans (s17.trans s1721)))
      have iz21 := iz.imp (H' := H21) fun _ _ h => h.mono s1321
      refine ⟨(Ms.take q ++ (B.1, A.2.1, cs) :: Ms.drop (q + 2)).length, ?_, P6, _, Ms.take q ++ (B.1, A.2.1, cs) :: Ms.drop (q + 2), some (.int (q : Int)), rfl, s13.trans s1321, eP6, ?_, ?_, rfl⟩
      · rw [List.length_append, List.length_cons, List.length_take, List.length_drop]
        omega
      · have := ((iz21.take q).append (ItP.one (R := LayP C_Layer) (x := .ref y) (y := (B.1, A.2.1, cs)) ⟨y, rfl, ly.mono s1721⟩)).append (iz21.drop (q + 2))
        rw [List.append_assoc (List.take q Ms)] at this
        exact this
      · refine stk_merge (A := A) (B := B) (C := (B.1, A.2.1, cs)) (top := n + 1) rfl rfl ti kr (fun kk => ?_) hf.1 (by rw [lT]; exact Nat.le_refl _) (by rw [← eM]; exact st)
        rw [at17]
        show kp pins none (atR A.2.2 kk ++ (atR B.2.2 kk ++ [])) = _
        rw [List.append_nil]
    · exact ⟨SK, zs, Ms, v6, s13, eSK, iz, st, rfl⟩
  clear s712 eSK
  rintro σ H13 ⟨SK, zs, Ms, v6, s713, eSK, iz, st, rfl⟩
  obtain ⟨M0, M9, g0, g9, gf, gl⟩ := stk_zero st (by omega)
  walk_at "rd"
  refine ⟨fun σ H' => Same H7 H' ∧ σ = [some (.ref sc), some (.int (1 + (n : Int))), some (.int fi), some (.ref S), none, some (.ref L), v6, some (.ref TL), some (.ref PN), some (.bl b), some (.ref Y), v11, v12] ++ List.replicate 3 none ++ [some (.ref SK)], ?_, ?_⟩
  · walk_at "rd"
    refine rd_callN2 rfl rfl ?_
    refine sp_bake (.inl eSK) iz (stk_bok st (by omega)) g0 g9 (.inl (SqL.of (s713 _ _ eP))) lp p0 fun H14 y cs s14 hy ly ti at14 kr => ?_
    walk_at "rd"
    rw [gf, gl, show fi + ((n + 1 : Nat) : Int) - 1 = fi + n by omega] at ly
    have f1 : Fnd pins b Ts fi cs := ⟨ti, (fun k => by rw [at14, stk_bake (by rw [lT]; exact st)]), kr⟩
    have s714 := s713.trans s14
    obtain ⟨dy, Gy, vy, e1, e2, e3⟩ := ly.ex
    obtain ⟨dY, GY, vY, e4, e5, e6⟩ := (lyY.mono s714).ex
    refine rd_neO e1 e4 ⟨y, _, fi, fi + n, cs, rfl, ly, .inl ⟨Y, fi, fi + n, rs, rfl, lyY.mono s714, fun H15 s15 => ⟨_, rfl, ?_⟩⟩⟩
    rw [decide_eq_true ⟨rfl, rfl, f1.uniq fnd⟩]
    walk_at "rd"
    have s715 := s714.trans s15
    refine rd_newL (by simp) fun P1 H16 _ s16 eP1 _ => ?_
    walk_at "rd"
    have s716 := s715.trans s16
    refine rd_callN2 rfl rfl ?_
    refine sp_bake (Ls := [(fi, fi + (n : Int), rs)]) (L0 := (fi, fi + (n : Int), rs)) (L9 := (fi, fi + (n : Int), rs)) (.inl eP1) (ItP.one (R := LayP C_Layer) ⟨Y, rfl, lyY.mono s716⟩) (fnd.bok (by omega)) rfl rfl (.inl (SqL.of (s716 _ _ eP))) lp p0 fun H17 y2 cs2 s17 hy2 ly2 ti2 at17 kr2 => ?_
    walk_at "rd"
    have f2 : Fnd pins b Ts fi cs2 := ⟨ti2, (fun k => by rw [at17, fnd.again]), kr2⟩
    have s717 := s716.trans s17
    obtain ⟨dy2, Gy2, vy2, e7, e8, e9⟩ := ly2.ex
    obtain ⟨dY, GY, vY, e4, e5, e6⟩ := (lyY.mono s717).ex
    refine rd_neO e7 e4 ⟨y2, _, fi, fi + n, cs2, rfl, ly2, .inl ⟨Y, fi, fi + n, rs, rfl, lyY.mono s717, fun H18 s18 => ⟨_, rfl, ?_⟩⟩⟩
    rw [decide_eq_true ⟨rfl, rfl, f2.uniq fnd⟩]
    walk_at "rd"
    have s718 := s717.trans s18
    obtain ⟨dY, GY, vY, e4, e5, e6⟩ := (lyY.mono s718).ex
    refine rd_eqOI e4 ⟨Y, _, fi, fi + n, rs, rfl, lyY.mono s718, .inr ⟨3, rfl, ⟨_, rfl, ?_⟩⟩⟩
    walk_at "rd"
    exact ⟨s718, rfl⟩
  rintro σ H14 ⟨s714, rfl⟩
  walk_at "rd"
  refine ⟨L, Y, ys, Ls, fi, fi + n, rs, by rw [lL, show ((n + 1 : Nat) : Int) = 1 + (n : Int) by omega]; rfl, s714 _ _ eL, iL.imp fun _ _ h => h.mono s714, stk_adj stk, ?_, by omega, lyY.mono s714, fun H15 s15 => ?_⟩
  · intro M hM
    rw [hLs] at hM
    obtain ⟨i, hi⟩ := List.getElem?_of_mem (List.mem_reverse.mp hM)
    obtain ⟨T, _, o⟩ := one i M hi
    rw [o.f, o.l]
  walk_at "rd"
  exact k H15
end
end Sl
namespace Sl
open PySem L2 C8 StX
section
variable {K : PySem.W.Frag} {h : Heap} {mg : Str → Option Value} {x qual : Str} {st : Stmt} {f C : Addr} {oc dV kV doc pm cdv ct : Value} {od an : Option Addr} {osl : Array (Option Value)}
theorem dmk (X : K.In h) (G : h.Ns mainGlobals mg) (a : PySem.W.nsIn K mainGlobals x = some (some (.ref f))) (l : K.lookup f = some ⟨oc, od, .func (PySem.W.fnOf x x (fnArgs st) (fnBody st) (fnScope st) .none kV doc pm an cdv ct), osl⟩)
    (c : PySem.W.codeIn K cdv x = true) (k : PySem.W.keepIn K (.ref f) = true) : ∃ f fd, C8.Def K mg x st f fd ∧ fd.defaults = .none :=
  ⟨f, _, ⟨⟨_, _, _, _, _, _, _, _, _, _, rfl, l, c⟩, PySem.W.mg_of X G a, k⟩, rfl⟩
theorem mmk (a : PySem.W.findIn K (.ref C) x = some (some (.ref f))) (i : PySem.W.isFn K (.ref f) = true) (l : K.lookup f = some ⟨oc, od, .func (PySem.W.fnOf x qual (fnArgs st) (fnBody st) (fnScope st) .none kV doc pm an cdv ct), osl⟩)
    (c : PySem.W.codeIn K cdv qual = true) (k : PySem.W.keepIn K (.ref f) = true) (n : PySem.W.fnIn K f = true) : ∃ f fd, C8.Fun K x qual st f fd ∧ fd.defaults = .none ∧ Meth K C x f ∧ PySem.W.fnIn K f = true :=
  ⟨f, _, ⟨_, _, _, _, _, _, _, _, _, _, rfl, l, c⟩, rfl, ⟨a, i, k⟩, n⟩
theorem mkmk (m : PySem.W.makesIn K C = true) (a : PySem.W.findIn K (.ref C) "__init__" = some (some (.ref f))) (i : PySem.W.isFn K (.ref f) = true) (l : K.lookup f = some ⟨oc, od, .func (PySem.W.fnOf "__init__" qual (fnArgs st) (fnBody st) (fnScope st) .none kV doc pm an cdv ct), osl⟩)
    (c : PySem.W.codeIn K cdv qual = true) (k : PySem.W.keepIn K (.ref C) = true) : ∃ f fd, C8.Fun K "__init__" qual st f fd ∧ fd.defaults = .none ∧ Mk K C f :=
  ⟨f, _, ⟨_, _, _, _, _, _, _, _, _, _, rfl, l, c⟩, rfl, ⟨m, a, i, k⟩⟩
theorem kit_up {D : Addr} (h1 : PySem.W.isClsIn K D = true) (h2 : PySem.W.typeIn K (.ref D) = some (.type "type")) (h3 : PySem.W.subIn K (.ref C) (.ref D) = some true) : PySem.W.kitOne K (.ref C) (.ref D) = some true := by
  have e2 : ((PySem.W.clsIn K D).isSome && PySem.W.typeIn K (.ref D) == some (.type "type")) = true := by
    have h1' : (PySem.W.clsIn K D).isSome = true := h1
    rw [h1', h2] <;> rfl
  unfold PySem.W.kitOne
  by_cases c : ((Value.ref C) == (Value.ref D)) = true
  · rw [if_pos c]
  · rw [if_neg c]
    show (if ((PySem.W.clsIn K D).isSome && PySem.W.typeIn K (.ref D) == some (.type "type")) = true then PySem.W.subIn K (.ref C) (.ref D) else none) = some true
    rw [if_pos e2]
    exact h3
theorem kit_upF {D : Addr} (h1 : PySem.W.isClsIn K D = true) (h2 : PySem.W.typeIn K (.ref D) = some (.type "type")) (h3 : PySem.W.subIn K (.ref C) (.ref D) = some false) (hn : ((Value.ref C) == (Value.ref D)) = false) : PySem.W.kitOne K (.ref C) (.ref D) = some false := by
  have e2 : ((PySem.W.clsIn K D).isSome && PySem.W.typeIn K (.ref D) == some (.type "type")) = true := by
    have h1' : (PySem.W.clsIn K D).isSome = true := h1
    rw [h1', h2] <;> rfl
  unfold PySem.W.kitOne
  rw [if_neg (by rw [hn]; exact Bool.false_ne_true)]
  show (if ((PySem.W.clsIn K D).isSome && PySem.W.typeIn K (.ref D) == some (.type "type")) = true then PySem.W.subIn K (.ref C) (.ref D) else none) = some false
  rw [if_pos e2]
  exact h3
theorem conk {z : Str} {t : Tok} (a : PySem.W.findIn K (.ref C) x = some (some (.str z t))) (g : PySem.W.specialIn K (.str z t) "__get__" = some none) (c : PySem.W.copiedNames.contains x = false) : ∃ u, Con K C x (.str z) u := ⟨_, a, ⟨t, rfl⟩, g, c⟩
theorem nak (a : PySem.W.findIn K (.ref C) x = some none) : NoAttr K C x := a
theorem gmk {n : Int} {t : Tok} (X : K.In h) (G : h.Ns mainGlobals mg) (a : PySem.W.nsIn K mainGlobals x = some (some (.int n t))) : ∃ u, mg x = some u ∧ RelV (.int n) u := ⟨_, PySem.W.mg_of X G a, t, rfl⟩
end
theorem mkmk_Sheet_init {K : PySem.W.Frag} {C f T e0 e1 : Addr} {oc kV doc pm cdv ct tc : Value} {od an td : Option Addr} {osl tsl : Array (Option Value)} {n : Nat} (m : PySem.W.makesIn K C = true) (a : PySem.W.findIn K (.ref C) "__init__" = some (some (.ref f))) (i : PySem.W.isFn K (.ref f) = true)
    (l : K.lookup f = some ⟨oc, od, .func (PySem.W.fnOf "__init__" "Sheet.__init__" (fnArgs s_Sheet_init) (fnBody s_Sheet_init) (fnScope s_Sheet_init) (.ref T) kV doc pm an cdv ct), osl⟩) (c : PySem.W.codeIn K cdv "Sheet.__init__" = true) (kc : PySem.W.keepIn K (.ref C) = true) (k : PySem.W.keepIn K (.ref f) = true) (lT : K.lookup T = some ⟨tc, td, .seq #[.ref e0, .ref e1] n, tsl⟩) :
    ∃ f fd, C8.Fun K "__init__" "Sheet.__init__" s_Sheet_init f fd ∧ ((∃ ds, Vals [] ds ∧ Binds K fd P_Sheet_init ds) ∧ ∃ ds, Vals [.ref e0, .ref e1] ds ∧ Binds K fd P_Sheet_init ds) ∧ Mk K C f := by
  have F : FunD K "__init__" "Sheet.__init__" (fnArgs s_Sheet_init) (fnBody s_Sheet_init) (fnScope s_Sheet_init) [.ref e0, .ref e1] [] f (PySem.W.fnOf "__init__" "Sheet.__init__" (fnArgs s_Sheet_init) (fnBody s_Sheet_init) (fnScope s_Sheet_init) (.ref T) kV doc pm an cdv ct) :=
    ⟨⟨oc, od, .ref T, kV, doc, pm, an, cdv, ct, osl, rfl, l, c, .inr ⟨by simp, T, _, [.ref e0, .ref e1], n, rfl, lT, rfl, (.cons rfl (.cons rfl .nil))⟩, .inl rfl⟩, k⟩
  refine ⟨f, _, ⟨_, _, _, _, _, _, _, _, _, _, rfl, l, c⟩, ⟨?_, ?_⟩, ⟨m, a, i, kc⟩⟩
  · exact F.binds1 4 2 (by simp) rfl fun T kV doc pm an cdv ct us its h1 h2 => match us, its, h1, h2 with | [_, _, _, _], [_, _], _, _ => ⟨_, rfl, rfl⟩
  · exact F.binds1 2 0 (by simp) rfl fun T kV doc pm an cdv ct us its h1 h2 => match us, its, h1, h2 with | [_, _], [_, _], _, _ => ⟨_, rfl, rfl⟩
theorem dmk_bake {K : PySem.W.Frag} {h : Heap} {mg : Str → Option Value} {f T e0 DD : Addr} {oc doc pm cdv ct tc : Value} {od an td : Option Addr} {osl tsl : Array (Option Value)} {n : Nat} (X : K.In h) (G : h.Ns mainGlobals mg)
    (a : PySem.W.nsIn K mainGlobals "bake" = some (some (.ref f))) (l : K.lookup f = some ⟨oc, od, .func (PySem.W.fnOf "bake" "bake" (fnArgs s_bake) (fnBody s_bake) (fnScope s_bake) (.ref T) (.ref DD) doc pm an cdv ct), osl⟩)
    (c : PySem.W.codeIn K cdv "bake" = true) (k : PySem.W.keepIn K (.ref f) = true) (lT : K.lookup T = some ⟨tc, td, .seq #[.ref e0] n, tsl⟩) (kd : PySem.W.nsIn K DD "is_bottom" = some (some (.bool false))) :
    ∃ f fd D0, C8.Def K mg "bake" s_bake f fd ∧ (∃ ds, Vals [.ref D0, .bl false] ds ∧ Binds K fd P_bake ds) ∧ (∃ ds, Vals [.bl false] ds ∧ Binds K fd P_bake ds) ∧ ∃ g, KBn K fd P_bake 2 ["is_bottom"] g (fun vs zs => vs ++ zs) := by
  have F : FunD K "bake" "bake" (fnArgs s_bake) (fnBody s_bake) (fnScope s_bake) [.ref e0] [("is_bottom", .bl false)] f (PySem.W.fnOf "bake" "bake" (fnArgs s_bake) (fnBody s_bake) (fnScope s_bake) (.ref T) (.ref DD) doc pm an cdv ct) :=
    ⟨⟨oc, od, .ref T, .ref DD, doc, pm, an, cdv, ct, osl, rfl, l, c, .inr ⟨by simp, T, _, [.ref e0], n, rfl, lT, rfl, .cons rfl .nil⟩, .inr ⟨DD, rfl, fun q hq => by cases List.mem_singleton.mp hq; exact ⟨_, kd, rfl⟩⟩⟩, k⟩
  refine ⟨f, _, e0, ⟨⟨_, _, _, _, _, _, _, _, _, _, rfl, l, c⟩, PySem.W.mg_of X G a, k⟩, ?_, ?_, ?_⟩
  · exact F.binds 1 0 (by simp) rfl (fun T D doc pm an cdv ct us its ks h1 h2 h3 => match us, its, ks, h1, h2, h3 with | [_], [_], [_], _, _, _ => ⟨_, rfl, ⟨_, _, _, _, _, _, rfl, rfl, rfl⟩⟩) (by simp)
  · exact F.binds 2 1 (by simp) rfl (fun T D doc pm an cdv ct us its ks h1 h2 h3 => match us, its, ks, h1, h2, h3 with | [_, _], [_], [_], _, _, _ => ⟨_, rfl, ⟨_, _, _, _, _, _, rfl, rfl, rfl⟩⟩) (by simp)
  · obtain ⟨its, mv, kb⟩ := F.kbinds 2 ["is_bottom"] [] (fun us _ _ ws => us ++ ws) (by simp) (by simp) (fun q hq => by cases hq) (fun r1 _ _ r2 => r1.append r2) (fun T D doc pm an cdv ct us its mv ws h1 h2 h3 h4 => match us, its, mv, ws, h1, h2, h3, h4 with | [_, _], [_], [], [_], _, _, _, _ => ⟨_, rfl, by unfold KwChain; show _ = _; kernel_rfl⟩)
    exact ⟨_, kb⟩
end Sl
namespace Sl
open PySem L2 C8 StX
theorem fin {P : Program} {w : World} {K : PySem.W.Frag} {h : Heap} {mg : Str → Option Value} {fa C_Sheet C_Layer C_Pointer C_BadSheet C_BadDay C_BadKey C_BadLayers D_Sheet_0 D_Sheet_1 : Addr} (T : TX P K mg C_Sheet C_Layer C_Pointer C_BadSheet C_BadDay C_BadKey C_BadLayers D_Sheet_0 D_Sheet_1) (X : K.In h) (G : h.Ns mainGlobals mg) (hfa : mg "law" = some (.ref fa)) :
    ∃ fd : FuncData, (∀ (s : Shared) (v : Value), BindsTo s fd ⟨[v], []⟩ [("_law_script", v)]) ∧ ∀ base : Heap, K.In base → base.Ns mainGlobals mg → FnOk P w K mg base C8.CX0 7 fa fd ["_law_script"] (spLaw K) := by
  obtain ⟨f, fd, D, dn⟩ := T.d_law
  have e := hfa.symm.trans D.mgf
  cases e
  refine ⟨fd, fun s v => ?_, fun base _ _ => fn_law T D⟩
  obtain ⟨oc, od, dV, kV, doc, pm, an, cdv, ct, osl, rfl, lk, hcd⟩ := D.fn.ex
  have e : dV = .none := dn
  subst e
  exact .of_eq rfl
end Sl
open PySem PySem.W PyProof.Rows
set_option maxRecDepth 100000 in
set_option maxHeartbeats 0 in
theorem PySem.Challenge.cw_siltstore_k02_whole_baking_holds : PySem.Challenge.rw_siltstore_k02_whole_baking.Holds := by
  refine headQ ?_
  k_fill
  refine L2.walk_ofK (sp := Sl.spLaw) (CX := C8.CX0) (n := 63) (k := 7) (x := "_law_script") rfl (by decide) rfl ⟨rfl, by decide, by decide⟩ (fun w h Y => PySem.W.kIn_of Y) ?F (fun _ _ a ns hl _ hS => ⟨a, ns, rfl, hS, hl, fun _ => rfl⟩) fun _ _ _ _ z => z
  case F =>
    intro w mg fa h KX G hmg
    refine' Sl.fin ?T KX G hmg
    case T =>
      refine' Sl.TX.mk (PySem.W.mg_of KX G ?q1) (PySem.W.mg_of KX G ?q2) (PySem.W.mg_of KX G ?q3) (PySem.W.mg_of KX G ?q4) (PySem.W.mg_of KX G ?q5) (PySem.W.mg_of KX G ?q6) (PySem.W.mg_of KX G ?q7) (Sl.dmk KX G ?q8 ?q9 ?q10 ?q11) (Sl.dmk KX G ?q12 ?q13 ?q14 ?q15) (Sl.dmk KX G ?q16 ?q17 ?q18 ?q19) (Sl.dmk KX G ?q20 ?q21 ?q22 ?q23) (Sl.dmk KX G ?q24 ?q25 ?q26 ?q27) (Sl.dmk KX G ?q28 ?q29 ?q30 ?q31) (Sl.dmk KX G ?q32 ?q33 ?q34 ?q35) (Sl.mkmk_Sheet_init ?q36 ?q37 ?q38 ?q39 ?q40 ?q41 ?q42 ?q43) (?q44) (?q45) (Sl.mmk ?q46 ?q47 ?q48 ?q49 ?q50 ?q51) (Sl.mmk ?q52 ?q53 ?q54 ?q55 ?q56 ?q57) (Sl.mmk ?q58 ?q59 ?q60 ?q61 ?q62 ?q63) (Sl.mmk ?q64 ?q65 ?q66 ?q67 ?q68 ?q69) (Sl.dmk KX G ?q70 ?q71 ?q72 ?q73) (Sl.dmk KX G ?q74 ?q75 ?q76 ?q77) (Sl.mkmk ?q78 ?q79 ?q80 ?q81 ?q82 ?q83) (Sl.mmk ?q84 ?q85 ?q86 ?q87 ?q88 ?q89) (Sl.mmk ?q90 ?q91 ?q92 ?q93 ?q94 ?q95) (Sl.mmk ?q96 ?q97 ?q98 ?q99 ?q100 ?q101) (Sl.mmk ?q102 ?q103 ?q104 ?q105 ?q106 ?q107) (Sl.dmk KX G ?q108 ?q109 ?q110 ?q111) (Sl.dmk KX G ?q112 ?q113 ?q114 ?q115) (Sl.mkmk ?q116 ?q117 ?q118 ?q119 ?q120 ?q121) (Sl.mmk ?q122 ?q123 ?q124 ?q125 ?q126 ?q127) (Sl.dmk KX G ?q128 ?q129 ?q130 ?q131) (Sl.dmk KX G ?q132 ?q133 ?q134 ?q135) (Sl.dmk KX G ?q136 ?q137 ?q138 ?q139) (Sl.dmk KX G ?q140 ?q141 ?q142 ?q143) (Sl.dmk KX G ?q144 ?q145 ?q146 ?q147) (Sl.dmk KX G ?q148 ?q149 ?q150 ?q151) (Sl.dmk KX G ?q152 ?q153 ?q154 ?q155) (Sl.dmk_bake KX G ?q156 ?q157 ?q158 ?q159 ?q160 ?q161) (Sl.dmk KX G ?q162 ?q163 ?q164 ?q165) (Sl.dmk KX G ?q166 ?q167 ?q168 ?q169) (Sl.dmk KX G ?q170 ?q171 ?q172 ?q173) (Sl.dmk KX G ?q174 ?q175 ?q176 ?q177) (Sl.dmk KX G ?q178 ?q179 ?q180 ?q181) (Sl.dmk KX G ?q182 ?q183 ?q184 ?q185) (Sl.dmk KX G ?q186 ?q187 ?q188 ?q189) (Sl.dmk KX G ?q190 ?q191 ?q192 ?q193) (⟨?q194, ?q195, ?q196, ?q197⟩) (⟨?q198, ?q199, ?q200, ?q201⟩) (Sl.nak ?q202) (Sl.nak ?q203) (⟨?q204, ?q205, ?q206, ?q207⟩) (⟨?q208, ?q209, ?q210, ?q211⟩) (Sl.nak ?q212) (Sl.nak ?q213) (Sl.nak ?q214) (⟨?q215, ?q216, ?q217, ?q218⟩) (⟨?q219, ?q220, ?q221, ?q222⟩) (Sl.nak ?q223) (Sl.nak ?q224) (?q225) (fun n => Sl.kit_not ?q226 ?q227) (?q228) (fun n => Sl.kit_not ?q229 ?q230) (?q231) (fun n => Sl.kit_not ?q232 ?q233) (⟨?q234, ?q235, ?q236, ?q237, ?q238, ?q239⟩) (⟨?q240, ?q241, ?q242, ?q243, ?q244, ?q245⟩) (⟨?q246, ?q247, ?q248, ?q249, ?q250, ?q251⟩) (?q252) (?q253) (?q254) (?q255) (Sl.xsupk ?q256 ?q257 ?q258 ?q259 ?q260 ?q261 ?q262 ?q263 ?q264 ?q265 ?q266 ?q267 ?q268 ?q269 ?q270 ?q271 ?q272 ?q273 ?q274 ?q275 ?q276 ?q277 ?q278 Sl.bd_BadLayers) (PySem.W.mg_none_of KX G ?q279) (Sl.gmk KX G ?q280) (Sl.gmk KX G ?q281) (Sl.gmk KX G ?q282) (PySem.W.mg_none_of KX G ?q283) (PySem.W.mg_none_of KX G ?q284) (PySem.W.mg_none_of KX G ?q285) (PySem.W.mg_none_of KX G ?q286) (PySem.W.mg_none_of KX G ?q287) (PySem.W.mg_none_of KX G ?q288) (PySem.W.mg_none_of KX G ?q289) (PySem.W.mg_none_of KX G ?q290) (PySem.W.mg_none_of KX G ?q291) (PySem.W.mg_none_of KX G ?q292) (PySem.W.mg_none_of KX G ?q293) (PySem.W.mg_none_of KX G ?q294) (PySem.W.mg_none_of KX G ?q295) (PySem.W.mg_none_of KX G ?q296) (PySem.W.mg_none_of KX G ?q297) (PySem.W.mg_none_of KX G ?q298) (PySem.W.mg_none_of KX G ?q299) (PySem.W.mg_none_of KX G ?q300) (PySem.W.mg_none_of KX G ?q301) (PySem.W.mg_none_of KX G ?q302)
      (case q1 => k_is)
      (case q2 => k_is)
      (case q3 => k_is)
      (case q4 => k_is)
      (case q5 => k_is)
      (case q6 => k_is)
      (case q7 => k_is)
      (case q8 => k_is)
      (case q9 => k_is)
      (case q10 => k_is)
      (case q11 => k_is)
      (case q12 => k_is)
      (case q13 => k_is)
      (case q14 => k_is)
      (case q15 => k_is)
      (case q16 => k_is)
      (case q17 => k_is)
      (case q18 => k_is)
      (case q19 => k_is)
      (case q20 => k_is)
      (case q21 => k_is)
      (case q22 => k_is)
      (case q23 => k_is)
      (case q24 => k_is)
      (case q25 => k_is)
      (case q26 => k_is)
      (case q27 => k_is)
      (case q28 => k_is)
      (case q29 => k_is)
      (case q30 => k_is)
      (case q31 => k_is)
      (case q32 => k_is)
      (case q33 => k_is)
      (case q34 => k_is)
      (case q35 => k_is)
      (case q36 => k_is)
      (case q37 => k_is)
      (case q38 => k_is)
      (case q39 => k_is)
      (case q40 => k_is)
      (case q41 => k_is)
      (case q42 => k_is)
      (case q43 => k_is)
      (case q44 => first | k_is | kernel_rfl)
      (case q45 => first | k_is | kernel_rfl)
      (case q46 => k_is)
      (case q47 => k_is)
      (case q48 => k_is)
      (case q49 => k_is)
      (case q50 => k_is)
      (case q51 => k_is)
      (case q52 => k_is)
      (case q53 => k_is)
      (case q54 => k_is)
      (case q55 => k_is)
      (case q56 => k_is)
      (case q57 => k_is)
      (case q58 => k_is)
      (case q59 => k_is)
      (case q60 => k_is)
      (case q61 => k_is)
      (case q62 => k_is)
      (case q63 => k_is)
      (case q64 => k_is)
      (case q65 => k_is)
      (case q66 => k_is)
      (case q67 => k_is)
      (case q68 => k_is)
      (case q69 => k_is)
      (case q70 => k_is)
      (case q71 => k_is)
      (case q72 => k_is)
      (case q73 => k_is)
      (case q74 => k_is)
      (case q75 => k_is)
      (case q76 => k_is)
      (case q77 => k_is)
      (case q78 => k_is)
      (case q79 => k_is)
      (case q80 => k_is)
      (case q81 => k_is)
      (case q82 => k_is)
      (case q83 => k_is)
      (case q84 => k_is)
      (case q85 => k_is)
      (case q86 => k_is)
      (case q87 => k_is)
      (case q88 => k_is)
      (case q89 => k_is)
      (case q90 => k_is)
      (case q91 => k_is)
      (case q92 => k_is)
      (case q93 => k_is)
      (case q94 => k_is)
      (case q95 => k_is)
      (case q96 => k_is)
      (case q97 => k_is)
      (case q98 => k_is)
      (case q99 => k_is)
      (case q100 => k_is)
      (case q101 => k_is)
      (case q102 => k_is)
      (case q103 => k_is)
      (case q104 => k_is)
      (case q105 => k_is)
      (case q106 => k_is)
      (case q107 => k_is)
      (case q108 => k_is)
      (case q109 => k_is)
      (case q110 => k_is)
      (case q111 => k_is)
      (case q112 => k_is)
      (case q113 => k_is)
      (case q114 => k_is)
      (case q115 => k_is)
      (case q116 => k_is)
      (case q117 => k_is)
      (case q118 => k_is)
      (case q119 => k_is)
      (case q120 => k_is)
      (case q121 => k_is)
      (case q122 => k_is)
      (case q123 => k_is)
      (case q124 => k_is)
      (case q125 => k_is)
      (case q126 => k_is)
      (case q127 => k_is)
      (case q128 => k_is)
      (case q129 => k_is)
      (case q130 => k_is)
      (case q131 => k_is)
      (case q132 => k_is)
      (case q133 => k_is)
      (case q134 => k_is)
      (case q135 => k_is)
      (case q136 => k_is)
      (case q137 => k_is)
      (case q138 => k_is)
      (case q139 => k_is)
      (case q140 => k_is)
      (case q141 => k_is)
      (case q142 => k_is)
      (case q143 => k_is)
      (case q144 => k_is)
      (case q145 => k_is)
      (case q146 => k_is)
      (case q147 => k_is)
      (case q148 => k_is)
      (case q149 => k_is)
      (case q150 => k_is)
      (case q151 => k_is)
      (case q152 => k_is)
      (case q153 => k_is)
      (case q154 => k_is)
      (case q155 => k_is)
      (case q156 => k_is)
      (case q157 => k_is)
      (case q158 => k_is)
      (case q159 => k_is)
      (case q160 => k_is)
      (case q161 => k_is)
      (case q162 => k_is)
      (case q163 => k_is)
      (case q164 => k_is)
      (case q165 => k_is)
      (case q166 => k_is)
      (case q167 => k_is)
      (case q168 => k_is)
      (case q169 => k_is)
      (case q170 => k_is)
      (case q171 => k_is)
      (case q172 => k_is)
      (case q173 => k_is)
      (case q174 => k_is)
      (case q175 => k_is)
      (case q176 => k_is)
      (case q177 => k_is)
      (case q178 => k_is)
      (case q179 => k_is)
      (case q180 => k_is)
      (case q181 => k_is)
      (case q182 => k_is)
      (case q183 => k_is)
      (case q184 => k_is)
      (case q185 => k_is)
      (case q186 => k_is)
      (case q187 => k_is)
      (case q188 => k_is)
      (case q189 => k_is)
      (case q190 => k_is)
      (case q191 => k_is)
      (case q192 => k_is)
      (case q193 => k_is)
      (case q194 => k_is)
      (case q195 => k_is)
      (case q196 => k_is)
      (case q197 => k_is)
      (case q198 => k_is)
      (case q199 => k_is)
      (case q200 => k_is)
      (case q201 => k_is)
      (case q202 => k_is)
      (case q203 => k_is)
      (case q204 => k_is)
      (case q205 => k_is)
      (case q206 => k_is)
      (case q207 => k_is)
      (case q208 => k_is)
      (case q209 => k_is)
      (case q210 => k_is)
      (case q211 => k_is)
      (case q212 => k_is)
      (case q213 => k_is)
      (case q214 => k_is)
      (case q215 => k_is)
      (case q216 => k_is)
      (case q217 => k_is)
      (case q218 => k_is)
      (case q219 => k_is)
      (case q220 => k_is)
      (case q221 => k_is)
      (case q222 => k_is)
      (case q223 => k_is)
      (case q224 => k_is)
      (case q225 => k_is)
      (case q226 => k_is)
      (case q227 => k_is)
      (case q228 => k_is)
      (case q229 => k_is)
      (case q230 => k_is)
      (case q231 => k_is)
      (case q232 => k_is)
      (case q233 => k_is)
      (case q234 => k_exc)
      (case q235 => k_is)
      (case q236 => k_is)
      (case q237 => k_is)
      (case q238 => k_is)
      (case q239 => first | rfl | k_is)
      (case q240 => k_exc)
      (case q241 => k_is)
      (case q242 => k_is)
      (case q243 => k_is)
      (case q244 => k_is)
      (case q245 => first | rfl | k_is)
      (case q246 => k_exc)
      (case q247 => k_is)
      (case q248 => k_is)
      (case q249 => k_is)
      (case q250 => k_is)
      (case q251 => first | rfl | k_is)
      (case q252 => k_is)
      (case q253 => k_is)
      (case q254 => k_is)
      (case q255 => k_is)
      (case q256 => first | k_is | rfl | decide +kernel)
      (case q257 => first | k_is | rfl | decide +kernel)
      (case q258 => first | k_is | rfl | decide +kernel)
      (case q259 => first | k_is | rfl | decide +kernel)
      (case q260 => first | k_is | rfl | decide +kernel)
      (case q261 => first | k_is | rfl | decide +kernel)
      (case q262 => first | k_is | rfl | decide +kernel)
      (case q263 => first | k_is | rfl | decide +kernel)
      (case q264 => first | k_is | rfl | decide +kernel)
      (case q265 => first | k_is | rfl | decide +kernel)
      (case q266 => first | k_is | rfl | decide +kernel)
      (case q267 => first | k_is | rfl | decide +kernel)
      (case q268 => first | k_is | rfl | decide +kernel)
      (case q269 => first | k_is | rfl | decide +kernel)
      (case q270 => first | k_is | rfl | decide +kernel)
      (case q271 => first | k_is | rfl | decide +kernel)
      (case q272 => first | k_is | rfl | decide +kernel)
      (case q273 => first | k_is | rfl | decide +kernel)
      (case q274 => first | k_is | rfl | decide +kernel)
      (case q275 => first | k_is | rfl | decide +kernel)
      (case q276 => first | k_is | rfl | decide +kernel)
      (case q277 => first | k_is | rfl | decide +kernel)
      (case q278 => first | k_is | rfl | decide +kernel)
      (case q279 => k_is)
      (case q280 => k_is)
      (case q281 => k_is)
      (case q282 => k_is)
      (case q283 => k_is)
      (case q284 => k_is)
      (case q285 => k_is)
      (case q286 => k_is)
      (case q287 => k_is)
      (case q288 => k_is)
      (case q289 => k_is)
      (case q290 => k_is)
      (case q291 => k_is)
      (case q292 => k_is)
      (case q293 => k_is)
      (case q294 => k_is)
      (case q295 => k_is)
      (case q296 => k_is)
      (case q297 => k_is)
      (case q298 => k_is)
      (case q299 => k_is)
      (case q300 => k_is)
      (case q301 => k_is)
      (case q302 => k_is)
#print axioms PySem.Challenge.cw_siltstore_k02_whole_baking_holds
