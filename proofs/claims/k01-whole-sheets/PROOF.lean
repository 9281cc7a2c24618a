import PyProof.Rows.All
import Wide.All
import OpenK.AllK
import Wide.FinOn
import HandS.ForMost
import HandS.Codes
import HandS.Star
import HandS.Wide
import HandS.IsInst
import HandS.TupAny
import HandS.TupMul
import HandS.Style
import HandS.Defaults
import HandS.TryOnly
import HandS.ExcOwn
import PySem.Challenge.RW_siltstore_k01_whole_sheets
import HandS.DictComp
import HandS.OwnEq
import HandS.Conv
import HandS.More
import HandS.Sort
import HandS.Nested
import HandS.EndTab
import HandS.SortKw
import HandS.NoneIn
import KE.SortKeyHeap
import KE.SortData
import HandS.Small
import PyProof.Conv_bool
import KE.GoesMore
import HandS.Iter
import HandS.Text
import HandS.SortRule
import HandS.ListItems
import HandS.Rev
import KE.KEqNest
import HandS.WordsDict
import KE.KDictZip
import KE.KRevIter
import PyProof.StrOps2
import HandS.SetBool
set_option Elab.async false
set_option linter.all false
set_option maxRecDepth 100000
set_option maxHeartbeats 4000000
set_option exponentiation.threshold 9000
section
open PySem PySem.W PyProof.Rows
set_option maxHeartbeats 0
open_top headQ for PySem.Challenge.rw_siltstore_k01_whole_sheets
end
set_option linter.all false
namespace Silt
/-! ### stretches of keys -/
abbrev Iv := Int × Int
def inR (rs : List Iv) (k : Int) : Prop := ∃ r ∈ rs, r.1 ≤ k ∧ k ≤ r.2
def Canon (rs : List Iv) : Prop := (∀ r ∈ rs, r.1 ≤ r.2) ∧ rs.Pairwise (fun a b => a.2 + 1 < b.1)
theorem inR_nil (k : Int) : ¬ inR [] k := fun ⟨_, h, _⟩ => by cases h
theorem inR_cons {r : Iv} {rs : List Iv} {k : Int} : inR (r :: rs) k ↔ (r.1 ≤ k ∧ k ≤ r.2) ∨ inR rs k := by
  constructor
  · rintro ⟨x, hx, h⟩
    rcases List.mem_cons.mp hx with rfl | y
    · exact .inl h
    · exact .inr ⟨x, y, h⟩
  · rintro (h | ⟨x, hx, h⟩)
    · exact ⟨r, List.mem_cons_self, h⟩
    · exact ⟨x, List.mem_cons_of_mem _ hx, h⟩
theorem inR_app {rs ts : List Iv} {k : Int} : inR (rs ++ ts) k ↔ inR rs k ∨ inR ts k := by
  constructor
  · rintro ⟨x, hx, h⟩
    rcases List.mem_append.mp hx with y | y
    · exact .inl ⟨x, y, h⟩
    · exact .inr ⟨x, y, h⟩
  · rintro (⟨x, hx, h⟩ | ⟨x, hx, h⟩)
    · exact ⟨x, List.mem_append_left _ hx, h⟩
    · exact ⟨x, List.mem_append_right _ hx, h⟩
theorem inR_perm {rs ts : List Iv} (p : rs.Perm ts) (k : Int) : inR rs k ↔ inR ts k :=
  ⟨fun ⟨x, hx, h⟩ => ⟨x, p.mem_iff.mp hx, h⟩, fun ⟨x, hx, h⟩ => ⟨x, p.mem_iff.mpr hx, h⟩⟩
theorem Canon.nil : Canon [] := ⟨(fun r h => by cases h), List.Pairwise.nil⟩
theorem Canon.tail {r : Iv} {rs : List Iv} (h : Canon (r :: rs)) : Canon rs := ⟨fun x hx => h.1 x (List.mem_cons_of_mem _ hx), (List.pairwise_cons.mp h.2).2⟩
theorem Canon.head {r : Iv} {rs : List Iv} (h : Canon (r :: rs)) : r.1 ≤ r.2 ∧ ∀ x ∈ rs, r.2 + 1 < x.1 := ⟨h.1 r List.mem_cons_self, (List.pairwise_cons.mp h.2).1⟩
theorem Canon.above {r : Iv} {rs : List Iv} (h : Canon (r :: rs)) {k : Int} (hk : inR rs k) : r.2 + 1 < k := by
  obtain ⟨x, hx, h1, _⟩ := hk
  have := h.head.2 x hx
  omega
theorem canon_uniq : ∀ {a b : List Iv}, Canon a → Canon b → (∀ k, inR a k ↔ inR b k) → a = b
  | [], [], _, _, _ => rfl
  | [], r :: b, _, hb, h => by
    have := (h r.1).mpr ⟨r, List.mem_cons_self, Int.le_refl _, hb.head.1⟩
    exact absurd this (inR_nil _)
  | r :: a, [], ha, _, h => by
    have := (h r.1).mp ⟨r, List.mem_cons_self, Int.le_refl _, ha.head.1⟩
    exact absurd this (inR_nil _)
  | r :: a, t :: b, ha, hb, h => by
    have h1 := ha.head.1
    have h2 := hb.head.1
    have e1 : r.1 = t.1 := by
      have x := (h r.1).mp (inR_cons.mpr (.inl ⟨Int.le_refl _, h1⟩))
      have y := (h t.1).mpr (inR_cons.mpr (.inl ⟨Int.le_refl _, h2⟩))
      rcases inR_cons.mp x with x | x
      · rcases inR_cons.mp y with y | y
        · omega
        · have := ha.above y; omega
      · have := hb.above x
        rcases inR_cons.mp y with y | y
        · omega
        · have := ha.above y; omega
    have e2 : r.2 = t.2 := by
      rcases Int.lt_trichotomy r.2 t.2 with c | c | c
      · have x := (h (r.2 + 1)).mpr (inR_cons.mpr (.inl ⟨by omega, by omega⟩))
        rcases inR_cons.mp x with x | x
        · omega
        · have := ha.above x; omega
      · exact c
      · have x := (h (t.2 + 1)).mp (inR_cons.mpr (.inl ⟨by omega, by omega⟩))
        rcases inR_cons.mp x with x | x
        · omega
        · have := hb.above x; omega
    have e : r = t := Prod.ext e1 e2
    subst e
    rw [canon_uniq ha.tail hb.tail fun k => ?_]
    constructor
    · intro x
      have := ha.above x
      rcases inR_cons.mp ((h k).mp (inR_cons.mpr (.inr x))) with y | y
      · omega
      · exact y
    · intro x
      have := hb.above x
      rcases inR_cons.mp ((h k).mpr (inR_cons.mpr (.inr x))) with y | y
      · omega
      · exact y
theorem Canon.snoc {rs : List Iv} {r : Iv} (h : Canon rs) (h1 : r.1 ≤ r.2) (h2 : ∀ x ∈ rs, x.2 + 1 < r.1) : Canon (rs ++ [r]) := by
  refine ⟨fun x hx => ?_, ?_⟩
  · rcases List.mem_append.mp hx with y | y
    · exact h.1 x y
    · rw [List.mem_singleton.mp y]; exact h1
  · rw [List.pairwise_append]
    refine ⟨h.2, List.pairwise_singleton _ _, fun x hx y hy => ?_⟩
    rw [List.mem_singleton.mp hy]
    exact h2 x hx
theorem Canon.init {rs : List Iv} {r : Iv} (h : Canon (rs ++ [r])) : Canon rs ∧ r.1 ≤ r.2 ∧ ∀ x ∈ rs, x.2 + 1 < r.1 := by
  have h2 := List.pairwise_append.mp h.2
  exact ⟨⟨fun x hx => h.1 x (List.mem_append_left _ hx), h2.1⟩, h.1 r (by simp), fun x hx => h2.2.2 x hx r (by simp)⟩
/-- what is known when the next stretch does not touch -/
theorem join_new {f : List Iv} {r : Iv} (h : Canon f) (hr : r.1 ≤ r.2) (hl : ∀ t ∈ f, t.1 ≤ r.1) (hn : ∀ t ∈ f, t.2 + 1 < r.1) : Canon (f ++ [r]) ∧ (∀ k, inR (f ++ [r]) k ↔ inR f k ∨ (r.1 ≤ k ∧ k ≤ r.2)) ∧ ∀ t ∈ f ++ [r], t.1 ≤ r.1 := by
  refine ⟨h.snoc hr hn, fun k => ?_, fun t ht => ?_⟩
  · rw [inR_app, inR_cons]
    exact ⟨fun x => x.elim .inl fun y => y.elim .inr fun z => absurd z (inR_nil k), fun x => x.elim .inl fun y => .inr (.inl y)⟩
  · rcases List.mem_append.mp ht with y | y
    · exact hl t y
    · rw [List.mem_singleton.mp y]; exact Int.le_refl _
/-- .. and when it touches the last one -/
theorem join_last {f : List Iv} {t r : Iv} (h : Canon (f ++ [t])) (hr : r.1 ≤ r.2) (hl : ∀ x ∈ f ++ [t], x.1 ≤ r.1) (c : r.1 ≤ t.2 + 1) : Canon (f ++ [(t.1, max t.2 r.2)]) ∧ (∀ k, inR (f ++ [(t.1, max t.2 r.2)]) k ↔ inR (f ++ [t]) k ∨ (r.1 ≤ k ∧ k ≤ r.2)) ∧ ∀ x ∈ f ++ [(t.1, max t.2 r.2)], x.1 ≤ r.1 := by
  obtain ⟨h1, h2, h3⟩ := h.init
  have ht := hl t (by simp)
  refine ⟨h1.snoc (by show t.1 ≤ max t.2 r.2; omega) (fun x hx => h3 x hx), fun k => ?_, fun x hx => ?_⟩
  · rw [inR_app, inR_app, inR_cons, inR_cons]
    have := inR_nil k
    constructor
    · rintro (x | x | x)
      · exact .inl (.inl x)
      · have x : t.1 ≤ k ∧ k ≤ max t.2 r.2 := x
        by_cases z : k ≤ t.2
        · exact .inl (.inr (.inl ⟨x.1, z⟩))
        · exact .inr ⟨by omega, by omega⟩
      · exact absurd x this
    · rintro ((x | x | x) | x)
      · exact .inl x
      · exact .inr (.inl ⟨x.1, by show k ≤ max t.2 r.2; omega⟩)
      · exact absurd x this
      · exact .inr (.inl ⟨by show t.1 ≤ k; omega, by show k ≤ max t.2 r.2; omega⟩)
  · rcases List.mem_append.mp hx with y | y
    · exact hl x (List.mem_append_left _ y)
    · rw [List.mem_singleton.mp y]; exact ht
/-- within a stretch: what stands ahead of first, without the keys -/
structure Cut (base : List Iv) (keys : Int → Prop) (lo first : Int) (f : List Iv) : Prop where
  can : Canon f
  gap : ∀ t ∈ f, t.2 + 1 < first
  mem : ∀ k, inR f k ↔ inR base k ∨ (lo ≤ k ∧ k < first ∧ ¬ keys k)
theorem Cut.start {base : List Iv} {keys : Int → Prop} {lo : Int} (h : Canon base) (g : ∀ t ∈ base, t.2 + 1 < lo) : Cut base keys lo lo base :=
  ⟨h, g, fun k => ⟨.inl, fun x => x.elim id fun ⟨a, b, _⟩ => by omega⟩⟩
/-- the next key lies right there -/
theorem Cut.skip {base f : List Iv} {keys : Int → Prop} {lo first : Int} (h : Cut base keys lo first f) (hk : keys first) : Cut base keys lo (first + 1) f := by
  refine ⟨h.can, fun t ht => by have := h.gap t ht; omega, fun k => (h.mem k).trans ⟨fun x => x.elim .inl fun ⟨a, b, c⟩ => .inr ⟨a, by omega, c⟩, fun x => x.elim .inl fun ⟨a, b, c⟩ => ?_⟩⟩
  by_cases z : k = first
  · rw [z] at c; exact absurd hk c
  · exact .inr ⟨a, by omega, c⟩
/-- .. or further up -/
theorem Cut.piece {base f : List Iv} {keys : Int → Prop} {lo first key : Int} (h : Cut base keys lo first f) (hl : lo ≤ first) (c : first < key) (hn : ∀ k, first ≤ k → k < key → ¬ keys k) (hk : keys key) : Cut base keys lo (key + 1) (f ++ [(first, key - 1)]) := by
  refine ⟨h.can.snoc (by show first ≤ key - 1; omega) (fun x hx => h.gap x hx), fun t ht => ?_, fun k => ?_⟩
  · rcases List.mem_append.mp ht with y | y
    · have := h.gap t y; omega
    · rw [List.mem_singleton.mp y]; show key - 1 + 1 < key + 1; omega
  · rw [inR_app, inR_cons, h.mem k]
    have := inR_nil k
    constructor
    · rintro ((x | ⟨a, b, d⟩) | x | x)
      · exact .inl x
      · exact .inr ⟨a, by omega, d⟩
      · have x : first ≤ k ∧ k ≤ key - 1 := x
        exact .inr ⟨by omega, by omega, hn k x.1 (by omega)⟩
      · exact absurd x this
    · rintro (x | ⟨a, b, d⟩)
      · exact .inl (.inl x)
      · by_cases z : k < first
        · exact .inl (.inr ⟨a, z, d⟩)
        · by_cases y : k = key
          · rw [y] at d; exact absurd hk d
          · exact .inr (.inl ⟨by show first ≤ k; omega, by show k ≤ key - 1; omega⟩)
/-- behind the last key -/
theorem Cut.done {base f : List Iv} {keys : Int → Prop} {lo first hi : Int} (h : Cut base keys lo first f) (hl : lo ≤ first) (hf : first ≤ hi + 1) (hn : ∀ k, first ≤ k → k ≤ hi → ¬ keys k) :
    ∃ f', f' = (if first ≤ hi then f ++ [(first, hi)] else f) ∧ Canon f' ∧ (∀ t ∈ f', t.2 ≤ hi) ∧ ∀ k, inR f' k ↔ inR base k ∨ (lo ≤ k ∧ k ≤ hi ∧ ¬ keys k) := by
  refine ⟨_, rfl, ?_⟩
  by_cases c : first ≤ hi
  · rw [if_pos c]
    refine ⟨h.can.snoc c (fun x hx => h.gap x hx), fun t ht => ?_, fun k => ?_⟩
    · rcases List.mem_append.mp ht with y | y
      · have := h.gap t y; omega
      · rw [List.mem_singleton.mp y]; exact Int.le_refl _
    · rw [inR_app, inR_cons, h.mem k]
      have := inR_nil k
      constructor
      · rintro ((x | ⟨a, b, d⟩) | x | x)
        · exact .inl x
        · exact .inr ⟨a, by omega, d⟩
        · have x : first ≤ k ∧ k ≤ hi := x
          exact .inr ⟨by omega, x.2, hn k x.1 x.2⟩
        · exact absurd x this
      · rintro (x | ⟨a, b, d⟩)
        · exact .inl (.inl x)
        · by_cases z : k < first
          · exact .inl (.inr ⟨a, z, d⟩)
          · exact .inr (.inl ⟨by show first ≤ k; omega, b⟩)
  · rw [if_neg c]
    refine ⟨h.can, fun t ht => by have := h.gap t ht; omega, fun k => (h.mem k).trans ⟨fun x => x.elim .inl fun ⟨a, b, d⟩ => .inr ⟨a, by omega, d⟩, fun x => x.elim .inl fun ⟨a, b, d⟩ => .inr ⟨a, by omega, d⟩⟩⟩
/-- keys within stretches that do not touch: not more than there are keys -/
def within (keys : List Int) (r : Iv) : List Int := keys.filter fun k => decide (r.1 ≤ k ∧ k ≤ r.2)
theorem within_sum : ∀ {rs : List Iv}, Canon rs → ∀ keys : List Int, (rs.map fun r => (within keys r).length).sum ≤ (keys.filter fun k => rs.any fun r => decide (r.1 ≤ k ∧ k ≤ r.2)).length
  | [], _, keys => by simp
  | r :: rs, h, keys => by
    have ih := within_sum h.tail keys
    rw [List.map_cons, List.sum_cons]
    have : (within keys r).length + (keys.filter fun k => rs.any fun r => decide (r.1 ≤ k ∧ k ≤ r.2)).length ≤ (keys.filter fun k => (r :: rs).any fun r => decide (r.1 ≤ k ∧ k ≤ r.2)).length := by
      clear ih
      unfold within
      induction keys with
      | nil => simp
      | cons k ks ih2 =>
        by_cases c : r.1 ≤ k ∧ k ≤ r.2
        · have hn : (rs.any fun r => decide (r.1 ≤ k ∧ k ≤ r.2)) = false := by
            rw [List.any_eq_false]
            intro x hx
            have := h.head.2 x hx
            rw [decide_eq_true_iff]
            omega
          rw [List.filter_cons, List.filter_cons, List.filter_cons, if_pos (decide_eq_true c), if_neg (by rw [hn]; decide), if_pos (by rw [List.any_cons, decide_eq_true c]; rfl), List.length_cons, List.length_cons]
          omega
        · have e : ((r :: rs).any fun r => decide (r.1 ≤ k ∧ k ≤ r.2)) = (rs.any fun r => decide (r.1 ≤ k ∧ k ≤ r.2)) := by rw [List.any_cons, decide_eq_false c]; rfl
          rw [List.filter_cons, List.filter_cons, List.filter_cons, if_neg (by rw [decide_eq_false c]; decide), e]
          cases (rs.any fun r => decide (r.1 ≤ k ∧ k ≤ r.2))
          · exact ih2
          · rw [if_pos rfl, if_pos rfl, List.length_cons, List.length_cons]
            omega
    omega
theorem within_le {rs : List Iv} (h : Canon rs) (keys : List Int) : (rs.map fun r => (within keys r).length).sum ≤ keys.length := Nat.le_trans (within_sum h keys) (List.length_filter_le _ _)
end Silt
set_option Elab.async false
set_option linter.all false
/-! the stretches of an ascending row of keys, one key after the other -/
namespace Silt
theorem due_new {due : List Iv} {k : Int} (h : Canon due) (hk : ∀ x, inR due x → x < k) (hl : ∀ f t, due = f ++ [t] → t.2 ≠ k - 1) : Canon (due ++ [(k, k)]) ∧ ∀ x, inR (due ++ [(k, k)]) x ↔ inR due x ∨ x = k := by
  have hn : ∀ t ∈ due, t.2 + 1 < k := by
    rcases List.eq_nil_or_concat due with rfl | ⟨f, t, rfl⟩
    · intro t ht; cases ht
    · rw [List.concat_eq_append] at h hk hl ⊢
      have h0 := h.init
      have ht : t.2 < k := hk _ ⟨t, by simp, h0.2.1, Int.le_refl _⟩
      have hne := hl f t rfl
      intro y hy
      rcases List.mem_append.mp hy with hy | hy
      · have := h0.2.2 y hy
        have := h0.2.1
        omega
      · rw [List.mem_singleton.mp hy]
        omega
  have a := join_new (r := (k, k)) h (Int.le_refl _) (fun t ht => by have := h.1 t ht; have := hn t ht; show t.1 ≤ k; omega) hn
  refine ⟨a.1, fun x => (a.2.1 x).trans (or_congr_right ⟨fun z => ?_, fun z => ?_⟩)⟩
  · have z1 : k ≤ x := z.1
    have z2 : x ≤ k := z.2
    omega
  · show k ≤ x ∧ x ≤ k
    omega
theorem due_last {f : List Iv} {t : Iv} {k : Int} (h : Canon (f ++ [t])) (e : t.2 = k - 1) : Canon (f ++ [(t.1, k)]) ∧ ∀ x, inR (f ++ [(t.1, k)]) x ↔ inR (f ++ [t]) x ∨ x = k := by
  have h0 := h.init
  have a := join_last (r := (k, k)) h (Int.le_refl _) (fun x hx => by
    show x.1 ≤ k
    rcases List.mem_append.mp hx with hx | hx
    · have := h0.2.2 x hx
      have := (h0.1).1 x hx
      have := h0.2.1
      omega
    · rw [List.mem_singleton.mp hx]
      have := h0.2.1
      omega) (by show k ≤ t.2 + 1; omega)
  have em : max t.2 k = k := by omega
  have a1 := a.1
  have a2 := a.2.1
  have em2 : max t.2 (((k, k) : Iv).2) = k := em
  rw [em2] at a1 a2
  refine ⟨a1, fun x => (a2 x).trans (or_congr_right ⟨fun z => ?_, fun z => ?_⟩)⟩
  · have z1 : k ≤ x := z.1
    have z2 : x ≤ k := z.2
    omega
  · show k ≤ x ∧ x ≤ k
    omega
end Silt
set_option Elab.async false
set_option linter.all false
set_option maxRecDepth 100000
set_option maxHeartbeats 4000000
namespace L2
open PySem PySem.Spec PyProof.Rows
section
variable {X : Cx} {CX : CXT} {k j : Nat} {f C : Addr} {fd : FuncData} {ps : List Str} {sp : Sp} {dvs : List V} {ds : List Value} {E : XK} {pos : Pos} {a b : Expr} {ta tb : TE}
/-- the callee runs one level within a built-in's body -/
theorem run_fn1 {pins : List (Addr × Obj)} {σ : St} {H : Hp} {s : Shared} {Q : VK} {us : List Value} {vs : List V} (F : FnOk X.prog X.w X.K X.mg X.base CX k f fd ps sp) (hr : Room (k + 1) X.A) (hb : Binds X.K fd ps ds) (hd : Vals dvs ds) (hx : Passes CX X E)
    (I : Inv X pins σ H s) (r : Vals vs us) (h : sp (vs ++ dvs) H Q E) : wpAny (model X.prog X.w) X.A.in1 (call (.ref f) us) (EP X pins σ Q) X.xe s := by
  have r2 : Vals (vs ++ dvs) (us ++ ds) := r.append hd
  have hl : (us ++ ds).length = ps.length := by rw [← r2.length]; exact F.len _ _ _ _ h
  refine wpAny_call (codeAny_mono (F.run X.A.in1 X.stack s H ⟨us, []⟩ (us ++ ds) (vs ++ dvs) Q E hr.in1 I.env0.in1 (hb s us I.kIn hl) r2 h) fun r s' hq => ?_)
  cases r with
  | error e => exact hx pins σ H s e s' I hq
  | ok fl =>
    cases fl with
    | ret u => exact I.after hq
    | next => exact False.elim hq
    | brk => exact False.elim hq
    | cont => exact False.elim hq
/-- o[i] of an own class with its own __getitem__ -/
def rOwnI (C : Addr) (sp : Sp) (dvs : List V) : R2 := fun x y H Q => ∃ a dx fs, x = .ref a ∧ H a = some (.ins C dx fs) ∧ sp (x :: ([y] ++ dvs)) H Q C8.E0
theorem pe_ixO (c : C8.Met X.prog X.w X.K X.mg X.base k C "__getitem__" sp dvs) (hr : Room j X.A) (hk : k + 1 ≤ j) (ha : PE X a ta) (hb : PE X b tb) (hfn : ∀ f, PySem.W.findIn X.K (.ref C) "__getitem__" = some (some (.ref f)) → PySem.W.fnIn X.K f = true)
    (hs : ∀ o i, subscripted b true o i = runValue (.builtin "lifetime.subscript" ⟨[o, i], []⟩) := by intro _ _; first | rfl | with_unfolding_all rfl) :
    PE X (.Subscript a b pos) (tOp (rOwnI C sp dvs) ta tb) := by
  obtain ⟨f, fd, ps, ds, cl, hm, F, bd, d⟩ := c.ex
  refine ⟨fun pins s σ H Q I h => ?_⟩
  refine Subscript_ (binT ha hb I h fun v u s2 x y H2 I2 rx ry q => ?_)
  obtain ⟨p, dx, fs, rfl, e, q⟩ := q
  obtain rfl : v = Value.ref p := rx
  obtain ⟨mA, O, _, _, _, _⟩ := ins_get I2.hok e
  obtain ⟨od, J, _⟩ := O.look
  obtain ⟨m, F0⟩ := I2.fr
  refine PySem.W.sub_K F0 I2.ok.mod.kin J hm.at_ (hfn _ hm.at_) hm.fn ?_ (hs _ _)
  exact run_fn1 (us := [.ref p, u]) (vs := [.ref p, y]) F (hr.mono hk) bd d C8.pass0 I2 (.cons rfl (.cons ry .nil)) q

/-! ### names as slots -/
theorem pg_n (i : Nat) {x : Str} {pos : Pos} (hN : X.N.Nodup) (hi : X.N[i]? = some x := by rfl) (hx : Loc X.env.scope x := by first | exact .inl rfl | exact .inr rfl) (hf : X.fn x = true ∨ X.env.scope.names.lookup x = some .local := by first | exact .inl rfl | exact .inr rfl) : PG X (.Name x pos) (gName i) := pg_name hN hi hx hf
theorem ps_s (i : Nat) {x : Str} {e : Expr} {te : TE} {pos' : Pos} (hN : X.N.Nodup) (he : PE X e te) (hi : X.N[i]? = some x := by rfl) (hx : Loc X.env.scope x := by first | exact .inl rfl | exact .inr rfl) (hs : swapsWith e (some (.Name x pos')) pos.line X.env = pure false := by rfl) (hf : X.fn x = true ∨ X.env.scope.names.lookup x = some .local := by first | exact .inl rfl | exact .inr rfl) :
    PS X (.Assign [.Name x pos'] e pos) (tAsg te (gName i)) := ps_set hN hi hx he hs hf
theorem ps_au (i : Nat) {x : Str} {e : Expr} {te : TE} {op : Operator} {ti : TIp} {pos' : Pos} (hN : X.N.Nodup) (he : PE X e te) (ho : PIp X op ti) (hi : X.N[i]? = some x := by rfl) (hx : Loc X.env.scope x := by first | exact .inl rfl | exact .inr rfl) (hf : X.fn x = true ∨ X.env.scope.names.lookup x = some .local := by first | exact .inl rfl | exact .inr rfl) :
    PS X (.AugAssign (.Name x pos') op e pos) (tAug i te ti) := ps_aug hN hi hx he ho hf
/-! ### a drawing list: item 0 is the script, item 1 some int (which one is not told) -/
def DrawO (a sc : Addr) : HO := .ext fun h => ∃ (i : Int) (t : Tok) (n : Nat), h.get? a = some { cls := .type "list", data := .seq #[.ref sc, .int i t] n }
theorem drawO_new {P : Program} {w : World} {H : Hp} {h : Heap} {a sc : Addr} {i : Int} {t : Tok} {n : Nat} (e : h.get? a = some { cls := .type "list", data := .seq #[.ref sc, .int i t] n }) : ObjOk P w H h a (DrawO a sc) :=
  ⟨⟨i, t, n, e⟩, ⟨_, e⟩, fun h1 h2 ⟨i, t, n, e⟩ k => ⟨i, t, n, k _ e⟩⟩
/-- [script, 0] -/
def tDraw (t : TA) : TE := fun σ H Q => t σ H fun xs H1 => ∃ sc i, xs = [.ref sc, .int i] ∧ ∀ p, H1 p = none → Q (.ref p) (upd H1 p (DrawO p sc))
theorem pe_draw {es : List Expr} {t : TA} (h : PA X es t) : PE X (.List es pos) (tDraw t) := by
  refine ⟨fun pins s σ H Q I hq => ?_⟩
  refine wpAny_List_spliced (thn (h.run pos pins s σ H _ I hq) fun us s1 ⟨xs, H1, I1, r, sc, i, e, q⟩ => ?_)
  subst e
  obtain ⟨u1, u2, rfl, r1, r2⟩ := vals2 r
  obtain rfl : u1 = Value.ref sc := r1
  obtain ⟨t, rfl⟩ := r2
  refine ⟨by show 2 ≤ sizeLine; decide, ?_⟩
  have hf : H1 s1.heap.objs.size = none := I1.hok.fresh (Nat.le_refl _)
  refine ⟨.ref s1.heap.objs.size, upd H1 s1.heap.objs.size (DrawO s1.heap.objs.size sc), I1.laid (t' := s1.toks) (fun b u e => Heap.get?_push_of_some _ e) (Nat.le_refl _) ?_, rfl, q _ hf⟩
  exact drawO_new (i := i) (t := t) (n := 0) (Heap.get?_push_size _ rfl)
theorem draw_get {pins : List (Addr × Obj)} {σ : St} {H : Hp} {s : Shared} {a sc : Addr} (I : Inv X pins σ H s) (e : H a = some (DrawO a sc)) : ∃ (i : Int) (t : Tok) (n : Nat), s.heap.get? a = some { cls := .type "list", data := .seq #[.ref sc, .int i t] n } := (I.hok a _ e).1
def rDraw0 : R2 := fun x y H Q => ∃ a sc, x = .ref a ∧ y = .int 0 ∧ H a = some (DrawO a sc) ∧ Q (.ref sc) H
def rDraw1 : R2 := fun x y H Q => ∃ a sc, x = .ref a ∧ y = .int 1 ∧ H a = some (DrawO a sc) ∧ ∀ i : Int, Q (.int i) H
theorem ix_draw0 : IxR X rDraw0 := by
  intro value slice pins s σ H x y v u Q I rx ry h hs
  obtain ⟨a, sc, rfl, rfl, e, q⟩ := h
  cases rx
  obtain ⟨t, rfl⟩ := ry
  obtain ⟨i, ti, n, ho⟩ := draw_get I e
  exact item_listR (items := #[.ref sc, .int i ti]) (x := .ref sc) ⟨_, ho, rfl, n, rfl⟩ (by decide) (by decide) (by rfl) ⟨.ref sc, H, I, rfl, q⟩ hs
theorem ix_draw1 : IxR X rDraw1 := by
  intro value slice pins s σ H x y v u Q I rx ry h hs
  obtain ⟨a, sc, rfl, rfl, e, q⟩ := h
  cases rx
  obtain ⟨t, rfl⟩ := ry
  obtain ⟨i, ti, n, ho⟩ := draw_get I e
  exact item_listR (items := #[.ref sc, .int i ti]) (x := .int i ti) ⟨_, ho, rfl, n, rfl⟩ (by decide) (by decide) (by rfl) ⟨.int i, H, I, ⟨ti, rfl⟩, q i⟩ hs
theorem get_draw1 : PGet X rDraw1 := by
  intro pins s σ H x y v u Q I rx ry h
  obtain ⟨a, sc, rfl, rfl, e, q⟩ := h
  cases rx
  obtain ⟨t, rfl⟩ := ry
  obtain ⟨i, ti, n, ho⟩ := draw_get I e
  exact wpAny_getItem_list (items := #[.ref sc, .int i ti]) (x := .int i ti) ⟨_, ho, rfl, n, rfl⟩ (by decide) (by decide) (by rfl) ⟨.int i, H, I, ⟨ti, rfl⟩, q i⟩
def sDraw1 : TSet := fun o i v H Q => ∃ (a sc : Addr) (j : Int), o = .ref a ∧ i = .int 1 ∧ v = .int j ∧ H a = some (DrawO a sc) ∧ Q H
theorem upd_self {H : Hp} {a : Addr} {o : HO} (e : H a = some o) : upd H a o = H := by
  funext b
  unfold upd
  by_cases h : b = a
  · rw [if_pos h, h, e]
  · rw [if_neg h]
theorem set_draw1 : PSet X sDraw1 := by
  intro pins s σ H o i v ov iv u Q I ro ri rv h
  obtain ⟨a, sc, j, rfl, rfl, rfl, e, q⟩ := h
  cases ro
  obtain ⟨t, rfl⟩ := ri
  obtain ⟨t2, rfl⟩ := rv
  obtain ⟨i0, ti, n, ho⟩ := draw_get I e
  have hm : Obj.mapSeq (·.setIfInBounds 1 (.int j t2)) { cls := .type "list", data := .seq #[.ref sc, .int i0 ti] n } = { cls := .type "list", data := .seq #[.ref sc, .int j t2] n } := by rfl
  have g1 : (s.heap.update a (Obj.mapSeq (·.setIfInBounds 1 (.int j t2)))).get? a = some { cls := .type "list", data := .seq #[.ref sc, .int j t2] n } := by
    rw [Heap.get?_update_self _ ho (by rw [hm]; rfl), hm]
  have I' := I.write (x := a) (e := a) (o := DrawO a sc) (h' := s.heap.update a (Obj.mapSeq (·.setIfInBounds 1 (.int j t2)))) (t' := s.toks) (by rw [e]; exact True.intro) (.inl rfl)
    (fun b u hb z => by rw [Heap.get?_update_ne _ _ _ _ hb]; exact z) ⟨_, g1⟩ (drawO_new g1)
  rw [upd_self e] at I'
  exact PySem.W.ki_setAt (items := #[.ref sc, .int i0 ti]) ho (by decide) (by decide) (by show (1 : Int) < 2; decide) ⟨H, I', q⟩
end
end L2
set_option Elab.async false
set_option linter.all false
set_option maxRecDepth 100000
set_option maxHeartbeats 4000000
namespace L2
open PySem PySem.Spec PyProof.Rows
section
variable {X : Cx} {a b c d : Expr} {ta tb tc td : TE} {pos : Pos}
/-- a op1 b op2 c op3 d -/
def tChain3 (r r' r'' : R2) (ta tb tc td : TE) : TE := fun σ H Q => ta σ H fun x H1 => tb σ H1 fun y H2 => r x y H2 fun z H3 => ∃ k, z = .bl k ∧
  (if k = true then tc σ H3 fun w' H4 => r' y w' H4 fun z' H5 => ∃ k', z' = .bl k' ∧ (if k' = true then td σ H5 fun v' H6 => r'' w' v' H6 Q else Q (.bl false) H5) else Q (.bl false) H3)
theorem pe_chain3 {op op' op'' : CmpOp} {r r' r'' : R2} (ho : OpR X (compareOp op) r) (ho' : OpR X (compareOp op') r') (ho'' : OpR X (compareOp op'') r'') (ha : PE X a ta) (hb : PE X b tb) (hc : PE X c tc) (hd : PE X d td)
    (hm : lastMarks [op, op', op''] [b, c, d] = false := by with_unfolding_all rfl) : PE X (.Compare a [op, op', op''] [b, c, d] pos) (tChain3 r r' r'' ta tb tc td) := by
  refine ⟨fun pins s σ H Q I h => ?_⟩
  refine Compare_chain (thn (ha.run pins s σ H _ I h) fun v s1 ⟨x, H1, I1, r1, q1⟩ => chain_link (thn (hb.run pins s1 σ H1 _ I1 q1) fun u s2 ⟨y, H2, I2, r2, q2⟩ =>
    thn (ho pins s2 σ H2 x y v u _ I2 r1 r2 q2) fun d s3 ⟨z, H3, I3, r3, k, e, q3⟩ => ?_)) hm
  subst e
  cases r3
  refine wpAny_truthy_bool ?_
  cases k with
  | false => exact ite_ff ⟨.bl false, H3, I3, rfl, q3⟩
  | true =>
    refine ite_tt (chain_link (thn (hc.run pins s3 σ H3 _ I3 q3) fun w' s4 ⟨z', H4, I4, r4, q4⟩ => thn (ho' pins s4 σ H4 y z' u w' _ I4 r2 r4 q4) fun d s5 ⟨z5, H5, I5, r5, k5, e5, q5⟩ => ?_))
    subst e5
    cases r5
    refine wpAny_truthy_bool ?_
    cases k5 with
    | false => exact ite_ff ⟨.bl false, H5, I5, rfl, q5⟩
    | true => exact ite_tt (chain_last (thn (hd.run pins s5 σ H5 _ I5 q5) fun w6 s6 ⟨z6, H6, I6, r6, q6⟩ => ho'' pins s6 σ H6 z' z6 w' w6 Q I6 r4 r6 q6))
/-- o.f as a target -/
def gFld (K : PySem.W.Frag) (to : TE) (f : Str) : TG := fun v σ H Q => to σ H fun x H1 => ∃ a C dx fs, x = .ref a ∧ H1 a = some (.ins C dx fs) ∧ Cls K C ∧ NoAttr K C f ∧ fs.length < 1000 ∧ Q σ (upd H1 a (.ins C dx (putF f v fs)))
theorem pg_attr {o : Expr} {f : Str} {to : TE} (ho : PE X o to)
    (ha : ∀ v, assign (.Attribute o f pos) X.env v = (do
      let ov ← holding [v] (eval o X.env)
      standAt pos.atName
      holding [v, ov] (setAttr ov f v)
      release [v, ov] []) := by intro _; rfl) : PG X (.Attribute o f pos) (gFld X.K to f) := by
  refine ⟨fun pins s σ H v u Q I r h => ?_⟩
  rw [ha]
  refine wpAny_bind (wpAny_holding (thn (ho.run pins s σ H _ I h) fun ov s1 ⟨x, H1, I1, r1, p, C, dx, fs, ex, e, c, n, hl, q1⟩ => ?_))
  subst ex
  obtain rfl : ov = Value.ref p := r1
  refine wpAny_bind (wpAny_standAt (wpAny_bind (wpAny_holding (setattr_ok I1 e c n hl r fun s2 I2 => ?_))))
  exact wpAny_release ⟨σ, _, I2, q1⟩
/-! ### tuple * 1 is the tuple itself -/
theorem tuple_mul1 (l : Addr) (items : Array Value) (n : Nat) (dd : Option Addr) (sl : Array (Option Value)) (u : Tok) :
    Meets (Builtin.«tuple.__mul__» ⟨[.ref l, .int 1 u], []⟩) (fun _ R s => s.heap.get? l = some { cls := .type "tuple", dict := dd, data := .seq items n, slots := sl } ∧
      R (.ok (.ret (Value.ref l))) s) :=
  .of_wp fun prog w A R s h => by
    obtain ⟨hp, g, d, tk, os⟩ := s
    obtain ⟨hl, h⟩ := h
    have f1 := AutoSeq1.idx_int
    have c1 : (items.isEmpty || (1 : Int) == 1) = true := by simp
    wp_walk using wpAny_loadPart' hl
    exact ⟨_, rfl, h⟩
def rRepT1 (K : PySem.W.Frag) : R2 := fun x y H Q => ∃ l xs, x = .ref l ∧ y = .int 1 ∧ SqT K H l xs ∧ Q (.ref l) H
theorem op_repT1 : OpR X (binaryOp .Mult) (rRepT1 X.K) := by
  intro pins s σ H x y v u Q I rx ry h
  obtain ⟨l, xs, rfl, rfl, hT, q⟩ := h
  cases rx
  obtain ⟨t, rfl⟩ := ry
  obtain ⟨its, r, ⟨⟨cls, dd, data, sl⟩, ho, hc, n, hd⟩, hs⟩ := I.tuple hT
  simp only at hc hd
  subst hc hd
  exact wpAny_binaryOp_repeat_ref (T := "tuple") (U := "int") (by decide) ⟨_, ho, rfl⟩ (fun s' => typeIs_int s' 1 t) noFill_tuple_mul F.fills_int_mul F.slot_int_rmul repeat_tuple F.slot_int_index.lookup
    (call_meets F.slot_int_rmul (typeIs_int s 1 t) F.entry_int_rmul (F.args_int_rmul_2 _ _) (int_rmul_tuple 1 t l its.toArray n dd sl)
      ⟨ho, rfl, ⟨_, ho, rfl⟩, call_meets F.slot_tuple_mul ⟨_, ho, rfl⟩ F.entry_tuple_mul (F.args_tuple_mul_2 _ _) (tuple_mul1 l its.toArray n dd sl t) ⟨ho, ⟨.ref l, H, I, rfl, q⟩⟩⟩)
def rOr (r r' : R2) : R2 := fun x y H Q => r x y H Q ∨ r' x y H Q
theorem opR_or {f : Value → Value → Sem Value} {r r' : R2} (h : OpR X f r) (h' : OpR X f r') : OpR X f (rOr r r') := by
  intro pins s σ H x y v u Q I rx ry q
  rcases q with q | q
  · exact h pins s σ H x y v u Q I rx ry q
  · exact h' pins s σ H x y v u Q I rx ry q
theorem op_repTA : OpR X (binaryOp .Mult) (rOr (rRepT1 X.K) (rRepT X.K)) := opR_or op_repT1 op_repT
/-- x is None, x is not None -/
def rIsNn : R2 := fun x y H Q => y = .non ∧ Q (.bl (decide (x = .non))) H
def rNotNn : R2 := fun x y H Q => y = .non ∧ Q (.bl (!decide (x = .non))) H
theorem op_isNn : OpR X (compareOp .Is) rIsNn := op_isN
theorem op_notNn : OpR X (compareOp .IsNot) rNotNn := op_notN
/-! ### within a comprehension the frag must be told by its name -/
theorem ixK (R : PySem.W.Frag → R2) (K : PySem.W.Frag) (h : IxR X (R X.K)) (e : X.K = K := by rfl) : IxR X (R K) := e ▸ h
theorem opK {f : Value → Value → Sem Value} (R : PySem.W.Frag → R2) (K : PySem.W.Frag) (h : OpR X f (R X.K)) (e : X.K = K := by rfl) : OpR X f (R K) := e ▸ h
theorem callK {f : Value} (R : PySem.W.Frag → List V → Hp → VK → Prop) (K : PySem.W.Frag) (h : CallR X f (R X.K)) (e : X.K = K := by rfl) : CallR X f (R K) := e ▸ h
theorem pe_fldK {f : Str} (K : PySem.W.Frag) (h : PE X (.Attribute a f pos) (tFld X.K ta f)) (e : X.K = K := by rfl) : PE X (.Attribute a f pos) (tFld K ta f) := e ▸ h
end
end L2
set_option Elab.async false
set_option linter.all false
set_option maxRecDepth 100000
set_option maxHeartbeats 4000000
set_option exponentiation.threshold 9000
namespace Sl
open PySem L2 C8 StX
/-! ### great numbers -/
def BBn : Nat := 2 ^ 8900
theorem bbn_pos : 1000000 ≤ BBn := by
  unfold BBn
  have e : (2 : Nat) ^ 8900 = 2 ^ 20 * 2 ^ 8880 := (Nat.pow_add 2 20 8880)
  have : (1 : Nat) ≤ 2 ^ 8880 := Nat.pow_pos (by decide)
  rw [e]
  omega
theorem bbn_lt : BBn < 2 ^ 8901 := by
  unfold BBn
  exact Nat.pow_lt_pow_right (by decide) (by decide)
def BB : Int := (BBn : Nat)
theorem bb_nat {i : Int} (h0 : -BB ≤ i) (h : i ≤ BB) : i.natAbs < 2 ^ 8901 := by
  have := bbn_lt
  unfold BB at h0 h
  generalize (2 : Nat) ^ 8001 = b at *
  omega
theorem bb_pos : 1000000 ≤ BB := by have := bbn_pos; unfold BB; omega
def DDn : Nat := 2 ^ 2000
/-- days are below this -/
def DD : Int := (DDn : Nat)
theorem dd_pos : 1000000 ≤ DD := by
  have : 1000000 ≤ DDn := by
    unfold DDn
    have e : (2 : Nat) ^ 2000 = 2 ^ 20 * 2 ^ 1980 := (Nat.pow_add 2 20 1980)
    have : (1 : Nat) ≤ 2 ^ 1980 := Nat.pow_pos (by decide)
    rw [e]
    omega
  unfold DD; omega
theorem dd_bb : DD * 1000 ≤ BB := by
  have h : DDn * 1000 ≤ BBn := by
    unfold DDn BBn
    have e : (2 : Nat) ^ 8900 = 2 ^ 2000 * 2 ^ 6900 := (Nat.pow_add 2 2000 6900)
    have e2 : (2 : Nat) ^ 6900 = 2 ^ 10 * 2 ^ 6890 := (Nat.pow_add 2 10 6890)
    have : (1 : Nat) ≤ 2 ^ 6890 := Nat.pow_pos (by decide)
    rw [e]
    exact Nat.mul_le_mul_left _ (by omega)
  unfold DD BB
  omega
theorem cmulw {i j : Int} (h0 : -BB ≤ i) (h : i ≤ BB) (g0 : -BB ≤ j) (g : j ≤ BB) : CMulW i j := wide_mul (bb_nat h0 h) (bb_nat g0 g) (by decide) (by decide) (by decide)
theorem cdivw {i j : Int} (h0 : 0 < j) (h : j ≤ BB) : CDivW i j := wide_div h0 (bb_nat (by have := bb_pos; omega) h) (by decide) (by decide)
/-! ### heaps -/
theorem Same.new {H H' : Hp} {p : Addr} {o : HO} (e : Same H H') (h : H' p = none) : Same H (upd H' p o) := fun a u ha => by
  rw [upd_ne (ne_of_none (e a u ha) h)]
  exact e a u ha
theorem Same.mut {H H' : Hp} {p : Addr} {o : HO} (e : Same H H') (h : H p = none) : Same H (upd H' p o) := fun a u ha => by
  rw [upd_ne (ne_of_none ha h)]
  exact e a u ha
mutual
/-- a value that holds data, all of it tracked -/
inductive Dt (H : Hp) : V → PyData → Prop
  | non : Dt H .non .none
  | bl (b : Bool) : Dt H (.bl b) (.bool b)
  | int (i : Int) : Dt H (.int i) (.int i)
  | str (x : Str) : Dt H (.str x) (.str x)
  | lst {a : Addr} {xs : List V} {ds : List PyData} : H a = some (.lst xs) → DtAll H xs ds → Dt H (.ref a) (.list ds)
  | tup {a : Addr} {xs : List V} {ds : List PyData} : H a = some (.tup xs) → DtAll H xs ds → Dt H (.ref a) (.tuple ds)
inductive DtAll (H : Hp) : List V → List PyData → Prop
  | nil : DtAll H [] []
  | cons {v : V} {vs : List V} {d : PyData} {ds : List PyData} : Dt H v d → DtAll H vs ds → DtAll H (v :: vs) (d :: ds)
end
mutual
theorem Dt.mono {H H' : Hp} (s : Same H H') : ∀ {v : V} {d : PyData}, Dt H v d → Dt H' v d
  | _, _, .non => .non
  | _, _, .bl b => .bl b
  | _, _, .int i => .int i
  | _, _, .str x => .str x
  | _, _, .lst e h => .lst (s _ _ e) (DtAll.mono s h)
  | _, _, .tup e h => .tup (s _ _ e) (DtAll.mono s h)
theorem DtAll.mono {H H' : Hp} (s : Same H H') : ∀ {vs : List V} {ds : List PyData}, DtAll H vs ds → DtAll H' vs ds
  | _, _, .nil => .nil
  | _, _, .cons h t => .cons (Dt.mono s h) (DtAll.mono s t)
end
mutual
theorem Dt.dp {K : PySem.W.Frag} {H : Hp} : ∀ {v : V} {d : PyData}, Dt H v d → Dp K H v d
  | _, _, .non => .non
  | _, _, .bl b => .bl b
  | _, _, .int i => .int i
  | _, _, .str x => .str x
  | _, _, .lst e h => .lst (SqL.of e) (DtAll.dp h)
  | _, _, .tup e h => .tup (SqT.of e) (DtAll.dp h)
theorem DtAll.dp {K : PySem.W.Frag} {H : Hp} : ∀ {vs : List V} {ds : List PyData}, DtAll H vs ds → DpAll K H vs ds
  | _, _, .nil => .nil
  | _, _, .cons h t => .cons (Dt.dp h) (DtAll.dp t)
end
theorem DtAll.length {H : Hp} : ∀ {vs : List V} {ds : List PyData}, DtAll H vs ds → vs.length = ds.length
  | _, _, .nil => rfl
  | _, _, .cons _ t => by rw [List.length_cons, List.length_cons, DtAll.length t]
theorem DtAll.get {H : Hp} : ∀ {vs : List V} {ds : List PyData} {i : Nat} {d : PyData}, DtAll H vs ds → ds[i]? = some d → ∃ v, vs[i]? = some v ∧ Dt H v d
  | _, _, _, _, .nil, h => by simp at h
  | _, _, 0, _, .cons h _, e => by simp at e; subst e; exact ⟨_, rfl, h⟩
  | _, _, i + 1, _, .cons _ t, e => by
    obtain ⟨v, h1, h2⟩ := DtAll.get (i := i) t (by simpa using e)
    exact ⟨v, by simpa using h1, h2⟩
theorem DtAll.getV {H : Hp} : ∀ {vs : List V} {ds : List PyData} {i : Nat} {v : V}, DtAll H vs ds → vs[i]? = some v → ∃ d, ds[i]? = some d ∧ Dt H v d
  | _, _, _, _, .nil, h => by simp at h
  | _, _, 0, _, .cons h _, e => by simp at e; subst e; exact ⟨_, rfl, h⟩
  | _, _, i + 1, _, .cons _ t, e => by
    obtain ⟨v, h1, h2⟩ := DtAll.getV (i := i) t (by simpa using e)
    exact ⟨v, by simpa using h1, h2⟩
theorem DtAll.append {H : Hp} : ∀ {vs ws : List V} {ds es : List PyData}, DtAll H vs ds → DtAll H ws es → DtAll H (vs ++ ws) (ds ++ es)
  | _, _, _, _, .nil, s => s
  | _, _, _, _, .cons h t, s => .cons h (DtAll.append t s)
theorem DtAll.take {H : Hp} : ∀ {vs : List V} {ds : List PyData} (n : Nat), DtAll H vs ds → DtAll H (vs.take n) (ds.take n)
  | _, _, 0, _ => .nil
  | _, _, _ + 1, .nil => .nil
  | _, _, n + 1, .cons h t => .cons h (DtAll.take n t)
theorem DtAll.drop {H : Hp} : ∀ {vs : List V} {ds : List PyData} (n : Nat), DtAll H vs ds → DtAll H (vs.drop n) (ds.drop n)
  | _, _, 0, r => r
  | _, _, _ + 1, .nil => .nil
  | _, _, n + 1, .cons _ t => DtAll.drop n t
/-- ints -/
def intsD (ns : List Int) : List PyData := ns.map PyData.int
theorem DtAll.intsD {H : Hp} : ∀ (ns : List Int), DtAll H (ns.map V.int) (intsD ns)
  | [] => .nil
  | n :: ns => .cons (.int n) (DtAll.intsD ns)
theorem DtAll.intsD_inv {H : Hp} : ∀ {ns : List Int} {vs : List V}, DtAll H vs (Sl.intsD ns) → vs = ns.map V.int
  | [], _, .nil => rfl
  | n :: ns, _, .cons (.int _) t => by rw [DtAll.intsD_inv t]; rfl
/-! ### readings by names -/
def rNewL (Q : VK) (xs : List V) (H1 : Hp) : Prop := xs.length ≤ sizeLine ∧ ∀ p, H1 p = none → Q (.ref p) (upd H1 p (.lst xs))
def rNewT (Q : VK) (xs : List V) (H1 : Hp) : Prop := xs.length ≤ sizeLine ∧ ∀ p, H1 p = none → Q (.ref p) (upd H1 p (.tup xs))
def rMax2 : List V → Hp → VK → Prop := fun xs H Q => ∃ i j, xs = [.int i, .int j] ∧ Q (.int (if j > i then j else i)) H
def rMin2 : List V → Hp → VK → Prop := fun xs H Q => ∃ i j, xs = [.int i, .int j] ∧ Q (.int (if j < i then j else i)) H
def rAbs : List V → Hp → VK → Prop := fun xs H Q => ∃ i, xs = [.int i] ∧ Q (.int (if i < 0 then -i else i)) H
def rInt1 : List V → Hp → VK → Prop := fun xs H Q => (∃ i, xs = [.int i] ∧ Q (.int i) H) ∨ ∃ k, xs = [.bl k] ∧ Q (.int (if k then 1 else 0)) H
def rLenS (K : PySem.W.Frag) : List V → Hp → VK → Prop := fun xs H Q => ∃ p ys, xs = [.ref p] ∧ (SqL K H p ys ∨ SqT K H p ys) ∧ Q (.int ys.length) H
def rIsC (C : Addr) : List V → Hp → VK → Prop := fun xs H Q => ∃ a dx fs, xs = [.ref a, .ref C] ∧ H a = some (.ins C dx fs) ∧ Q (.bl true) H
def rTupOf (K : PySem.W.Frag) : List V → Hp → VK → Prop := fun xs H Q => ∃ p ys, xs = [.ref p] ∧ ((SqL K H p ys ∧ ∀ l, H l = none → Q (.ref l) (upd H l (.tup ys))) ∨ (SqT K H p ys ∧ Q (.ref p) H))
def rLstOf (K : PySem.W.Frag) : List V → Hp → VK → Prop := fun xs H Q => ∃ p ys, xs = [.ref p] ∧ (SqL K H p ys ∨ SqT K H p ys) ∧ ∀ l, H l = none → Q (.ref l) (upd H l (.lst ys))
def rFld (K : PySem.W.Frag) (f : Str) : V → Hp → VK → Prop := fun x H1 Q => ∃ a C dx fs v, x = .ref a ∧ H1 a = some (.ins C dx fs) ∧ Cls K C ∧ NoAttr K C f ∧ fs.lookup f = some v ∧ Q v H1
section
variable {X : Cx}
theorem cr_max2 (hc : X.calm = true) : CallR X (.builtin "max") rMax2 := call_max2 hc
theorem cr_min2 (hc : X.calm = true) : CallR X (.builtin "min") rMin2 := call_min2 hc
theorem cr_abs : CallR X (.builtin "abs") rAbs := call_abs
theorem cr_int1 : CallR X (.type "int") rInt1 := call_int1
theorem cr_lenS : CallR X (.builtin "len") (rLenS X.K) := call_len_seq
theorem cr_isC {C : Addr} (c : InsC X.K C) : CallR X (.builtin "isinstance") (rIsC C) := call_isC c
theorem cr_tupOf : CallR X (.type "tuple") (rTupOf X.K) := call_tuple_of
theorem cr_lstOf : CallR X (.type "list") (rLstOf X.K) := call_list_of
end
/-! ### readings, backwards -/
section
variable {σ : L2.St} {H H' : Hp} {Q : VK} {E : XK} {te ta tb tc : TE} {t u : TS} {g : TG} {i : Nat} {v x y : V} {K : PySem.W.Frag} {nx bk ct : L2.St → Hp → Prop} {rt : VK} {QB : Bool → Hp → Prop} {QL : List V → Hp → Prop} {QS : L2.St → Hp → Prop}
theorem rd_seq (h : t ⟨u ⟨nx, rt, bk, ct⟩, rt, bk, ct⟩ σ H) : tSeq t u ⟨nx, rt, bk, ct⟩ σ H := h
theorem rd_asg (h : te σ H fun x H1 => nx (σ.set i (some x)) H1) : tAsg te (gName i) ⟨nx, rt, bk, ct⟩ σ H := h
theorem rd_asgG (h : te σ H fun x H1 => g x σ H1 nx) : tAsg te g ⟨nx, rt, bk, ct⟩ σ H := h
theorem rd_drop (h : te σ H fun _ H1 => nx σ H1) : tDrop te ⟨nx, rt, bk, ct⟩ σ H := h
theorem rd_ret (h : te σ H rt) : tRet te ⟨nx, rt, bk, ct⟩ σ H := h
theorem rd_retN (h : rt .non H) : tRetN ⟨nx, rt, bk, ct⟩ σ H := h
theorem rd_next (h : nx σ H) : tNext ⟨nx, rt, bk, ct⟩ σ H := h
theorem rd_break (h : bk σ H) : tBreak ⟨nx, rt, bk, ct⟩ σ H := h
theorem rd_cont (h : ct σ H) : tCont ⟨nx, rt, bk, ct⟩ σ H := h
theorem rd_ifS {c : TT} (h : c σ H fun b H1 => if b = true then t ⟨nx, rt, bk, ct⟩ σ H1 else u ⟨nx, rt, bk, ct⟩ σ H1) : tIfS c t u ⟨nx, rt, bk, ct⟩ σ H := h
theorem rd_par {j : Nat} {ta : TA} (h : ta σ H fun vs H1 => ∃ v w, vs = [v, w] ∧ nx ((σ.set i (some v)).set j (some w)) H1) : tPar i j ta ⟨nx, rt, bk, ct⟩ σ H := h
theorem rd_par2 {w : V} {R : V → V → Prop} (h : R v w) : ∃ v' w', [v, w] = [v', w'] ∧ R v' w' := ⟨v, w, rfl, h⟩
theorem rd_par3 {j l : Nat} {ta : TA} (h : ta σ H fun vs H1 => ∃ u v w, vs = [u, v, w] ∧ nx (((σ.set i (some u)).set j (some v)).set l (some w)) H1) : tPar3 i j l ta ⟨nx, rt, bk, ct⟩ σ H := h
theorem rd_par4 {u v w : V} {R : V → V → V → Prop} (h : R u v w) : ∃ u' v' w', [u, v, w] = [u', v', w'] ∧ R u' v' w' := ⟨u, v, w, rfl, h⟩
theorem rd_aug {ti : TIp} (e : σ[i]? = some (some x)) (h : te σ H fun y H1 => ti x y H1 fun z H2 => nx (σ.set i (some z)) H2) : tAug i te ti ⟨nx, rt, bk, ct⟩ σ H := ⟨x, e, h⟩
theorem rd_var (e : σ[i]? = some (some v)) (h : Q v H) : tVar i σ H Q := ⟨v, e, h⟩
theorem rd_var0 (h : ∃ v, σ[i]? = some (some v) ∧ Q v H) : tVar i σ H Q := h
theorem rd_aug0 {ti : TIp} (h : ∃ x, σ[i]? = some (some x) ∧ te σ H fun y H1 => ti x y H1 fun z H2 => nx (σ.set i (some z)) H2) : tAug i te ti ⟨nx, rt, bk, ct⟩ σ H := h
theorem rd_c (h : Q v H) : tC v σ H Q := h
theorem rd_op {r : R2} (h : ta σ H fun x H1 => tb σ H1 fun y H2 => r x y H2 Q) : tOp r ta tb σ H Q := h
theorem rd_un {r : V → Hp → VK → Prop} (h : ta σ H fun x H1 => r x H1 Q) : tUn r ta σ H Q := h
theorem rd_I0 {f : Int → Int → V} {a b : Int} (h : Q (f a b) H) : rI0 f (.int a) (.int b) H Q := ⟨a, b, rfl, rfl, h⟩
theorem rd_I {C : Int → Int → Prop} {f : Int → Int → V} {a b : Int} (c : C a b) (h : Q (f a b) H) : rI C f (.int a) (.int b) H Q := ⟨a, b, rfl, rfl, c, h⟩
theorem rd_U {f : Int → V} {a : Int} (h : Q (f a) H) : rU f (.int a) H Q := ⟨a, rfl, h⟩
theorem rd_ipI {f : Int → Int → Int} {a b : Int} (h : Q (.int (f a b)) H) : ipI f (.int a) (.int b) H Q := ⟨a, b, rfl, rfl, h⟩
theorem rd_eq (s : scal x y = true) (h : Q (.bl (decide (x = y))) H) : rEq x y H Q := ⟨s, h⟩
theorem rd_ne (s : scal x y = true) (h : Q (.bl (!decide (x = y))) H) : rNe x y H Q := ⟨s, h⟩
theorem rd_eqI {a b : Int} (h : Q (.bl (decide (a = b))) H) : rEq (.int a) (.int b) H Q := ⟨rfl, by
  have e : decide (V.int a = V.int b) = decide (a = b) := by
    by_cases c : a = b
    · rw [decide_eq_true c, decide_eq_true (by rw [c])]
    · rw [decide_eq_false c, decide_eq_false (by intro z; exact c (V.int.inj z))]
  rw [e]; exact h⟩
theorem rd_neI {a b : Int} (h : Q (.bl (!decide (a = b))) H) : rNe (.int a) (.int b) H Q := ⟨rfl, by
  have e : decide (V.int a = V.int b) = decide (a = b) := by
    by_cases c : a = b
    · rw [decide_eq_true c, decide_eq_true (by rw [c])]
    · rw [decide_eq_false c, decide_eq_false (by intro z; exact c (V.int.inj z))]
  rw [e]; exact h⟩
theorem rd_test (h : te σ H fun x H' => ∃ k, x = .bl k ∧ QB k H') : tTest te σ H QB := h
theorem rd_tB (h : te σ H fun x H' => ∃ k, x = .bl k ∧ QB k H') : tB te σ H QB := h
theorem rd_bl {b : Bool} {R : Bool → Prop} (h : R b) : ∃ k, V.bl b = .bl k ∧ R k := ⟨b, rfl, h⟩
theorem rd_not {c : TT} (h : c σ H fun b H1 => QB (!b) H1) : tNot c σ H QB := h
theorem rd_and {c d : TT} (h : c σ H fun b H1 => if b = true then d σ H1 QB else QB false H1) : tAnd c d σ H QB := h
theorem rd_or {c d : TT} (h : c σ H fun b H1 => if b = true then QB true H1 else d σ H1 QB) : tOr c d σ H QB := h
theorem rd_andV (h : ta σ H fun x H1 => ∃ c, x = .bl c ∧ if c = true then tb σ H1 Q else Q (.bl false) H1) : tAndV ta tb σ H Q := h
theorem rd_orV (h : ta σ H fun x H1 => ∃ c, x = .bl c ∧ if c = true then Q (.bl true) H1 else tb σ H1 Q) : tOrV ta tb σ H Q := h
theorem rd_notV (h : ta σ H fun x H1 => ∃ c, x = .bl c ∧ Q (.bl (!c)) H1) : tNotV ta σ H Q := h
theorem rd_ifE {c : TT} (h : c σ H fun b H1 => if b = true then ta σ H1 Q else tb σ H1 Q) : tIf c ta tb σ H Q := h
theorem rd_chain {r r' : R2} (h : ta σ H fun x H1 => tb σ H1 fun y H2 => r x y H2 fun z H3 => ∃ k, z = .bl k ∧ (if k = true then tc σ H3 fun w' H4 => r' y w' H4 Q else Q (.bl false) H3)) : tChain r r' ta tb tc σ H Q := h
theorem rd_chain3 {r r' r'' : R2} {td : TE} (h : ta σ H fun x H1 => tb σ H1 fun y H2 => r x y H2 fun z H3 => ∃ k, z = .bl k ∧
  (if k = true then tc σ H3 fun w' H4 => r' y w' H4 fun z' H5 => ∃ k', z' = .bl k' ∧ (if k' = true then td σ H5 fun v' H6 => r'' w' v' H6 Q else Q (.bl false) H5) else Q (.bl false) H3)) : tChain3 r r' r'' ta tb tc td σ H Q := h
theorem rd_nil (h : QL [] H) : tNil σ H QL := h
theorem rd_cons {tr : TA} (h : ta σ H fun x H1 => tr σ H1 fun xs H2 => QL (x :: xs) H2) : tCons ta tr σ H QL := h
theorem rd_call {sp : Sp} {dvs : List V} {t : TA} (h : t σ H fun vs H1 => sp (vs ++ dvs) H1 Q E) : tCall sp dvs E t σ H Q := h
theorem rd_CB {r : List V → Hp → VK → Prop} {t : TA} (h : t σ H fun vs H1 => r vs H1 Q) : tCB r t σ H Q := h
theorem rd_gname {j : Nat} (h : QS (σ.set j (some v)) H) : gName j v σ H QS := h
theorem rd_gcons {tg : TG} {ug : TGs} {r : List V} (h : tg v σ H fun σ' H' => ug r σ' H' QS) : gCons tg ug (v :: r) σ H QS := ⟨v, r, rfl, h⟩
theorem rd_gnil (h : QS σ H) : gNil [] σ H QS := ⟨rfl, h⟩
theorem rd_gtup {n : Nat} {tg : TGs} {a : Addr} {xs : List V} (e : H a = some (.tup xs)) (l : xs.length = n) (h : tg xs σ H QS) : gTup K n tg (.ref a) σ H QS := ⟨a, xs, rfl, SqT.of e, l, h⟩
theorem rd_max {a b : Int} (h : Q (.int (max a b)) H) : rMax2 [.int a, .int b] H Q := ⟨a, b, rfl, by
  have e : (if b > a then b else a) = max a b := by split <;> omega
  rw [e]; exact h⟩
theorem rd_min {a b : Int} (h : Q (.int (min a b)) H) : rMin2 [.int a, .int b] H Q := ⟨a, b, rfl, by
  have e : (if b < a then b else a) = min a b := by split <;> omega
  rw [e]; exact h⟩
theorem rd_lenL {a : Addr} {xs : List V} (e : H a = some (.lst xs)) (h : Q (.int xs.length) H) : rLenS K [.ref a] H Q := ⟨a, xs, rfl, .inl (SqL.of e), h⟩
theorem rd_lenT {a : Addr} {xs : List V} (e : H a = some (.tup xs)) (h : Q (.int xs.length) H) : rLenS K [.ref a] H Q := ⟨a, xs, rfl, .inr (SqT.of e), h⟩
theorem rd_lenSq {a : Addr} {xs : List V} (e : SqL K H a xs) (h : Q (.int xs.length) H) : rLenS K [.ref a] H Q := ⟨a, xs, rfl, .inl e, h⟩
theorem rd_int1 {a : Int} (h : Q (.int a) H) : rInt1 [.int a] H Q := .inl ⟨a, rfl, h⟩
theorem rd_abs {a : Int} (h : Q (.int a.natAbs) H) : rAbs [.int a] H Q := ⟨a, rfl, by
  have e : (if a < 0 then -a else a) = (a.natAbs : Int) := by split <;> omega
  rw [e]; exact h⟩
theorem rd_isC {C a dx : Addr} {fs : List (Str × V)} (e : H a = some (.ins C dx fs)) (h : Q (.bl true) H) : rIsC C [.ref a, .ref C] H Q := ⟨a, dx, fs, rfl, e, h⟩
theorem rd_tupOfL {a : Addr} {xs : List V} (e : H a = some (.lst xs)) (h : ∀ p H', H p = none → Same H H' → H' p = some (.tup xs) → H' = upd H p (.tup xs) → Q (.ref p) H') : rTupOf K [.ref a] H Q :=
  ⟨a, xs, rfl, .inl ⟨SqL.of e, fun p hp => h p _ hp (Same.new (Same.refl H) hp) upd_same rfl⟩⟩
theorem rd_tupOfT {a : Addr} {xs : List V} (e : H a = some (.tup xs)) (h : Q (.ref a) H) : rTupOf K [.ref a] H Q := ⟨a, xs, rfl, .inr ⟨SqT.of e, h⟩⟩
theorem rd_fld0 {f : Str} (h : te σ H fun x H1 => rFld K f x H1 Q) : tFld K te f σ H Q := h
theorem rd_fld {a C dx : Addr} {fs : List (Str × V)} {f : Str} (e : H a = some (.ins C dx fs)) (c : Cls K C) (n : NoAttr K C f) (l : fs.lookup f = some v) (h : Q v H) : rFld K f (.ref a) H Q :=
  ⟨a, C, dx, fs, v, rfl, e, c, n, l, h⟩
theorem rd_sum {a : Addr} {ns : List Int} (e : SqL K H a (ns.map V.int)) (h : Q (.int ns.sum) H) : rSum K [.ref a] H Q := ⟨a, ns, rfl, e, h⟩
theorem rd_sl0 {r : V → Option Int → Option Int → Hp → VK → Prop} {tl th : TO} (h : te σ H fun x H1 => tl σ H1 fun l H2 => th σ H2 fun u H3 => r x l u H3 Q) : tSl r te tl th σ H Q := h
theorem rd_noP {QO : Option Int → Hp → Prop} (h : QO none H) : tNoPart σ H QO := h
theorem rd_part {QO : Option Int → Hp → Prop} (h : te σ H fun x H1 => ∃ i, x = .int i ∧ QO (some i) H1) : tPart te σ H QO := h
theorem rd_part2 {R : Int → Prop} {j : Int} (h : R j) : ∃ i, V.int j = .int i ∧ R i := ⟨j, rfl, h⟩
theorem rd_slL {a : Addr} {xs : List V} {lo hi : Option Int} (e : SqL K H a xs) (h : ∀ p H', H p = none → Same H H' → H' p = some (.lst (cutV xs lo hi)) → H' = upd H p (.lst (cutV xs lo hi)) → Q (.ref p) H') : rSlL K (.ref a) lo hi H Q :=
  ⟨a, xs, rfl, e, fun p hp => h p _ hp (Same.new (Same.refl H) hp) upd_same rfl⟩
theorem cut_whole {xs : List V} {lo hi : Option Int} (h : HT.sIx xs.length 0 lo = 0 ∧ HT.sIx xs.length xs.length hi = xs.length) : cutV xs lo hi = xs := by
  unfold cutV
  rw [h.1, h.2]
  simp
theorem rd_slA {a : Addr} {xs : List V} {lo hi : Option Int} (e : H a = some (.tup xs)) (h : ∀ p H', Same H H' → H' p = some (.tup (cutV xs lo hi)) → Q (.ref p) H') : rSlA K (.ref a) lo hi H Q :=
  ⟨a, xs, rfl, SqT.of e, fun c => h a H (Same.refl H) (by rw [cut_whole c]; exact e), fun _ p hp => h p _ (Same.new (Same.refl H) hp) upd_same⟩
theorem rd_cat {a b : Addr} {xs ys : List V} (e1 : H a = some (.lst xs)) (e2 : H b = some (.lst ys)) (l : xs.length + ys.length ≤ 100000) (h : ∀ p H', H p = none → Same H H' → H' p = some (.lst (xs ++ ys)) → H' = upd H p (.lst (xs ++ ys)) → Q (.ref p) H') : rCat (.ref a) (.ref b) H Q :=
  ⟨a, b, xs, ys, rfl, rfl, e1, e2, Nat.le_trans l (by decide), fun p hp => h p _ hp (Same.new (Same.refl H) hp) upd_same rfl⟩
theorem rd_eqD {d e : PyData} (h1 : Dt H x d) (h2 : Dt H y e) (s1 : SeqAt.shaped d = true) (s2 : SeqAt.shaped e = true) (h : Q (.bl (PyData.eqv d e)) H) : rEqD K x y H Q := ⟨d, e, h1.dp, h2.dp, s1, s2, h⟩
theorem rd_neD {d e : PyData} (h1 : Dt H x d) (h2 : Dt H y e) (s1 : SeqAt.shaped d = true) (s2 : SeqAt.shaped e = true) (h : Q (.bl (!PyData.eqv d e)) H) : rNeD K x y H Q := ⟨d, e, h1.dp, h2.dp, s1, s2, h⟩
theorem rd_ownI {C a dx : Addr} {fs : List (Str × V)} {sp : Sp} {dvs : List V} (e : H a = some (.ins C dx fs)) (h : sp (.ref a :: ([y] ++ dvs)) H Q C8.E0) : rOwnI C sp dvs (.ref a) y H Q := ⟨a, dx, fs, rfl, e, h⟩
theorem rd_meth0 {C : Addr} {m : Str} {sp : Sp} {dvs : List V} {t : TA} (h : ta σ H fun x H1 => ∃ a dx fs, x = .ref a ∧ H1 a = some (.ins C dx fs) ∧ fs.lookup m = none ∧ t σ H1 fun vs H2 => sp (x :: (vs ++ dvs)) H2 Q E) : tMeth C m sp dvs E ta t σ H Q := h
theorem rd_star {t : TA} (h : te σ H fun x H1 => ∃ p xs, x = V.ref p ∧ (SqT K H1 p xs ∨ SqL K H1 p xs) ∧ t σ H1 fun ys H2 => QL (xs ++ ys) H2) : tStar K te t σ H QL := h
theorem rd_ixL {a : Addr} {xs : List V} {j : Int} (e : H a = some (.lst xs)) (n : atI xs j = some v) (h : Q v H) : rIxL K (.ref a) (.int j) H Q := ⟨a, xs, j, v, rfl, rfl, SqL.of e, n, h⟩
theorem rd_ixT {a : Addr} {xs : List V} {j : Int} (e : H a = some (.tup xs)) (n : atI xs j = some v) (h : Q v H) : rIxT K (.ref a) (.int j) H Q := ⟨a, xs, j, v, rfl, rfl, SqT.of e, n, h⟩
theorem rd_lst {t : TA} (h : t σ H fun xs H1 => rNewL Q xs H1) : tLst t σ H Q := h
theorem rd_tup {t : TA} (h : t σ H fun xs H1 => rNewT Q xs H1) : tTup t σ H Q := h
/-- a new object: its heap by a name -/
theorem rd_newL {xs : List V} (l : xs.length ≤ 100000) (h : ∀ p H', H p = none → Same H H' → H' p = some (.lst xs) → H' = upd H p (.lst xs) → Q (.ref p) H') : rNewL Q xs H :=
  ⟨Nat.le_trans l (by decide), fun p hp => h p _ hp (Same.new (Same.refl H) hp) upd_same rfl⟩
theorem rd_newT {xs : List V} (l : xs.length ≤ 100000) (h : ∀ p H', H p = none → Same H H' → H' p = some (.tup xs) → H' = upd H p (.tup xs) → Q (.ref p) H') : rNewT Q xs H :=
  ⟨Nat.le_trans l (by decide), fun p hp => h p _ hp (Same.new (Same.refl H) hp) upd_same rfl⟩
theorem rd_app {a : Addr} {xs : List V} (e : H a = some (.lst xs)) (l : xs.length < 100000) (h : ∀ H', H' = upd H a (.lst (xs ++ [y])) → H' a = some (.lst (xs ++ [y])) → Q .non H') : rAppend (.ref a) [y] H Q :=
  ⟨a, xs, y, rfl, rfl, e, Nat.lt_trans l (by decide), h _ rfl upd_same⟩
theorem rd_bm {r : V → List V → Hp → VK → Prop} {t : TA} (h : ta σ H fun x H1 => tyV K "list" x H1 ∧ t σ H1 fun xs H2 => r x xs H2 Q) : tBM K "list" r ta t σ H Q := h
theorem rd_tyL {a : Addr} {xs : List V} {R : Prop} (e : H a = some (.lst xs)) (h : R) : tyV K "list" (.ref a) H ∧ R := ⟨.inl ⟨rfl, xs, SqL.of e⟩, h⟩
theorem rd_ite {p : Prop} [Decidable p] {A B : Prop} (h1 : p → A) (h2 : ¬ p → B) : if decide p = true then A else B := by
  by_cases c : p
  · rw [if_pos (decide_eq_true c)]; exact h1 c
  · rw [if_neg (by rw [decide_eq_false c]; exact Bool.false_ne_true)]; exact h2 c
theorem rd_iteT {p : Prop} [Decidable p] {A B : Prop} (c : p) (h1 : A) : if decide p = true then A else B := by rw [if_pos (decide_eq_true c)]; exact h1
theorem rd_iteF {p : Prop} [Decidable p] {A B : Prop} (c : ¬ p) (h1 : B) : if decide p = true then A else B := by rw [if_neg (by rw [decide_eq_false c]; exact Bool.false_ne_true)]; exact h1
theorem rd_iteN {p : Prop} [Decidable p] {A B : Prop} (h1 : ¬ p → A) (h2 : p → B) : if (!decide p) = true then A else B := by
  by_cases c : p
  · rw [if_neg (by rw [decide_eq_true c]; decide)]; exact h2 c
  · rw [if_pos (by rw [decide_eq_false c]; rfl)]; exact h1 c
theorem rd_iteNT {p : Prop} [Decidable p] {A B : Prop} (c : ¬ p) (h1 : A) : if (!decide p) = true then A else B := by rw [if_pos (by rw [decide_eq_false c]; rfl)]; exact h1
theorem rd_iteNF {p : Prop} [Decidable p] {A B : Prop} (c : p) (h1 : B) : if (!decide p) = true then A else B := by rw [if_neg (by rw [decide_eq_true c]; decide)]; exact h1
theorem rd_iteTT {A B : Prop} (h : A) : if true = true then A else B := by rw [if_pos rfl]; exact h
theorem rd_iteFF {A B : Prop} (h : B) : if false = true then A else B := by rw [if_neg Bool.false_ne_true]; exact h
theorem rd_iteNTT {A B : Prop} (h : B) : if (!true) = true then A else B := h
theorem rd_iteNFF {A B : Prop} (h : A) : if (!false) = true then A else B := h
end
end Sl
set_option Elab.async false
set_option linter.all false
set_option maxRecDepth 100000
set_option maxHeartbeats 4000000
namespace Sl
open PySem L2 C8 StX
def rMake (C : Addr) (sp : Sp) (dvs : List V) (E : XK) (Q : VK) (vs : List V) (H1 : Hp) : Prop := ∀ x dx, H1 x = none → H1 dx = none → dx ≠ x →
  sp (.ref x :: (vs ++ dvs)) (upd (upd H1 dx (.own x)) x (.ins C dx [])) (fun v H2 => v = .non ∧ Q (.ref x) H2) E
def rDrawN (Q : VK) (xs : List V) (H1 : Hp) : Prop := ∃ sc i, xs = [.ref sc, .int i] ∧ ∀ p, H1 p = none → Q (.ref p) (upd H1 p (DrawO p sc))
section
variable {σ : L2.St} {H H1 : Hp} {wi : TI} {g : TG} {tb : TS} {ta : TA} {te : TE} {tt : TT} {c : TT} {nx bk ct : L2.St → Hp → Prop} {rt : VK} {R : It → Hp → Prop} {K : PySem.W.Frag} {Q : VK} {vs : List Nat} {D : Ends}
def ForR (J : It) (g : TG) (tb : TS) (D : Ends) (σ : L2.St) (H1 : Hp) : Prop := ∃ W : Nat → Nat → L2.St → Hp → Prop, (∃ m, W 0 m σ H1) ∧ ∀ i m σ H, W i m σ H →
  (J.stop i H ∧ D.nx σ H) ∨ (J.go i H ∧ ∃ N : L2.St → Hp → Prop, (∀ σ' H', N σ' H' → ∃ m', m' < m ∧ W (i + 1) m' σ' H') ∧ ∀ x H', J.yld i H x H' → g x σ H' fun σ2 H2 => tb { D with nx := N, ct := N, bk := D.nx } σ2 H2)
theorem rd_for (h : wi σ H fun J H1 => ForR J g tb D σ H1) : tFor wi g tb D σ H := h
/-- n turns -/
theorem forR_gen (J : It) (n : Nat) (Pv : Nat → L2.St → Hp → Prop) (h0 : Pv 0 σ H) (hg : ∀ i σ H, i < n → Pv i σ H → J.go i H) (he : ∀ σ H, Pv n σ H → J.stop n H)
    (hs : ∀ i σ H x H', i < n → Pv i σ H → J.yld i H x H' → g x σ H' fun σ2 H2 => tb ⟨Pv (i + 1), rt, nx, Pv (i + 1)⟩ σ2 H2) (hd : ∀ σ H, Pv n σ H → nx σ H) : ForR J g tb ⟨nx, rt, bk, ct⟩ σ H := by
  refine ⟨fun i m σ H => m = n - i ∧ i ≤ n ∧ Pv i σ H, ⟨n, by simp, Nat.zero_le _, h0⟩, ?_⟩
  rintro i m σ H ⟨rfl, hi, p⟩
  by_cases hlt : i < n
  · exact .inr ⟨hg i σ H hlt p, Pv (i + 1), fun σ' H' p' => ⟨n - (i + 1), by omega, rfl, hlt, p'⟩, fun x H' y => hs i σ H x H' hlt p y⟩
  · obtain rfl : i = n := by omega
    exact .inl ⟨he σ H p, hd σ H p⟩
theorem forR_rng {lo : Int} {n : Nat} (Pv : Nat → L2.St → Hp → Prop) (h0 : Pv 0 σ H) (hs : ∀ i σ H, i < n → Pv i σ H → g (.int (lo + i)) σ H fun σ2 H2 => tb ⟨Pv (i + 1), rt, nx, Pv (i + 1)⟩ σ2 H2) (hd : ∀ σ H, Pv n σ H → nx σ H) :
    ForR (Itr lo n) g tb ⟨nx, rt, bk, ct⟩ σ H := forR_gen _ n Pv h0 (fun i _ _ h _ => h) (fun _ _ _ => Nat.le_refl _) (fun i σ H x H' hi p ⟨e1, e2⟩ => by subst e1; subst e2; exact hs i σ _ hi p) hd
theorem forR_rngC {lo c : Int} {n : Nat} (Pv : Nat → L2.St → Hp → Prop) (h0 : Pv 0 σ H) (hs : ∀ (i : Nat) σ H, i < n → Pv i σ H → g (.int (lo + (i : Nat) * c)) σ H fun σ2 H2 => tb ⟨Pv (i + 1), rt, nx, Pv (i + 1)⟩ σ2 H2) (hd : ∀ σ H, Pv n σ H → nx σ H) :
    ForR (Itc lo c n) g tb ⟨nx, rt, bk, ct⟩ σ H := forR_gen _ n Pv h0 (fun i _ _ h _ => h) (fun _ _ _ => Nat.le_refl _) (fun i σ H x H' hi p ⟨e1, e2⟩ => by subst e1; subst e2; exact hs i σ _ hi p) hd
theorem forR_lst {a : Addr} {xs : List V} (Pv : Nat → L2.St → Hp → Prop) (hl : ∀ i σ H, Pv i σ H → SqL K H a xs) (h0 : Pv 0 σ H) (hs : ∀ i x σ H, xs[i]? = some x → Pv i σ H → g x σ H fun σ2 H2 => tb ⟨Pv (i + 1), rt, nx, Pv (i + 1)⟩ σ2 H2) (hd : ∀ σ H, Pv xs.length σ H → nx σ H) :
    ForR (Itl K a) g tb ⟨nx, rt, bk, ct⟩ σ H := forR_gen _ xs.length Pv h0 (fun i σ H h p => ⟨xs, xs[i], hl i σ H p, by simp [h]⟩) (fun σ H p => ⟨xs, hl _ σ H p, Nat.le_refl _⟩)
      (fun i σ H x H' hi p ⟨e1, e2⟩ => by subst e1; exact hs i x σ _ (e2 xs (hl i σ _ p)) p) hd
theorem forR_tup {a : Addr} {xs : List V} (Pv : Nat → L2.St → Hp → Prop) (hl : ∀ i σ H, Pv i σ H → SqT K H a xs) (h0 : Pv 0 σ H) (hs : ∀ i x σ H, xs[i]? = some x → Pv i σ H → g x σ H fun σ2 H2 => tb ⟨Pv (i + 1), rt, nx, Pv (i + 1)⟩ σ2 H2) (hd : ∀ σ H, Pv xs.length σ H → nx σ H) :
    ForR (Itt K a) g tb ⟨nx, rt, bk, ct⟩ σ H := forR_gen _ xs.length Pv h0 (fun i σ H h p => ⟨xs, xs[i], hl i σ H p, by simp [h]⟩) (fun σ H p => ⟨xs, hl _ σ H p, Nat.le_refl _⟩)
      (fun i σ H x H' hi p ⟨e1, e2⟩ => by subst e1; exact hs i x σ _ (e2 xs (hl i σ _ p)) p) hd
/-- the pair is a new tuple at t -/
theorem forR_enum {a : Addr} {xs : List V} (Pv : Nat → L2.St → Hp → Prop) (hl : ∀ i σ H, Pv i σ H → SqL K H a xs) (h0 : Pv 0 σ H)
    (hs : ∀ (i : Nat) x σ H t H', xs[i]? = some x → Pv i σ H → H t = none → Same H H' → H' t = some (.tup [.int (i : Nat), x]) → H' = upd H t (.tup [.int (i : Nat), x]) → g (.ref t) σ H' fun σ2 H2 => tb ⟨Pv (i + 1), rt, nx, Pv (i + 1)⟩ σ2 H2) (hd : ∀ σ H, Pv xs.length σ H → nx σ H) :
    ForR (Ite K a) g tb ⟨nx, rt, bk, ct⟩ σ H := forR_gen _ xs.length Pv h0 (fun i σ H h p => ⟨xs, xs[i], hl i σ H p, by simp [h]⟩) (fun σ H p => ⟨xs, hl _ σ H p, Nat.le_refl _⟩)
      (fun i σ H x H' hi p ⟨t, y, e1, e2, e3, e4⟩ => by subst e1; subst e3; exact hs i y σ H t _ (e4 xs (hl i σ _ p)) p e2 (Same.new (Same.refl H) e2) upd_same rfl) hd
/-! ### what is walked -/
def rgR1 (R : It → Hp → Prop) (vs : List V) (H : Hp) : Prop := ∃ j : Int, vs = [.int j] ∧ -(2 ^ 62) ≤ j ∧ j < 2 ^ 62 ∧ R (Itr 0 j.toNat) H
theorem rd_rng1 (h : ta σ H fun vs H1 => rgR1 R vs H1) : iRng1 ta σ H R := h
theorem rd_rgR1 {j : Int} (h0 : -(2 ^ 62) ≤ j) (h1 : j < 2 ^ 62) (h : R (Itr 0 j.toNat) H) : rgR1 R [.int j] H := ⟨j, rfl, h0, h1, h⟩
def rgR2 (R : It → Hp → Prop) (vs : List V) (H : Hp) : Prop := ∃ i j : Int, vs = [.int i, .int j] ∧ (-(2 ^ 62) ≤ i ∧ i < 2 ^ 62 ∧ -(2 ^ 62) ≤ j ∧ j < 2 ^ 62) ∧ R (Itr i (j - i).toNat) H
theorem rd_rng2 (h : ta σ H fun vs H1 => rgR2 R vs H1) : iRng2 ta σ H R := h
theorem rd_rgR2 {i j : Int} (h0 : -(2 ^ 62) ≤ i ∧ i < 2 ^ 62 ∧ -(2 ^ 62) ≤ j ∧ j < 2 ^ 62) (h : R (Itr i (j - i).toNat) H) : rgR2 R [.int i, .int j] H := ⟨i, j, rfl, h0, h⟩
def rgR3 (R : It → Hp → Prop) (vs : List V) (H : Hp) : Prop := ∃ (i j c : Int) (n : Nat), vs = [.int i, .int j, .int c] ∧ RgC i j c n ∧ R (Itc i c n) H
theorem rd_rng3 (h : ta σ H fun vs H1 => rgR3 R vs H1) : iRng3 ta σ H R := h
theorem rd_rgDn {i j : Int} (h0 : -(2 ^ 62) ≤ i ∧ i < 2 ^ 62 ∧ -(2 ^ 62) ≤ j ∧ j < 2 ^ 62) (h : R (Itc i (-1) (i - j).toNat) H) : rgR3 R [.int i, .int j, .int (-1)] H := ⟨i, j, -1, _, rfl, RgC.neg h0.1 h0.2.1 h0.2.2.1 h0.2.2.2, h⟩
def lsR (K : PySem.W.Frag) (R : It → Hp → Prop) (x : V) (H : Hp) : Prop := ∃ a, x = .ref a ∧ (∃ xs, SqL K H a xs) ∧ R (Itl K a) H
theorem rd_iList (h : te σ H fun x H1 => lsR K R x H1) : iList K te σ H R := h
theorem rd_lsR {a : Addr} {xs : List V} (e : SqL K H a xs) (h : R (Itl K a) H) : lsR K R (.ref a) H := ⟨a, rfl, ⟨xs, e⟩, h⟩
def tpR (K : PySem.W.Frag) (R : It → Hp → Prop) (x : V) (H : Hp) : Prop := ∃ a, x = .ref a ∧ (∃ xs, SqT K H a xs) ∧ R (Itt K a) H
theorem rd_iTup (h : te σ H fun x H1 => tpR K R x H1) : iTup K te σ H R := h
theorem rd_tpR {a : Addr} {xs : List V} (e : SqT K H a xs) (h : R (Itt K a) H) : tpR K R (.ref a) H := ⟨a, rfl, ⟨xs, e⟩, h⟩
def enR (K : PySem.W.Frag) (R : It → Hp → Prop) (vs : List V) (H : Hp) : Prop := ∃ a xs, vs = [.ref a] ∧ SqL K H a xs ∧ R (Ite K a) H
theorem rd_iEnum (h : ta σ H fun vs H1 => enR K R vs H1) : iEnum K ta σ H R := h
theorem rd_enR {a : Addr} {xs : List V} (e : SqL K H a xs) (h : R (Ite K a) H) : enR K R [.ref a] H := ⟨a, xs, rfl, e, h⟩
/-! ### while -/
def WhN (m : Nat) (W : Nat → L2.St → Hp → Prop) (tb : TS) (rt : VK) (nx : L2.St → Hp → Prop) (σ : L2.St) (H1 : Hp) : Prop := ∃ N : L2.St → Hp → Prop, (∀ σ' H', N σ' H' → ∃ m', m' < m ∧ W m' σ' H') ∧ tb ⟨N, rt, nx, N⟩ σ H1
theorem rd_whN {m : Nat} {W : Nat → L2.St → Hp → Prop} (h : tb ⟨fun σ' H' => ∃ m', m' < m ∧ W m' σ' H', rt, nx, fun σ' H' => ∃ m', m' < m ∧ W m' σ' H'⟩ σ H) : WhN m W tb rt nx σ H := ⟨_, fun _ _ q => q, h⟩
theorem rd_while (W : Nat → L2.St → Hp → Prop) (m0 : Nat) (h0 : W m0 σ H) (hs : ∀ m σ H, W m σ H → c σ H fun b H1 => if b = true then WhN m W tb rt nx σ H1 else nx σ H1) :
    tWhile c tb ⟨nx, rt, bk, ct⟩ σ H := ⟨W, ⟨m0, h0⟩, hs⟩
/-! ### a new instance -/
theorem rd_make0 {C : Addr} {sp : Sp} {dvs : List V} {E : XK} {t : TA} (h : t σ H fun vs H1 => rMake C sp dvs E Q vs H1) : tMake C sp dvs E t σ H Q := h
theorem rd_make {C : Addr} {sp : Sp} {dvs : List V} {E : XK} {ws : List V} (h : ∀ x dx H2, Same H H2 → H x = none → H2 x = some (.ins C dx []) → sp (.ref x :: (ws ++ dvs)) H2 (fun v H3 => v = .non ∧ Q (.ref x) H3) E) : rMake C sp dvs E Q ws H :=
  fun x dx hx hdx hne => h x dx _ (fun b o e => by rw [upd_ne (ne_of_none e hx), upd_ne (ne_of_none e hdx)]; exact e) hx upd_same
/-! ### draws -/
theorem rd_augS {to ti te : TE} {tget : V → V → Hp → VK → Prop} {tip : TIp} {tset : TSet} (h : to σ H fun o H1 => ti σ H1 fun i H2 => tget o i H2 fun x H3 => te σ H3 fun y H4 => tip x y H4 fun z H5 => tset o i z H5 fun H6 => nx σ H6) : tAugS to ti te tget tip tset ⟨nx, rt, bk, ct⟩ σ H := h
theorem rd_draw0 {a sc : Addr} (e : H a = some (DrawO a sc)) (h : Q (.ref sc) H) : rDraw0 (.ref a) (.int 0) H Q := ⟨a, sc, rfl, rfl, e, h⟩
theorem rd_draw1 {a sc : Addr} (e : H a = some (DrawO a sc)) (h : ∀ i : Int, Q (.int i) H) : rDraw1 (.ref a) (.int 1) H Q := ⟨a, sc, rfl, rfl, e, h⟩
theorem rd_setDraw1 {a sc : Addr} {j : Int} {QH : Hp → Prop} (e : H a = some (DrawO a sc)) (h : QH H) : sDraw1 (.ref a) (.int 1) (.int j) H QH := ⟨a, sc, j, rfl, rfl, rfl, e, h⟩
theorem rd_drawNew {t : TA} (h : t σ H fun xs H1 => rDrawN Q xs H1) : tDraw t σ H Q := h
theorem rd_drawN {sc : Addr} {j : Int} (h : ∀ p H', H p = none → Same H H' → H' p = some (DrawO p sc) → Q (.ref p) H') : rDrawN Q [.ref sc, .int j] H := ⟨sc, j, rfl, fun p hp => h p _ hp (Same.new (Same.refl H) hp) upd_same⟩
/-! ### comprehensions -/
theorem rd_yes {QB : Bool → Hp → Prop} (h : QB true H) : tYes σ H QB := h
def LcR (J : It) (g : TG) (tt : TT) (te : TE) (vs : List Nat) (σ : L2.St) (H1 : Hp) (Q : VK) : Prop := ∀ D, H1 D = none → ∃ W : Nat → Nat → Hp → Prop, (∃ m, W 0 m (upd H1 D (.lst []))) ∧ ∀ i m H, W i m H →
  (J.stop i H ∧ Q (.ref D) H) ∨ (J.go i H ∧ ∃ Nx : Hp → Prop, (∀ H', Nx H' → ∃ m', m' < m ∧ W (i + 1) m' H') ∧ ∀ x H', J.yld i H x H' → g x (wipe σ vs) H' fun σ2 H2 => wipe σ2 vs = wipe σ vs ∧ tt σ2 H2 fun b H3 =>
    if b = true then te σ2 H3 fun y H4 => ∃ acc, H4 D = some (.lst acc) ∧ acc.length < sizeLine ∧ Nx (upd H4 D (.lst (acc ++ [y]))) else Nx H3)
theorem rd_lc (h : wi σ H fun J H1 => LcR J g tt te vs σ H1 Q) : tLc wi g tt te vs σ H Q := h
/-- what a comprehension does with an element -/
def LcE (D : Addr) (Nx : Hp → Prop) (y : V) (H4 : Hp) : Prop := ∃ acc, H4 D = some (.lst acc) ∧ acc.length < sizeLine ∧ Nx (upd H4 D (.lst (acc ++ [y])))
theorem rd_lcE {D : Addr} {Nx : Hp → Prop} {y : V} {acc : List V} (e : H D = some (.lst acc)) (l : acc.length < 100000) (h : ∀ H', H' = upd H D (.lst (acc ++ [y])) → H' D = some (.lst (acc ++ [y])) → Nx H') : LcE D Nx y H := ⟨acc, e, Nat.lt_trans l (by decide), h _ rfl upd_same⟩
theorem lcR_gen (J : It) (n : Nat) (Pv : Addr → Nat → Hp → Prop) (h0 : ∀ D H', H D = none → Same H H' → H' D = some (.lst []) → H' = upd H D (.lst []) → Pv D 0 H') (hg : ∀ D i H', H D = none → i < n → Pv D i H' → J.go i H') (he : ∀ D H', H D = none → Pv D n H' → J.stop n H')
    (hs : ∀ D i H' x H2, H D = none → i < n → Pv D i H' → J.yld i H' x H2 → g x (wipe σ vs) H2 fun σ2 H2 => wipe σ2 vs = wipe σ vs ∧ tt σ2 H2 fun b H3 => if b = true then te σ2 H3 fun y H4 => LcE D (Pv D (i + 1)) y H4 else Pv D (i + 1) H3)
    (hd : ∀ D H', H D = none → Pv D n H' → Q (.ref D) H') : LcR J g tt te vs σ H Q := by
  intro D hD
  refine ⟨fun i m H => m = n - i ∧ i ≤ n ∧ Pv D i H, ⟨n, by simp, Nat.zero_le _, h0 D _ hD (Same.new (Same.refl H) hD) upd_same rfl⟩, ?_⟩
  rintro i m H' ⟨rfl, hi, p⟩
  by_cases hlt : i < n
  · exact .inr ⟨hg D i H' hD hlt p, Pv D (i + 1), fun H2 p' => ⟨n - (i + 1), by omega, rfl, hlt, p'⟩, fun x H2 y => hs D i H' x H2 hD hlt p y⟩
  · obtain rfl : i = n := by omega
    exact .inl ⟨he D H' hD p, hd D H' hD p⟩
theorem lcR_rng {lo : Int} {n : Nat} (Pv : Addr → Nat → Hp → Prop) (h0 : ∀ D H', H D = none → Same H H' → H' D = some (.lst []) → H' = upd H D (.lst []) → Pv D 0 H')
    (hs : ∀ D i H', H D = none → i < n → Pv D i H' → g (.int (lo + i)) (wipe σ vs) H' fun σ2 H2 => wipe σ2 vs = wipe σ vs ∧ tt σ2 H2 fun b H3 => if b = true then te σ2 H3 fun y H4 => LcE D (Pv D (i + 1)) y H4 else Pv D (i + 1) H3)
    (hd : ∀ D H', H D = none → Pv D n H' → Q (.ref D) H') : LcR (Itr lo n) g tt te vs σ H Q :=
  lcR_gen _ n Pv h0 (fun _ i _ _ h _ => h) (fun _ _ _ _ => Nat.le_refl _) (fun D i H x H' hD hi p ⟨e1, e2⟩ => by subst e1; subst e2; exact hs D i _ hD hi p) hd
theorem lcR_lst {a : Addr} {xs : List V} (Pv : Addr → Nat → Hp → Prop) (hl : ∀ D i H', H D = none → Pv D i H' → SqL K H' a xs) (h0 : ∀ D H', H D = none → Same H H' → H' D = some (.lst []) → H' = upd H D (.lst []) → Pv D 0 H')
    (hs : ∀ D i x H', H D = none → xs[i]? = some x → Pv D i H' → g x (wipe σ vs) H' fun σ2 H2 => wipe σ2 vs = wipe σ vs ∧ tt σ2 H2 fun b H3 => if b = true then te σ2 H3 fun y H4 => LcE D (Pv D (i + 1)) y H4 else Pv D (i + 1) H3)
    (hd : ∀ D H', H D = none → Pv D xs.length H' → Q (.ref D) H') : LcR (Itl K a) g tt te vs σ H Q :=
  lcR_gen _ xs.length Pv h0 (fun D i H' hD h p => ⟨xs, xs[i], hl D i H' hD p, by simp [h]⟩) (fun D H' hD p => ⟨xs, hl D _ H' hD p, Nat.le_refl _⟩)
    (fun D i H' x H2 hD hi p ⟨e1, e2⟩ => by subst e1; exact hs D i x _ hD (e2 xs (hl D i _ hD p)) p) hd
theorem lcR_enum {a : Addr} {xs : List V} (Pv : Addr → Nat → Hp → Prop) (hl : ∀ D i H', H D = none → Pv D i H' → SqL K H' a xs) (h0 : ∀ D H', H D = none → Same H H' → H' D = some (.lst []) → H' = upd H D (.lst []) → Pv D 0 H')
    (hs : ∀ D (i : Nat) x H' t H2, H D = none → xs[i]? = some x → Pv D i H' → H' t = none → Same H' H2 → H2 t = some (.tup [.int (i : Nat), x]) → H2 = upd H' t (.tup [.int (i : Nat), x]) → g (.ref t) (wipe σ vs) H2 fun σ2 H2 => wipe σ2 vs = wipe σ vs ∧ tt σ2 H2 fun b H3 => if b = true then te σ2 H3 fun y H4 => LcE D (Pv D (i + 1)) y H4 else Pv D (i + 1) H3)
    (hd : ∀ D H', H D = none → Pv D xs.length H' → Q (.ref D) H') : LcR (Ite K a) g tt te vs σ H Q :=
  lcR_gen _ xs.length Pv h0 (fun D i H' hD h p => ⟨xs, xs[i], hl D i H' hD p, by simp [h]⟩) (fun D H' hD p => ⟨xs, hl D _ H' hD p, Nat.le_refl _⟩)
    (fun D i H' x H2 hD hi p ⟨t, y, e1, e2, e3, e4⟩ => by subst e1; subst e3; exact hs D i y H' t _ hD (e4 xs (hl D i _ hD p)) p e2 (Same.new (Same.refl H') e2) upd_same rfl) hd
end
end Sl
set_option Elab.async false
set_option linter.all false
set_option maxRecDepth 100000
set_option maxHeartbeats 4000000
namespace L2
open PySem PySem.Spec PyProof.Rows
/-! ### defs that raise: a promise for the refused arguments -/
section
variable {X : Cx} {CX : CXT} {k j : Nat} {f C : Addr} {fd : FuncData} {ps : List Str} {ds : List Value} {dvs : List V} {sp : Sp} {E : St → XK} {x m : Str} {p pos apos : Pos} {e o : Expr} {es : List Expr} {ta : TE} {t : TA}
theorem run_fnSd {pins : List (Addr × Obj)} {σ : St} {H : Hp} {s : Shared} {Q : VK} {us : List Value} {vs : List V} (F : FnOk X.prog X.w X.K X.mg X.base CX k f fd ps sp) (hr : Room k X.A) (hb : Binds X.K fd ps ds) (hd : Vals dvs ds) (hx : PassesAt CX X σ (E σ))
    (I : Inv X pins σ H s) (r : Vals vs us) (h : sp (vs ++ dvs) H Q (E σ)) : wpAny (model X.prog X.w) X.A (call (.ref f) us) (EP X pins σ Q) X.xe s := by
  have r2 : Vals (vs ++ dvs) (us ++ ds) := r.append hd
  have hl : (us ++ ds).length = ps.length := by rw [← r2.length]; exact F.len _ _ _ _ h
  refine wpAny_call (codeAny_mono (F.run X.A X.stack s H ⟨us, []⟩ (us ++ ds) (vs ++ dvs) Q (E σ) hr I.env0 (hb s us I.kIn hl) r2 h) fun r s' hq => ?_)
  cases r with
  | error e => exact hx pins H s e s' I hq
  | ok fl =>
    cases fl with
    | ret u => exact I.after hq
    | next => exact False.elim hq
    | brk => exact False.elim hq
    | cont => exact False.elim hq
def tCallSd (sp : Sp) (dvs : List V) (E : St → XK) (t : TA) : TE := fun σ H Q => t σ H fun vs H1 => sp (vs ++ dvs) H1 Q (E σ)
/-- a def called by its name that may raise -/
structure CalX (P : Program) (w : World) (K : PySem.W.Frag) (mg : Str → Option Value) (base : Heap) (k : Nat) (x : Str) (sp : Sp) (dvs : List V) : Prop where
  ex : ∃ (f : Addr) (fd : FuncData) (ps : List Str) (ds : List Value), FnOk P w K mg base (L2.CX P w) k f fd ps sp ∧ mg x = some (.ref f) ∧ PySem.W.keepIn K (.ref f) = true ∧ Binds K fd ps ds ∧ Vals dvs ds
theorem pe_cX (c : CalX X.prog X.w X.K X.mg X.base k x sp dvs) (hr : Room j X.A) (hk : k ≤ j) (hg : Gl X x) (hx : ∀ σ, PassesAt (L2.CX X.prog X.w) X σ (E σ)) (ha : PA X (e :: es) t)
    (hdb : (x == ("__debug__" : Str)) = false := by decide) (he : starEach (e :: es) X.env = (false, eval e X.env) :: starEach es X.env := by rfl) (hpl : (backTo pos (starEach es X.env)).any (·.1) = false := by rfl) :
    PE X (.Call (.Name x p) (e :: es) [] pos) (tCallSd sp dvs E t) := by
  obtain ⟨f, fd, ps, ds, F, hm, kp, b, d⟩ := c.ex
  refine ⟨fun pins s σ H Q I h => ?_⟩
  refine wpAny_Call_Name_kw (ld_glob I hg hm ?_ hdb)
  refine PySem.W.callWith_K (h₀ := X.base) I.ok.mod.kin kp (thn (ha.run pos pins s σ H _ I h) fun us s1 ⟨vs, H1, I1, r, q⟩ => ⟨I1.kIn, ?_⟩) he hpl
  exact run_fnSd F (hr.mono hk) b d (hx σ) I1 r q
/-- around a body nothing is let out -/
theorem takesN {X : Cx} : Takes X (fun _ _ _ _ => False) := fun _ _ x => by
  obtain ⟨_, _, _, _, _, _, _, _, _, _, _, _, _, _, _, _, z⟩ := x
  exact z.elim
/-- a try by its name -/
def tTry (K : PySem.W.Frag) (c : Value) (tb : WX → TS) (ts : Addr → Value → Option Addr → TS) (Wout : WX) : TS := fun D σ H => tb (wOnly K c ts Wout D) D σ H
theorem ps_tryO {x : Str} {c : Value} {body suite : List Stmt} {b₀ : Stmt} {np pos pos' : Pos} {tb : WX → TS} {ts : Addr → Value → Option Addr → TS} {Wout : WX} (hs : X.stack = X.env :: X.outer) (hf : X.env.frame = some X.env.locals) (hc : Names X x c) (tk : Takes X Wout)
    (hb : ∀ (W : WX) (pn : List (Addr × Obj)) (xe : Value → Shared → Prop), Takes (X.tr pn xe) W → PSs (X.tr pn xe) body (tb W))
    (hsu : ∀ (a : Addr) (oe : Obj) (cls : Value) (d : Option Addr) (pn : List (Addr × Obj)), PSs (X.suite a ((a, oe) :: pn)) (b₀ :: suite) (ts a cls d)) :
    PS X (.Try body [.ExceptHandler (some (.Name x np)) none (b₀ :: suite) pos'] [] [] pos) (tTry X.K c tb ts Wout) :=
  ps_try_only hs hf hc tk (fun W pn xe tk _ => hb W pn xe tk) (fun a oe cls d pn _ _ => hsu a oe cls d pn)
end
end L2
namespace C8
open PySem PySem.Spec PyProof.Rows L2
section
variable {P : Program} {w : World} {K : PySem.W.Frag} {mg : Str → Option Value} {base : Heap}
theorem fnX {x qual : Str} {st : Stmt} {f : Addr} {fd : FuncData} {N ps : List Str} {k : Nat} {sp : Sp} (F : Fun K x qual st f fd) (S : FnScope N ps (fnScope st)) (len : ∀ vs H Q E, sp vs H Q E → vs.length = ps.length)
    (hbody : ∀ (cdv : Value) (A : Around) (outer : List Env) (s : Shared) (H : Hp) (vs : List V) (Q : VK) (E : XK), Room k (A.deeper (envOfC qual (fnScope st) s.heap.objs.size f cdv)) → sp vs H Q E →
      ∃ t, PSs (cxOf (L2.CX P w) P w K mg base N qual (fnScope st) f cdv A outer s H E) (fnBody st) t ∧ t { nx := fun _ H' => Q .non H', rt := Q } (start N vs) H) : FnOk P w K mg base (L2.CX P w) (k + 1) f fd ps sp := by
  obtain ⟨oc, od, dV, kV, doc, pm, an, cdv, ct, osl, rfl, lk, hcd⟩ := F.ex
  exact fn_of lk hcd S len fun A outer s H vs Q E hr hsp => hbody cdv A outer s H vs Q E hr hsp
theorem calX0 {x : Str} {st : Stmt} {f : Addr} {fd : FuncData} {N ps : List Str} {ds : List Value} {dvs : List V} {k : Nat} {sp : Sp} (F : Def K mg x st f fd) (b : Binds K fd ps ds) (d : Vals dvs ds) (S : FnScope N ps (fnScope st)) (len : ∀ vs H Q E, sp vs H Q E → vs.length = ps.length)
    (hbody : ∀ (cdv : Value) (A : Around) (outer : List Env) (s : Shared) (H : Hp) (vs : List V) (Q : VK) (E : XK), Room k (A.deeper (envOfC x (fnScope st) s.heap.objs.size f cdv)) → sp vs H Q E →
      ∃ t, PSs (cxOf (L2.CX P w) P w K mg base N x (fnScope st) f cdv A outer s H E) (fnBody st) t ∧ t { nx := fun _ H' => Q .non H', rt := Q } (start N vs) H) : CalX P w K mg base (k + 1) x sp dvs :=
  ⟨f, fd, ps, ds, fnX F.fn S len hbody, F.mgf, F.kp, b, d⟩
end
end C8
namespace Sl
open PySem L2 C8 StX
/-- an error of the class at S is what «except S» names -/
theorem exm_own {K : PySem.W.Frag} {S : Addr} (h1 : PySem.W.subIn K (.ref S) (.type "BaseException") = some true) (h2 : PySem.W.isClsIn K S = true) (h3 : PySem.W.typeIn K (.ref S) = some (.type "type")) (h4 : PySem.W.subIn K (.ref S) (.ref S) = some true) :
    PySem.W.exmOne K (.ref S) (.ref S) = some true := by
  have e1 : (PySem.W.subIn K (.ref S) (.type "BaseException") == some true) = true := by rw [h1] <;> rfl
  have e2 : ((PySem.W.clsIn K S).isSome && PySem.W.typeIn K (.ref S) == some (.type "type")) = true := by
    have h2' : (PySem.W.clsIn K S).isSome = true := h2
    rw [h2', h3] <;> rfl
  show (if (PySem.W.subIn K (.ref S) (.type "BaseException") == some true) = true then (if ((PySem.W.clsIn K S).isSome && PySem.W.typeIn K (.ref S) == some (.type "type")) = true then PySem.W.subIn K (.ref S) (.ref S) else none) else none) = some true
  rw [if_pos e1, if_pos e2]
  exact h4
/-- what is known of an own class of errors without its own __init__ -/
structure XOwn (K : PySem.W.Frag) (C : Addr) : Prop where
  x : PySem.W.excIn K C [.type "ValueError", .type "Exception", .type "BaseException", .type "object"] "ValueError.__new__" = true
  k : PySem.W.keepIn K (.ref C) = true
  b : PySem.W.subIn K (.ref C) (.type "BaseException") = some true
  t : PySem.W.typeIn K (.ref C) = some (.type "type")
  i : PySem.W.isClsIn K C = true
  s : PySem.W.subIn K (.ref C) (.ref C) = some true
theorem XOwn.e {K : PySem.W.Frag} {C : Addr} (T : XOwn K C) : PySem.W.exmOne K (.ref C) (.ref C) = some true := exm_own T.b T.i T.t T.s
section
variable {X : Cx} {x : Str} {np pos : Pos} {C : Addr} {W : WX}
/-- X('m') -/
theorem pmk_x {m : Str} {j : Nat} {p p2 pos : Pos} (T : XOwn X.K C) (gC : X.mg x = some (.ref C)) (hg : Gl X x) (hdb : (x == ("__debug__" : Str)) = false := by decide) : PMk X (.Call (.Name x p) [.Constant (.str m) j p2] [] pos) (fun _ H Q => Q (.ref C) none H) :=
  pmk_own PySem.F.excBase_ValueError T.x gC T.k (raises_own T.b T.t) hg hdb
/-- raise X('m') -/
def tRaise (C : Addr) (W : WX) : TS := fun _ σ H => W (.ref C) none σ H
theorem ps_raiseO {m : Str} {j : Nat} {p p2 pos pos2 : Pos} (hc : X.calm = true) (tk : Takes X W) (T : XOwn X.K C) (gC : X.mg x = some (.ref C)) (hg : Gl X x) (hdb : (x == ("__debug__" : Str)) = false := by decide) :
    PS X (.Raise (some (.Call (.Name x p) [.Constant (.str m) j p2] [] pos)) none pos2) (tRaise C W) := ps_raise hc tk (pmk_x T gC hg hdb)
end
section
variable {σ : L2.St} {H : Hp} {Q : VK} {K : PySem.W.Frag} {C : Addr} {W Wout : WX} {nx bk ct : L2.St → Hp → Prop} {rt : VK} {sp : Sp} {dvs : List V} {E : L2.St → XK} {t : TA} {tb : WX → TS} {ts : Addr → Value → Option Addr → TS} {c cls : Value} {d : Option Addr} {D : Ends} {vs : List V}
theorem rd_raise {E : XK} (h : E (.ref C) none H) : tRaise C (fun cls d _ H => E cls d H) ⟨nx, rt, bk, ct⟩ σ H := h
def rCallSd (sp : Sp) (dvs : List V) (E : XK) (Q : VK) (vs : List V) (H : Hp) : Prop := sp (vs ++ dvs) H Q E
theorem rd_callSd (h : t σ H fun vs H1 => rCallSd sp dvs (E σ) Q vs H1) : tCallSd sp dvs E t σ H Q := h
theorem rd_callSd2 {E : XK} {ws : List V} (h : sp (ws ++ dvs) H Q E) : rCallSd sp dvs E Q ws H := h
theorem rd_try (h : tb (wOnly K c ts Wout D) D σ H) : tTry K c tb ts Wout D σ H := h
theorem rd_caught (he : PySem.W.exmOne K cls c = some true) (h : ∀ a, H a = none → ts a cls d D σ H) : WE (wOnly K c ts Wout D) σ cls d H := ⟨true, he, fun _ => h, fun q => nomatch q⟩
theorem rd_isN0 {x : V} (h : Q (.bl (decide (x = .non))) H) : rIsNn x .non H Q := ⟨rfl, h⟩
theorem rd_notN0 {x : V} (h : Q (.bl (!decide (x = .non))) H) : rNotNn x .non H Q := ⟨rfl, h⟩
theorem rd_maxL {a : Addr} {ns : List Int} {m : Int} (e : SqL K H a (ns.map V.int)) (l : 0 < ns.length) (h : ∀ m, m ∈ ns → (∀ y, y ∈ ns → y ≤ m) → Q (.int m) H) : rMax K [.ref a] H Q := ⟨a, ns, rfl, e, l, h⟩
theorem rd_indexI {a : Addr} {ns : List Int} {y : Int} {j : Nat} (e : SqL K H a (ns.map V.int)) (hj : ns[j]? = some y) (hn : ∀ m z, m < j → ns[m]? = some z → z ≠ y) (h : Q (.int (j : Nat)) H) : rIndex K (.ref a) [.int y] H Q := by
  refine ⟨a, ns.map V.int, .int y, j, .int y, rfl, rfl, e, rfl, ?_, by rw [List.getElem?_map, hj]; rfl, by simp [eqV], ?_, h⟩
  · rw [List.all_eq_true]
    intro x hx
    obtain ⟨n, _, rfl⟩ := List.mem_map.mp hx
    rfl
  · intro m z' hm hz
    rw [List.getElem?_map] at hz
    cases q : ns[m]? with
    | none => rw [q] at hz; cases hz
    | some z =>
      rw [q] at hz
      cases hz
      have := hn m z hm q
      simp [eqV, this]
theorem rd_tyLq {a : Addr} {xs : List V} {R : Prop} (e : SqL K H a xs) (h : R) : tyV K "list" (.ref a) H ∧ R := ⟨.inl ⟨rfl, xs, e⟩, h⟩
end
end Sl
set_option Elab.async false
set_option linter.all false
set_option maxRecDepth 100000
set_option maxHeartbeats 4000000
/-! classes that may raise when made, methods that may raise: promises and their calls within a try -/
namespace L2
open PySem PySem.Spec PyProof.Rows
section
variable {X : Cx} {CX : CXT} {k j : Nat} {f C : Addr} {fd : FuncData} {ps : List Str} {ds : List Value} {dvs : List V} {sp : Sp} {E : St → XK} {x m : Str} {p pos apos : Pos} {e o : Expr} {es : List Expr} {ta : TE} {t : TA}
theorem run_makeSd {pins : List (Addr × Obj)} {σ : St} {H : Hp} {s : Shared} {Q : VK} {us : List Value} {vs : List V} (M : Mk X.K C f) (F : FnOk X.prog X.w X.K X.mg X.base CX k f fd ps sp) (hr : Room (k + 1) X.A) (hb : Binds X.K fd ps ds) (hd : Vals dvs ds)
    (hx : PassesAt CX X σ (E σ)) (I : Inv X pins σ H s) (r : Vals vs us)
    (h : ∀ x dx, H x = none → H dx = none → dx ≠ x → sp (.ref x :: (vs ++ dvs)) (upd (upd H dx (.own x)) x (.ins C dx [])) (fun v H2 => v = .non ∧ Q (.ref x) H2) (E σ)) :
    wpAny (model X.prog X.w) X.A (call (.ref C) us) (EP X pins σ Q) X.xe s := by
  have hq := h (s.heap.objs.size + 1) s.heap.objs.size (I.hok.fresh (Nat.le_succ _)) (I.hok.fresh (Nat.le_refl _)) (Nat.ne_of_lt (Nat.lt_succ_self _))
  have I2 := Inv.made (C := C) I
  have r2 : Vals (V.ref (s.heap.objs.size + 1) :: (vs ++ dvs)) (Value.ref (s.heap.objs.size + 1) :: (us ++ ds)) := .cons rfl (r.append hd)
  have hl : (Value.ref (s.heap.objs.size + 1) :: us ++ ds).length = ps.length := by
    have e := r2.length
    rw [F.len _ _ _ _ hq] at e
    exact e.symm
  refine wpAny_call (make_map (f := f) I.kIn M.makes M.init (beq_iff_eq.mp M.fn) (codeAny_mono (F.run _ X.stack _ _ ⟨Value.ref (s.heap.objs.size + 1) :: us, []⟩ (Value.ref (s.heap.objs.size + 1) :: (us ++ ds)) _ _ (E σ) (hr.make C us [])
    (I2.env0.make C us []) (hb _ (Value.ref (s.heap.objs.size + 1) :: us) I2.kIn hl) r2 hq) fun r s' hq' => ?_))
  cases r with
  | error e => exact hx pins _ _ e s' I2 hq'
  | ok fl =>
    cases fl with
    | ret u =>
      obtain ⟨v, H', I3, rv, ev, q3⟩ := I2.after hq'
      subst ev
      exact ⟨rv, ⟨V.ref (s.heap.objs.size + 1), H', I3, rfl, q3⟩⟩
    | next => exact False.elim hq'
    | brk => exact False.elim hq'
    | cont => exact False.elim hq'
def tMakeX (C : Addr) (sp : Sp) (dvs : List V) (E : St → XK) (t : TA) : TE := fun σ H Q => tMake C sp dvs (E σ) t σ H Q
/-- a class that may be made by its name and may raise -/
structure MakX (P : Program) (w : World) (K : PySem.W.Frag) (mg : Str → Option Value) (base : Heap) (k : Nat) (x : Str) (C : Addr) (sp : Sp) (dvs : List V) : Prop where
  ex : ∃ (f : Addr) (fd : FuncData) (ps : List Str) (ds : List Value), Mk K C f ∧ FnOk P w K mg base (L2.CX P w) k f fd ps sp ∧ mg x = some (.ref C) ∧ Binds K fd ps ds ∧ Vals dvs ds
theorem pe_mkX (c : MakX X.prog X.w X.K X.mg X.base k x C sp dvs) (hr : Room j X.A) (hk : k + 1 ≤ j) (hg : Gl X x) (hx : ∀ σ, PassesAt (L2.CX X.prog X.w) X σ (E σ)) (ha : PA X (e :: es) t)
    (hdb : (x == ("__debug__" : Str)) = false := by decide) (he : starEach (e :: es) X.env = (false, eval e X.env) :: starEach es X.env := by rfl) (hpl : (backTo pos (starEach es X.env)).any (·.1) = false := by rfl) :
    PE X (.Call (.Name x p) (e :: es) [] pos) (tMakeX C sp dvs E t) := by
  obtain ⟨f, fd, ps, ds, M, F, hm, b, d⟩ := c.ex
  refine ⟨fun pins s σ H Q I h => ?_⟩
  refine wpAny_Call_Name_kw (ld_glob I hg hm ?_ hdb)
  refine PySem.W.callWith_K (h₀ := X.base) I.ok.mod.kin M.kp (thn (ha.run pos pins s σ H _ I h) fun us s1 ⟨vs, H1, I1, r, q⟩ => ⟨I1.kIn, ?_⟩) he hpl
  exact run_makeSd M F (hr.mono hk) b d (hx σ) I1 r q
def tMethX (C : Addr) (m : Str) (sp : Sp) (dvs : List V) (E : St → XK) (ta : TE) (t : TA) : TE := fun σ H Q => tMeth C m sp dvs (E σ) ta t σ H Q
/-- a method that may raise -/
structure MetX (P : Program) (w : World) (K : PySem.W.Frag) (mg : Str → Option Value) (base : Heap) (k : Nat) (C : Addr) (m : Str) (sp : Sp) (dvs : List V) : Prop where
  ex : ∃ (f : Addr) (fd : FuncData) (ps : List Str) (ds : List Value), Cls K C ∧ Meth K C m f ∧ FnOk P w K mg base (L2.CX P w) k f fd ps sp ∧ Binds K fd ps ds ∧ Vals dvs ds
theorem pe_mtX {pl : Sem Bool} (c : MetX X.prog X.w X.K X.mg X.base k C m sp dvs) (hr : Room j X.A) (hk : k ≤ j) (hx : ∀ σ, PassesAt (L2.CX X.prog X.w) X σ (E σ)) (he : PE X o ta) (ha : PA X (e :: es) t)
    (hst : starEach (e :: es) X.env = (false, eval e X.env) :: starEach es X.env := by rfl) (hpl : (backTo pos (starEach es X.env)).any (·.1) = false := by rfl)
    (ht : eval (.Call (.Attribute o m apos) (e :: es) [] pos) X.env = (do
      let ov ← eval o X.env
      standAt apos.atName
      let (f, first) ← holding [ov] (getMethod ov m pl)
      callWith pos f first (backTo pos (starEach (e :: es) X.env)) (backToKw pos (keywordEach [] X.env))) := by rfl) :
    PE X (.Call (.Attribute o m apos) (e :: es) [] pos) (tMethX C m sp dvs E ta t) := by
  obtain ⟨f, fd, ps, ds, hc, hm, F, b, d⟩ := c.ex
  refine ⟨fun pins s σ H Q I h => ?_⟩
  refine PySem.W.methodCall_KW (pl := pl) (thn (he.run pins s σ H _ I h) fun u s1 ⟨x, H1, I1, rx, a, dx, fs, ex, ea, l, q⟩ => ?_) ht
  subst ex
  obtain rfl : u = Value.ref a := rx
  refine getmeth_ok I1 ea hc hm l ?_
  refine PySem.W.callWith_K (first := [.ref a]) (h₀ := X.base) I.ok.mod.kin hm.kp (thn (ha.run pos pins s1 σ H1 _ I1 q) fun us s2 ⟨vs, H2, I2, r, q2⟩ => ⟨I2.kIn, ?_⟩) hst hpl
  exact run_fnSd (us := .ref a :: us) (vs := .ref a :: vs) F (hr.mono hk) b d (hx σ) I2 (.cons rfl r) q2
end
end L2
namespace C8
open PySem PySem.Spec PyProof.Rows L2
section
variable {P : Program} {w : World} {K : PySem.W.Frag} {mg : Str → Option Value} {base : Heap}
theorem metX0 {m qual : Str} {C : Addr} {st : Stmt} {f : Addr} {fd : FuncData} {N ps : List Str} {k : Nat} {sp : Sp} (c : Cls K C) (me : Meth K C m f) (F : Fun K m qual st f fd) (b : Binds K fd ps []) (S : FnScope N ps (fnScope st)) (len : ∀ vs H Q E, sp vs H Q E → vs.length = ps.length)
    (hbody : ∀ (cdv : Value) (A : Around) (outer : List Env) (s : Shared) (H : Hp) (vs : List V) (Q : VK) (E : XK), Room k (A.deeper (envOfC qual (fnScope st) s.heap.objs.size f cdv)) → sp vs H Q E →
      ∃ t, PSs (cxOf (L2.CX P w) P w K mg base N qual (fnScope st) f cdv A outer s H E) (fnBody st) t ∧ t { nx := fun _ H' => Q .non H', rt := Q } (start N vs) H) : MetX P w K mg base (k + 1) C m sp [] :=
  ⟨f, fd, ps, [], c, me, fnX F S len hbody, b, .nil⟩
end
end C8
namespace Sl
open PySem L2 C8 StX
section
variable {σ : L2.St} {H : Hp} {Q : VK} {C : Addr} {m : Str} {sp : Sp} {dvs : List V} {E : L2.St → XK} {ta : TE} {t : TA}
theorem rd_makeX (h : t σ H fun vs H1 => rMake C sp dvs (E σ) Q vs H1) : tMakeX C sp dvs E t σ H Q := h
def rMethX (C : Addr) (m : Str) (sp : Sp) (dvs : List V) (E : XK) (t : TA) (σ : L2.St) (Q : VK) (x : V) (H1 : Hp) : Prop := ∃ a dx fs, x = .ref a ∧ H1 a = some (.ins C dx fs) ∧ fs.lookup m = none ∧ t σ H1 fun vs H2 => sp (x :: (vs ++ dvs)) H2 Q E
theorem rd_methX0 (h : ta σ H fun x H1 => rMethX C m sp dvs (E σ) t σ Q x H1) : tMethX C m sp dvs E ta t σ H Q := h
end
end Sl
set_option Elab.async false
set_option linter.all false
set_option maxRecDepth 100000
set_option maxHeartbeats 4000000
namespace L2
open PySem PySem.Spec PyProof.Rows
/-! ### min of a list of pairs of ints: the loop of the built-in, the order told by what the heap keeps -/
section
variable {prog : Program} {w : World} {A : Around} {R : Result → Shared → Prop} {J l : Addr} {its : Array Value} {bt : Nat → Nat → Bool} {Kp : Heap → Prop}
/-- what is told of the order: while Kp stands -/
def Ord (prog : Program) (w : World) (A : Around) (its : Array Value) (Kp : Heap → Prop) (bt : Nat → Nat → Bool) : Prop :=
  ∀ i j x y (t : Shared) (Q : Value → Shared → Prop) (E : Value → Shared → Prop), Kp t.heap → its[i]? = some x → its[j]? = some y → Q (.bool (bt i j)) t → wpAny (model prog w) A (richCompare .Lt x y) Q E t
/-- Kp stands while nothing changes but the iterator and the box -/
def Kpt (Kp : Heap → Prop) (J S : Addr) : Prop := ∀ h h' : Heap, Kp h → (∀ b o, b ≠ J → b ≠ S → h.get? b = some o → h'.get? b = some o) → Kp h'
theorem min_turns (hh : A.in1.handled = none) (hlJ : l ≠ J) (O : Ord prog w A.in1 its Kp bt) {S : Addr} (hSJ : S ≠ J) (hSl : S ≠ l) (Z : Kpt Kp J S) :
    ∀ (k j : Nat) (t : Shared) (best : Value) (c : Nat), its.size - (j + 1) = k → j + 1 ≤ its.size → (t.heap.IsListIter J l (j + 1) ∧ t.heap.IsList l its) → Kp t.heap → its[argBest bt j]? = some best →
    t.heap.get? S = some { cls := .type "list", dict := none, data := .seq #[best, best] c, slots := #[] } →
    (∀ v h' tk, its[argBest bt (its.size - 1)]? = some v → (∀ b o, b ≠ J → b ≠ S → t.heap.get? b = some o → h'.get? b = some o) → R (.ok (.ret v)) { t with heap := h', toks := tk }) →
    codeAny (model prog w) A (.builtin "min.loop" ⟨[.ref J, .none, .ref S], []⟩) R t := by
  have Wl := Walks.list (prog := prog) (w := w) (A := A.in1) hh J l hlJ its
  have nm : (toString "min" ++ toString ".loop" : String) = "min.loop" := by decide
  intro k
  induction k with
  | zero =>
    intro j t best c ek ej st kp eb eS back
    refine codeAny_builtin F.entry_min_loop (by
      rw [Around.under_plainId F.plain_min_loop _]
      refine (show wpAny _ A.in1 (seqItems? (.ref S) >>= _) _ _ t from wpAny_bind (wpAny_seqItems eS rfl ?_))
      refine (show wpAny _ A.in1 (tryCatch (pyNext (.ref J)) _ >>= _) _ _ t from wpAny_bind (wpAny_tryCatch (Wl.done t _ _ ((by omega : j + 1 = its.size) ▸ st) fun h2 tk kept => ?_)))
      have eS2 := kept S _ (by simpa using hSJ) eS
      refine (show wpAny _ A.in1 (updateSeq S (fun _ => #[]) >>= _) _ _ _ from wpAny_bind (wpAny_updateSeq eS2 rfl (wpAny_bind (wpAny_letGo (wpAny_pure (back best _ tk ?_ fun b o n1 n2 e => ?_))))))
      · rw [← (by omega : j + 1 = its.size)]; exact eb
      · exact (Heap.get?_update_other _ _ (Ne.symm n2)).trans (kept b o (by simpa using n1) e))
  | succ k ih =>
    intro j t best c ek ej st kp eb eS back
    refine codeAny_builtin F.entry_min_loop (by
      rw [Around.under_plainId F.plain_min_loop _]
      refine (show wpAny _ A.in1 (seqItems? (.ref S) >>= _) _ _ t from wpAny_bind (wpAny_seqItems eS rfl ?_))
      refine (show wpAny _ A.in1 (tryCatch (pyNext (.ref J)) _ >>= _) _ _ t from wpAny_bind (wpAny_tryCatch (Wl.item (j + 1) t _ _ (by omega) st fun v h2 tk ev st2 kept => ?_)))
      have eS2 := kept S _ (by simpa using hSJ) eS
      have kp2 : Kp h2 := Z _ _ kp fun b o n1 _ e => kept b o (by simpa using n1) e
      refine (show wpAny _ A.in1 (tryCatch (holding [v, v] (richCompare .Lt v best >>= _)) _ >>= _) _ _ _ from wpAny_bind (wpAny_tryCatch (wpAny_holding (wpAny_bind (O (j + 1) (argBest bt j) v best _ _ _ kp2 ev eb ?_)))))
      refine wpAny_bind (wpAny_holding (wpAny_truthy_bool (wpAny_bind (wpAny_letGo (wpAny_pure ?_)))))
      cases hb : bt (j + 1) (argBest bt j) with
      | true =>
        simp only [if_true]
        refine wpAny_bind (wpAny_updateSeq eS2 rfl (wpAny_bind (wpAny_letGo ?_)))
        rw [nm]
        have kp3 : ∀ (g : Obj → Obj) b o, b ≠ S → h2.get? b = some o → (h2.update S g).get? b = some o := fun g b o n e => (Heap.get?_update_other _ _ (Ne.symm n)).trans e
        refine wpAny_pure ⟨plainId_quiet F.plain_min_loop _, ih (j + 1) _ v _ (by omega) (by omega) (Wl.frame _ _ _ st2 fun b hb2 o e => ?_) (Z _ _ kp2 fun b o _ n e => kp3 _ b o n e) (by simp only [argBest, hb, if_true]; exact ev) (Heap.get?_update_self _ eS2 rfl)
          fun v' h3 tk3 e3 kept3 => back v' h3 tk3 e3 fun b o n1 n2 e => kept3 b o n1 n2 (kp3 _ b o n2 (kept b o (by simpa using n1) e))⟩
        refine kp3 _ b o (fun z => ?_) e
        rcases List.mem_cons.mp hb2 with q | q
        · exact hSJ (z.symm.trans q)
        · exact hSl (z.symm.trans (by simpa using q))
      | false =>
        simp only [Bool.false_eq_true, if_false]
        refine wpAny_bind (wpAny_letGo ?_)
        rw [nm]
        exact wpAny_pure ⟨plainId_quiet F.plain_min_loop _, ih (j + 1) _ best c (by omega) (by omega) st2 kp2 (by simp only [argBest, hb, Bool.false_eq_true, if_false]; exact eb) eS2
          fun v' h3 tk3 e3 kept3 => back v' h3 tk3 e3 fun b o n1 n2 e => kept3 b o n1 n2 (kept b o (by simpa using n1) e)⟩)
theorem min_start (hh : A.in1.handled = none) (hlJ : l ≠ J) (O : Ord prog w A.in1 its Kp bt) {S : Addr} (hSJ : S ≠ J) (hSl : S ≠ l) (Z : Kpt Kp J S) (n0 : 0 < its.size) {t : Shared} {c : Nat} (st : t.heap.IsListIter J l 0 ∧ t.heap.IsList l its) (kp : Kp t.heap)
    (eS : t.heap.get? S = some { cls := .type "list", dict := none, data := .seq #[] c, slots := #[] })
    (back : ∀ v h' tk, its[argBest bt (its.size - 1)]? = some v → (∀ b o, b ≠ J → b ≠ S → t.heap.get? b = some o → h'.get? b = some o) → R (.ok (.ret v)) { t with heap := h', toks := tk }) :
    codeAny (model prog w) A (.builtin "min.loop" ⟨[.ref J, .none, .ref S], []⟩) R t := by
  have Wl := Walks.list (prog := prog) (w := w) (A := A.in1) hh J l hlJ its
  have nm : (toString "min" ++ toString ".loop" : String) = "min.loop" := by decide
  refine codeAny_builtin F.entry_min_loop (by
    rw [Around.under_plainId F.plain_min_loop _]
    refine (show wpAny _ A.in1 (seqItems? (.ref S) >>= _) _ _ t from wpAny_bind (wpAny_seqItems eS rfl ?_))
    refine (show wpAny _ A.in1 (tryCatch (pyNext (.ref J)) _ >>= _) _ _ t from wpAny_bind (wpAny_tryCatch (Wl.item 0 t _ _ n0 st fun v h2 tk ev st2 kept => ?_)))
    have eS2 := kept S _ (by simpa using hSJ) eS
    have kp2 : Kp h2 := Z _ _ kp fun b o n1 _ e => kept b o (by simpa using n1) e
    refine (show wpAny _ A.in1 (updateSeq S (fun _ => #[v, v]) >>= _) _ _ _ from wpAny_bind (wpAny_updateSeq eS2 rfl ?_))
    rw [nm]
    have kp3 : ∀ (g : Obj → Obj) b o, b ≠ S → h2.get? b = some o → (h2.update S g).get? b = some o := fun g b o n e => (Heap.get?_update_other _ _ (Ne.symm n)).trans e
    refine wpAny_pure ⟨plainId_quiet F.plain_min_loop _, min_turns hh hlJ O hSJ hSl Z _ 0 _ v _ rfl n0 (Wl.frame _ _ _ st2 fun b hb2 o e => ?_) (Z _ _ kp2 fun b o _ n e => kp3 _ b o n e) ev (Heap.get?_update_self _ eS2 rfl)
      fun v' h3 tk3 e3 kept3 => back v' h3 tk3 e3 fun b o n1 n2 e => kept3 b o n1 n2 (kp3 _ b o n2 (kept b o (by simpa using n1) e))⟩
    refine kp3 _ b o (fun z => ?_) e
    rcases List.mem_cons.mp hb2 with q | q
    · exact hSJ (z.symm.trans q)
    · exact hSl (z.symm.trans (by simpa using q)))
end
/-- the least of pairs: an order that is transitive has no better one -/
theorem argBest_least {bt : Nat → Nat → Bool} (tr : ∀ a b c, bt a b = true → bt b c = true → bt a c = true) (ir : ∀ a, bt a a = false) : ∀ k, argBest bt k ≤ k ∧ ∀ j, j ≤ k → bt j (argBest bt k) = false
  | 0 => ⟨Nat.le_refl _, fun j hj => by
    rw [show j = 0 by omega]
    exact ir 0⟩
  | k + 1 => by
    obtain ⟨h1, h2⟩ := argBest_least tr ir k
    show (if bt (k + 1) (argBest bt k) then k + 1 else argBest bt k) ≤ k + 1 ∧ ∀ j, j ≤ k + 1 → bt j (if bt (k + 1) (argBest bt k) then k + 1 else argBest bt k) = false
    by_cases c : bt (k + 1) (argBest bt k) = true
    · rw [if_pos c]
      refine ⟨Nat.le_refl _, fun j hj => ?_⟩
      rcases Nat.lt_or_ge k j with z | z
      · rw [show j = k + 1 by omega]
        exact ir _
      · cases e : bt j (k + 1) with
        | false => rfl
        | true =>
          have := tr _ _ _ e c
          rw [h2 j z] at this
          cases this
    · rw [if_neg c]
      refine ⟨by omega, fun j hj => ?_⟩
      rcases Nat.lt_or_ge k j with z | z
      · rw [show j = k + 1 by omega]
        simpa using c
      · exact h2 j z
section
variable {prog : Program} {w : World} {A : Around} {E : Value → Shared → Prop} {l : Addr} {its : Array Value} {bt : Nat → Nat → Bool}
/-- the call: Kp is that all that was there stands -/
theorem min_callP {s : Shared} {Q : Value → Shared → Prop} (hh : A.in1.handled = none) (hl : s.heap.IsList l its) (n0 : 0 < its.size) (O : Ord prog w A.in1 its (fun h => ∀ b o, s.heap.get? b = some o → h.get? b = some o) bt)
    (back : ∀ v h' tk, its[argBest bt (its.size - 1)]? = some v → (∀ b o, s.heap.get? b = some o → h'.get? b = some o) → Q v { s with heap := h', toks := tk }) : wpAny (model prog w) A (call (.builtin "min") [.ref l]) Q E s := by
  have nm : (toString "min" ++ toString ".loop" : String) = "min.loop" := by decide
  refine call_function_tree F.kind_min F.plain_min F.entry_min (F.args_min1 _) (wpAny_bind (m := Builtin.Builtins.bindParams "min" ["key", "default"] 0 ⟨[], []⟩) (wpAny_of_eq (show Builtin.Builtins.bindParams "min" ["key", "default"] 0 ⟨[], []⟩ = pure [none, none] from rfl) (wpAny_bind (wpAny_pure ?_))))
  refine wpAny_bind (wpAny_pyIter_list hl (wpAny_bind (wpAny_newObj_type ?_)))
  rw [nm]
  have hlt : l < s.heap.objs.size := by
    obtain ⟨_, e, _⟩ := id hl
    exact Heap.lt_size e
  have z1 : (s.heap.push { cls := .type "list_iterator", data := .fields #[.ref l, .int 0 0] }).objs.size = s.heap.objs.size + 1 := Heap.size_push ..
  have old : ∀ b o, s.heap.get? b = some o → b < s.heap.objs.size := fun b o e => Heap.lt_size e
  refine wpAny_pure ⟨plainId_quiet F.plain_min_loop _, min_start (l := l) (its := its) hh (Nat.ne_of_lt hlt) O (S := (s.heap.push { cls := .type "list_iterator", data := .fields #[.ref l, .int 0 0] }).objs.size) (by rw [z1]; exact Nat.succ_ne_self _) (by rw [z1]; exact (Nat.ne_of_lt (Nat.lt_succ_of_lt hlt)).symm) (fun h h' k f b o e => f b o (Nat.ne_of_lt (old b o e)) (by rw [z1]; exact Nat.ne_of_lt (Nat.lt_succ_of_lt (old b o e))) (k b o e)) n0 ⟨⟨_, Heap.get?_push_of_some _ (Heap.get?_push_size _ rfl), rfl, rfl⟩, (hl.push _).push _⟩ (fun b o e => Heap.get?_push_of_some _ (Heap.get?_push_of_some _ e)) (Heap.get?_push_size _ rfl) fun v h' tk ev f => ?_⟩
  exact back v h' tk ev fun b o e => f b o (Nat.ne_of_lt (old b o e)) (by rw [z1]; exact Nat.ne_of_lt (Nat.lt_succ_of_lt (old b o e))) (Heap.get?_push_of_some _ (Heap.get?_push_of_some _ e))
end
/-- x is before y: by the first, then by the second -/
def ltPr (x y : Int × Int) : Bool := decide (x.1 < y.1 ∨ x.1 = y.1 ∧ x.2 < y.2)
/-- min(xs), xs a list of pairs of ints: one of the least -/
def rMinP (K : PySem.W.Frag) : List V → Hp → VK → Prop := fun vs H Q => ∃ (a : Addr) (xs : List V) (ks : List (Int × Int)), vs = [V.ref a] ∧ SqL K H a xs ∧ 0 < xs.length ∧ ks.length = xs.length ∧ (∀ (i : Nat) x k, xs[i]? = some x → ks[i]? = some k → ∃ t, x = V.ref t ∧ H t = some (.tup [.int k.1, .int k.2])) ∧
  ∀ (i : Nat) x k, xs[i]? = some x → ks[i]? = some k → (∀ y ∈ ks, ltPr y k = false) → Q x H
theorem lex_pair (a b : Int × Int) : HT.lexLt [a.1, a.2] [b.1, b.2] = ltPr a b := by
  rw [HT.lexLt_cons, HT.lexLt_cons, HT.lexLt_nil_nil]
  unfold ltPr
  by_cases c : a.1 = b.1
  · rw [if_pos c]
    by_cases d : a.2 = b.2
    · rw [if_pos d]
      symm
      rw [decide_eq_false_iff_not]
      omega
    · rw [if_neg d]
      rw [decide_eq_decide]
      omega
  · rw [if_neg c]
    rw [decide_eq_decide]
    omega
section
variable {X : Cx} {j : Nat}
theorem cr_minP (hc : X.calm = true) (hr : Room (j + 1) X.A) : CallR X (.builtin "min") (rMinP X.K) := by
  intro pins s σ H vs us Q I r h
  obtain ⟨a, xs, ks, rfl, hs, hne, hk, hx, q⟩ := h
  obtain ⟨its, rv, hl, _⟩ := I.list hs
  rw [Vals.ref1 r]
  have hlen : its.length = xs.length := rv.length.symm
  refine min_callP (bt := fun i j => ltPr (ks.getD i (0, 0)) (ks.getD j (0, 0))) (I.ok.hd hc) hl.isList (by simpa using (by omega : 0 < its.length)) ?_ fun v h' tk ev kept => ?_
  · intro i1 i2 x y t Q' E' kp e1 e2 q'
    have g1 : its[i1]? = some x := by simpa using e1
    have g2 : its[i2]? = some y := by simpa using e2
    have b1 : i1 < its.length := (List.getElem?_eq_some_iff.mp g1).1
    have b2 : i2 < its.length := (List.getElem?_eq_some_iff.mp g2).1
    obtain ⟨u1, hu1, r1⟩ := rv.get (List.getElem?_eq_getElem (by omega : i1 < xs.length))
    obtain ⟨u2, hu2, r2⟩ := rv.get (List.getElem?_eq_getElem (by omega : i2 < xs.length))
    rw [g1] at hu1
    rw [g2] at hu2
    cases hu1
    cases hu2
    obtain ⟨t1, z1, o1⟩ := hx i1 _ _ (List.getElem?_eq_getElem (by omega)) (List.getElem?_eq_getElem (by omega : i1 < ks.length))
    obtain ⟨t2, z2, o2⟩ := hx i2 _ _ (List.getElem?_eq_getElem (by omega)) (List.getElem?_eq_getElem (by omega : i2 < ks.length))
    rw [z1] at r1
    rw [z2] at r2
    obtain rfl : x = Value.ref t1 := r1
    obtain rfl : y = Value.ref t2 := r2
    obtain ⟨l1, w1, ⟨ob1, p1, rest1⟩, _⟩ := I.tuple (SqT.of o1)
    obtain ⟨l2, w2, ⟨ob2, p2, rest2⟩, _⟩ := I.tuple (SqT.of o2)
    refine HT.lt_tupInts (l := t1) (b := t2) (items := l1.toArray) (items2 := l2.toArray) (ns := [ks[i1].1, ks[i1].2]) (ms := [ks[i2].1, ks[i2].2]) ⟨ob1, kp _ _ p1, rest1⟩ ⟨ob2, kp _ _ p2, rest2⟩ (Vals.ints w1) (Vals.ints w2) hr.in1.units0 ?_
    rw [lex_pair]
    simp only [List.getD_eq_getElem?_getD, List.getElem?_eq_getElem (by omega : i1 < ks.length), List.getElem?_eq_getElem (by omega : i2 < ks.length), Option.getD_some] at q'
    exact q'
  · obtain ⟨m1, m2⟩ := argBest_least (bt := fun i j => ltPr (ks.getD i (0, 0)) (ks.getD j (0, 0))) (fun a b c => by unfold ltPr; simp only [decide_eq_true_iff]; omega) (fun a => by unfold ltPr; simp) (its.toArray.size - 1)
    generalize hB : argBest (fun i j => ltPr (ks.getD i (0, 0)) (ks.getD j (0, 0))) (its.toArray.size - 1) = B at *
    have zs : its.toArray.size = its.length := by simp
    rw [zs] at m1 m2
    have bB : B < xs.length := by omega
    have g : its[B]? = some v := by simpa using ev
    obtain ⟨u, hu, ru⟩ := rv.get (List.getElem?_eq_getElem bB)
    rw [g] at hu
    cases hu
    refine ⟨xs[B], H, I.kept kept, ru, q B _ ks[B] (List.getElem?_eq_getElem bB) (List.getElem?_eq_getElem (by omega)) fun y hy => ?_⟩
    obtain ⟨i, hi, rfl⟩ := List.getElem_of_mem hy
    have := m2 i (by omega)
    simpa only [List.getD_eq_getElem?_getD, List.getElem?_eq_getElem hi, List.getElem?_eq_getElem (by omega : B < ks.length), Option.getD_some] using this
end
end L2
set_option Elab.async false
set_option linter.all false
set_option maxRecDepth 100000
set_option maxHeartbeats 4000000
namespace L2
open PySem PySem.Spec PyProof.Rows
/-! ### evidence: own __bool__, own __eq__, isinstance of a class above -/
section
variable {X : Cx} {k j : Nat} {C D : Addr} {sp : Sp} {dvs : List V} {a : Expr} {ta : TE}
/-- an instance as a test, by its own __bool__ -/
def tTruO (C : Addr) (sp : Sp) (dvs : List V) (ta : TE) : TT := fun σ H Q => ta σ H fun x H1 => ∃ a dx fs, x = .ref a ∧ H1 a = some (.ins C dx fs) ∧ sp ([.ref a] ++ dvs) H1 (fun v H2 => ∃ b, v = .bl b ∧ Q b H2) C8.E0
theorem pt_own (c : C8.Met X.prog X.w X.K X.mg X.base k C "__bool__" sp dvs) (hr : Room j X.A) (hk : k ≤ j) (ha : PE X a ta) (he : ∀ whole, isTrue a X.env whole = (do let v ← whole; standAt a.pos; holding [v] (truthy v)) := by intro _; rfl) : PT X a (tTruO C sp dvs ta) := by
  obtain ⟨f, fd, ps, ds, cl, hm, F, bd, d⟩ := c.ex
  refine ⟨fun pins s σ H Q I h => isTrue_plain (thn (ha.run pins s σ H _ I h) fun v s1 z => ?_) (he _)⟩
  obtain ⟨x, H1, I1, rx, o, dx, fs, rfl, e, q⟩ := z
  obtain rfl : v = Value.ref o := rx
  obtain ⟨mA, O, _, _, _, _⟩ := ins_get I1.hok e
  obtain ⟨od, J, _⟩ := O.look
  obtain ⟨m, F0⟩ := I1.fr
  refine PySem.W.truthy_K F0 I1.ok.mod.kin J hm.at_ hm.fn (wpAny_mono (run_fn (us := [.ref o]) (vs := [.ref o]) F (hr.mono hk) bd d C8.pass0 I1 (.cons rfl .nil) q) (fun v s2 y => ?_) fun _ _ y => y)
  obtain ⟨x2, H2, I2, rx2, b, rfl, q2⟩ := y
  obtain rfl : v = Value.bool b := rx2
  exact ⟨H2, I2, q2⟩
/-- x == y by the own __eq__ of the class of both -/
def rEqO (C : Addr) (sp : Sp) (dvs : List V) : R2 := fun x y H Q => ∃ a b dx dy fs gs, x = .ref a ∧ y = .ref b ∧ H a = some (.ins C dx fs) ∧ H b = some (.ins C dy gs) ∧ sp ([.ref a, .ref b] ++ dvs) H (fun v H' => ∃ k, v = .bl k ∧ Q v H') C8.E0
theorem op_eqO (c : C8.Met X.prog X.w X.K X.mg X.base k C "__eq__" sp dvs) (hr : Room j X.A) (hk : k ≤ j) : OpR X (compareOp .Eq) (rEqO C sp dvs) := by
  obtain ⟨f, fd, ps, ds, cl, hm, F, bd, d⟩ := c.ex
  intro pins s σ H x y v u Q I rx ry h
  obtain ⟨o, o2, dx, dy, fs, gs, rfl, rfl, e, e2, q⟩ := h
  obtain rfl : v = Value.ref o := rx
  obtain rfl : u = Value.ref o2 := ry
  obtain ⟨mA, O, _, _, _, _⟩ := ins_get I.hok e
  obtain ⟨mB, O2, _, _, _, _⟩ := ins_get I.hok e2
  obtain ⟨od, J, _⟩ := O.look
  obtain ⟨od2, J2, _⟩ := O2.look
  obtain ⟨m, F0⟩ := I.fr
  refine PySem.W.cmp_K (op := .Eq) (tb := .ref C) hr.units0 F0 I.ok.mod.kin J J2.type (by simp [PySem.W.notFirst]) hm.at_ hm.fn (wpAny_mono (run_fn (us := [.ref o, .ref o2]) (vs := [.ref o, .ref o2]) F (hr.mono hk) bd d C8.pass0 I (.cons rfl (.cons rfl .nil)) q) (fun v s2 y => ?_) fun _ _ y => y)
  obtain ⟨x2, H2, I2, rx2, b, rfl, q2⟩ := y
  obtain rfl : v = Value.bool b := rx2
  exact ⟨.bl b, H2, I2, rfl, q2⟩
/-- an instance of C is one of D, a class above -/
structure InsB (K : PySem.W.Frag) (C D : Addr) : Prop where
  cl : Cls K C
  ha : PySem.W.findIn K (.ref C) "__class__" = some (some (.builtin "object.__class__"))
  hn : PySem.W.specialIn K (.builtin "object.__class__") "__get__" = some (some (.builtin "getset_descriptor.__get__"))
  htk : PySem.W.takesIn K (.builtin "object.__class__") = some true
  hm : PySem.W.mroIn K C (.type "object") = some true
  me : PySem.W.kitOne K (.ref C) (.ref D) = some true
def rIsUp (C D : Addr) : List V → Hp → VK → Prop := fun xs H Q => ∃ a dx fs, xs = [.ref a, .ref D] ∧ H a = some (.ins C dx fs) ∧ Q (.bl true) H
theorem cr_isUp (c : InsB X.K C D) : CallR X (.builtin "isinstance") (rIsUp C D) := by
  intro pins s σ H xs us Q I r h
  obtain ⟨o, dx, fs, rfl, e, q⟩ := h
  obtain ⟨u, u2, rfl, r1, r2⟩ := vals2 r
  obtain rfl : u2 = Value.ref D := r2
  exact isinst_ok I r1 (TyOf.ins e c.cl c.ha c.hn c.htk c.hm) c.me fun tk => ⟨.bl true, H, I.tok _, rfl, q⟩
end
end L2
namespace Sl
open PySem L2 C8 StX
section
variable {σ : L2.St} {H : Hp} {Q : VK} {QB : Bool → Hp → Prop} {K : PySem.W.Frag} {C D : Addr} {sp : Sp} {dvs : List V} {ta : TE} {v : V} {f : Str} {u : Value}
def rTruO (C : Addr) (sp : Sp) (dvs : List V) (x : V) (H1 : Hp) (Q : Bool → Hp → Prop) : Prop := ∃ a dx fs, x = .ref a ∧ H1 a = some (.ins C dx fs) ∧ sp ([.ref a] ++ dvs) H1 (fun v H2 => ∃ b, v = .bl b ∧ Q b H2) C8.E0
theorem rd_truO0 (h : ta σ H fun x H1 => rTruO C sp dvs x H1 QB) : tTruO C sp dvs ta σ H QB := h
theorem rd_truO {a dx : Addr} {fs : List (Str × V)} (e : H a = some (.ins C dx fs)) (h : sp ([.ref a] ++ dvs) H (fun v H2 => ∃ b, v = .bl b ∧ QB b H2) C8.E0) : rTruO C sp dvs (.ref a) H QB := ⟨a, dx, fs, rfl, e, h⟩
theorem rd_eqO {a b dx dy : Addr} {fs gs : List (Str × V)} (e : H a = some (.ins C dx fs)) (e2 : H b = some (.ins C dy gs)) (h : sp ([.ref a, .ref b] ++ dvs) H (fun v H' => ∃ k, v = .bl k ∧ Q v H') C8.E0) : rEqO C sp dvs (.ref a) (.ref b) H Q := ⟨a, b, dx, dy, fs, gs, rfl, rfl, e, e2, h⟩
theorem rd_isUp {a dx : Addr} {fs : List (Str × V)} (e : H a = some (.ins C dx fs)) (h : Q (.bl true) H) : rIsUp C D [.ref a, .ref D] H Q := ⟨a, dx, fs, rfl, e, h⟩
def rCon (K : PySem.W.Frag) (f : Str) (x : V) (H : Hp) (Q : VK) : Prop := ∃ a C dx fs v u, x = .ref a ∧ H a = some (.ins C dx fs) ∧ Cls K C ∧ Con K C f v u ∧ fs.lookup f = none ∧ Q v H
theorem rd_con0 (h : ta σ H fun x H1 => rCon K f x H1 Q) : tCon K ta f σ H Q := h
theorem rd_con {a dx : Addr} {fs : List (Str × V)} (e : H a = some (.ins C dx fs)) (c : Cls K C) (k : ∃ u, Con K C f v u) (l : fs.lookup f = none) (h : Q v H) : rCon K f (.ref a) H Q := by
  obtain ⟨u, k⟩ := k
  exact ⟨a, C, dx, fs, v, u, rfl, e, c, k, l, h⟩
theorem rd_minP {a : Addr} {xs : List V} {ks : List (Int × Int)} (e : SqL K H a xs) (n : 0 < xs.length) (l : ks.length = xs.length) (hx : ∀ (i : Nat) x k, xs[i]? = some x → ks[i]? = some k → ∃ t, x = V.ref t ∧ H t = some (.tup [.int k.1, .int k.2]))
    (h : ∀ (i : Nat) t k, xs[i]? = some (.ref t) → ks[i]? = some k → H t = some (.tup [.int k.1, .int k.2]) → (∀ y ∈ ks, ltPr y k = false) → Q (.ref t) H) : rMinP K [.ref a] H Q :=
  ⟨a, xs, ks, rfl, e, n, l, hx, fun i x k h1 h2 h3 => by
    obtain ⟨t, rfl, e⟩ := hx i x k h1 h2
    exact h i t k h1 h2 e h3⟩
end
end Sl
set_option Elab.async false
set_option linter.all false
set_option maxRecDepth 100000
set_option maxHeartbeats 4000000
namespace L2
open PySem PySem.Spec PyProof.Rows
/-- a dict from ints to ints -/
def dI (ls : List (Int × Int)) : List (Key × V) := ls.map fun q => (Sum.inl q.1, V.int q.2)
theorem dI_len (ls : List (Int × Int)) : (dI ls).length = ls.length := by unfold dI; rw [List.length_map]
theorem dI_keys (ls : List (Int × Int)) : (dI ls).map (·.1) = (ls.map (·.1)).map Sum.inl := by unfold dI; rw [List.map_map, List.map_map]; rfl
theorem dI_nodup {ls : List (Int × Int)} (h : (ls.map (·.1)).Nodup) : ((dI ls).map (·.1)).Nodup := by
  rw [dI_keys]
  exact List.Pairwise.map Sum.inl (fun a b n e => n (Sum.inl.inj e)) h
theorem dI_val {ls : List (Int × Int)} (h : (ls.map (·.1)).Nodup) : ∀ p ∈ dI ls, valV (dI ls) p.1 = some p.2 ∧ flatB p.2 = true := by
  intro p hp
  refine ⟨val_nodup (dI_nodup h) p hp, ?_⟩
  obtain ⟨q, _, rfl⟩ := List.mem_map.mp hp
  rfl
theorem dI_at {ls : List (Int × Int)} (h : (ls.map (·.1)).Nodup) {k v : Int} (m : (k, v) ∈ ls) : valV (dI ls) (Sum.inl k) = some (.int v) := val_nodup (dI_nodup h) (Sum.inl k, V.int v) (List.mem_map.mpr ⟨(k, v), m, rfl⟩)
theorem dI_no {ls : List (Int × Int)} {k : Int} (h : ∀ q ∈ ls, q.1 ≠ k) : valV (dI ls) (Sum.inl k) = none := by
  induction ls with
  | nil => rfl
  | cons q r ih =>
    show valV ((Sum.inl q.1, V.int q.2) :: dI r) (Sum.inl k) = none
    rw [valV_neg (fun z => h q List.mem_cons_self (Sum.inl.inj z))]
    exact ih fun q' m => h q' (List.mem_cons_of_mem _ m)
theorem dI_putNew {ls : List (Int × Int)} {k v : Int} (h : ∀ q ∈ ls, q.1 ≠ k) : putK (dI ls) (Sum.inl k) (.int v) = dI (ls ++ [(k, v)]) := by
  rw [putK_new _ (dI_no h)]
  unfold dI
  rw [List.map_append]
  rfl
/-! ### == of such dicts, both answers where the lengths differ -/
section
variable {X : Cx}
def rEqDI : R2 := fun x y H Q => ∃ a b ls ms, x = .ref a ∧ y = .ref b ∧ H a = some (.dK (dI ls)) ∧ H b = some (.dK (dI ms)) ∧ (ls.map (·.1)).Nodup ∧ (ls = ms ∨ ls.length ≠ ms.length) ∧ Q (.bl (decide (ls = ms))) H
def rNeDI : R2 := fun x y H Q => ∃ a b ls ms, x = .ref a ∧ y = .ref b ∧ H a = some (.dK (dI ls)) ∧ H b = some (.dK (dI ms)) ∧ (ls.map (·.1)).Nodup ∧ (ls = ms ∨ ls.length ≠ ms.length) ∧ Q (.bl (!decide (ls = ms))) H
theorem dI_hits {A : Around} {s : Shared} {ls ms : List (Int × Int)} {va vb : List (Key × Value)} (nd : (ls.map (·.1)).Nodup) (h : ls = ms ∨ ls.length ≠ ms.length) (ra : KV (dI ls) va) (rb : KV (dI ms) vb) (e : va.length = vb.length) : ls = ms ∧ PySem.W.KeqHits A s vb va true := by
  rcases h with h | h
  · subst h
    exact ⟨rfl, hits_all rb ra (dI_val nd)⟩
  · exfalso
    have h1 := ra.length
    have h2 := rb.length
    rw [dI_len] at h1 h2
    omega
theorem dI_ans {ls ms : List (Int × Int)} {va vb : List (Key × Value)} (h : ls = ms ∨ ls.length ≠ ms.length) (ra : KV (dI ls) va) (rb : KV (dI ms) vb) : (va.length == vb.length && true) = decide (ls = ms) := by
  have h1 := ra.length
  have h2 := rb.length
  rw [dI_len] at h1 h2
  rw [Bool.and_true]
  rcases h with h | h
  · subst h
    rw [decide_eq_true rfl, ← h1, ← h2]
    simp
  · rw [decide_eq_false (fun z => h (by rw [z])), ← h1, ← h2]
    simpa using h
theorem op_eqDI (hu : X.A.units < cLine) : OpR X (compareOp .Eq) rEqDI := by
  intro pins s σ H x y v u Q I rx ry h
  obtain ⟨a, b, ls, ms, rfl, rfl, ea, eb, nd, hh, q⟩ := h
  obtain rfl : v = Value.ref a := rx
  obtain rfl : u = Value.ref b := ry
  obtain ⟨_, ya, va, ra, da⟩ := (show ObjOk X.prog X.w H s.heap a (.dK (dI ls)) from I.hok a _ ea)
  obtain ⟨_, yb, vb, rb, db⟩ := (show ObjOk X.prog X.w H s.heap b (.dK (dI ms)) from I.hok b _ eb)
  refine PySem.W.keq_eq (knd := mixKind X.prog X.w) (r := true) ya yb da db hu (fun e => (dI_hits nd hh ra rb e).2) ?_
  rw [dI_ans hh ra rb]
  exact ⟨.bl _, H, I, rfl, q⟩
theorem op_neDI (hu : X.A.units < cLine) : OpR X (compareOp .NotEq) rNeDI := by
  intro pins s σ H x y v u Q I rx ry h
  obtain ⟨a, b, ls, ms, rfl, rfl, ea, eb, nd, hh, q⟩ := h
  obtain rfl : v = Value.ref a := rx
  obtain rfl : u = Value.ref b := ry
  obtain ⟨_, ya, va, ra, da⟩ := (show ObjOk X.prog X.w H s.heap a (.dK (dI ls)) from I.hok a _ ea)
  obtain ⟨_, yb, vb, rb, db⟩ := (show ObjOk X.prog X.w H s.heap b (.dK (dI ms)) from I.hok b _ eb)
  refine PySem.W.keq_ne (knd := mixKind X.prog X.w) (r := true) ya yb da db hu (fun e => (dI_hits nd hh ra rb e).2) ?_
  rw [dI_ans hh ra rb]
  exact ⟨.bl _, H, I, rfl, q⟩
end
end L2
namespace Sl
open PySem L2 C8 StX
section
variable {σ : L2.St} {H H1 : Hp} {wi : TI} {g : TG} {tb : TS} {ta : TA} {td te ty tk tv : TE} {tt : TT} {nx bk ct : L2.St → Hp → Prop} {rt : VK} {K : PySem.W.Frag} {Q : VK} {QB : Bool → Hp → Prop} {vs : List Nat} {x y v : V}
theorem rd_dnew (h : ∀ p H', H p = none → Same H H' → H' p = some (.dK (dI [])) → H' = upd H p (.dK (dI [])) → Q (.ref p) H') : tDNewK σ H Q := fun p hp => h p _ hp (Same.new (Same.refl H) hp) upd_same rfl
def rDIn (y x : V) (H : Hp) (Q : VK) : Prop := ∃ a o, x = .ref a ∧ DGet H a y o ∧ Q (.bl o.isSome) H
def rDNot (y x : V) (H : Hp) (Q : VK) : Prop := ∃ a o, x = .ref a ∧ DGet H a y o ∧ Q (.bl (!o.isSome)) H
theorem rd_din0 (h : ty σ H fun y H1 => td σ H1 fun x H2 => rDIn y x H2 Q) : tDIn ty td σ H Q := h
theorem rd_dnot0 (h : ty σ H fun y H1 => td σ H1 fun x H2 => rDNot y x H2 Q) : tDNotIn ty td σ H Q := h
theorem rd_dnot {a : Addr} {ls : List (Int × Int)} {k : Int} (e : H a = some (.dK (dI ls))) (h : Q (.bl (!(valV (dI ls) (Sum.inl k)).isSome)) H) : rDNot (.int k) (.ref a) H Q := ⟨a, _, rfl, DGet.k (k := Sum.inl k) e, h⟩
def rDGet (x y : V) (H : Hp) (Q : VK) : Prop := ∃ a v, x = .ref a ∧ DGet H a y (some v) ∧ Q v H
theorem rd_dget0 (h : td σ H fun x H1 => ty σ H1 fun y H2 => rDGet x y H2 Q) : tDGet td ty σ H Q := h
theorem rd_dget {a : Addr} {ls : List (Int × Int)} {k w : Int} (e : Rd H a (.dK (dI ls))) (l : valV (dI ls) (Sum.inl k) = some (.int w)) (h : Q (.int w) H) : rDGet (.ref a) (.int k) H Q := ⟨a, .int w, rfl, .inl ⟨_, Sum.inl k, e, rfl, l.symm⟩, h⟩
def rDPut (nx : L2.St → Hp → Prop) (σ : L2.St) (v x y : V) (H : Hp) : Prop := ∃ a H4, x = .ref a ∧ DPut H a y v H4 ∧ nx σ H4
theorem rd_dput0 (h : tv σ H fun v H1 => td σ H1 fun x H2 => ty σ H2 fun y H3 => rDPut nx σ v x y H3) : sDPut td ty tv ⟨nx, rt, bk, ct⟩ σ H := h
theorem rd_dput {a : Addr} {ls : List (Int × Int)} {k w : Int} (e : H a = some (.dK (dI ls))) (l : ls.length < 100000) (h : ∀ H', H' = upd H a (.dK (putK (dI ls) (Sum.inl k) (.int w))) → H' a = some (.dK (putK (dI ls) (Sum.inl k) (.int w))) → nx σ H') : rDPut nx σ (.int w) (.ref a) (.int k) H :=
  ⟨a, _, rfl, DPut.k (k := Sum.inl k) e (by rw [dI_len]; exact Nat.lt_trans l (by decide)), h _ rfl upd_same⟩
def rDictD : List V → Hp → VK → Prop := fun xs H Q => ∃ (a : Addr) (kvs : List (Key × V)), xs = [.ref a] ∧ Rd H a (.dK kvs) ∧ ∀ p, H p = none → Q (.ref p) (upd H p (.dK kvs))
theorem cr_dictD {X : Cx} : CallR X (.type "dict") rDictD := call_dictD
theorem rd_dictD {a : Addr} {kvs : List (Key × V)} (e : H a = some (.dK kvs)) (h : ∀ p H', H p = none → Same H H' → H' p = some (.dK kvs) → H' = upd H p (.dK kvs) → Q (.ref p) H') : rDictD [.ref a] H Q := ⟨a, kvs, rfl, .inl e, fun p hp => h p _ hp (Same.new (Same.refl H) hp) upd_same rfl⟩
def rSortDI : List V → Hp → VK → Prop := fun xs H Q => ∃ (a : Addr) (kvs : List (Key × V)) (ks : List Int), xs = [.ref a] ∧ Rd H a (.dK kvs) ∧ kvs.map (·.1) = ks.map Sum.inl ∧ ks.length < 64 ∧ ∀ (ys : List Int) (p : Addr), ys.Perm ks → ys.Pairwise (· ≤ ·) → H p = none → Q (.ref p) (upd H p (.lst (ys.map V.int)))
theorem cr_sortDI {X : Cx} (hc : X.calm = true) : CallR X (.builtin "sorted") rSortDI := call_sortedDI hc
theorem perm_sorted : ∀ {ys ks : List Int}, ys.Perm ks → ys.Pairwise (· ≤ ·) → ks.Pairwise (· < ·) → ys = ks
  | [], ks, p, _, _ => (List.nil_perm.mp p).symm
  | y :: ys, [], p, _, _ => by have := p.length_eq; simp at this
  | y :: ys, k :: ks, p, s1, s2 => by
    have h1 := List.pairwise_cons.mp s1
    have h2 := List.pairwise_cons.mp s2
    have e : y = k := by
      have a : y ∈ k :: ks := p.mem_iff.mp List.mem_cons_self
      have b : k ∈ y :: ys := p.mem_iff.mpr List.mem_cons_self
      rcases List.mem_cons.mp a with z | z
      · exact z
      · rcases List.mem_cons.mp b with w | w
        · exact w.symm
        · have q1 := h2.1 y z
          have q2 := h1.1 k w
          omega
    subst e
    rw [perm_sorted p.cons_inv h1.2 h2.2]
theorem rd_sortDI {a : Addr} {ls : List (Int × Int)} (e : H a = some (.dK (dI ls))) (s : (ls.map (·.1)).Pairwise (· < ·)) (l : ls.length < 64) (h : ∀ p H', H p = none → Same H H' → H' p = some (.lst ((ls.map (·.1)).map V.int)) → Q (.ref p) H') : rSortDI [.ref a] H Q :=
  ⟨a, _, ls.map (·.1), rfl, .inl e, dI_keys ls, by rw [List.length_map]; exact l, fun ys p pm sr hp => by
    rw [perm_sorted pm sr s]
    exact h p _ hp (Same.new (Same.refl H) hp) upd_same⟩
theorem rd_sortL {a : Addr} {ks : List Int} (e : SqL K H a (ks.map V.int)) (s : ks.Pairwise (· < ·)) (l : ks.length < 64) (h : ∀ p H', H p = none → Same H H' → H' p = some (.lst (ks.map V.int)) → Q (.ref p) H') : rSorted K [.ref a] H Q :=
  ⟨a, ks, rfl, e, l, fun ys p pm sr hp => by
    rw [perm_sorted pm sr s]
    exact h p _ hp (Same.new (Same.refl H) hp) upd_same⟩
theorem rd_listD {a : Addr} {ls : List (Int × Int)} (e : H a = some (.dK (dI ls))) (h : ∀ p H', H p = none → Same H H' → H' p = some (.lst ((ls.map (·.1)).map V.int)) → Q (.ref p) H') : rListD [.ref a] H Q :=
  ⟨a, _, rfl, e, fun p hp => h p _ hp (Same.new (Same.refl H) hp) (by rw [upd_same]; unfold dI; rw [List.map_map, List.map_map]; rfl)⟩
theorem rd_eqDI {a b : Addr} {ls ms : List (Int × Int)} (ea : H a = some (.dK (dI ls))) (eb : H b = some (.dK (dI ms))) (nd : (ls.map (·.1)).Nodup) (hh : ls = ms ∨ ls.length ≠ ms.length) (q : Q (.bl (decide (ls = ms))) H) : rEqDI (.ref a) (.ref b) H Q := ⟨a, b, ls, ms, rfl, rfl, ea, eb, nd, hh, q⟩
theorem rd_neDI {a b : Addr} {ls ms : List (Int × Int)} (ea : H a = some (.dK (dI ls))) (eb : H b = some (.dK (dI ms))) (nd : (ls.map (·.1)).Nodup) (hh : ls = ms ∨ ls.length ≠ ms.length) (q : Q (.bl (!decide (ls = ms))) H) : rNeDI (.ref a) (.ref b) H Q := ⟨a, b, ls, ms, rfl, rfl, ea, eb, nd, hh, q⟩
/-! ### dict comprehensions -/
def DcE (D : Addr) (Nx : Hp → Prop) (y z : V) (H5 : Hp) : Prop := ∃ kvs k, y = kV k ∧ H5 D = some (.dK kvs) ∧ kvs.length < sizeLine ∧ Nx (upd H5 D (.dK (putK kvs k z)))
def DcR (J : It) (g : TG) (tt : TT) (tk tv : TE) (vs : List Nat) (σ : L2.St) (H1 : Hp) (Q : VK) : Prop := ∀ D, H1 D = none → ∃ W : Nat → Nat → Hp → Prop, (∃ m, W 0 m (upd H1 D (.dK []))) ∧ ∀ i m H, W i m H →
  (J.stop i H ∧ Q (.ref D) H) ∨ (J.go i H ∧ ∃ Nx : Hp → Prop, (∀ H', Nx H' → ∃ m', m' < m ∧ W (i + 1) m' H') ∧ ∀ x H', J.yld i H x H' → g x (wipe σ vs) H' fun σ2 H2 => wipe σ2 vs = wipe σ vs ∧ tt σ2 H2 fun b H3 =>
    if b = true then tk σ2 H3 fun y H4 => tv σ2 H4 fun z H5 => DcE D Nx y z H5 else Nx H3)
theorem rd_dc (h : wi σ H fun J H1 => DcR J g tt tk tv vs σ H1 Q) : tDc wi g tt tk tv vs σ H Q := h
theorem rd_dcE {D : Addr} {Nx : Hp → Prop} {ls : List (Int × Int)} {k w : Int} (e : H D = some (.dK (dI ls))) (l : ls.length < 100000) (n : ∀ q ∈ ls, q.1 ≠ k) (h : ∀ H', H' = upd H D (.dK (dI (ls ++ [(k, w)]))) → H' D = some (.dK (dI (ls ++ [(k, w)]))) → Nx H') : DcE D Nx (.int k) (.int w) H :=
  ⟨_, Sum.inl k, rfl, e, by rw [dI_len]; exact Nat.lt_trans l (by decide), by rw [dI_putNew n]; exact h _ rfl upd_same⟩
theorem dcR_gen (J : It) (n : Nat) (Pv : Addr → Nat → Hp → Prop) (h0 : ∀ D H', H D = none → Same H H' → H' D = some (.dK (dI [])) → H' = upd H D (.dK (dI [])) → Pv D 0 H') (hg : ∀ D i H', H D = none → i < n → Pv D i H' → J.go i H') (he : ∀ D H', H D = none → Pv D n H' → J.stop n H')
    (hs : ∀ D i H' x H2, H D = none → i < n → Pv D i H' → J.yld i H' x H2 → g x (wipe σ vs) H2 fun σ2 H2 => wipe σ2 vs = wipe σ vs ∧ tt σ2 H2 fun b H3 => if b = true then tk σ2 H3 fun y H4 => tv σ2 H4 fun z H5 => DcE D (Pv D (i + 1)) y z H5 else Pv D (i + 1) H3)
    (hd : ∀ D H', H D = none → Pv D n H' → Q (.ref D) H') : DcR J g tt tk tv vs σ H Q := by
  intro D hD
  refine ⟨fun i m H => m = n - i ∧ i ≤ n ∧ Pv D i H, ⟨n, by simp, Nat.zero_le _, h0 D _ hD (Same.new (Same.refl H) hD) upd_same rfl⟩, ?_⟩
  rintro i m H' ⟨rfl, hi, p⟩
  by_cases hlt : i < n
  · exact .inr ⟨hg D i H' hD hlt p, Pv D (i + 1), fun H2 p' => ⟨n - (i + 1), by omega, rfl, hlt, p'⟩, fun x H2 y => hs D i H' x H2 hD hlt p y⟩
  · obtain rfl : i = n := by omega
    exact .inl ⟨he D H' hD p, hd D H' hD p⟩
theorem dcR_lst {a : Addr} {xs : List V} (Pv : Addr → Nat → Hp → Prop) (hl : ∀ D i H', H D = none → Pv D i H' → SqL K H' a xs) (h0 : ∀ D H', H D = none → Same H H' → H' D = some (.dK (dI [])) → H' = upd H D (.dK (dI [])) → Pv D 0 H')
    (hs : ∀ D i x H', H D = none → xs[i]? = some x → Pv D i H' → g x (wipe σ vs) H' fun σ2 H2 => wipe σ2 vs = wipe σ vs ∧ tt σ2 H2 fun b H3 => if b = true then tk σ2 H3 fun y H4 => tv σ2 H4 fun z H5 => DcE D (Pv D (i + 1)) y z H5 else Pv D (i + 1) H3)
    (hd : ∀ D H', H D = none → Pv D xs.length H' → Q (.ref D) H') : DcR (Itl K a) g tt tk tv vs σ H Q :=
  dcR_gen _ xs.length Pv h0 (fun D i H' hD h p => ⟨xs, xs[i], hl D i H' hD p, by simp [h]⟩) (fun D H' hD p => ⟨xs, hl D _ H' hD p, Nat.le_refl _⟩)
    (fun D i H' x H2 hD hi p ⟨e1, e2⟩ => by subst e1; exact hs D i x _ hD (e2 xs (hl D i _ hD p)) p) hd
/-! ### the keys of a dict that is walked -/
def KeysR (R : It → Hp → Prop) (x : V) (H : Hp) : Prop := ∃ d o, x = .ref d ∧ ((∃ kvs, H d = some (.frz o (.dK kvs)) ∧ R (Itk d o kvs) H) ∨ ∃ kvs, H d = some (.frz o (.dT kvs)) ∧ R (Itkt d o kvs) H)
theorem rd_iKeys {R : It → Hp → Prop} (h : td σ H fun x H1 => KeysR R x H1) : iKeys td σ H R := h
theorem rd_keysR {R : It → Hp → Prop} {d : Addr} {o : Obj} {kvs : List (Key × V)} (e : H d = some (.frz o (.dK kvs))) (h : R (Itk d o kvs) H) : KeysR R (.ref d) H := ⟨d, o, rfl, .inl ⟨kvs, e, h⟩⟩
theorem rd_lock {d : Addr} {u : HO} (e : H d = some u) (m : Mut (some u)) (h : ∀ od, te σ (upd H d (.frz od u)) fun v H' => H' d = some (.frz od u) ∧ Q v (upd H' d u)) : tLockE te σ H Q := ⟨d, u, e, m, h⟩
theorem dcR_keys {d : Addr} {o : Obj} {kvs : List (Key × V)} (Pv : Addr → Nat → Hp → Prop) (hl : ∀ D i H', H D = none → Pv D i H' → H' d = some (.frz o (.dK kvs))) (h0 : ∀ D H', H D = none → Same H H' → H' D = some (.dK (dI [])) → H' = upd H D (.dK (dI [])) → Pv D 0 H')
    (hs : ∀ D i k z H', H D = none → kvs[i]? = some (k, z) → Pv D i H' → g (kV k) (wipe σ vs) H' fun σ2 H2 => wipe σ2 vs = wipe σ vs ∧ tt σ2 H2 fun b H3 => if b = true then tk σ2 H3 fun y H4 => tv σ2 H4 fun z H5 => DcE D (Pv D (i + 1)) y z H5 else Pv D (i + 1) H3)
    (hd : ∀ D H', H D = none → Pv D kvs.length H' → Q (.ref D) H') : DcR (Itk d o kvs) g tt tk tv vs σ H Q :=
  dcR_gen _ kvs.length Pv h0 (fun D i H' hD h p => ⟨hl D i H' hD p, h⟩) (fun D H' hD p => ⟨hl D _ H' hD p, Nat.le_refl _⟩)
    (fun D i H' x H2 hD hi p ⟨e1, k, v, e2, e3⟩ => by subst e1; subst e3; exact hs D i k v _ hD e2 p) hd
theorem lcR_keys {d : Addr} {o : Obj} {kvs : List (Key × V)} (Pv : Addr → Nat → Hp → Prop) (hl : ∀ D i H', H D = none → Pv D i H' → H' d = some (.frz o (.dK kvs))) (h0 : ∀ D H', H D = none → Same H H' → H' D = some (.lst []) → H' = upd H D (.lst []) → Pv D 0 H')
    (hs : ∀ D i k z H', H D = none → kvs[i]? = some (k, z) → Pv D i H' → g (kV k) (wipe σ vs) H' fun σ2 H2 => wipe σ2 vs = wipe σ vs ∧ tt σ2 H2 fun b H3 => if b = true then te σ2 H3 fun y H4 => LcE D (Pv D (i + 1)) y H4 else Pv D (i + 1) H3)
    (hd : ∀ D H', H D = none → Pv D kvs.length H' → Q (.ref D) H') : LcR (Itk d o kvs) g tt te vs σ H Q :=
  lcR_gen _ kvs.length Pv h0 (fun D i H' hD h p => ⟨hl D i H' hD p, h⟩) (fun D H' hD p => ⟨hl D _ H' hD p, Nat.le_refl _⟩)
    (fun D i H' x H2 hD hi p ⟨e1, k, v, e2, e3⟩ => by subst e1; subst e3; exact hs D i k v _ hD e2 p) hd
end
end Sl
set_option Elab.async false
set_option linter.all false
set_option maxRecDepth 100000
set_option maxHeartbeats 4000000
/-! ### t != u of tuples whose items are all equal, one of them a dict -/
namespace GQ
open PySem PySem.SeqAt
open AutoSeq1 (wpAny_loadPart')
open MeetsSeq MeetsSeq2 MeetsSeq3 SeqRoads2
section
variable {prog : Program} {w : World} {A : Around} {R : Result → Shared → Prop} {E : Value → Shared → Prop}
theorem tup_neT (t u : Addr) (xs ys : Array Value) (n m : Nat) (d1 d2 : Option Addr) (l1 l2 : Array (Option Value)) (len : xs.size = ys.size) {s : Shared}
    (each : ∀ i (h1 : i < xs.size) (h2 : i < ys.size) (E' : Value → Shared → Prop) (Q : Bool → Shared → Prop), Q true s → wpAny (model prog w) A.in1 (eqBool xs[i] ys[i]) Q E' s)
    (e1 : s.heap.get? t = some { cls := .type "tuple", dict := d1, data := .seq xs n, slots := l1 }) (e2 : s.heap.get? u = some { cls := .type "tuple", dict := d2, data := .seq ys m, slots := l2 }) (fin : R (.ok (.ret (.bool false))) s) :
    wpAny (model prog w) A.in1 (Builtin.«tuple.__ne__» ⟨[.ref t, .ref u], []⟩) (FinOf prog w A R) (fun e s' => R (.error e) s') s := by
  have f2 := AutoSeq1.sub_tuple_tuple
  have hz : (xs.toList.zip ys.toList).length = xs.size := by simp [len]
  obtain ⟨hp, gn, dr, tk, os⟩ := s
  wp_walk using wpAny_loadPart' e1, wpAny_loadPart' e2, wpAny_forIn_list _ (fun rest b s' => b.1 = none ∧ s' = (⟨hp, gn, dr, tk, os⟩ : Shared) ∧ ∃ i, rest = (xs.toList.zip ys.toList).drop i ∧ i ≤ xs.size) _
  case turn =>
    rintro ⟨y, x⟩ rest b s' ⟨hb, rfl, i, hr, hi⟩
    have lt : i < (xs.toList.zip ys.toList).length := by
      rcases Nat.lt_or_ge i (xs.toList.zip ys.toList).length with z | z
      · exact z
      · rw [List.drop_of_length_le z] at hr
        cases hr
    have h1 : i < xs.size := hz ▸ lt
    have h2 : i < ys.size := len ▸ h1
    rw [List.drop_eq_getElem_cons lt] at hr
    injection hr with q1 q2
    obtain rfl : y = xs[i] := by simpa using congrArg Prod.fst q1
    obtain rfl : x = ys[i] := by simpa using congrArg Prod.snd q1
    refine wpAny_bind (each i h1 h2 _ _ ?_)
    wp_walk
    exact ⟨rfl, rfl, i + 1, q2, h1⟩
  case fin =>
    rintro ⟨b1, b2⟩ s' ⟨hb, rfl, i, hr, hi⟩
    simp only at hb
    subst hb
    wp_walk
    simpa [Builtin.Tuple.tupleCompareSizes, len] using fin
  case h =>
    exact ⟨rfl, rfl, 0, rfl, Nat.zero_le _⟩
theorem rcne_tup {t u : Addr} {xs ys : Array Value} {Q : Value → Shared → Prop} {s : Shared} (len : xs.size = ys.size) (hu : A.units < cLine) (h1 : s.heap.IsTuple t xs) (h2 : s.heap.IsTuple u ys)
    (each : ∀ i (h1 : i < xs.size) (h2 : i < ys.size) (E' : Value → Shared → Prop) (Q : Bool → Shared → Prop), Q true s → wpAny (model prog w) A.in1 (eqBool xs[i] ys[i]) Q E' s) (fin : Q (.bool false) s) : wpAny (model prog w) A (richCompare .NotEq (.ref t) (.ref u)) Q E s := by
  obtain ⟨⟨c1, d1, k1, l1⟩, o1, z1, n, y1⟩ := id h1
  obtain ⟨⟨c2, d2, k2, l2⟩, o2, z2, m, y2⟩ := id h2
  simp only at z1 y1 z2 y2
  subst z1 y1 z2 y2
  refine wpAny_richCompare_same_room (op := .NotEq) ⟨_, o1, rfl⟩ ⟨_, o2, rfl⟩ F.slot_tuple_ne (call_here F.slot_tuple_ne ⟨_, o1, rfl⟩ F.entry_tuple_ne (F.args_tuple_ne_2 _ _) ?_) hu
  exact tup_neT (R := wants (fun v s' => v ≠ .notImplemented ∧ Q v s') E) t u xs ys n m d1 d2 l1 l2 len each o1 o2 ⟨(fun x => nomatch x), fin⟩
end
end GQ
namespace L2
open PySem PySem.Spec PyProof.Rows
section
variable {X : Cx}
/-- (i, d) != (i, e), d and e equal dicts -/
def rNePD (K : PySem.W.Frag) : R2 := fun x y H Q => ∃ t u i a b ls, x = .ref t ∧ y = .ref u ∧ H t = some (.tup [.int i, .ref a]) ∧ H u = some (.tup [.int i, .ref b]) ∧ H a = some (.dK (dI ls)) ∧ H b = some (.dK (dI ls)) ∧ (ls.map (·.1)).Nodup ∧ Q (.bl false) H
theorem op_nePD (hu : X.A.units + 64 < cLine) : OpR X (compareOp .NotEq) (rNePD X.K) := by
  intro pins s σ H x y v u' Q I rx ry h
  obtain ⟨t, u, i, a, b, ls, rfl, rfl, et, eu, ea, eb, nd, q⟩ := h
  obtain rfl : v = Value.ref t := rx
  obtain rfl : u' = Value.ref u := ry
  obtain ⟨xs, r1, p1, _⟩ := I.tuple (SqT.of et)
  obtain ⟨ys, r2, p2, _⟩ := I.tuple (SqT.of eu)
  obtain ⟨x1, x2, rfl, ⟨tx, rfl⟩, w2⟩ := vals2 r1
  obtain ⟨y1, y2, rfl, ⟨ty, rfl⟩, z2⟩ := vals2 r2
  obtain rfl : x2 = Value.ref a := w2
  obtain rfl : y2 = Value.ref b := z2
  obtain ⟨_, ya, va, ra, da⟩ := (show ObjOk X.prog X.w H s.heap a (.dK (dI ls)) from I.hok a _ ea)
  obtain ⟨_, yb, vb, rb, db⟩ := (show ObjOk X.prog X.w H s.heap b (.dK (dI ls)) from I.hok b _ eb)
  show wpAny (model X.prog X.w) X.A (richCompare .NotEq (.ref t) (.ref u)) (EP X pins σ Q) X.xe s
  refine GQ.rcne_tup (by simp) (by omega) p1 p2 (fun j h1 h2 E' Q' q' => ?_) ⟨.bl false, H, I, rfl, q⟩
  match j, h1, h2 with
  | 0, _, _ => exact (eqAt_same (A := X.A.in1) (s := s) (show RelV (V.int i) (Value.int i tx) from ⟨tx, rfl⟩) (show RelV (V.int i) (Value.int i ty) from ⟨ty, rfl⟩) rfl) X.prog X.w E' Q' q'
  | 1, _, _ =>
    show wpAny (model X.prog X.w) X.A.in1 (eqBool (Value.ref a) (Value.ref b)) Q' E' s
    by_cases c : a = b
    · subst c
      exact SeqAt.EqAt.same (A := X.A.in1) (s := s) (.ref a) X.prog X.w E' Q' q'
    · refine GQ.eqBool_refG c ?_
      show wpAny (model X.prog X.w) X.A.in1 (compareOp .Eq (.ref a) (.ref b)) _ E' s
      refine PySem.W.keq_eq (knd := mixKind X.prog X.w) (r := true) ya yb da db (by show X.A.units + 1 < cLine; omega) (fun e => (dI_hits nd (.inl rfl) ra rb e).2) ?_
      rw [dI_ans (.inl rfl) ra rb, decide_eq_true rfl]
      exact ⟨true, rfl, q'⟩
  | j + 2, h1, _ => exact absurd h1 (by simp)
end
end L2
namespace Sl
open PySem L2 C8 StX
theorem rd_nePD {K : PySem.W.Frag} {H : Hp} {Q : VK} {t u a b : Addr} {i : Int} {ls : List (Int × Int)} (et : H t = some (.tup [.int i, .ref a])) (eu : H u = some (.tup [.int i, .ref b])) (ea : H a = some (.dK (dI ls))) (eb : H b = some (.dK (dI ls))) (nd : (ls.map (·.1)).Nodup) (q : Q (.bl false) H) : rNePD K (.ref t) (.ref u) H Q :=
  ⟨t, u, i, a, b, ls, rfl, rfl, et, eu, ea, eb, nd, q⟩
end Sl
set_option Elab.async false
set_option linter.all false
set_option maxRecDepth 100000
set_option maxHeartbeats 4000000
namespace L2
open PySem PySem.Spec PyProof.Rows
/-! ### sum(d.values()) of a dict from ints to ints -/
def rSumV (x : V) (H : Hp) (Q : VK) : Prop := ∃ a ls, x = V.ref a ∧ H a = some (.dK (dI ls)) ∧ Q (.int ((ls.map (·.2)).sum)) H
def tSumV (td : TE) : TE := fun σ H Q => td σ H fun x H1 => rSumV x H1 Q
theorem dI_vals (ls : List (Int × Int)) : (dI ls).map (·.2) = (ls.map (·.2)).map V.int := by unfold dI; rw [List.map_map, List.map_map]; rfl
theorem preSum_list (l : List Int) : ∀ n : Nat, preSum (fun i => l.getD i 0) n = (l.take n).sum
  | 0 => by simp [preSum]
  | n + 1 => by
    rw [preSum, preSum_list l n, List.take_succ, List.sum_append]
    cases e : l[n]? with
    | none => simp [List.getD_eq_getElem?_getD, e]
    | some x => simp [List.getD_eq_getElem?_getD, e]
section
variable {X : Cx} {o : Expr} {p pos apos mpos : Pos} {td : TE}
theorem pe_sumVals (hc : X.calm = true) (hg : Gl X "sum") (hm : X.mg "sum" = none) (hd : PE X o td) (base : attributeBase o "values" X.env (eval o X.env) = eval o X.env := by rfl) (line : (apos.endLine == mpos.line) = true := by rfl)
    (each : starEach [Expr.Call (.Attribute o "values" apos) [] [] mpos] X.env = [(false, eval (Expr.Call (.Attribute o "values" apos) [] [] mpos) X.env)] := by rfl) : PE X (.Call (.Name "sum" p) [.Call (.Attribute o "values" apos) [] [] mpos] [] pos) (tSumV td) := by
  refine ⟨fun pins s σ H Q I h => wpAny_Call_Name_kw (ld_blt I hg hm (u := .builtin "sum") (by first | rfl | decide +kernel) ?_ (by first | decide +kernel | decide) (by first | decide +kernel | decide))⟩
  rw [each]
  refine PySem.callWith_builtin1 (wpAny_Call_method0_late base line (thn (hd.run pins s σ H _ I h) fun v s1 z => ?_))
  obtain ⟨x, H1, I1, rx, a, ls, rfl, ea, q⟩ := z
  obtain rfl : v = Value.ref a := rx
  obtain ⟨_, low, vs, rel, dof⟩ := dk_of I1.hok ea
  obtain ⟨ep, dat⟩ := dof.dictAt
  obtain ⟨ob, es, ho, ex, _⟩ := id dat
  refine ⟨"dict", "dict.values", F.plainAttrs_dict, F.slot_dict_values, F.type_dict_values, ⟨ob, ho, ex.1⟩, fun b e => (by cases e; exact ⟨ob, ho, ex.2.1⟩), Calls.callWith_builtin rfl (PySem.evalArgs_none (call_meetsIn F.slot_dict_values ⟨ob, ho, ex.1⟩ F.entry_dict_values (F.args_dict_values_1 _) (meets_dict_values (mixKind X.prog X.w) a low) ⟨⟨vs, dof⟩, ?_⟩))⟩
  have kept1 : ∀ b u, s1.heap.get? b = some u → (s1.heap.push { cls := .type "dict_values", data := .fields #[.ref a] }).get? b = some u := fun _ _ e => Heap.get?_push_of_some _ e
  have dat1 := dat.keep kept1
  have lt : a < s1.heap.objs.size := Heap.lt_size ho
  have sz : (s1.heap.push { cls := .type "dict_values", data := .fields #[.ref a] }).objs.size = s1.heap.objs.size + 1 := Heap.size_push _ _
  have lv : vs.length = ls.length := by rw [← rel.length, dI_len]
  have val : ∀ (i : Nat) (v : Value), (∃ k, vs[i]? = some (k, v)) → ∃ t, v = Value.int ((ls.map (·.2)).getD i 0) t := by
    rintro i v ⟨k, hk⟩
    obtain ⟨x, h1, h2⟩ := KV.at' rel hk
    have e : ((dI ls).map (·.2))[i]? = some x := by rw [List.getElem?_map, h1]; rfl
    rw [dI_vals, List.getElem?_map] at e
    cases w : (ls.map (·.2))[i]? with
    | none => rw [w] at e; cases e
    | some j =>
      rw [w] at e
      cases e
      obtain ⟨t, rfl⟩ := h2
      refine ⟨t, ?_⟩
      rw [List.getD_eq_getElem?_getD, w]; rfl
  refine call_sum_walkG (wpAny_pyIter_values (v := s1.heap.objs.size) (d := a) ⟨_, Heap.get?_push_size _ rfl, rfl, rfl⟩ dat1 ⟨_, _, _, _, _, _, fun i => (ls.map (·.2)).getD i 0, rfl,
    Walks.dictValues (knd := mixKind X.prog X.w) (A := X.A.in1) (I.ok.hd hc) _ a (by rw [sz]; exact Nat.ne_of_lt (Nat.lt_succ_of_lt lt)) vs ep, ⟨⟨_, Heap.get?_push_size _ rfl, rfl, rfl⟩, dat1.keep fun _ _ e => Heap.get?_push_of_some _ e⟩, fun b hb => ?_, val, fun h' tk t' kp => ?_⟩)
  · show b < ((s1.heap.push _).push _).objs.size
    rw [Heap.size_push, sz]
    rcases List.mem_cons.mp hb with e | hb
    · rw [e, sz]; exact Nat.lt_succ_self _
    · rw [List.mem_singleton.mp hb]; exact Nat.lt_succ_of_lt (Nat.lt_succ_of_lt lt)
  · have es : preSum (fun i => (ls.map (·.2)).getD i 0) vs.length = (ls.map (·.2)).sum := by
      rw [preSum_list, List.take_of_length_le (by rw [List.length_map, lv]; exact Nat.le_refl _)]
    rw [es]
    refine ⟨.int _, H1, I1.kept (t' := tk) fun b u e => kp b u (fun mem => ?_) (Heap.get?_push_of_some _ (kept1 b u e)), ⟨t', rfl⟩, q⟩
    have e2 := Heap.lt_size e
    rw [List.mem_singleton.mp mem, sz] at e2
    exact Nat.lt_irrefl _ (Nat.lt_of_succ_lt e2)
end
end L2
namespace Sl
open PySem L2 C8 StX
section
variable {σ : L2.St} {H : Hp} {Q : VK} {td ty tx : TE}
theorem rd_sumV0 (h : td σ H fun x H1 => rSumV x H1 Q) : tSumV td σ H Q := h
theorem rd_sumV {a : Addr} {ls : List (Int × Int)} (e : H a = some (.dK (dI ls))) (h : Q (.int ((ls.map (·.2)).sum)) H) : rSumV (.ref a) H Q := ⟨a, ls, rfl, e, h⟩
/-- d.get(k, z) -/
def rGetD (x : V) (ty tx : TE) (σ : L2.St) (H1 : Hp) (Q : VK) : Prop := ∃ a, x = .ref a ∧ IsD H1 a ∧ ty σ H1 fun y H2 => tx σ H2 fun z H3 => ∃ o, DGet H3 a y o ∧ Q (o.getD z) H3
theorem rd_getD0 (h : td σ H fun x H1 => rGetD x ty tx σ H1 Q) : tDGet2 td ty tx σ H Q := h
def rGetD2 (a : Addr) (y z : V) (H3 : Hp) (Q : VK) : Prop := ∃ o, DGet H3 a y o ∧ Q (o.getD z) H3
theorem rd_getD {a : Addr} {kvs : List (Key × V)} (e : Rd H a (.dK kvs)) (h : ty σ H fun y H2 => tx σ H2 fun z H3 => rGetD2 a y z H3 Q) : rGetD (.ref a) ty tx σ H Q := ⟨a, rfl, .inl ⟨kvs, e⟩, h⟩
theorem rd_getD2 {a : Addr} {ls : List (Int × Int)} {k w z : Int} (e : Rd H a (.dK (dI ls))) (l : (valV (dI ls) (Sum.inl k)).getD (.int z) = .int w) (h : Q (.int w) H) : rGetD2 a (.int k) (.int z) H Q := ⟨_, .inl ⟨_, Sum.inl k, e, rfl, rfl⟩, by rw [l]; exact h⟩
theorem rd_dinI {a : Addr} {ls : List (Int × Int)} {k : Int} (e : H a = some (.dK (dI ls))) (h : Q (.bl (valV (dI ls) (Sum.inl k)).isSome) H) : rDIn (.int k) (.ref a) H Q := ⟨a, _, rfl, DGet.k (k := Sum.inl k) e, h⟩
end
/-! ### truth of one of two classes of evidence -/
end Sl
namespace L2
open PySem PySem.Spec PyProof.Rows
section
variable {X : Cx} {k k2 j : Nat} {C D : Addr} {sp sp2 : Sp} {dvs dvs2 : List V} {a : Expr} {ta : TE}
def tTruO2 (C D : Addr) (sp sp2 : Sp) (dvs dvs2 : List V) (ta : TE) : TT := fun σ H Q => ta σ H fun x H1 => ∃ a dx fs, x = .ref a ∧ ((H1 a = some (.ins C dx fs) ∧ sp ([.ref a] ++ dvs) H1 (fun v H2 => ∃ b, v = .bl b ∧ Q b H2) C8.E0) ∨ (H1 a = some (.ins D dx fs) ∧ sp2 ([.ref a] ++ dvs2) H1 (fun v H2 => ∃ b, v = .bl b ∧ Q b H2) C8.E0))
theorem pt_own2 (c : C8.Met X.prog X.w X.K X.mg X.base k C "__bool__" sp dvs) (c2 : C8.Met X.prog X.w X.K X.mg X.base k2 D "__bool__" sp2 dvs2) (hr : Room j X.A) (hk : k ≤ j) (hk2 : k2 ≤ j) (ha : PE X a ta) (he : ∀ whole, isTrue a X.env whole = (do let v ← whole; standAt a.pos; holding [v] (truthy v)) := by intro _; rfl) : PT X a (tTruO2 C D sp sp2 dvs dvs2 ta) := by
  refine ⟨fun pins s σ H Q I h => isTrue_plain (thn (ha.run pins s σ H _ I h) fun v s1 z => ?_) (he _)⟩
  obtain ⟨x, H1, I1, rx, o, dx, fs, rfl, z⟩ := z
  obtain rfl : v = Value.ref o := rx
  obtain ⟨m, F0⟩ := I1.fr
  rcases z with ⟨e, q⟩ | ⟨e, q⟩
  · obtain ⟨f, fd, ps, ds, cl, hm, F, bd, d⟩ := c.ex
    obtain ⟨mA, O, _, _, _, _⟩ := ins_get I1.hok e
    obtain ⟨od, J, _⟩ := O.look
    refine PySem.W.truthy_K F0 I1.ok.mod.kin J hm.at_ hm.fn (wpAny_mono (run_fn (us := [.ref o]) (vs := [.ref o]) F (hr.mono hk) bd d C8.pass0 I1 (.cons rfl .nil) q) (fun v s2 y => ?_) fun _ _ y => y)
    obtain ⟨x2, H2, I2, rx2, b, rfl, q2⟩ := y
    obtain rfl : v = Value.bool b := rx2
    exact ⟨H2, I2, q2⟩
  · obtain ⟨f, fd, ps, ds, cl, hm, F, bd, d⟩ := c2.ex
    obtain ⟨mA, O, _, _, _, _⟩ := ins_get I1.hok e
    obtain ⟨od, J, _⟩ := O.look
    refine PySem.W.truthy_K F0 I1.ok.mod.kin J hm.at_ hm.fn (wpAny_mono (run_fn (us := [.ref o]) (vs := [.ref o]) F (hr.mono hk2) bd d C8.pass0 I1 (.cons rfl .nil) q) (fun v s2 y => ?_) fun _ _ y => y)
    obtain ⟨x2, H2, I2, rx2, b, rfl, q2⟩ := y
    obtain rfl : v = Value.bool b := rx2
    exact ⟨H2, I2, q2⟩
end
end L2
namespace Sl
open PySem L2 C8 StX
section
variable {σ : L2.St} {H : Hp} {QB : Bool → Hp → Prop} {C D : Addr} {sp sp2 : Sp} {dvs dvs2 : List V} {ta : TE}
def rTruO2 (C D : Addr) (sp sp2 : Sp) (dvs dvs2 : List V) (x : V) (H1 : Hp) (Q : Bool → Hp → Prop) : Prop := ∃ a dx fs, x = .ref a ∧ ((H1 a = some (.ins C dx fs) ∧ sp ([.ref a] ++ dvs) H1 (fun v H2 => ∃ b, v = .bl b ∧ Q b H2) C8.E0) ∨ (H1 a = some (.ins D dx fs) ∧ sp2 ([.ref a] ++ dvs2) H1 (fun v H2 => ∃ b, v = .bl b ∧ Q b H2) C8.E0))
theorem rd_truO20 (h : ta σ H fun x H1 => rTruO2 C D sp sp2 dvs dvs2 x H1 QB) : tTruO2 C D sp sp2 dvs dvs2 ta σ H QB := h
theorem rd_truO2a {a dx : Addr} {fs : List (Str × V)} (e : H a = some (.ins C dx fs)) (h : sp ([.ref a] ++ dvs) H (fun v H2 => ∃ b, v = .bl b ∧ QB b H2) C8.E0) : rTruO2 C D sp sp2 dvs dvs2 (.ref a) H QB := ⟨a, dx, fs, rfl, .inl ⟨e, h⟩⟩
theorem rd_truO2b {a dx : Addr} {fs : List (Str × V)} (e : H a = some (.ins D dx fs)) (h : sp2 ([.ref a] ++ dvs2) H (fun v H2 => ∃ b, v = .bl b ∧ QB b H2) C8.E0) : rTruO2 C D sp sp2 dvs dvs2 (.ref a) H QB := ⟨a, dx, fs, rfl, .inr ⟨e, h⟩⟩
end
end Sl
/-! ### walks over the keys of a dict as a statement; a list turned round -/
namespace Sl
open PySem L2 C8 StX
section
variable {σ : L2.St} {H : Hp} {g : TG} {tb : TS} {te : TE} {nx bk ct : L2.St → Hp → Prop} {rt : VK} {K : PySem.W.Frag} {Q : VK} {D : Ends} {t : TS}
theorem forR_keys {d : Addr} {o : Obj} {kvs : List (Key × V)} (Pv : Nat → L2.St → Hp → Prop) (hl : ∀ i σ H, Pv i σ H → H d = some (.frz o (.dK kvs))) (h0 : Pv 0 σ H) (hs : ∀ i k z σ H, kvs[i]? = some (k, z) → Pv i σ H → g (kV k) σ H fun σ2 H2 => tb ⟨Pv (i + 1), rt, nx, Pv (i + 1)⟩ σ2 H2) (hd : ∀ σ H, Pv kvs.length σ H → nx σ H) :
    ForR (Itk d o kvs) g tb ⟨nx, rt, bk, ct⟩ σ H := forR_gen _ kvs.length Pv h0 (fun i σ H hi p => ⟨hl i σ H p, hi⟩) (fun σ H p => ⟨hl _ σ H p, Nat.le_refl _⟩)
      (fun i σ H x H' hi p ⟨e1, k, v, e2, e3⟩ => by subst e1; subst e3; exact hs i k v σ _ e2 p) hd
theorem rd_lockS {d : Addr} {u : HO} (e : H d = some u) (m : Mut (some u)) (h : ∀ od HL, HL = upd H d (.frz od u) → HL d = some (.frz od u) → t ⟨fun σ' H' => H' d = some (.frz od u) ∧ nx σ' (upd H' d u), fun v H' => H' d = some (.frz od u) ∧ rt v (upd H' d u), fun σ' H' => H' d = some (.frz od u) ∧ bk σ' (upd H' d u), fun σ' H' => H' d = some (.frz od u) ∧ ct σ' (upd H' d u)⟩ σ HL) : tLock t ⟨nx, rt, bk, ct⟩ σ H :=
  ⟨d, u, e, m, fun od => h od _ rfl upd_same⟩
def rRevL (K : PySem.W.Frag) (x : V) (H : Hp) (Q : VK) : Prop := ∃ a xs, x = .ref a ∧ SqL K H a xs ∧ ∀ p, H p = none → Q (.ref p) (upd H p (.lst xs.reverse))
theorem rd_revL0 (h : te σ H fun x H1 => rRevL K x H1 Q) : tRevL K te σ H Q := h
theorem rd_revL {a : Addr} {xs : List V} (e : SqL K H a xs) (h : ∀ p H', H p = none → Same H H' → H' p = some (.lst xs.reverse) → Q (.ref p) H') : rRevL K (.ref a) H Q :=
  ⟨a, xs, rfl, e, fun p hp => h p _ hp (Same.new (Same.refl H) hp) upd_same⟩
end
end Sl
set_option Elab.async false
set_option linter.all false
set_option maxRecDepth 100000
set_option maxHeartbeats 4000000
set_option exponentiation.threshold 9000
namespace LamK
open PySem PySem.Spec PyProof.Rows L2 NdefX LamX
/-- a lambda: its words, the cells that it captured, its code object -/
structure LF where
  qual : Str
  params : Arguments
  body : Expr
  scope : Scope
  cl : List (Str × Addr)
  c : Addr
abbrev LF.obj (F : LF) (pm ctv : Value) : Obj := PySem.W.kla_obj "<lambda>" F.qual F.params F.body F.scope F.cl pm F.c ctv
/-- the object at f is the lambda F -/
def FnL (f : Addr) (F : LF) : HO := .ext fun h => ∃ (sl : Array (Option Value)) (pm ctv : Value), h.get? f = some ({ F.obj pm ctv with slots := sl } : Obj)
theorem fnL_ne {f : Addr} {F : LF} (ps : Array Value) : FnL f F ≠ .tbl ps := fun z => by
  unfold FnL at z
  cases z
theorem fnL_at {P : Program} {w : World} {H : Hp} {h : Heap} {f : Addr} {F : LF} (hok : HOk P w H h) (e : H f = some (FnL f F)) : ∃ (sl : Array (Option Value)) (pm ctv : Value), h.get? f = some ({ F.obj pm ctv with slots := sl } : Obj) := by
  obtain ⟨z, _, _⟩ := hok f _ e
  exact z
section
variable {X : Cx} {pins : List (Addr × Obj)} {σ : L2.St} {H : Hp} {s : Shared}
theorem inv_fnL {F : LF} {o : Obj} {t' : Nat} {pm ctv : Value} (I : Inv X pins σ H s) (ho : o = F.obj pm ctv) :
    Inv X pins σ (upd H s.heap.objs.size (FnL s.heap.objs.size F)) { s with heap := s.heap.push o, toks := t' } := by
  subst ho
  refine I.laid (a := s.heap.objs.size) (fun b u e => Heap.get?_push_of_some _ e) (Nat.le_refl _) ?_
  have e : (s.heap.push (F.obj pm ctv)).get? s.heap.objs.size = some (F.obj pm ctv) := Heap.get?_push_size _ rfl
  exact ⟨⟨_, pm, ctv, e⟩, ⟨_, e⟩, fun h1 h2 ⟨sl, p, t, z⟩ st => ⟨sl, p, t, st _ z⟩⟩
/-- the lambda's object is made: its code object is new, or found in the table -/
theorem lamL_make {T : List (Addr × Str)} {c P : Addr} {params : Arguments} {body : Expr} {scope : Scope} {pos : Pos} {E : Value → Shared → Prop} {Q : Value → Shared → Prop} (I : Inv X pins σ H s) (TB : TabB X.base X.mg c P) (hcode : X.env.code = .ref c)
    (hm : (P, X.env.qual ++ "<lambda>") ∈ T) (hu : ∀ p ∈ T, p.1 = P → p.2 = X.env.qual ++ "<lambda>") (hT : Tabs T H) (hdef : defaultsOf params X.env = ([], [])) (hfree : ∀ y ∈ scope.names, y.2 = .free → ∃ c, X.env.cells.lookup y.1 = some c)
    (h : ∀ (f c' : Addr) (H1 : Hp) (s' : Shared), Inv X pins σ H1 s' → ExtN H H1 → (∀ b, H1 b = Option.none → H b = Option.none) → Tabs T H1 → H f = none → H1 f = some (FnL f ⟨X.env.qual ++ "<lambda>", params, body, scope, cloFrom X.env.cells scope.names [], c'⟩) → H1 c' = some (CodeO c' (X.env.qual ++ "<lambda>")) → Q (.ref f) s') :
    wpAny (model X.prog X.w) X.A (eval (.Lambda params body scope pos) X.env) Q E s := by
  obtain ⟨ps, hP, ht, ha⟩ := hT _ hm
  refine PySem.W.kla_eval hdef ?_
  have bP : s.heap.BuiltinsAt X.mg P := TB.bm.keeps I.bk
  have hP' : s.heap.get? P = some { cls := .none, data := .fields ps } := I.hok P _ hP
  cases hc : codeAmong pos ps.toList with
  | none =>
    refine PySem.W.kla_makeFunction (mg := X.mg) (c := c) (P := P) (ps := ps) (closure_ok hfree) I.ok.glob (I.mod.glob.keeps I.bk) hcode (TB.code.keeps I.bk) hP' ht hc TB.gP bP fun c' ctv h' tk hx hge hlt hrec htb => ?_
    obtain ⟨c2, oc, vs, t, e2, hoc, hd, hv⟩ := hrec
    cases e2
    have nC : H c' = none := I.hok.fresh hge
    have I1 := inv_table (t' := tk) (more := #[rawInt pos.line, rawInt pos.col, .ref c']) (h' := h') I hP (fun b o hb e => hx b o hb e) htb hge ⟨oc, vs, t, hoc, hd, hv⟩
    have hE : ExtN H (upd (upd H P (.tbl (ps ++ #[rawInt pos.line, rawInt pos.col, .ref c']))) c' (CodeO c' (X.env.qual ++ "<lambda>"))) := fun b o e n => by
      rw [upd_ne (ne_of_none e nC), upd_ne (fun z => n ps (Option.some.inj (e.symm.trans (by rw [z]; exact hP))))]
      exact e
    have eL : (ps ++ #[rawInt pos.line, rawInt pos.col, .ref c']).toList = ps.toList ++ [rawInt pos.line, rawInt pos.col, .ref c'] := by simp
    have T1 : Tabs T (upd (upd H P (.tbl (ps ++ #[rawInt pos.line, rawInt pos.col, .ref c']))) c' (CodeO c' (X.env.qual ++ "<lambda>"))) := fun p hp => by
      by_cases hb : p.1 = P
      · rw [hu p hp hb, hb]
        refine ⟨_, by rw [upd_ne (ne_of_none hP nC), upd_same], by rw [eL]; exact PySem.TriplesOk_snoc _ _ _ _ ht, fun p' cv hcv => ?_⟩
        rw [eL] at hcv
        rcases among_app _ ht hcv with z | z
        · obtain ⟨c0, e1, e2⟩ := ha p' cv z
          exact ⟨c0, e1, hE _ _ e2 codeO_ne⟩
        · exact ⟨c', z, upd_same⟩
      · obtain ⟨ps', a1, a2, a3⟩ := hT p hp
        refine ⟨ps', by rw [upd_ne (ne_of_none a1 nC), upd_ne hb]; exact a1, a2, fun p' cv hcv => ?_⟩
        obtain ⟨c0, e1, e2⟩ := a3 p' cv hcv
        exact ⟨c0, e1, hE _ _ e2 codeO_ne⟩
    have nF := I1.hok.fresh (Nat.le_refl _)
    have I2 := inv_fnL (F := ⟨X.env.qual ++ "<lambda>", params, body, scope, cloFrom X.env.cells scope.names [], c'⟩) (t' := tk) (pm := (X.mg "__name__").getD .none) (ctv := ctv) I1 rfl
    refine h h'.objs.size c' _ _ I2 (fun b o e n => ?_) (fun b e => upd_none (upd_none (upd_none e))) (T1.ext fun b o e => ?_) (I.hok.fresh (Nat.le_trans hge (Nat.le_of_lt hlt))) upd_same ?_
    · have e1 := hE b o e n
      exact (upd_ne (ne_of_none e1 nF)).trans e1
    · exact (upd_ne (ne_of_none e nF)).trans e
    · exact (upd_ne (Nat.ne_of_lt hlt)).trans upd_same
  | some cv =>
    obtain ⟨c', e, hco⟩ := ha pos cv hc
    subst e
    refine PySem.W.kla_makeFunctionHit (mg := X.mg) (c := c) (P := P) (ps := ps) (closure_ok hfree) I.ok.glob (I.mod.glob.keeps I.bk) hcode (TB.code.keeps I.bk) hP' ht hc bP fun ctv h' tk hx hsz => ?_
    have I1 : Inv X pins σ H { s with heap := h', toks := tk } := I.kept hx
    have nF : H h'.objs.size = none := I1.hok.fresh (Nat.le_refl _)
    have I2 := inv_fnL (F := ⟨X.env.qual ++ "<lambda>", params, body, scope, cloFrom X.env.cells scope.names [], c'⟩) (t' := tk) (pm := (X.mg "__name__").getD .none) (ctv := ctv) I1 rfl
    refine h h'.objs.size c' _ _ I2 (fun b o e n => ?_) (fun b e => upd_none e) (hT.ext fun b o e => ?_) nF upd_same ?_
    · exact (upd_ne (ne_of_none e nF)).trans e
    · exact (upd_ne (ne_of_none e nF)).trans e
    · exact (upd_ne (ne_of_none hco nF)).trans hco
end
/-- the reading of a lambda: a new function -/
def tLamV (T : List (Addr × Str)) (mk : Addr → LF) : TE := fun σ H Q => Tabs T H ∧ ∀ (f c' : Addr) (H1 : Hp), ExtN H H1 → (∀ b, H1 b = Option.none → H b = Option.none) → Tabs T H1 → H f = none → H1 f = some (FnL f (mk c')) → H1 c' = some (CodeO c' (mk c').qual) → Q (.ref f) H1
theorem pe_lamV {X : Cx} {T : List (Addr × Str)} {c P : Addr} {params : Arguments} {body : Expr} {scope : Scope} {pos : Pos} (TB : TabB X.base X.mg c P) (hcode : X.env.code = .ref c) (hm : (P, X.env.qual ++ "<lambda>") ∈ T) (hu : ∀ p ∈ T, p.1 = P → p.2 = X.env.qual ++ "<lambda>")
    (hdef : defaultsOf params X.env = ([], [])) (hfree : ∀ y ∈ scope.names, y.2 = .free → X.env.scope.names.lookup y.1 = some .cell ∨ X.env.scope.names.lookup y.1 = some .free) :
    PE X (.Lambda params body scope pos) (tLamV T fun c' => ⟨X.env.qual ++ "<lambda>", params, body, scope, cloFrom X.env.cells scope.names [], c'⟩) := by
  refine ⟨fun pins s σ H Q I h => ?_⟩
  obtain ⟨hT, h⟩ := h
  have hfr : ∀ y ∈ scope.names, y.2 = .free → ∃ c, X.env.cells.lookup y.1 = some c := fun y hy e => (hfree y hy e).elim (fun z => I.ok.has _ (.inl z)) fun z => I.ok.has _ (.inr z)
  exact lamL_make I TB hcode hm hu hT hdef hfr fun f c' H1 s' I1 eN nn T1 f0 f1 c1 => ⟨.ref f, H1, I1, rfl, h f c' H1 eN nn T1 f0 f1 c1⟩
/-! ### sorted(xs, key=lambda x: (x[0], x[1])), the items lists of three ints -/
/-- what must be seen of the lambda -/
structure KeyF (F : LF) (x : Str) : Prop where
  body : ∃ p1 p2 p3 p4 p5 j1 j2 j3 p6 p7, F.body = .Tuple [.Subscript (.Name x p1) (.Constant (.int 0) j1 p2) p3, .Subscript (.Name x p4) (.Constant (.int 1) j2 p5) p6] j3 p7
  kind : F.scope.kind = .function
  co : F.scope.isCoroutine = false
  gen : F.scope.isGenerator = false
  loc : F.scope.names.lookup x = some .local
  nocell : ∀ y ∈ F.scope.names, y.2 ≠ .cell
  bind : ∀ (pm ctv u : Value), bindArgs (PySem.W.kla_fn "<lambda>" F.qual F.params F.body F.scope F.cl pm (.ref F.c) ctv) ⟨[u], []⟩ = pure [(x, u)]
  dbg : (x == ("__debug__" : Str)) = false
section
variable {prog : Program} {w : World} {A : Around} {s : Shared}
theorem key_call {F : LF} {x : Str} {f r : Addr} {sl : Array (Option Value)} {pm ctv : Value} {i j k : Int} {t1 t2 t3 : Tok} {n : Nat} {E : Value → Shared → Prop} (KF : KeyF F x) (hroom : A.depth < recursionLimit) (lim : s.heap.NoLimit)
    (ho : s.heap.get? f = some ({ F.obj pm ctv with slots := sl } : Obj)) (hcd : s.heap.CodeRec (.ref F.c) F.qual)
    (hr : s.heap.get? r = some { cls := .type "list", data := .seq #[.int i t1, .int j t2, .int k t3] n }) :
    wpAny (model prog w) A (call (.ref f) [.ref r]) (PySem.W.KeyPure (.tuple [.int i, .int j]) s) E s := by
  refine wpAny_call ?_
  refine PySem.W.kla_callFunE hroom ho rfl KF.co KF.gen rfl hcd ?_
  rw [KF.bind pm ctv (.ref r)]
  refine wpAny_pure (wpAny_newFunctionEnv KF.nocell (fun y hy => by rw [List.mem_singleton.mp hy]; exact KF.loc) (fun h₁ hns hsb => ⟨lim.fresh _ hsb, ?_⟩) KF.kind)
  have kp : ∀ b o, s.heap.get? b = some o → h₁.get? b = some o := fun b o e => hsb.extBut b o (Nat.ne_of_lt (Heap.lt_size e)) (Heap.get?_push_of_some _ e)
  have hr1 := kp _ _ hr
  refine PySem.W.kla_codeExpr ?_
  obtain ⟨p1, p2, p3, p4, p5, j1, j2, j3, p6, p7, eb⟩ := KF.body
  have eb : F.body = _ := eb
  show wpAny _ _ (eval F.body _) _ _ _
  rw [eb]
  refine wpAny_Tuple_spliced ?_
  have name : ∀ {A' : Around} {E' : Value → Shared → Prop} {Q' : Value → Shared → Prop} {tk : Nat} {pp : Pos}, Q' (.ref r) { s with heap := h₁, toks := tk } →
      wpAny (model prog w) A' (eval (.Name x pp) (PySem.W.envX F.qual F.scope s.heap.objs.size f (.ref F.c) F.cl)) Q' E' { s with heap := h₁, toks := tk } := fun hq =>
    wpAny_Name (wpAny_loadName_local KF.kind KF.loc hns (by simp) hq) KF.dbg
  have item : ∀ {A' : Around} {E' : Value → Shared → Prop} {Q' : Value → Shared → Prop} {tk : Nat} {pp pq pr : Pos} {jj : Nat} {m : Int} {v : Value}, 0 ≤ m → m < 2 ^ 63 → (#[.int i t1, .int j t2, .int k t3] : Array Value)[m.toNat]? = some v →
      (∀ tk', Q' v { s with heap := h₁, toks := tk' }) → wpAny (model prog w) A' (eval (.Subscript (.Name x pp) (.Constant (.int m) jj pq) pr) (PySem.W.envX F.qual F.scope s.heap.objs.size f (.ref F.c) F.cl)) Q' E' { s with heap := h₁, toks := tk } := fun h0 h1 hx hq =>
    Subscript_ (name (wpAny_Constant_int (item_listR (items := #[.int i t1, .int j t2, .int k t3]) ⟨_, hr1, rfl, n, rfl⟩ h0 h1 hx (hq _))))
  refine Calls.spliced_cons (item (by decide) (by decide) rfl fun tk1 => ?_)
  refine Calls.spliced_cons (item (by decide) (by decide) rfl fun tk2 => ?_)
  refine Calls.spliced_nil ⟨by show 2 ≤ sizeLine; decide, ?_⟩
  refine ⟨_, _, rfl, fun b o e => Heap.get?_push_of_some _ (kp b o e), ?_⟩
  refine .tuple (Heap.get?_push_size _ rfl) rfl rfl ?_
  exact .cons (.int _ _) (.cons (.int _ _) .nil)
end
/-- the order of the keys -/
abbrev leK (x y : Int × Int × Int) : Prop := x.1 < y.1 ∨ (x.1 = y.1 ∧ x.2.1 ≤ y.2.1)
def rSortL : List V → List V → Hp → VK → Prop := fun vs zs H Q => ∃ (a f : Addr) (F : LF) (x : Str) (rs : List Addr) (G : Addr → Int × Int × Int), vs = [.ref a] ∧ zs = [.ref f] ∧ KeyF F x ∧ H f = some (FnL f F) ∧ H F.c = some (CodeO F.c F.qual) ∧
  H a = some (.lst (rs.map V.ref)) ∧ (∀ r ∈ rs, H r = some (.lst [.int (G r).1, .int (G r).2.1, .int (G r).2.2])) ∧ rs.length ≤ 100000 ∧
  ∀ (p : Addr) (rs' : List Addr), rs'.Perm rs → rs'.Pairwise (fun x y => leK (G x) (G y)) → H p = none → Q (.ref p) (upd H p (.lst (rs'.map V.ref)))
theorem vals_refsB : ∀ {rs : List Addr} {us : List Value}, Vals (rs.map V.ref) us → us = rs.map Value.ref
  | [], _, .nil => rfl
  | _ :: rs, _, .cons h t => by
    have h : _ = Value.ref _ := h
    rw [h, vals_refsB t]
    rfl
theorem vals_refsF : ∀ bs : List Addr, Vals (bs.map V.ref) (bs.map Value.ref)
  | [] => .nil
  | _ :: r => .cons rfl (vals_refsF r)
theorem each_refs (rs : List Addr) : PySem.W.EachIs (fun (v : Value) (r : Addr) => v = .ref r) (rs.map Value.ref) rs := by
  induction rs with
  | nil => exact .nil
  | cons r rs ih => exact .cons rfl ih
theorem each_refs_eq : ∀ {vs : List Value} {rs : List Addr}, PySem.W.EachIs (fun (v : Value) (r : Addr) => v = .ref r) vs rs → vs = rs.map Value.ref
  | _, _, .nil => rfl
  | _, _, .cons h t => by rw [h, each_refs_eq t]; rfl
theorem cr_sortL {X : Cx} {k : Nat} (hr : Room (k + 1) X.A) : CallRK X (.builtin "sorted") [Str.ofString "key"] rSortL := by
  intro pins s σ H vs zs us ws Q I r rz h
  obtain ⟨a, f, F, x, rs, G, rfl, rfl, KF, hf, hc, ha, hrs, hlen, q⟩ := h
  obtain rfl := Vals.ref1 r
  obtain rfl := Vals.ref1 rz
  obtain ⟨hz, its, n, rv, hob⟩ := I.hok a _ ha
  have eits := vals_refsB rv
  subst eits
  obtain ⟨sl, pm, ctv, hfo⟩ := fnL_at I.hok hf
  have hcr := codeO_at I.hok hc
  have lim := I.nolimit
  have un := hr.units0
  have hl : s.heap.IsList a (rs.map Value.ref).toArray := ⟨_, hob, rfl, n, rfl⟩
  refine PySem.W.sorted_key_data (b := false) (β := Addr) (R := fun (v : Value) (r : Addr) => v = .ref r) (f := .ref f) (fun r => .tuple [.int (G r).1, .int (G r).2.1]) hl (each_refs rs) (PySem.W.AllAlike.of fun _ _ => by simp [PySem.W.alike, PySem.W.alikeAll]) (PySem.W.Sortable.tuples fun _ => ⟨_, _, rfl⟩)
    (by rw [sizeLine_eq]; omega) (fun r _ => ?_) (ksk_s1 _ _) (fun _ => ksk_l1 _ _) (fun _ => ksk_t1 _ _) (fun v r hv hm h tk kp => ?_) fun out c h' tk kp fr hD ho eo => ?_
  · have hd : (PyData.tuple [.int (G r).1, .int (G r).2.1]).depth = 1 := by simp [PyData.depth, PyData.depthAll]
    have := hr.units
    omega
  · subst hv
    obtain ⟨_, its2, n2, rv2, hr2⟩ := I.hok r _ (hrs r hm)
    cases rv2 with
    | cons h1 t1 =>
      cases t1 with
      | cons h2 t2 =>
        cases t2 with
        | cons h3 t3 =>
          cases t3
          obtain ⟨k1, rfl⟩ := h1
          obtain ⟨k2, rfl⟩ := h2
          obtain ⟨k3, rfl⟩ := h3
          obtain ⟨c2, oc, vs2, tq, g1, g2, g3, g4⟩ := hcr
          exact key_call (s := { s with heap := h, toks := tk }) KF hr.depth (lim.keeps kp) (kp _ _ hfo) ⟨c2, oc, vs2, tq, g1, kp _ _ g2, g3, g4⟩ (kp _ _ hr2)
  · rw [PySem.W.dataLe_ii (β := Addr) (fun r => (G r).1) (fun r => (G r).2.1)] at eo
    have e2 := each_refs_eq eo
    subst e2
    have hp : H (s.heap.objs.size + 1) = none := I.hok.fresh (Nat.le_succ _)
    generalize hrs' : rs.mergeSort (fun p q => decide ((G p).1 < (G q).1 ∨ (G p).1 = (G q).1 ∧ (G p).2.1 ≤ (G q).2.1)) = rs' at *
    have pm2 : rs'.Perm rs := by rw [← hrs']; exact List.mergeSort_perm _ _
    have pw : rs'.Pairwise (fun x y => leK (G x) (G y)) := by
      rw [← hrs']
      refine (List.pairwise_mergeSort (fun a b c h1 h2 => ?_) (fun a b => ?_) rs).imp fun h => of_decide_eq_true h
      · rw [decide_eq_true_iff] at h1 h2 ⊢
        omega
      · rw [Bool.or_eq_true, decide_eq_true_iff, decide_eq_true_iff]
        omega
    refine ⟨.ref (s.heap.objs.size + 1), upd H (s.heap.objs.size + 1) (.lst (rs'.map V.ref)), I.laid (t' := tk) (h' := h') kp (Nat.le_succ _) ⟨?_, rs'.map Value.ref, c, ?_, hD⟩, rfl, q _ rs' pm2 pw hp⟩
    · rw [List.length_map, pm2.length_eq, sizeLine_eq]
      omega
    · exact vals_refsF rs'
end LamK
set_option Elab.async false
set_option linter.all false
set_option maxRecDepth 100000
set_option maxHeartbeats 4000000
set_option exponentiation.threshold 9000
namespace BoolX
open PySem
open PySem.Sem (wp)
theorem bool_new_own {prog : Program} {w : World} (v : Value) : MeetsIn prog w (Builtin.«bool.__new__» ⟨[.type "bool", v], []⟩) (fun A R s => ∀ tk, wpAny (model prog w) A.in1 (truthy v) (fun b s1 => R (.ok (.ret (.bool b))) s1) (fun e s' => R (.error e) s') { s with toks := tk }) :=
  MeetsIn.of_wp fun A R s hs => by
    obtain ⟨hp, g, d, tk, os⟩ := s
    have f1 := F.conv_sub_bool
    repeat (any_goals (first | assumption | (with_reducible refine wpAny_bind (wpAny_mono (hs _) (fun b s1 hb => ?_) fun _ _ e => e)) | wp_step))
    all_goals first | exact ⟨_, rfl, hb⟩ | skip
end BoolX
namespace L2
open PySem PySem.Spec PyProof.Rows LamX
section
variable {X : Cx} {CX : CXT} {k j : Nat} {f C : Addr} {fd : FuncData} {ps : List Str} {sp : Sp} {dvs : List V} {ds : List Value} {E : XK}
theorem run_fn2 {pins : List (Addr × Obj)} {σ : St} {H : Hp} {s : Shared} {Q : VK} {us : List Value} {vs : List V} (F : FnOk X.prog X.w X.K X.mg X.base CX k f fd ps sp) (hr : Room (k + 2) X.A) (hb : Binds X.K fd ps ds) (hd : Vals dvs ds) (hx : Passes CX X E)
    (I : Inv X pins σ H s) (r : Vals vs us) (h : sp (vs ++ dvs) H Q E) : wpAny (model X.prog X.w) X.A.in1.in1 (call (.ref f) us) (EP X pins σ Q) X.xe s := by
  have r2 : Vals (vs ++ dvs) (us ++ ds) := r.append hd
  have hl : (us ++ ds).length = ps.length := by rw [← r2.length]; exact F.len _ _ _ _ h
  refine wpAny_call (codeAny_mono (F.run X.A.in1.in1 X.stack s H ⟨us, []⟩ (us ++ ds) (vs ++ dvs) Q E hr.in1.in1 I.env0.in1.in1 (hb s us I.kIn hl) r2 h) fun r s' hq => ?_)
  cases r with
  | error e => exact hx pins σ H s e s' I hq
  | ok fl =>
    cases fl with
    | ret u => exact I.after hq
    | next => exact False.elim hq
    | brk => exact False.elim hq
    | cont => exact False.elim hq
/-- bool(o), o of an own class with its own __bool__ -/
def rBoolO (C : Addr) (sp : Sp) (dvs : List V) : List V → Hp → VK → Prop := fun vs H Q => ∃ o dx fs, vs = [.ref o] ∧ H o = some (.ins C dx fs) ∧ sp ([.ref o] ++ dvs) H (fun v H' => ∃ b, v = .bl b ∧ Q (.bl b) H') C8.E0
theorem cr_boolO (c : C8.Met X.prog X.w X.K X.mg X.base k C "__bool__" sp dvs) (hr : Room j X.A) (hk : k + 2 ≤ j) : CallR X (.type "bool") (rBoolO C sp dvs) := by
  obtain ⟨f, fd, ps, ds, cl, hm, Fo, bd, d⟩ := c.ex
  intro pins s σ H vs us Q I r h
  obtain ⟨o, dx, fs, rfl, e, q⟩ := h
  obtain rfl := Vals.ref1 r
  obtain ⟨mA, O, _, _, _, _⟩ := ins_get I.hok e
  obtain ⟨od, J, _⟩ := O.look
  refine callType_newIn F.called_bool F.newNe_bool (F.typeCall_bool_1 _) (F.newCall_bool_1 _) (fun obj => F.args_object_init_2 obj _) F.entry_bool_new (BoolX.bool_new_own (.ref o)) fun tk => ?_
  have I1 : Inv X pins σ H { s with toks := tk } := I.tok _
  obtain ⟨m, F0⟩ := I1.fr
  refine PySem.W.truthy_K F0 I1.ok.mod.kin J hm.at_ hm.fn (wpAny_mono (run_fn2 (us := [.ref o]) (vs := [.ref o]) Fo (hr.mono hk) bd d C8.pass0 I1 (.cons rfl .nil) q) (fun v s2 y => ?_) fun _ _ y => y)
  obtain ⟨x2, H2, I2, rx2, b, rfl, q2⟩ := y
  obtain rfl : v = Value.bool b := rx2
  exact ⟨by first | rfl | trivial | (unfold Shared.TypeIs; rfl) | simp [Shared.TypeIs], ⟨.bl b, H2, I2, rfl, q2⟩⟩
/-- xs[i] of a list, for xs[i] op= e -/
def rGetL : V → V → Hp → VK → Prop := fun x y H Q => ∃ (p : Addr) (xs : List V) (i : Nat) (v : V), x = .ref p ∧ y = .int (i : Int) ∧ H p = some (.lst xs) ∧ i < 1000000 ∧ xs[i]? = some v ∧ Q v H
theorem get_listL : PGet X rGetL := by
  intro pins s σ H x y v u Q I rx ry h
  obtain ⟨p, xs, i, z, rfl, rfl, hp, hi, he, q⟩ := h
  cases rx
  obtain ⟨t, rfl⟩ := ry
  obtain ⟨its, n, r, ho, hz⟩ := I.lst hp
  obtain ⟨w, ew, rw'⟩ := r.get he
  exact wpAny_getItem_list (items := its.toArray) (x := w) ⟨_, ho, rfl, n, rfl⟩ (by omega) (by omega) (by simpa using ew) ⟨z, H, I, rw', q⟩
/-- one of two readings -/
theorem pe_alt {e : Expr} {t u : TE} (h1 : PE X e t) (h2 : PE X e u) : PE X e (fun σ H Q => t σ H Q ∨ u σ H Q) := ⟨fun pins s σ H Q I h => h.elim (h1.run pins s σ H Q I) (h2.run pins s σ H Q I)⟩
theorem cr_alt {f : Value} {r q : List V → Hp → VK → Prop} (h1 : CallR X f r) (h2 : CallR X f q) : CallR X f (fun vs H Q => r vs H Q ∨ q vs H Q) := fun pins s σ H vs us Q I rv h => h.elim (h1 pins s σ H vs us Q I rv) (h2 pins s σ H vs us Q I rv)
end
/-- a lambda's name -/
abbrev qL (x : Str) : Str := x ++ ".<locals>." ++ "<lambda>"
section
variable {P : Program} {w : World} {K : PySem.W.Frag} {mg : Str → Option Value} {base : Heap}
open C8
/-- a def that makes lambdas: its code object is known -/
theorem fnL0 {x qual : Str} {st : Stmt} {f c : Addr} {fd : FuncData} {N ps : List Str} {k : Nat} {sp : Sp} (F : C8.Fun K x qual st f fd) (hc : fd.code = .ref c) (S : FnScope N ps (C8.fnScope st)) (len : ∀ vs H Q E, sp vs H Q E → vs.length = ps.length)
    (hbody : ∀ (A : Around) (outer : List Env) (s : Shared) (H : Hp) (vs : List V) (Q : VK) (E : XK), Room k (A.deeper (envOfC qual (C8.fnScope st) s.heap.objs.size f (.ref c))) → sp vs H Q E →
      ∃ t, PSs (cxOf CX0 P w K mg base N qual (C8.fnScope st) f (.ref c) A outer s H E).nox (C8.fnBody st) t ∧ t { nx := fun _ H' => Q .non H', rt := Q } (start N vs) H) : FnOk P w K mg base CX0 (k + 1) f fd ps sp := by
  obtain ⟨oc, od, dV, kV, doc, pm, an, cdv, ct, osl, rfl, lk, hcd⟩ := F.ex
  have e : cdv = .ref c := hc
  subst e
  refine fn_of lk hcd S len fun A outer s H vs Q E hr hsp => ?_
  obtain ⟨t, h, q⟩ := hbody A outer s H vs Q E hr hsp
  exact ⟨t, h.nox, q⟩
theorem calL0 {x : Str} {st : Stmt} {f c : Addr} {fd : FuncData} {N ps : List Str} {ds : List Value} {dvs : List V} {k : Nat} {sp : Sp} (F : C8.Def K mg x st f fd) (hc : fd.code = .ref c) (b : Binds K fd ps ds) (d : Vals dvs ds) (S : FnScope N ps (C8.fnScope st)) (len : ∀ vs H Q E, sp vs H Q E → vs.length = ps.length)
    (hbody : ∀ (A : Around) (outer : List Env) (s : Shared) (H : Hp) (vs : List V) (Q : VK) (E : XK), Room k (A.deeper (envOfC x (C8.fnScope st) s.heap.objs.size f (.ref c))) → sp vs H Q E →
      ∃ t, PSs (cxOf CX0 P w K mg base N x (C8.fnScope st) f (.ref c) A outer s H E).nox (C8.fnBody st) t ∧ t { nx := fun _ H' => Q .non H', rt := Q } (start N vs) H) : Cal P w K mg base (k + 1) x sp dvs :=
  ⟨f, fd, ps, ds, fnL0 F.fn hc S len hbody, F.mgf, F.kp, b, d⟩
end
end L2
namespace Sl
open PySem L2 C8 LamX
/-- the facts of a def that makes lambdas -/
structure TabK (K : PySem.W.Frag) (x : Str) (Lc Lp : Addr) : Prop where
  tab : PySem.W.tabIn K x = some (Lc, Lp)
  nT : K.lookup Lp = none
theorem tabk {K : PySem.W.Frag} {x : Str} {Lc Lp : Addr} (h1 : PySem.W.tabIn K x = some (Lc, Lp)) (h2 : (K.lookup Lp).isNone = true) : TabK K x Lc Lp := ⟨h1, Option.isNone_iff_eq_none.mp h2⟩
theorem tab_get {o : Option (Addr × Addr)} (h : o.isSome = true) : o = some ((o.get h).1, (o.get h).2) := (Option.some_get h).symm
theorem tcmk {K : PySem.W.Frag} {h : Heap} {mg : Str → Option Value} {x : Str} {st : Stmt} {Lc Lp : Addr} (X : K.In h) (G : h.Ns mainGlobals mg) (t : TabK K x Lc Lp) : ∀ f fd, C8.Def K mg x st f fd → fd.code = .ref Lc := fun f fd D => by
  obtain ⟨oc, od, dV, kV, doc, pm, an, cdv, ct, osl, e, lk, hcd⟩ := D.fn.ex
  exact PySem.W.law_code X G t.tab D.mgf (X _ _ lk) rfl
end Sl
namespace LamX
open PySem PySem.Spec PyProof.Rows L2
/-- walk_ofTs, the top's facts handed on -/
theorem walk_ofTT {l : PySem.W.OpenLaw} {n k : Nat} {q : Program} {loose : List Str} {XP : (Str → Option Value) → Heap → Prop} {YP : World → Heap → Prop} {d : DefRec} {K : Params → PySem.W.Frag} {CX : World → CXT} {x : Str}
    (hn : l.most = some n) (hn2 : n ≤ sizeLine) (hdf : d.params.defaults = []) (hr : Room k callerA) (hY : ∀ (w : World) (h : Heap), YP w h → (K w.params).In h)
    (F : ∀ (w : World) (mg : Str → Option Value) (fa : Addr) (h : Heap) (tb : ∀ (x : Str) (c P : Addr), ((recsOf q).find? (fun e => e.name == x)).isSome = true → PySem.W.tabIn (K w.params) x = some (c, P) → PySem.W.CodeHd h c P ∧ h.get? P = some (PySem.W.tabObj #[])), (K w.params).In h → h.Ns mainGlobals mg → mg d.name = some (.ref fa) → LawAtS l w (K w.params) (CX w) k n x mg fa h)
    (hCX : ∀ (w : World) (H : Hp) (s : Shared) (e : Value) (s' : Shared), CX w [] H s (fun _ _ _ => False) e s' → False) :
    PySem.W.WalkO q loose XP YP l.row.toRowW d [] (fun f vs => PySem.call f vs) := by
  refine Att.attach_callB hn hdf fun w s₀ s₁ mg mb fa o pm cd doc a vs ns G Y ho hd hcd hmg hobj hints hlen hbits hg => ?_
  have KX := hY w _ Y
  obtain ⟨fd, cs, sp, hT, nT, C, hb, hsp, hF⟩ := F w mg fa _ (fun x c P hs ht => by
    obtain ⟨d', hd'⟩ := Option.isSome_iff_exists.mp hs
    exact PySem.W.tab_of G.T KX hd' ht) KX G.T.g hmg
  exact law_callTs KX G.T.g G.T.b G.T.builtins G.T.nolimit hg hT nT C G.T.bmain hobj hints (Nat.le_trans hlen hn2) hr hF hb (fun H hH hS => hsp H a ns hlen hbits hH hS) fun H e s' => hCX w H s₁ e s'
end LamX
namespace Sl
open PySem L2 C8 StX LamX LamK
section
variable {σ : L2.St} {H H' : Hp} {Q : VK} {te ta tb : TE} {t tk : TA} {K : PySem.W.Frag} {QS : L2.St → Hp → Prop} {x y v : V}
theorem rd_cKw {r : List V → List V → Hp → VK → Prop} (h : t σ H fun vs H1 => tk σ H1 fun zs H2 => r vs zs H2 Q) : tCKw r t tk σ H Q := h
theorem rd_lamV {T : List (Addr × Str)} {mk : Addr → LF} (hT : Tabs T H) (h : ∀ (f c' : Addr) (H1 : Hp), ExtN H H1 → (∀ b, H1 b = Option.none → H b = Option.none) → Tabs T H1 → H f = none → H1 f = some (FnL f (mk c')) → H1 c' = some (CodeO c' (mk c').qual) → Q (.ref f) H1) : tLamV T mk σ H Q := ⟨hT, h⟩
theorem rd_gunl {n : Nat} {tg : TGs} {a : Addr} {xs : List V} (e : H a = some (.lst xs)) (l : xs.length = n) (h : tg xs σ H QS) : gUnl K n tg (.ref a) σ H QS := ⟨a, xs, rfl, SqL.of e, l, h⟩
theorem rd_getL {p : Addr} {xs : List V} {i : Nat} (e : H p = some (.lst xs)) (hi : i < 1000000) (n : xs[i]? = some v) (h : Q v H) : rGetL (.ref p) (.int (i : Int)) H Q := ⟨p, xs, i, v, rfl, rfl, e, hi, n, h⟩
theorem rd_setL {p : Addr} {xs : List V} {i : Int} {j : Nat} {QH : Hp → Prop} (e : H p = some (.lst xs)) (hj : ixN xs.length i = some j) (h : ∀ H', H' = upd H p (.lst (xs.set j v)) → H' p = some (.lst (xs.set j v)) → QH H') : rSetL (.ref p) (.int i) v H QH := ⟨p, xs, i, j, rfl, rfl, e, hj, h _ rfl upd_same⟩
theorem rd_boolO {C o dx : Addr} {fs : List (Str × V)} {sp : Sp} {dvs : List V} (e : H o = some (.ins C dx fs)) (h : sp ([.ref o] ++ dvs) H (fun v H' => ∃ b, v = .bl b ∧ Q (.bl b) H') C8.E0) : rBoolO C sp dvs [.ref o] H Q := ⟨o, dx, fs, rfl, e, h⟩
theorem rd_sortLK {a f : Addr} {F : LF} {x : Str} {rs : List Addr} {G : Addr → Int × Int × Int} (KF : KeyF F x) (hf : H f = some (FnL f F)) (hc : H F.c = some (CodeO F.c F.qual)) (ha : H a = some (.lst (rs.map V.ref))) (hr : ∀ r ∈ rs, H r = some (.lst [.int (G r).1, .int (G r).2.1, .int (G r).2.2])) (hl : rs.length ≤ 100000)
    (h : ∀ (p : Addr) (rs' : List Addr) H', rs'.Perm rs → rs'.Pairwise (fun x y => leK (G x) (G y)) → H p = none → Same H H' → H' p = some (.lst (rs'.map V.ref)) → Q (.ref p) H') : rSortL [.ref a] [.ref f] H Q :=
  ⟨a, f, F, x, rs, G, rfl, rfl, KF, hf, hc, ha, hr, hl, fun p rs' p1 p2 hp => h p rs' _ p1 p2 hp (Same.new (Same.refl H) hp) upd_same⟩
end
/-! ### heaps without their tables -/
def nT (H : Hp) : Hp := fun a => match H a with
  | some (.tbl _) => none
  | o => o
theorem nT_of {H : Hp} {a : Addr} {o : HO} (e : H a = some o) (n : ∀ ps, o ≠ .tbl ps) : nT H a = some o := by
  unfold nT
  rw [e]
  cases o <;> first | rfl | exact absurd rfl (n _)
theorem nT_in {H : Hp} {a : Addr} {o : HO} (e : nT H a = some o) : H a = some o ∧ ∀ ps, o ≠ .tbl ps := by
  unfold nT at e
  cases q : H a with
  | none => rw [q] at e; cases e
  | some u =>
    rw [q] at e
    cases u <;> first | (cases e; exact ⟨rfl, fun ps z => by cases z⟩) | cases e
theorem nT_none {H : Hp} {a : Addr} (e : H a = none) : nT H a = none := by
  unfold nT
  rw [e]
theorem extN_same {H H' : Hp} (e : ExtN H H') : Same (nT H) H' := fun a o h => e a o (nT_in h).1 (nT_in h).2
theorem same_extN {H H' : Hp} (s : Same (nT H) H') : ExtN H H' := fun a o h n => s a o (nT_of h n)
mutual
theorem Dt.nT {H : Hp} : ∀ {v : V} {d : PyData}, Dt H v d → Dt (nT H) v d
  | _, _, .non => .non
  | _, _, .bl b => .bl b
  | _, _, .int i => .int i
  | _, _, .str x => .str x
  | _, _, .lst e h => .lst (nT_of e (fun _ z => by cases z)) (DtAll.nT h)
  | _, _, .tup e h => .tup (nT_of e (fun _ z => by cases z)) (DtAll.nT h)
theorem DtAll.nT {H : Hp} : ∀ {vs : List V} {ds : List PyData}, DtAll H vs ds → DtAll (nT H) vs ds
  | _, _, .nil => .nil
  | _, _, .cons h t => .cons (Dt.nT h) (DtAll.nT t)
end
theorem SqL.nT {K : PySem.W.Frag} {H : Hp} {a : Addr} {xs : List V} (h : SqL K H a xs) : SqL K (nT H) a xs := by
  rcases h with h | h
  · left
    rcases h with h | ⟨o, h⟩
    · exact .inl (nT_of h (fun _ z => by cases z))
    · exact .inr ⟨o, nT_of h (fun _ z => by cases z)⟩
  · exact .inr h
end Sl
set_option Elab.async false
set_option linter.all false
set_option maxRecDepth 100000
set_option maxHeartbeats 2000000
namespace L2
open PySem PySem.Spec PyProof.Rows
/-! ### enumerate(t) of a tuple -/
abbrev enO (it : Addr) : Obj := { cls := .type "enumerate", data := .fields #[.none, .bool false, .ref it, rawInt 0, .none, .none] }
theorem enum_new1 {v : Value} {o ob : Obj} {a : Addr} {I : Heap → Prop} (B : Begins v o I) (hv : v = .ref a) (hc : ob.cls = .type "tuple") : Meets (Builtin.«enumerate.__new__» ⟨[.type "enumerate", v], []⟩) (fun _ R s => (s.heap.get? a = some ob ∧ I s.heap) ∧
    R (.ok (.ret (.ref (s.heap.push o).objs.size))) { s with heap := (s.heap.push o).push (enO s.heap.objs.size) }) :=
  .of_wp fun prog w A R s h => by
    obtain ⟨hp, g, d, tk, os⟩ := s
    obtain ⟨⟨hl, h1⟩, h2⟩ := h
    subst hv
    have hs := PySem.sub_enumerate
    have it0 : ∀ {A' : Around} {E Q : Value → Shared → Prop}, Q (.ref hp.objs.size) ⟨hp.push o, g, d, tk, os⟩ → wpAny (model prog w) A' (pyIter (.ref a)) Q E ⟨hp, g, d, tk, os⟩ := fun q => B.iter prog w _ _ ⟨hp, g, d, tk, os⟩ _ h1 q
    wp_walk using wpAny_loadPart' hl, it0
    refine (wpAny_stack_any fun st => (wpAny_pure ?_))
    split
    · rename_i c _ _ _ _ _
      cases (c == Value.type "enumerate") <;> (wp_walk using wpAny_loadPart' hl, it0; exact ⟨_, rfl, h2⟩)
    · wp_walk using wpAny_loadPart' hl, it0
      exact ⟨_, rfl, h2⟩
section
variable {prog : Program} {w : World} {A : Around} {E : Value → Shared → Prop} {s : Shared}
theorem call_enumT {a : Addr} {items : Array Value} {Q : Value → Shared → Prop} (ht : s.heap.IsTuple a items)
    (h : ∀ h', IsEnum h' (s.heap.objs.size + 1) s.heap.objs.size 0 .none → h'.IsTupleIter s.heap.objs.size a 0 → (∀ b o, s.heap.get? b = some o → h'.get? b = some o) → Q (.ref (s.heap.objs.size + 1)) { s with heap := h' }) :
    wpAny (model prog w) A (call (.type "enumerate") [.ref a]) Q E s := by
  obtain ⟨ob, ho, hc, hd⟩ := id ht
  have two : (s.heap.push { cls := .type "tuple_iterator", data := .fields #[.ref a, .int 0 0] }).objs.size = s.heap.objs.size + 1 := Heap.size_push ..
  have M := enum_new1 (begins_tuple a items) rfl hc
  refine callType_new PySem.F.called_enumerate (by decide) (PySem.F.typeCall_enumerate_1 _) (PySem.F.newCall_enumerate_1 _) (fun obj => PySem.F.args_object_init_2 obj _) PySem.F.entry_enumerate_new M ⟨⟨ho, ht⟩, ?_⟩
  show _ ∧ _
  rw [two]
  have he : IsEnum ((s.heap.push { cls := .type "tuple_iterator", data := .fields #[.ref a, .int 0 0] }).push (enO s.heap.objs.size)) (s.heap.objs.size + 1) s.heap.objs.size 0 .none := by
    have q := Heap.get?_push_size (s.heap.push { cls := .type "tuple_iterator", data := .fields #[.ref a, .int 0 0] }) (o := enO s.heap.objs.size) rfl
    rw [two] at q
    exact q
  exact ⟨⟨_, he, rfl⟩, h _ he ⟨_, Heap.get?_push_of_some _ (Heap.get?_push_size _ rfl), rfl, rfl⟩ fun b o x => Heap.get?_push_of_some _ (Heap.get?_push_of_some _ x)⟩
end
theorem next_enumT_end {prog : Program} {w : World} {A : Around} {E : Value → Shared → Prop} {s : Shared} {e it a : Addr} {i : Nat} {c : Int} {items : Array Value} {old : Value} {Q : Option Value → Shared → Prop} (hh : A.handled = none)
    (he : IsEnum s.heap e it c old) (hit : s.heap.IsTupleIter it a i) (ht : s.heap.IsTuple a items) (hi : items.size ≤ i)
    (hQ : ∀ h', Heap.ExtBut it s.heap h' → Q none { s with heap := h' }) : wpAny (model prog w) A (pyNext (.ref e)) Q E s := by
  have hT : s.TypeIs (.ref e) "enumerate" := ⟨_, he, rfl⟩
  unfold pyNext
  refine wpAny_bind (wpAny_attempt (wpAny_callSpecial?_slot (name := Str.ofString "__next__") hT F.slot_enumerate_next
    (wpAny_call_entry F.slot_enumerate_next hT F.entry_enumerate_next ?_ (F.args_enumerate_next_1 _))))
  show wpAny _ _ (field (.ref e) 2 >>= _) _ _ _
  refine wpAny_bind (wpAny_field he rfl (x := .ref it) rfl ?_)
  refine wpAny_bind (wpAny_nextOf_tuple_end (A := A.in1) hh hit ht (by simp [hi]) fun h' x he' hx' => ?_)
  obtain ⟨o, ho, hc⟩ := hx'
  refine wpAny_bind (wpAny_isInstance (T := "StopIteration") (b := true) ⟨o, ho, hc⟩ isSubtype_stop ?_)
  exact wpAny_pure (hQ _ he')
/-- the tuple at a as it stands at each turn, each item in a new pair -/
def IteT (K : PySem.W.Frag) (a : Addr) : It :=
  ⟨fun i H => ∃ (xs : List V) (x : V), SqT K H a xs ∧ xs[i]? = some x, fun i H v H' => ∃ T x, v = .ref T ∧ H T = none ∧ H' = upd H T (.tup [.int (i : Nat), x]) ∧ ∀ xs, SqT K H a xs → xs[i]? = some x, fun i H => ∃ xs : List V, SqT K H a xs ∧ xs.length ≤ i⟩
theorem apart_cls {h : Heap} {a b : Addr} {o u : Obj} (ha : h.get? a = some o) (hb : h.get? b = some u) (hn : o.cls ≠ u.cls) : a ≠ b := fun z => by
  rw [z, hb] at ha
  exact hn (by rw [Option.some.inj ha])
theorem turn_enumT {P : Program} {w : World} {K : PySem.W.Frag} {elts : List Expr} {kk : Nat} {tpos : Pos} (a e it : Addr) :
    Turn P w K (.Tuple elts kk tpos) (IteT K a) [e, it] e (fun i h => (∃ old, IsEnum h e it ((i : Nat) : Int) old) ∧ h.IsTupleIter it a i ∧ e ≠ it) where
  mem := by simp
  obj := fun i h st b hb => by
    obtain ⟨⟨old, he⟩, ⟨o, ho, hc, hd⟩, _⟩ := st
    rcases (show b = e ∨ b = it by simpa using hb) with rfl | rfl
    · exact ⟨_, he, fun v q => nomatch q⟩
    · exact ⟨o, ho, fun v q => by rw [hd] at q; cases q⟩
  keep := fun i h h' st k => let ⟨⟨old, he⟩, hi, hne⟩ := st; ⟨⟨old, k e (by simp) _ he⟩, hi.at fun o q => k it (by simp) o q, hne⟩
  item := by
    intro X hP hw hK hc i pins s σ H E I hf st hg
    subst hP hw hK
    obtain ⟨⟨old, he⟩, hit, hne⟩ := st
    obtain ⟨xs, x, hq, hx⟩ := hg
    obtain ⟨its, rv, p, hz⟩ := I.tuple hq
    obtain ⟨u, hu, ru⟩ := rv.get hx
    have hp : s.heap.IsTuple a its.toArray := p
    obtain ⟨op, gp, cp, _⟩ := id hp
    obtain ⟨oi, gi, ci, _⟩ := id hit
    have hai : a ≠ it := apart_cls gp gi (by rw [cp, ci]; decide)
    have hea : e ≠ a := apart_cls he gp (by rw [cp]; show Value.type "enumerate" ≠ Value.type "tuple"; decide)
    have hlt : i < its.toArray.size := by
      have := (List.getElem?_eq_some_iff.mp hu).1
      simpa using this
    have hel : e < s.heap.objs.size := Heap.lt_size he
    refine wpAny_pyNext_enum_itemD (Draws.tuple (A := X.A.in1) (I.ok.hd hc) it a hai its.toArray) he ⟨hit, hp⟩ hlt hne (by simp [hne, hea]) fun u2 h' tk hu2 ho st2 hT hsz hk => ?_
    have hu2' : u2 = u := by
      have q : its.toArray[i]? = some u := by simpa using hu
      rw [q] at hu2
      exact (Option.some.inj hu2).symm
    subst hu2'
    refine ⟨_, rfl, (wpAny_letOwnedTupleGo_enum (s := { s with heap := h', toks := tk + 1 }) ho fun h'' he' sb => ?_)⟩
    have hT2 : h''.get? s.heap.objs.size = some { cls := .type "tuple", data := .seq #[.int i tk, u2] } := (sb.2 _ (Nat.ne_of_gt hel)).trans hT
    have new : ObjOk X.prog X.w (upd H s.heap.objs.size (.tup [.int (i : Nat), x])) h'' s.heap.objs.size (.tup [.int (i : Nat), x]) :=
      ⟨(show 2 ≤ sizeLine by decide), [.int i tk, u2], .cons ⟨tk, rfl⟩ (.cons ru .nil), ⟨_, hT2, rfl, _, rfl⟩⟩
    have I1 : Inv X pins σ (upd H s.heap.objs.size (.tup [.int (i : Nat), x])) { s with heap := h'', toks := tk + 1 } :=
      I.turnedNew (ch := [e, it]) (fun b ob hb q => (sb.2 b fun z => hb (by simp [z])).trans (hk b ob (fun z => hb (by simp [z])) (fun z => hb (by simp [z])) q)) hf (Nat.le_refl _) new
    refine ⟨.ref s.heap.objs.size, _, I1, rfl, ⟨_, x, rfl, I.hok.fresh (Nat.le_refl _), rfl, fun ys hy => by rw [I.tuple_inj hy hq]; exact hx⟩, ⟨⟨u2, ?_⟩, st2.1.at fun o q => (sb.2 it hne.symm).trans q, hne⟩, fun b hb => ?_⟩
    · rw [show ((i + 1 : Nat) : Int) = (i : Int) + 1 by omega]
      exact he'
    · have hb' : b < s.heap.objs.size := by
        rcases (show b = e ∨ b = it by simpa using hb) with z | z
        · rw [z]; exact hel
        · rw [z]; exact Heap.lt_size gi
      rw [upd_ne (Nat.ne_of_lt hb')]
      exact (hf b hb).1
  done := by
    intro X hP hw hK hc i pins s σ H E I hf st hg
    subst hP hw hK
    obtain ⟨⟨old, he⟩, hit, hne⟩ := st
    obtain ⟨xs, hq, hx⟩ := hg
    obtain ⟨its, rv, p, hz⟩ := I.tuple hq
    obtain ⟨f0, f1, f2, f3, f4, f5⟩ := hf it (by simp)
    have hl := rv.length
    have hp : s.heap.IsTuple a its.toArray := p
    refine next_enumT_end (I.ok.hd hc) he hit hp (by simp; omega) fun h' eb => ⟨rfl, I.turned (t' := s.toks) (fun b o hb q => eb b o hb q) f0 f1 f3 f4 f5⟩
  self := fun A i s Q E st h => let ⟨⟨_, he⟩, _⟩ := st; wpAny_pyIter_enum he h
def iEnumT (K : PySem.W.Frag) (ta : TA) : TI := fun σ H R => ta σ H fun vs H1 => ∃ a xs, vs = [.ref a] ∧ SqT K H1 a xs ∧ R (IteT K a) H1
theorem pi_enumT {X : Cx} {e : Expr} {ta : TA} {p pos tpos : Pos} {elts : List Expr} {kk : Nat} (hg : Gl X "enumerate") (hm : X.mg "enumerate" = none) (ha : PA X [e] ta) (hs : starEach [e] X.env = [(false, eval e X.env)] := by rfl) :
    PI X (.Tuple elts kk tpos) (.Call (.Name "enumerate" p) [e] [] pos) (iEnumT X.K ta) := by
  refine ⟨fun pins s σ H R I h => ?_⟩
  refine Call_ (ld_blt I hg hm boot_enumerate (PyProof.Rows.callWith_type1 (thn (ha.run pos pins s σ H _ I h) fun us s1 ⟨vs, H1, I1, r1, q1⟩ => ?_) hs rfl))
  obtain ⟨a, xs, ex, hq, q⟩ := q1
  subst ex
  cases r1 with
  | cons r rr =>
    cases rr
    cases r
    obtain ⟨its, rv, p', hz⟩ := I1.tuple hq
    refine call_enumT (show s1.heap.IsTuple a its.toArray from p') fun h' he hit hk => wpAny_pyIter_enum he ?_
    have I2 : Inv X pins σ H1 { s1 with heap := h' } := I1.kept (t' := s1.toks) hk
    refine ⟨s1.heap.objs.size + 1, [s1.heap.objs.size + 1, s1.heap.objs.size], _, _, H1, rfl, I2, turn_enumT a (s1.heap.objs.size + 1) s1.heap.objs.size, ⟨⟨.none, he⟩, hit, Nat.succ_ne_self _⟩, fun b hb => ?_, q⟩
    have hle : s1.heap.objs.size ≤ b := by
      rcases (show b = s1.heap.objs.size + 1 ∨ b = s1.heap.objs.size by simpa using hb) with z | z
      · rw [z]; exact Nat.le_add_right _ _
      · rw [z]; exact Nat.le_refl _
    exact I1.fpOk hle (I1.hok.fresh hle)
end L2

namespace Sl
open PySem L2 C8 StX
section
variable {σ : L2.St} {H H1 : Hp} {g : TG} {tb : TS} {ta : TA} {te : TE} {tt : TT} {nx bk ct : L2.St → Hp → Prop} {rt : VK} {R : It → Hp → Prop} {K : PySem.W.Frag} {Q : VK} {vs : List Nat}
def enRT (K : PySem.W.Frag) (R : It → Hp → Prop) (vs : List V) (H : Hp) : Prop := ∃ a xs, vs = [.ref a] ∧ SqT K H a xs ∧ R (IteT K a) H
theorem rd_iEnumT (h : ta σ H fun vs H1 => enRT K R vs H1) : iEnumT K ta σ H R := h
theorem rd_enRT {a : Addr} {xs : List V} (e : SqT K H a xs) (h : R (IteT K a) H) : enRT K R [.ref a] H := ⟨a, xs, rfl, e, h⟩
theorem forR_enumT {a : Addr} {xs : List V} (Pv : Nat → L2.St → Hp → Prop) (hl : ∀ i σ H, Pv i σ H → SqT K H a xs) (h0 : Pv 0 σ H)
    (hs : ∀ (i : Nat) x σ H t H', xs[i]? = some x → Pv i σ H → H t = none → Same H H' → H' t = some (.tup [.int (i : Nat), x]) → H' = upd H t (.tup [.int (i : Nat), x]) → g (.ref t) σ H' fun σ2 H2 => tb ⟨Pv (i + 1), rt, nx, Pv (i + 1)⟩ σ2 H2) (hd : ∀ σ H, Pv xs.length σ H → nx σ H) :
    ForR (IteT K a) g tb ⟨nx, rt, bk, ct⟩ σ H := forR_gen _ xs.length Pv h0 (fun i σ H h p => ⟨xs, xs[i], hl i σ H p, by simp [h]⟩) (fun σ H p => ⟨xs, hl _ σ H p, Nat.le_refl _⟩)
      (fun i σ H x H' hi p ⟨t, y, e1, e2, e3, e4⟩ => by subst e1; subst e3; exact hs i y σ H t _ (e4 xs (hl i σ _ p)) p e2 (Same.new (Same.refl H) e2) upd_same rfl) hd
theorem lcR_enumT {a : Addr} {xs : List V} (Pv : Addr → Nat → Hp → Prop) (hl : ∀ D i H', H D = none → Pv D i H' → SqT K H' a xs) (h0 : ∀ D H', H D = none → Same H H' → H' D = some (.lst []) → H' = upd H D (.lst []) → Pv D 0 H')
    (hs : ∀ D (i : Nat) x H' t H2, H D = none → xs[i]? = some x → Pv D i H' → H' t = none → Same H' H2 → H2 t = some (.tup [.int (i : Nat), x]) → H2 = upd H' t (.tup [.int (i : Nat), x]) → g (.ref t) (wipe σ vs) H2 fun σ2 H2 => wipe σ2 vs = wipe σ vs ∧ tt σ2 H2 fun b H3 => if b = true then te σ2 H3 fun y H4 => LcE D (Pv D (i + 1)) y H4 else Pv D (i + 1) H3)
    (hd : ∀ D H', H D = none → Pv D xs.length H' → Q (.ref D) H') : LcR (IteT K a) g tt te vs σ H Q :=
  lcR_gen _ xs.length Pv h0 (fun D i H' hD h p => ⟨xs, xs[i], hl D i H' hD p, by simp [h]⟩) (fun D H' hD p => ⟨xs, hl D _ H' hD p, Nat.le_refl _⟩)
    (fun D i H' x H2 hD hi p ⟨t, y, e1, e2, e3, e4⟩ => by subst e1; subst e3; exact hs D i y H' t _ hD (e4 xs (hl D i _ hD p)) p e2 (Same.new (Same.refl H') e2) upd_same rfl) hd
theorem lcR_tup {a : Addr} {xs : List V} (Pv : Addr → Nat → Hp → Prop) (hl : ∀ D i H', H D = none → Pv D i H' → SqT K H' a xs) (h0 : ∀ D H', H D = none → Same H H' → H' D = some (.lst []) → H' = upd H D (.lst []) → Pv D 0 H')
    (hs : ∀ D i x H', H D = none → xs[i]? = some x → Pv D i H' → g x (wipe σ vs) H' fun σ2 H2 => wipe σ2 vs = wipe σ vs ∧ tt σ2 H2 fun b H3 => if b = true then te σ2 H3 fun y H4 => LcE D (Pv D (i + 1)) y H4 else Pv D (i + 1) H3)
    (hd : ∀ D H', H D = none → Pv D xs.length H' → Q (.ref D) H') : LcR (Itt K a) g tt te vs σ H Q :=
  lcR_gen _ xs.length Pv h0 (fun D i H' hD h p => ⟨xs, xs[i], hl D i H' hD p, by simp [h]⟩) (fun D H' hD p => ⟨xs, hl D _ H' hD p, Nat.le_refl _⟩)
    (fun D i H' x H2 hD hi p ⟨e1, e2⟩ => by subst e1; exact hs D i x _ hD (e2 xs (hl D i _ hD p)) p) hd
end
end Sl
set_option Elab.async false
set_option linter.all false
set_option maxRecDepth 100000
set_option maxHeartbeats 4000000
/-! ### x != y by the own __eq__ of the class of both (object.__ne__) -/
namespace HNe
open PySem PySem.Spec PyProof.Rows PySem.SeqAt
section
variable {M : Model} {prog : Program} {w : World} {A : Around} {E : Value → Shared → Prop} {s : Shared} {K : PySem.W.Frag} {x y C f : Addr} {ox : Obj} {od : Option Obj}
theorem ifBound_objNe {args : List Value} {Q : Option Value → Shared → Prop} (X : K.In s.heap) (I : PySem.W.InstAt s.heap x ox C od) (hs : PySem.W.findIn K (.ref C) "__ne__" = some (some (.builtin "object.__ne__")))
    (h : wpAny M A (call (.builtin "object.__ne__") (.ref x :: args)) (fun v => Q (some v)) E s) : wpAny M A (callSpecialIfBound? (.ref x) "__ne__" args) Q E s := by
  simp only [callSpecialIfBound?, bindSpecialIfBound?]
  refine wpAny_holding (wpAny_bind (wpAny_bind (wpAny_bind (I.type.here ((PySem.W.looks_findIn X hs).here ?_)))))
  refine wpAny_bind (wpAny_askSetting (wpAny_ite ?_))
  have fin : wpAny M A (call (.builtin "object.__ne__") ([.ref x] ++ args) >>= fun v => pure (some v)) Q E s := wpAny_bind (wpAny_mono h (fun v s' h' => wpAny_pure h') fun _ _ h' => h')
  split
  · exact wpAny_bind (wpAny_of_eq (F.cmp_object.ne.bind _) (wpAny_pure (by exact fin)))
  · exact wpAny_tryCatch (wpAny_bind (wpAny_of_eq (F.cmp_object.ne.bind _) (wpAny_pure (by exact fin))))
theorem entry_ne (X : K.In s.heap) (I : PySem.W.InstAt s.heap x ox C od) (hs : PySem.W.findIn K (.ref C) "__eq__" = some (some (.ref f))) (hf : PySem.W.isFn K (.ref f) = true) (hu : A.units < cLine) {Q : Fin → Shared → Prop}
    (hcall : wpAny M A (call (.ref f) [.ref x, .ref y]) (fun v s' => ∃ b, v = .bool b ∧ Q (.done (.ret (.bool (!b)))) s') E s) : wpAny M A (Builtin.«object.__ne__» ⟨[.ref x, .ref y], []⟩) Q E s := by
  unfold Builtin.«object.__ne__»
  repeat (first
    | with_reducible refine wpAny_cRoomFor hu ?_
    | (refine wpAny_bind (m := callSpecialIfBound? (.ref x) (Str.ofString "__eq__") [.ref y])
        (PySem.W.ifBound_K X I hs hf (wpAny_mono hcall (fun r s' hr => by
          obtain ⟨b, rfl, hq⟩ := hr
          repeat (first | exact hq | exact wpAny_pure hq | exact wpAny_truthy_bool hq | (refine wpAny_bind (m := truthy (.bool _)) (wpAny_truthy_bool ?_)) | wp_step)) fun _ _ e => e)))
    | wp_step)
theorem call_objNe {Q : Value → Shared → Prop} (X : K.In s.heap) (I : PySem.W.InstAt s.heap x ox C od) (hm : PySem.W.mroIn K C (.type "object") = some true) (hs : PySem.W.findIn K (.ref C) "__eq__" = some (some (.ref f))) (hf : PySem.W.isFn K (.ref f) = true) (hu : A.units + 1 < cLine)
    (hcall : wpAny (model prog w) A.in1 (call (.ref f) [.ref x, .ref y]) (fun v s' => ∃ b, v = .bool b ∧ Q (.bool (!b)) s') E s) :
    wpAny (model prog w) A (call (.builtin "object.__ne__") [.ref x, .ref y]) Q E s :=
  wpAny_call (codeAny_call_builtin F.cmp_object.ne.plain F.cmpEntry_ne (PySem.W.check_slot F.cmpKind_ne F.cmpSplit_ne (I.type.andThen (PySem.W.looks_mroIn X hm)) (F.cmpArgs_ne _ _)
    (entry_ne (A := A.in1) X I hs hf hu (wpAny_mono hcall (fun v s' hv => by
      obtain ⟨b, rfl, hq⟩ := hv
      exact ⟨b, rfl, hq⟩) fun _ _ e => e))))
theorem cmp_neK {Q : Value → Shared → Prop} (X : K.In s.heap) (I : PySem.W.InstAt s.heap x ox C od) {oy : Obj} {od2 : Option Obj} (J : PySem.W.InstAt s.heap y oy C od2) (hm : PySem.W.mroIn K C (.type "object") = some true)
    (hn : PySem.W.findIn K (.ref C) "__ne__" = some (some (.builtin "object.__ne__"))) (hs : PySem.W.findIn K (.ref C) "__eq__" = some (some (.ref f))) (hf : PySem.W.isFn K (.ref f) = true) (hu : A.units + 1 < cLine)
    (hcall : wpAny (model prog w) A.in1 (call (.ref f) [.ref x, .ref y]) (fun v s' => ∃ b, v = .bool b ∧ Q (.bool (!b)) s') E s) : wpAny (model prog w) A (compareOp .NotEq (.ref x) (.ref y)) Q E s := by
  show wpAny (model prog w) A (richCompare .NotEq (.ref x) (.ref y)) Q E s
  have one : wpAny (model prog w) A (tryCompare (.ref x) "__ne__" (.ref y)) (fun r s' => ∃ v, r = some v ∧ Q v s') E s := by
    unfold tryCompare
    refine wpAny_bind (ifBound_objNe X I hn (call_objNe X I hm hs hf hu (wpAny_mono hcall (fun v s' hv => ?_) fun _ _ e => e)))
    obtain ⟨b, rfl, hq⟩ := hv
    exact ⟨b, rfl, wpAny_pure ⟨_, rfl, hq⟩⟩
  unfold richCompare
  simp only [oneThing_ref]
  refine wpAny_holding (wpAny_bind (wpAny_cRoomFor (Nat.lt_of_succ_lt hu) ?_))
  rw [cmpInfo_NotEq]
  dsimp only
  refine wpAny_bind (I.type.here (wpAny_bind (J.type.here ?_)))
  rw [show (Value.ref C != Value.ref C) = false from by simp]
  simp only [Bool.false_eq_true, if_false]
  refine wpAny_bind (wpAny_pure ?_)
  simp only [Bool.false_eq_true, if_false]
  refine wpAny_bind (wpAny_mono one (fun r s' z => ?_) fun _ _ e => e)
  obtain ⟨v, rfl, hq⟩ := z
  exact wpAny_pure hq
end
end HNe
namespace L2
open PySem PySem.Spec PyProof.Rows
section
variable {X : Cx} {k j : Nat} {C D : Addr} {sp : Sp} {dvs : List V} {a : Expr} {ta : TE}
/-- x != y by the own __eq__ of the class of both -/
def rNeO (C : Addr) (sp : Sp) (dvs : List V) : R2 := fun x y H Q => ∃ a b dx dy fs gs, x = .ref a ∧ y = .ref b ∧ H a = some (.ins C dx fs) ∧ H b = some (.ins C dy gs) ∧ sp ([.ref a, .ref b] ++ dvs) H (fun v H' => ∃ k, v = .bl k ∧ Q (.bl (!k)) H') C8.E0
theorem op_neO (c : C8.Met X.prog X.w X.K X.mg X.base k C "__eq__" sp dvs) (hr : Room j X.A) (hk : k + 1 ≤ j) (hm : PySem.W.mroIn X.K C (.type "object") = some true) (hn : PySem.W.findIn X.K (.ref C) "__ne__" = some (some (.builtin "object.__ne__"))) : OpR X (compareOp .NotEq) (rNeO C sp dvs) := by
  obtain ⟨f, fd, ps, ds, cl, hme, F, bd, d⟩ := c.ex
  intro pins s σ H x y v u Q I rx ry h
  obtain ⟨o, o2, dx, dy, fs, gs, rfl, rfl, e, e2, q⟩ := h
  obtain rfl : v = Value.ref o := rx
  obtain rfl : u = Value.ref o2 := ry
  obtain ⟨mA, O, _, _, _, _⟩ := ins_get I.hok e
  obtain ⟨mB, O2, _, _, _, _⟩ := ins_get I.hok e2
  obtain ⟨od, J, _⟩ := O.look
  obtain ⟨od2, J2, _⟩ := O2.look
  refine HNe.cmp_neK I.kIn J J2 hm hn hme.at_ hme.fn (by have := hr.units; omega) (wpAny_mono (run_fn1 (us := [.ref o, .ref o2]) (vs := [.ref o, .ref o2]) F (hr.mono hk) bd d C8.pass0 I (.cons rfl (.cons rfl .nil)) q) (fun v s2 y => ?_) fun _ _ y => y)
  obtain ⟨x2, H2, I2, rx2, b, rfl, q2⟩ := y
  obtain rfl : v = Value.bool b := rx2
  exact ⟨b, rfl, .bl (!b), H2, I2, rfl, q2⟩
/-- (i, d) == (i, e), d and e equal dicts -/
def rEqPD (K : PySem.W.Frag) : R2 := fun x y H Q => ∃ t u i a b ls, x = .ref t ∧ y = .ref u ∧ H t = some (.tup [.int i, .ref a]) ∧ H u = some (.tup [.int i, .ref b]) ∧ H a = some (.dK (dI ls)) ∧ H b = some (.dK (dI ls)) ∧ (ls.map (·.1)).Nodup ∧ Q (.bl true) H
theorem op_eqPD (hu : X.A.units + 64 < cLine) : OpR X (compareOp .Eq) (rEqPD X.K) := by
  intro pins s σ H x y v u' Q I rx ry h
  obtain ⟨t, u, i, a, b, ls, rfl, rfl, et, eu, ea, eb, nd, q⟩ := h
  obtain rfl : v = Value.ref t := rx
  obtain rfl : u' = Value.ref u := ry
  obtain ⟨xs, r1, p1, _⟩ := I.tuple (SqT.of et)
  obtain ⟨ys, r2, p2, _⟩ := I.tuple (SqT.of eu)
  obtain ⟨x1, x2, rfl, ⟨tx, rfl⟩, w2⟩ := vals2 r1
  obtain ⟨y1, y2, rfl, ⟨ty, rfl⟩, z2⟩ := vals2 r2
  obtain rfl : x2 = Value.ref a := w2
  obtain rfl : y2 = Value.ref b := z2
  obtain ⟨_, ya, va, ra, da⟩ := (show ObjOk X.prog X.w H s.heap a (.dK (dI ls)) from I.hok a _ ea)
  obtain ⟨_, yb, vb, rb, db⟩ := (show ObjOk X.prog X.w H s.heap b (.dK (dI ls)) from I.hok b _ eb)
  show wpAny (model X.prog X.w) X.A (richCompare .Eq (.ref t) (.ref u)) (EP X pins σ Q) X.xe s
  refine GQ.rc_tupG (by simp) (by omega) (fun _ s' => s' = s) p1 p2 (fun j h1 h2 s' es => ?_) (fun s' es => ?_) rfl
  · subst es
    match j, h1, h2 with
    | 0, _, _ => exact (eqAt_same (A := X.A.in1) (s := s') (show RelV (V.int i) (Value.int i tx) from ⟨tx, rfl⟩) (show RelV (V.int i) (Value.int i ty) from ⟨ty, rfl⟩) rfl) X.prog X.w _ _ ⟨rfl, rfl⟩
    | 1, _, _ =>
      show wpAny (model X.prog X.w) X.A.in1 (eqBool (Value.ref a) (Value.ref b)) _ _ s'
      by_cases c : a = b
      · subst c
        exact SeqAt.EqAt.same (A := X.A.in1) (s := s') (.ref a) X.prog X.w _ _ ⟨rfl, rfl⟩
      · refine GQ.eqBool_refG c ?_
        show wpAny (model X.prog X.w) X.A.in1 (compareOp .Eq (.ref a) (.ref b)) _ _ s'
        refine PySem.W.keq_eq (knd := mixKind X.prog X.w) (r := true) ya yb da db (by show X.A.units + 1 < cLine; omega) (fun e => (dI_hits nd (.inl rfl) ra rb e).2) ?_
        rw [dI_ans (.inl rfl) ra rb, decide_eq_true rfl]
        exact ⟨true, rfl, rfl, rfl⟩
    | j + 2, h1, _ => exact absurd h1 (by simp)
  · subst es
    exact ⟨.bl true, H, I, rfl, q⟩
end
end L2
namespace Sl
open PySem L2 C8 StX
section
variable {σ : L2.St} {H : Hp} {Q : VK} {K : PySem.W.Frag} {C : Addr} {sp : Sp} {dvs : List V}
theorem rd_neO {a b dx dy : Addr} {fs gs : List (Str × V)} (e : H a = some (.ins C dx fs)) (e2 : H b = some (.ins C dy gs)) (h : sp ([.ref a, .ref b] ++ dvs) H (fun v H' => ∃ k, v = .bl k ∧ Q (.bl (!k)) H') C8.E0) : rNeO C sp dvs (.ref a) (.ref b) H Q := ⟨a, b, dx, dy, fs, gs, rfl, rfl, e, e2, h⟩
theorem rd_eqPD {t u a b : Addr} {i : Int} {ls : List (Int × Int)} (et : H t = some (.tup [.int i, .ref a])) (eu : H u = some (.tup [.int i, .ref b])) (ea : H a = some (.dK (dI ls))) (eb : H b = some (.dK (dI ls))) (nd : (ls.map (·.1)).Nodup) (q : Q (.bl true) H) : rEqPD K (.ref t) (.ref u) H Q :=
  ⟨t, u, i, a, b, ls, rfl, rfl, et, eu, ea, eb, nd, q⟩
/-- isinstance(x, C) of an int, or None: no -/
theorem sub_int {K : PySem.W.Frag} {C : Addr} : PySem.W.subIn K (.type "int") (.ref C) = some false := by
  have e : fastBuiltinMro "int" = some [.type "int", .type "object"] := by decide +kernel
  show (fastBuiltinMro "int").map (·.contains (.ref C)) = some false
  rw [e]
  first
    | rfl
    | simp
theorem kit_not {K : PySem.W.Frag} {C : Addr} {n : String} (h1 : PySem.W.isClsIn K C = true) (h2 : PySem.W.typeIn K (.ref C) = some (.type "type")) (h3 : PySem.W.subIn K (.type n) (.ref C) = some false) : PySem.W.kitOne K (.type n) (.ref C) = some false := by
  have e2 : ((PySem.W.clsIn K C).isSome && PySem.W.typeIn K (.ref C) == some (.type "type")) = true := by
    have h1' : (PySem.W.clsIn K C).isSome = true := h1
    rw [h1', h2] <;> rfl
  unfold PySem.W.kitOne
  rw [if_neg (by simp)]
  show (if ((PySem.W.clsIn K C).isSome && PySem.W.typeIn K (.ref C) == some (.type "type")) = true then PySem.W.subIn K (.type n) (.ref C) else none) = some false
  rw [if_pos e2]
  exact h3
theorem rd_isiCi {C : Addr} {i : Int} (k : PySem.W.kitOne K (.type "int") (.ref C) = some false) (h : Q (.bl false) H) : rIsi K [.int i, .ref C] H Q := ⟨_, _, _, _, false, rfl, .own C, .base (.int i), k, h⟩
theorem rd_isiCn {C : Addr} (k : PySem.W.kitOne K (.type "NoneType") (.ref C) = some false) (h : Q (.bl false) H) : rIsi K [.non, .ref C] H Q := ⟨_, _, _, _, false, rfl, .own C, .base .non, k, h⟩
theorem rd_isiC {C a dx : Addr} {fs : List (Str × V)} (c : InsC K C) (e : H a = some (.ins C dx fs)) (h : Q (.bl true) H) : rIsi K [.ref a, .ref C] H Q := ⟨_, _, _, _, true, rfl, .own C, .base (TyOf.ins e c.cl c.ha c.hn c.htk c.hm), c.me, h⟩
/-- dict([(k, v), ..]) -/
def rDictP (K : PySem.W.Frag) : List V → Hp → VK → Prop := fun xs H Q => ∃ (a : Addr) (ps : List Addr) (kvs : List (Key × V)), xs = [.ref a] ∧ SqL K H a (ps.map V.ref) ∧ Paired (fun p kv => SqT K H p [kV kv.1, kv.2]) ps kvs ∧ ∀ p, H p = none → Q (.ref p) (upd H p (.dK (mergeK [] kvs)))
theorem cr_dictP {X : Cx} (hc : X.calm = true) : CallR X (.type "dict") (rDictP X.K) := call_dictP hc
end
end Sl
set_option Elab.async false
set_option linter.all false
set_option maxRecDepth 100000
set_option maxHeartbeats 4000000
set_option exponentiation.threshold 9000
namespace L2
open PySem PySem.Spec PyProof.Rows
theorem hu65 {k : Nat} {A : Around} (r : Room k A) : A.units + 65 < cLine := by have := r.un; omega
/-- one of two walks -/
theorem pi_alt {X : Cx} {tg e : Expr} {t u : TI} (h1 : PI X tg e t) (h2 : PI X tg e u) : PI X tg e (fun σ H R => t σ H R ∨ u σ H R) := ⟨fun pins s σ H R I h => h.elim (h1.run pins s σ H R I) (h2.run pins s σ H R I)⟩
section
variable {X : Cx} {CX : CXT} {k j : Nat} {f C : Addr} {fd : FuncData} {ps : List Str} {sp : Sp} {dvs : List V} {ds : List Value} {E : XK}
theorem run_fnL {pins : List (Addr × Obj)} {σ : St} {H : Hp} {s : Shared} {Q : VK} {us : List Value} {vs : List V} (F : FnOk X.prog X.w X.K X.mg X.base CX k f fd ps sp) (hr : Room (k + 1) X.A) (hb : Binds X.K fd ps ds) (hd : Vals dvs ds) (hx : Passes CX X E)
    (I : Inv X pins σ H s) (r : Vals vs us) (h : sp (vs ++ dvs) H Q E) : wpAny (model X.prog X.w) X.A.in1 (call (.ref f) us) (EP X pins σ Q) X.xe s := by
  have r2 : Vals (vs ++ dvs) (us ++ ds) := r.append hd
  have hl : (us ++ ds).length = ps.length := by rw [← r2.length]; exact F.len _ _ _ _ h
  refine wpAny_call (codeAny_mono (F.run X.A.in1 X.stack s H ⟨us, []⟩ (us ++ ds) (vs ++ dvs) Q E hr.in1 I.env0.in1 (hb s us I.kIn hl) r2 h) fun r s' hq => ?_)
  cases r with
  | error e => exact hx pins σ H s e s' I hq
  | ok fl =>
    cases fl with
    | ret u => exact I.after hq
    | next => exact False.elim hq
    | brk => exact False.elim hq
    | cont => exact False.elim hq
/-- len(o), o of an own class with its own __len__ -/
def rLenO (C : Addr) (sp : Sp) (dvs : List V) : List V → Hp → VK → Prop := fun vs H Q => ∃ o dx fs, vs = [.ref o] ∧ H o = some (.ins C dx fs) ∧ sp ([.ref o] ++ dvs) H (fun v H' => ∃ i : Nat, v = .int i ∧ i < 2 ^ 62 ∧ Q (.int i) H') C8.E0
theorem cr_lenO (c : C8.Met X.prog X.w X.K X.mg X.base k C "__len__" sp dvs) (hr : Room j X.A) (hk : k + 1 ≤ j) : CallR X (.builtin "len") (rLenO C sp dvs) := by
  obtain ⟨f, fd, ps, ds, cl, hm, Fo, bd, d⟩ := c.ex
  intro pins s σ H vs us Q I r h
  obtain ⟨o, dx, fs, rfl, e, q⟩ := h
  obtain rfl := Vals.ref1 r
  obtain ⟨mA, O, _, _, _, _⟩ := ins_get I.hok e
  obtain ⟨od, J, _⟩ := O.look
  obtain ⟨m, F0⟩ := I.fr
  refine PySem.W.len_K F0 I.ok.mod.kin J hm.at_ hm.fn (wpAny_mono (run_fnL (us := [.ref o]) (vs := [.ref o]) Fo (hr.mono hk) bd d C8.pass0 I (.cons rfl .nil) q) (fun v s2 y => ?_) fun _ _ y => y)
  obtain ⟨x2, H2, I2, rx2, i, rfl, hi, q2⟩ := y
  obtain ⟨t, rfl⟩ : ∃ t, v = Value.int i t := rx2
  exact ⟨⟨by omega, by omega⟩, ⟨.int i, H2, I2.tok _, ⟨_, rfl⟩, q2⟩⟩
/-- x in o, o of an own class with its own __contains__ -/
def rInO (C : Addr) (sp : Sp) (dvs : List V) : R2 := fun x y H Q => ∃ o dx fs, y = .ref o ∧ H o = some (.ins C dx fs) ∧ sp ([.ref o, x] ++ dvs) H (fun v H' => ∃ b, v = .bl b ∧ Q (.bl b) H') C8.E0
theorem op_inO (c : C8.Met X.prog X.w X.K X.mg X.base k C "__contains__" sp dvs) (hr : Room j X.A) (hk : k ≤ j) : OpR X (compareOp .In) (rInO C sp dvs) := by
  obtain ⟨f, fd, ps, ds, cl, hm, Fo, bd, d⟩ := c.ex
  intro pins s σ H x y v u Q I rx ry h
  obtain ⟨o, dx, fs, rfl, e, q⟩ := h
  obtain rfl : u = Value.ref o := ry
  obtain ⟨mA, O, _, _, _, _⟩ := ins_get I.hok e
  obtain ⟨od, J, _⟩ := O.look
  obtain ⟨m, F0⟩ := I.fr
  refine PySem.W.in_K F0 I.ok.mod.kin J hm.at_ hm.fn (wpAny_mono (run_fn (us := [.ref o, v]) (vs := [.ref o, x]) Fo (hr.mono hk) bd d C8.pass0 I (.cons rfl (.cons rx .nil)) q) (fun v s2 y => ?_) fun _ _ y => y)
  obtain ⟨x2, H2, I2, rx2, b, rfl, q2⟩ := y
  obtain rfl : v = Value.bool b := rx2
  exact wpAny_truthy_bool ⟨.bl b, H2, I2, rfl, q2⟩
/-- (d, g) == (e, h): d and e dicts of the same entries, g and h data -/
def rEqDG (K : PySem.W.Frag) : R2 := fun x y H Q => ∃ t u a b g h ks d e, x = .ref t ∧ y = .ref u ∧ H t = some (.tup [.ref a, .ref g]) ∧ H u = some (.tup [.ref b, .ref h]) ∧ H a = some (.dK ks) ∧ H b = some (.dK ks) ∧ (∀ p ∈ ks, valV ks p.1 = some p.2 ∧ flatB p.2 = true) ∧
  Dp K H (.ref g) d ∧ Dp K H (.ref h) e ∧ SeqAt.shaped d = true ∧ SeqAt.shaped e = true ∧ Q (.bl (PyData.eqv d e)) H
theorem op_eqDG (hu : X.A.units + 65 < cLine) : OpR X (compareOp .Eq) (rEqDG X.K) := by
  intro pins s σ H x y v u' Q I rx ry h
  obtain ⟨t, u, a, b, g, h', ks, d, e, rfl, rfl, et, eu, ea, eb, fl, hd, he, sd, se, q⟩ := h
  obtain rfl : v = Value.ref t := rx
  obtain rfl : u' = Value.ref u := ry
  obtain ⟨xs, r1, p1, _⟩ := I.tuple (SqT.of et)
  obtain ⟨ys, r2, p2, _⟩ := I.tuple (SqT.of eu)
  obtain ⟨x1, x2, rfl, w1, w2⟩ := vals2 r1
  obtain ⟨y1, y2, rfl, z1, z2⟩ := vals2 r2
  obtain rfl : x1 = Value.ref a := w1
  obtain rfl : y1 = Value.ref b := z1
  obtain ⟨as, q1⟩ := Dp.reads I d _ x2 hd w2
  obtain ⟨bs, q2⟩ := Dp.reads I e _ y2 he z2
  obtain ⟨_, ya, va, ra, da⟩ := (show ObjOk X.prog X.w H s.heap a (.dK ks) from I.hok a _ ea)
  obtain ⟨_, yb, vb, rb, db⟩ := (show ObjOk X.prog X.w H s.heap b (.dK ks) from I.hok b _ eb)
  have hl : va.length = vb.length := by rw [← ra.length, ← rb.length]
  show wpAny (model X.prog X.w) X.A (richCompare .Eq (.ref t) (.ref u)) (EP X pins σ Q) X.xe s
  refine SeqAt.rcIn_tuples (e := fun j => if j = 0 then true else PyData.eqv d e) p1 p2 (by omega) (fun j h1 h2 => ?_) ⟨.bl (PyData.eqv d e), H, I, ?_, q⟩
  · match j, h1, h2 with
    | 0, _, _ =>
      show SeqAt.EqIn X.prog X.w X.A.in1 s (Value.ref a) (Value.ref b) true
      by_cases c : a = b
      · subst c
        exact (SeqAt.EqAt.same (A := X.A.in1) (s := s) (.ref a)).inModel X.prog X.w
      · refine SeqAt.EqIn.of_refs c fun E' Q' q' => ?_
        show wpAny (model X.prog X.w) X.A.in1 (compareOp .Eq (.ref a) (.ref b)) _ E' s
        refine PySem.W.keq_eq (knd := mixKind X.prog X.w) (r := true) ya yb da db (by show X.A.units + 1 < cLine; omega) (fun _ => hits_all rb ra fl) ?_
        simpa [hl] using q'
    | 1, _, _ => exact (SeqAt.eqAt_reads d e X.A.in1 s x2 y2 as bs q1 q2 (SeqAt.canLay_of_shaped sd) (SeqAt.canLay_of_shaped se) (SeqAt.room_of_shaped sd (by show X.A.units + 1 + 64 < cLine; omega))).inModel X.prog X.w
    | j + 2, h1, _ => exact absurd h1 (by simp)
  · show RelV (V.bl (PyData.eqv d e)) _
    simp [List.range_succ, RelV]
end
end L2
namespace Sl
open PySem L2 C8 StX
section
variable {σ : L2.St} {H H' : Hp} {Q : VK} {te ta tb : TE} {t tk : TA} {K : PySem.W.Frag} {QS : L2.St → Hp → Prop} {x y v : V} {R : It → Hp → Prop} {g : TG} {tt : TT} {vs : List Nat}
theorem rd_gSub {to ti : TE} {st : TSet} (h : to σ H fun o H1 => ti σ H1 fun i H2 => st o i v H2 fun H3 => QS σ H3) : gSub to ti st v σ H QS := h
/-! ### texts walked -/
def stR (R : It → Hp → Prop) (v : V) (H1 : Hp) : Prop := ∃ x, v = .str x ∧ R (Its x) H1
theorem rd_iStr (h : te σ H fun v H1 => stR R v H1) : iStr te σ H R := h
theorem rd_stR {x : Str} (h : R (Its x) H) : stR R (.str x) H := ⟨x, rfl, h⟩
theorem lcR_str {x : Str} (Pv : Addr → Nat → Hp → Prop) (h0 : ∀ D H', H D = none → Same H H' → H' D = some (.lst []) → H' = upd H D (.lst []) → Pv D 0 H')
    (hs : ∀ D i c H', H D = none → x.cps[i]? = some c → Pv D i H' → g (.str ⟨#[c]⟩) (wipe σ vs) H' fun σ2 H2 => wipe σ2 vs = wipe σ vs ∧ tt σ2 H2 fun b H3 => if b = true then te σ2 H3 fun y H4 => LcE D (Pv D (i + 1)) y H4 else Pv D (i + 1) H3)
    (hd : ∀ D H', H D = none → Pv D x.cps.size H' → Q (.ref D) H') : LcR (Its x) g tt te vs σ H Q :=
  lcR_gen _ x.cps.size Pv h0 (fun _ i _ _ h _ => h) (fun _ _ _ _ => Nat.le_refl _) (fun D i H x2 H' hD hi p ⟨e1, c, e2, e3⟩ => by subst e1; subst e3; exact hs D i c _ hD e2 p) hd
/-! ### order of texts -/
def rLeS : R2 := fun x y H Q => ∃ i j, x = .str i ∧ y = .str j ∧ Q (.bl (!decide (j.cps.toList < i.cps.toList))) H
theorem op_leS {X : Cx} : OpR X (compareOp .LtE) rLeS := op_le_str
theorem rd_leS {i j : Str} (h : Q (.bl (!decide (j.cps.toList < i.cps.toList))) H) : rLeS (.str i) (.str j) H Q := ⟨i, j, rfl, rfl, h⟩
def rIxS (x y : V) (H : Hp) (Q : VK) : Prop := ∃ (z : Str) (i : Int) (c : Nat), x = .str z ∧ y = .int i ∧ 0 ≤ i ∧ i < 2 ^ 63 ∧ i < z.length ∧ z.cps[i.toNat]? = some c ∧ Q (.str ⟨#[c]⟩) H
theorem pe_ixS {X : Cx} {a b : Expr} {pos : Pos} {ta tb : TE} (ha : PE X a ta) (hb : PE X b tb) (hs : PlainIxT b) : PE X (.Subscript a b pos) (tOp rIxS ta tb) := pe_item_str ha hb hs
theorem rd_ixS {z : Str} {i : Int} {c : Nat} (h0 : 0 ≤ i) (h1 : i < 2 ^ 62) (h2 : i < z.length) (h3 : z.cps[i.toNat]? = some c) (h : Q (.str ⟨#[c]⟩) H) : rIxS (.str z) (.int i) H Q := ⟨z, i, c, rfl, rfl, h0, by omega, h2, h3, h⟩
/-! ### lengths, texts of ints -/
def rLenTx : List V → Hp → VK → Prop := fun xs H Q => ∃ z, xs = [.str z] ∧ z.length ≤ sizeLine ∧ Q (.int z.length) H
theorem cr_lenTx {X : Cx} : CallR X (.builtin "len") rLenTx := call_len_str
theorem rd_lenTx {z : Str} (hz : z.length ≤ sizeLine) (h : Q (.int z.length) H) : rLenTx [.str z] H Q := ⟨z, rfl, hz, h⟩
def rLenDk : List V → Hp → VK → Prop := fun xs H Q => ∃ a kvs, xs = [V.ref a] ∧ H a = some (.dK kvs) ∧ Q (.int kvs.length) H
theorem cr_lenDk {X : Cx} : CallR X (.builtin "len") rLenDk := call_lenD
theorem rd_lenDk {a : Addr} {kvs : List (Key × V)} (e : H a = some (.dK kvs)) (h : Q (.int kvs.length) H) : rLenDk [.ref a] H Q := ⟨a, kvs, rfl, e, h⟩
def rStrI : List V → Hp → VK → Prop := fun xs H Q => ∃ i, xs = [.int i] ∧ i.natAbs.log2 < 1920 ∧ Q (.str (toString i)) H
theorem cr_strI {X : Cx} : CallR X (.type "str") rStrI := call_str_int
theorem rd_strI {i : Int} (hi : i.natAbs.log2 < 1920) (h : Q (.str (toString i)) H) : rStrI [.int i] H Q := ⟨i, rfl, hi, h⟩
theorem rd_lenO {C o dx : Addr} {fs : List (Str × V)} {sp : Sp} {dvs : List V} (e : H o = some (.ins C dx fs)) (h : sp ([.ref o] ++ dvs) H (fun v H' => ∃ i : Nat, v = .int i ∧ i < 2 ^ 62 ∧ Q (.int i) H') C8.E0) : rLenO C sp dvs [.ref o] H Q := ⟨o, dx, fs, rfl, e, h⟩
theorem rd_inO {C o dx : Addr} {fs : List (Str × V)} {sp : Sp} {dvs : List V} (e : H o = some (.ins C dx fs)) (h : sp ([.ref o, x] ++ dvs) H (fun v H' => ∃ b, v = .bl b ∧ Q (.bl b) H') C8.E0) : rInO C sp dvs x (.ref o) H Q := ⟨o, dx, fs, rfl, e, h⟩
def rAddS : R2 := fun x y H Q => ∃ i j, x = .str i ∧ y = .str j ∧ i.length + j.length ≤ sizeLine ∧ Q (.str (i ++ j)) H
theorem op_addS {X : Cx} : OpR X (binaryOp .Add) rAddS := op_add_str
theorem rd_addS {i j : Str} (l : i.length + j.length ≤ 100000) (h : Q (.str (i ++ j)) H) : rAddS (.str i) (.str j) H Q := ⟨i, j, rfl, rfl, Nat.le_trans l (by decide), h⟩
/-! ### isinstance of plain values -/
def tyS : V → Option String
  | .int _ => some "int"
  | .bl _ => some "bool"
  | .str _ => some "str"
  | .non => some "NoneType"
  | _ => none
theorem tyS_of {v : V} {a : String} (h : tyS v = some a) : TyOf K H v (.type a) := by
  cases v <;> first | (cases h; first | exact .int _ | exact .bl _ | exact .str _ | exact .non) | cases h
theorem rd_isiS {v : V} {a b : String} {r : Bool} (h1 : tyS v = some a) (h2 : kitB a b = some r) (h : Q (.bl r) H) : rIsi K [v, .ty b] H Q := ⟨_, _, _, _, r, rfl, .ty _, .base (tyS_of h1), kit_ty h2, h⟩
theorem rd_isiTup {a : Addr} {xs : List V} {b : String} {r : Bool} (e : H a = some (.tup xs)) (h2 : kitB "tuple" b = some r) (h : Q (.bl r) H) : rIsi K [.ref a, .ty b] H Q := ⟨_, _, _, _, r, rfl, .ty _, .base (.tup e), kit_ty h2, h⟩
theorem rd_isiLst {a : Addr} {xs : List V} {b : String} {r : Bool} (e : H a = some (.lst xs)) (h2 : kitB "list" b = some r) (h : Q (.bl r) H) : rIsi K [.ref a, .ty b] H Q := ⟨_, _, _, _, r, rfl, .ty _, .base (.lst e), kit_ty h2, h⟩
theorem rd_isiD {a : Addr} {kvs : List (Key × V)} {b : String} {r : Bool} (e : H a = some (.dK kvs)) (h2 : kitB "dict" b = some r) (h : Q (.bl r) H) : rIsi K [.ref a, .ty b] H Q := ⟨_, _, _, _, r, rfl, .ty _, .base (.dK e), kit_ty h2, h⟩
theorem rd_eqDG {t u a b g h' : Addr} {ks : List (Key × V)} {d e : PyData} (et : H t = some (.tup [.ref a, .ref g])) (eu : H u = some (.tup [.ref b, .ref h'])) (ea : H a = some (.dK ks)) (eb : H b = some (.dK ks)) (fl : ∀ p ∈ ks, valV ks p.1 = some p.2 ∧ flatB p.2 = true)
    (hd : Dt H (.ref g) d) (he : Dt H (.ref h') e) (sd : SeqAt.shaped d = true) (se : SeqAt.shaped e = true) (q : Q (.bl (PyData.eqv d e)) H) : rEqDG K (.ref t) (.ref u) H Q := ⟨t, u, a, b, g, h', ks, d, e, rfl, rfl, et, eu, ea, eb, fl, hd.dp, he.dp, sd, se, q⟩
/-! ### sorted pairs -/
theorem rd_sortPO {a : Addr} {xs : List V} {k : V → Int × Int} (e : SqL K H a xs) (hx : ∀ x ∈ xs, ∃ t, x = V.ref t ∧ H t = some (.tup [.int (k x).1, .int (k x).2]))
    (h : ∀ ys p H', SrtO.Srtd (ltP k) ys → SrtO.Stb (ltP k) ys xs → H p = none → Same H H' → H' p = some (.lst ys) → Q (.ref p) H') : rSortedPO K [.ref a] H Q :=
  ⟨a, xs, k, rfl, e, hx, fun ys p h1 h2 hp => h ys p _ h1 h2 hp (Same.new (Same.refl H) hp) upd_same⟩
/-! ### dicts with any values, keys ints -/
def dV (ls : List (Int × V)) : List (Key × V) := ls.map fun q => (Sum.inl q.1, q.2)
theorem dV_len (ls : List (Int × V)) : (dV ls).length = ls.length := by unfold dV; rw [List.length_map]
theorem dV_keys (ls : List (Int × V)) : (dV ls).map (·.1) = (ls.map (·.1)).map Sum.inl := by unfold dV; rw [List.map_map, List.map_map]; rfl
end
end Sl
set_option Elab.async false
set_option linter.all false
set_option maxRecDepth 100000
set_option maxHeartbeats 4000000
set_option exponentiation.threshold 9000
/-! ### dict(reversed(a list of pairs)) -/
namespace PySem
open Sem (wp)
namespace F
theorem slot_lri_getattribute : Slot "list_reverseiterator" "__getattribute__" "object.__getattribute__" :=
  .of (owner := "object") (n := "__getattribute__") (by rw [typeLookup_type, builtinLookup_eq_fast]; kernel_rfl) (by decide +kernel) (by decide +kernel) (by decide +kernel)
    (by first | exact .inl (by decide +kernel) | exact .inr (by decide +kernel)) (by rw [isSubtype_type]; kernel_rfl)
end F
theorem lri_no_keys : typeLookup (.type "list_reverseiterator") "keys" = pure none := am_miss_of_fast (by decide +kernel)
theorem lri_getattr_none : typeLookup (.type "list_reverseiterator") "__getattr__" = pure none := am_miss_of_fast (by decide +kernel)
theorem meets_getattribute_miss_lri (a : Addr) (fs : Array Value) (sl : Array (Option Value)) (name : Str) (u : Tok) (hmiss : typeLookup (.type "list_reverseiterator") name = pure none) (hname : (["__module__", "__name__", "__qualname__", "__doc__", "__annotations__"] : List Str).contains name = false) (hsz : name.length + 100 ≤ sizeLine := by size_fits) :
    Meets (Builtin.«object.__getattribute__» ⟨[.ref a, .str name u], []⟩) (fun A R s => s.heap.get? a = some { cls := .type "list_reverseiterator", dict := none, data := .fields fs, slots := sl } ∧ raisesAttr (.ref a) name A R s) :=
  Meets.of_wp fun prog w A R s hs => by
    obtain ⟨hp, g, d, tk, os⟩ := s
    obtain ⟨hx, hs⟩ := hs
    have hT : (⟨hp, g, d, tk, os⟩ : Shared).TypeIs (.ref a) "list_reverseiterator" := ⟨_, hx, rfl⟩
    unfold Builtin.«object.__getattribute__»
    repeat (any_goals (first | assumption | wp_step))
    simp only [hname, Bool.false_eq_true, if_false]
    repeat (any_goals (first | assumption | wp_step))
    exact wpAny_raiseAttrError hs.1 hs.2 (attrMsg_fits (by decide +kernel) hsz)
theorem getAttrOr_miss_lri {prog : Program} {w : World} {A : Around} {E : Value → Shared → Prop} {s : Shared} {a : Addr} {o : Obj} {fs : Array Value} {name : Str} {Q : Option Value → Shared → Prop} (hx : s.heap.get? a = some o) (hc : o.cls = .type "list_reverseiterator") (hdat : o.data = .fields fs) (hd : o.dict = none) (hmiss : typeLookup (.type "list_reverseiterator") name = pure none)
    (hname : (["__module__", "__name__", "__qualname__", "__doc__", "__annotations__"] : List Str).contains name = false) (hA : A.handled = none)
    (h : ∀ h' tk, (∀ b o, s.heap.get? b = some o → h'.get? b = some o) → Q none { s with heap := h', toks := tk }) (hsz : name.length + 100 ≤ sizeLine := by size_fits) :
    wpAny (model prog w) A (getAttr? (.ref a) name) Q E s := by
  obtain ⟨c, dct, dat, sl⟩ := o
  simp only at hc hdat hd
  subst hc hdat hd
  obtain ⟨hp, g, d, tk, os⟩ := s
  have hT : ∀ tk', (⟨hp, g, d, tk', os⟩ : Shared).TypeIs (.ref a) "list_reverseiterator" := fun _ => ⟨_, hx, rfl⟩
  have f1 := sub_AttributeError
  have f3 := F.slot_lri_getattribute.lookup
  have f4 := F.slot_lri_getattribute.bind (.ref a)
  have f5 := lri_getattr_none
  unfold getAttr? getAttrBy?
  repeat (any_goals (first | assumption | exact hT _ | ((with_reducible show wpAny _ _ (call (Value.builtin "object.__getattribute__") _ _) _ _ _); refine call_meets F.slot_lri_getattribute (hT _) F.entry_object_getattribute (F.args_object_getattribute_2 _ _) (meets_getattribute_miss_lri a fs sl name _ hmiss hname hsz) ⟨hx, hA, fun h' tk' e hx' => ?_⟩) | wp_step))
  obtain ⟨t', u', he⟩ := hx'.there
  show wpAny _ _ (getattributeRaised _ _ _ _ _ _ _) _ _ _
  unfold getattributeRaised
  repeat (any_goals (first | assumption | wp_step))
  exact h _ _ hx'.keeps
theorem PairArg.rev {prog : Program} {w : World} (it l : Addr) (hli : l ≠ it) (items : Array Value) (Ts : Nat → Addr) (ps : List (Value × Value)) (hT : ∀ j, j < ps.length → Ts j ≠ it) :
    PairArg prog w "list_reverseiterator" it (it :: l :: (List.range ps.length).map Ts) [it] ps.length (fun i k v => i < ps.length ∧ ps[ps.length - 1 - i]? = some (k, v))
      (fun h => h.get? it = some (revObj l ((items.size : Int) - 1)) ∧ h.IsList l items ∧ PairItems h items Ts ps) where
  type := fun s ok => ⟨_, ok.1, rfl⟩
  notDict := by decide
  keep := fun h h' ok hk => ⟨hk _ _ ok.1, ok.2.1.at fun o x => hk _ o x, ok.2.2.at fun j _ o e => hk _ o e⟩
  there := fun h ok b hb => by
    obtain ⟨h1, ⟨o2, h2, _⟩, hp⟩ := ok
    rcases List.mem_cons.mp hb with rfl | hb
    · exact ⟨_, h1⟩
    · rcases List.mem_cons.mp hb with rfl | hb
      · exact ⟨_, h2⟩
      · obtain ⟨j, hj, rfl⟩ := List.mem_map.mp hb
        exact hp.there (List.mem_range.mp hj)
  sub := fun b hb => by rw [List.mem_singleton.mp hb]; exact List.mem_cons_self
  noKeys := fun A s Q E hA ok h => getAttrOr_miss_lri ok.1 rfl rfl rfl lri_no_keys (by decide +kernel) hA h
  iter := fun A s d Q E hA ok hd hdf h => by
    obtain ⟨h1, hl, hp⟩ := ok
    have hdi : it ≠ d := fun e => hdf (e ▸ List.mem_cons_self)
    have hdl : l ≠ d := fun e => hdf (e ▸ List.mem_cons_of_mem _ List.mem_cons_self)
    have hdT : ∀ j, j < ps.length → Ts j ≠ d := fun j hj e => hdf (List.mem_cons_of_mem _ (List.mem_cons_of_mem _ (List.mem_map.mpr ⟨j, List.mem_range.mpr hj, e⟩)))
    have hsz : items.size = ps.length := hp.1
    refine wpAny_pyIter_revIter (l := l) (i := (items.size : Int) - 1) ⟨_, h1, rfl, rfl⟩ (h it [it] (fun i h => i ≤ ps.length ∧ h.IsRevIter it l ((ps.length : Int) - 1 - i) ∧ h.IsList l items ∧ PairItems h items Ts ps) s.heap s.toks ?_ ⟨Nat.zero_le _, ⟨_, h1, rfl, by rw [hsz]; simp [revObj]⟩, hl, hp⟩ (fun _ _ e => e) fun b hb => .inl hb)
    exact {
      off := fun hm => hdi (List.mem_singleton.mp hm).symm
      frame := fun i h₁ h₂ st hk => ⟨st.1, st.2.1.at fun o e => hk _ o hdi e, st.2.2.1.at fun o e => hk _ o hdl e, st.2.2.2.at fun j hj o e => hk _ o (hdT j hj) e⟩
      item := fun i s₁ Q₁ E₁ hi st _ hQ => by
        have hkv' : ps[ps.length - 1 - i]? = some ps[ps.length - 1 - i] := List.getElem?_eq_getElem (by omega)
        obtain ⟨⟨k, v⟩, hkv⟩ : ∃ p, ps[ps.length - 1 - i]? = some p := ⟨_, hkv'⟩
        have hit : s₁.heap.IsRevIter it l ((ps.length - 1 - i : Nat) : Int) := by
          have := st.2.1
          rw [show (ps.length : Int) - 1 - (i : Int) = ((ps.length - 1 - i : Nat) : Int) by omega] at this
          exact this
        refine wpAny_pyNext_rev_item hit st.2.2.1 (x := .ref (Ts (ps.length - 1 - i))) (st.2.2.2.2 _ k v hkv).1 fun h' hit' hs' => ?_
        have pi : PairItems h' items Ts ps := st.2.2.2.at fun j hj o e => (hs'.2 (Ts j) (hT j hj)).trans e
        refine hQ (Ts (ps.length - 1 - i)) k v h' s₁.toks ⟨hi, hkv⟩ (pi.2 _ k v hkv).2 ⟨hi, ?_, st.2.2.1.at fun o' e => (hs'.2 l hli).trans e, pi⟩ fun b o hb e => (hs'.2 b (fun h => hb (by simp [h]))).trans e
        rw [show (ps.length : Int) - 1 - ((i + 1 : Nat) : Int) = ((ps.length - 1 - i : Nat) : Int) - 1 by omega]
        exact hit'
      done := fun s₁ Q₁ E₁ st hQ => by
        have hit := st.2.1
        rw [show (ps.length : Int) - 1 - (ps.length : Int) = -1 by omega] at hit
        exact wpAny_pyNext_rev_end hA hit fun h' he' => hQ h' s₁.toks fun b o hb e => he' b o (fun h => hb (by simp [h])) e }
end PySem

namespace L2
open PySem PySem.Spec PyProof.Rows
theorem pair_vals {h : Heap} : ∀ {ps : List Addr} {prs : List (Key × Value)}, prs.length = ps.length → (∀ (j : Nat) (q : Key × Value), prs[j]? = some q → ∃ (b : Addr) (u : Value), ps[j]? = some b ∧ IsTup h b #[u, q.2] ∧ keyIs q.1 u = true) →
    ∃ vps : List (Value × Value), vps.length = prs.length ∧ ∀ (j : Nat) (q : Key × Value), prs[j]? = some q → ∃ (b : Addr) (u : Value), ps[j]? = some b ∧ vps[j]? = some (u, q.2) ∧ IsTup h b #[u, q.2] ∧ keyIs q.1 u = true
  | [], [], _, _ => ⟨[], rfl, fun j q e => by simp at e⟩
  | [], _ :: _, l, _ => by simp at l
  | _ :: _, [], l, _ => by simp at l
  | p :: ps, q :: prs, l, hp => by
    obtain ⟨b, u, e1, e2, e3⟩ := hp 0 q rfl
    obtain ⟨vps, l2, h2⟩ := pair_vals (ps := ps) (prs := prs) (by simpa using l) fun j q' e => by
      obtain ⟨b, u, f1, f2, f3⟩ := hp (j + 1) q' (by simpa using e)
      exact ⟨b, u, by simpa using f1, f2, f3⟩
    refine ⟨(u, q.2) :: vps, by simp [l2], fun j q' e => ?_⟩
    match j, e with
    | 0, e =>
      have e : q = q' := by simpa using e
      subst e
      exact ⟨b, u, e1, rfl, e2, e3⟩
    | j + 1, e =>
      obtain ⟨b, u, f1, f2, f3, f4⟩ := h2 j q' (by simpa using e)
      exact ⟨b, u, by simpa using f1, by simpa using f2, f3, f4⟩
theorem paired_app {α β : Type} {R : α → β → Prop} : ∀ {a c : List α} {b d : List β}, Paired R a b → Paired R c d → Paired R (a ++ c) (b ++ d)
  | _, _, _, _, .nil, h => h
  | _, _, _, _, .cons h t, k => .cons h (paired_app t k)
theorem paired_rev {α β : Type} {R : α → β → Prop} : ∀ {a : List α} {b : List β}, Paired R a b → Paired R a.reverse b.reverse
  | _, _, .nil => .nil
  | _, _, .cons h t => by
    rw [List.reverse_cons, List.reverse_cons]
    exact paired_app (paired_rev t) (.cons h .nil)
/-- dict(reversed(x)), x a list of pairs -/
def tDictRev (K : PySem.W.Frag) (te : TE) : TE := fun σ H Q => te σ H fun v H1 => ∃ (a : Addr) (ps : List Addr) (kvs : List (Key × V)), v = .ref a ∧ SqL K H1 a (ps.map V.ref) ∧ Paired (fun p kv => SqT K H1 p [kV kv.1, kv.2]) ps kvs ∧ ∀ p, H1 p = none → Q (.ref p) (upd H1 p (.dK (mergeK [] kvs.reverse)))
section
variable {X : Cx}
theorem pe_dictRev {e : Expr} {te : TE} {p p2 pos pos2 : Pos} (hc : X.calm = true) (hg : Gl X "dict") (hm : X.mg "dict" = none) (hg2 : Gl X "reversed") (hm2 : X.mg "reversed" = none) (he : PE X e te)
    (hs : starEach [e] X.env = (false, eval e X.env) :: starEach [] X.env := by rfl)
    (hs2 : starEach [.Call (.Name "reversed" p2) [e] [] pos2] X.env = (false, eval (.Call (.Name "reversed" p2) [e] [] pos2) X.env) :: starEach [] X.env := by rfl) :
    PE X (.Call (.Name "dict" p) [.Call (.Name "reversed" p2) [e] [] pos2] [] pos) (tDictRev X.K te) := by
  refine ⟨fun pins s σ H Q I h => ?_⟩
  refine Call_ (ld_blt I hg hm (show bootBuiltins "dict" = some (.type "dict") from by decide +kernel) (PyProof.Rows.callWith_type1 (args_cons (Call_ (ld_blt I hg2 hm2 PyProof.Rows.boot_reversed (PyProof.Rows.callWith_type1 (args_cons (thn (he.run pins s σ H _ I h) fun u s1 ⟨v, H1, I1, r1, q1⟩ => args_nil ?_) hs) hs rfl))) hs2) hs2 rfl))
  obtain ⟨a, ps, kvs, ev, hq, hp, q⟩ := q1
  subst ev
  obtain rfl : u = Value.ref a := r1
  obtain ⟨its, rv, p', hz⟩ := I1.list hq
  have ei := refs_at rv
  subst ei
  rw [List.length_map] at hz
  obtain ⟨prs, rel, hl, hpr⟩ := pairs_of I1 hp
  obtain ⟨vps, lv, hv⟩ := pair_vals hl hpr
  refine call_reversed_list p'.isList (args_nil ?_)
  have hlist := p'.isList
  obtain ⟨ol, hol, _⟩ := id hlist
  have hne : a ≠ s1.heap.objs.size := Nat.ne_of_lt (Heap.lt_size hol)
  have hat : ∀ j, j < vps.length → ∃ b u qv, ps[j]? = some b ∧ vps[j]? = some (u, qv) ∧ IsTup s1.heap b #[u, qv] := fun j hj => by
    obtain ⟨b, u, e1, e2, e3, e4⟩ := hv j _ (List.getElem?_eq_getElem (by omega : j < prs.length))
    exact ⟨b, u, _, e1, e2, e3⟩
  have hT : ∀ j, j < vps.length → ps.getD j 0 ≠ s1.heap.objs.size := fun j hj => by
    obtain ⟨b, u, qv, e1, e2, ⟨o, ho, _⟩⟩ := hat j hj
    rw [List.getD_eq_getElem?_getD, e1]
    exact Nat.ne_of_lt (Heap.lt_size ho)
  have hitems : ((ps.map Value.ref).toArray).size = vps.length := by simp; omega
  refine PySem.call_dict_pairs (knd := mixKind X.prog X.w) (kvs := prs.reverse) (s := { s1 with heap := s1.heap.push (revObj a (((ps.map Value.ref).toArray.size : Int) - 1)) }) (PairArg.rev s1.heap.objs.size a hne (ps.map Value.ref).toArray (fun j => ps.getD j 0) vps hT) (I1.ok.hd hc) ⟨Heap.get?_push_size _ rfl, hlist.push _, hitems, fun j k v e => ?_⟩ ⟨by rw [List.length_reverse, lv], fun i key v hr => ?_⟩ (by omega) fun h' tk hd' hk => ?_
  · have hj := (List.getElem?_eq_some_iff.mp e).1
    obtain ⟨b, u, qv, e1, e2, e3⟩ := hat j hj
    rw [e] at e2
    cases e2
    have eb : ps.getD j 0 = b := by rw [List.getD_eq_getElem?_getD, e1]; rfl
    refine ⟨by simp [e1], .inl ?_⟩
    show IsTup _ (ps.getD j 0) _
    rw [eb]
    exact e3.keeps fun b o z => Heap.get?_push_of_some _ z
  · obtain ⟨hi, e⟩ := hr
    obtain ⟨b, u, e1, e2, e3, e4⟩ := hv (vps.length - 1 - i) _ (List.getElem?_eq_getElem (by omega : vps.length - 1 - i < prs.length))
    rw [e] at e2
    have e2 := Option.some.inj e2
    have f1 : key = u := congrArg Prod.fst e2
    have f2 : v = (prs[vps.length - 1 - i]'(by omega)).2 := congrArg Prod.snd e2
    subst f1 f2
    refine ⟨_, ?_, e4⟩
    rw [List.getElem?_reverse (by omega), show prs.length - 1 - i = vps.length - 1 - i by omega]
    exact List.getElem?_eq_getElem (by omega)
  · have k1 : ∀ b o, s1.heap.get? b = some o → h'.get? b = some o := fun b o e => hk b o (fun z => by rw [List.mem_singleton.mp z] at e; exact absurd (Heap.lt_size e) (Nat.lt_irrefl _)) (Heap.get?_push_of_some _ e)
    have hm' : (((s1.heap.push (revObj a (((ps.map Value.ref).toArray.size : Int) - 1))).objs.size) == sysModules) = false := by
      have := I1.big
      exact beq_eq_false_iff_ne.mpr (Nat.ne_of_gt (Nat.lt_of_lt_of_le this (by simp [Heap.push])))
    have hlen : (mergeK [] kvs.reverse).length ≤ sizeLine := by
      refine Nat.le_trans (length_mergeK kvs.reverse []) ?_
      rw [List.length_nil, Nat.zero_add, List.length_reverse, rel.length, hl]
      exact hz
    have hge : s1.heap.objs.size ≤ (s1.heap.push (revObj a (((ps.map Value.ref).toArray.size : Int) - 1))).objs.size := by simp [Heap.push]
    exact ⟨.ref _, upd H1 _ (.dK (mergeK [] kvs.reverse)), I1.laid (t' := tk) k1 hge (show ObjOk X.prog X.w _ _ _ (.dK (mergeK [] kvs.reverse)) from ⟨hlen, hm', merged [] prs.reverse, KV.merge (paired_rev rel) .nil, hd'⟩), rfl, q _ (I1.hok.fresh hge)⟩
end
end L2
set_option Elab.async false
set_option linter.all false
set_option maxRecDepth 100000
set_option maxHeartbeats 4000000
set_option exponentiation.threshold 9000
/-! readings for the stores' laws: items of a dict, dicts of lists, displays of one pair, get, text * int -/
namespace Sl
open PySem L2 C8 StX PySem.Spec PyProof.Rows LiI RT
section
variable {σ : L2.St} {H H' : Hp} {Q : VK} {te td ty tv : TE} {K : PySem.W.Frag} {R : It → Hp → Prop} {g : TG} {tt : TT} {vs : List Nat} {x y v : V}
def itR (R : It → Hp → Prop) (x : V) (H1 : Hp) : Prop := ∃ d o kvs, x = .ref d ∧ H1 d = some (.frz o (.dK kvs)) ∧ R (Iti d o kvs) H1
theorem rd_iItems (h : td σ H fun x H1 => itR R x H1) : iItems td σ H R := h
theorem rd_itR {d : Addr} {o : Obj} {kvs : List (Key × V)} (e : H d = some (.frz o (.dK kvs))) (h : R (Iti d o kvs) H) : itR R (.ref d) H := ⟨d, o, kvs, rfl, e, h⟩
theorem lcR_items {d : Addr} {o : Obj} {kvs : List (Key × V)} (Pv : Addr → Nat → Hp → Prop) (hl : ∀ D i H', H D = none → Pv D i H' → H' d = some (.frz o (.dK kvs))) (h0 : ∀ D H', H D = none → Same H H' → H' D = some (.lst []) → H' = upd H D (.lst []) → Pv D 0 H')
    (hs : ∀ D i k z t H' H2, H D = none → kvs[i]? = some (k, z) → Pv D i H' → Same H' H2 → H2 t = some (.tup [kV k, z]) → g (.ref t) (wipe σ vs) H2 fun σ2 H2 => wipe σ2 vs = wipe σ vs ∧ tt σ2 H2 fun b H3 => if b = true then te σ2 H3 fun y H4 => LcE D (Pv D (i + 1)) y H4 else Pv D (i + 1) H3)
    (hd : ∀ D H', H D = none → Pv D kvs.length H' → Q (.ref D) H') : LcR (Iti d o kvs) g tt te vs σ H Q :=
  lcR_gen _ kvs.length Pv h0 (fun D i H' hD h p => ⟨hl D i H' hD p, h⟩) (fun D H' hD p => ⟨hl D _ H' hD p, Nat.le_refl _⟩)
    (fun D i H' x H2 hD hi p ⟨t, k, v, e1, e2, e3, e4⟩ => by subst e2; subst e4; exact hs D i k v t H' _ hD e1 p (Same.new (Same.refl H') e3) upd_same) hd
theorem rd_listIt0 (h : te σ H fun x H1 => rItemsL x H1 Q) : tListItems te σ H Q := h
theorem rd_listIt {d : Addr} {kvs : List (Key × V)} (e : H d = some (.dK kvs)) (h : ∀ H' p (ts : List Addr), Same H H' → H p = none → H' p = some (.lst (ts.map V.ref)) → Paired (fun (t : Addr) (q : Key × V) => H' t = some (.tup [kV q.1, q.2])) ts kvs → Q (.ref p) H') : rItemsL (.ref d) H Q :=
  ⟨d, kvs, rfl, e, fun H' p ts s hp _ _ ep pr => h H' p ts s hp ep pr⟩
def rDictRev (K : PySem.W.Frag) (v : V) (H1 : Hp) (Q : VK) : Prop := ∃ (a : Addr) (ps : List Addr) (kvs : List (Key × V)), v = .ref a ∧ SqL K H1 a (ps.map V.ref) ∧ Paired (fun p kv => SqT K H1 p [kV kv.1, kv.2]) ps kvs ∧ ∀ p, H1 p = none → Q (.ref p) (upd H1 p (.dK (mergeK [] kvs.reverse)))
theorem rd_dictRev0 (h : te σ H fun v H1 => rDictRev K v H1 Q) : tDictRev K te σ H Q := h
def rTupRev (K : PySem.W.Frag) (v : V) (H1 : Hp) (Q : VK) : Prop := ∃ (a : Addr) (xs : List V), v = .ref a ∧ SqL K H1 a xs ∧ ∀ q, H1 q = none → Q (.ref q) (upd H1 q (.tup xs.reverse))
theorem rd_tupRev0 (h : te σ H fun v H1 => rTupRev K v H1 Q) : tTupRev K te σ H Q := h
theorem rd_tupRev {a : Addr} {xs : List V} (e : SqL K H a xs) (h : ∀ q H', H q = none → Same H H' → H' q = some (.tup xs.reverse) → Q (.ref q) H') : rTupRev K (.ref a) H Q := ⟨a, xs, rfl, e, fun q hq => h q _ hq (Same.new (Same.refl H) hq) upd_same⟩
def rDGet1 (ty : TE) (x : V) (σ : L2.St) (H1 : Hp) (Q : VK) : Prop := ∃ a, x = .ref a ∧ IsD H1 a ∧ ty σ H1 fun y H2 => ∃ o, DGet H2 a y o ∧ Q (o.getD .non) H2
theorem rd_dget10 (h : td σ H fun x H1 => rDGet1 ty x σ H1 Q) : tDGet1 td ty σ H Q := h
/-- text * int -/
def rMulS : R2 := fun x y H Q => ∃ z n, x = .str z ∧ y = .int n ∧ 2 ≤ n ∧ n ≤ 100 ∧ 1 ≤ z.length ∧ z.length ≤ 100 ∧ ((⟨(List.replicate n.toNat z.cps).foldl (· ++ ·) #[]⟩ : Str).length ≤ 100000) ∧ Q (.str ⟨(List.replicate n.toNat z.cps).foldl (· ++ ·) #[]⟩) H
theorem op_mulS {X : Cx} : OpR X (binaryOp .Mult) rMulS := by
  intro pins s σ H x y v u Q I rx ry h
  obtain ⟨z, n, rfl, rfl, n0, n1, z0, z1, lz, q⟩ := h
  obtain ⟨t, rfl⟩ := rx
  obtain ⟨t', rfl⟩ := ry
  have e1 : (n == 1 || z.length == 0) = false := by
    rw [Bool.or_eq_false_iff]
    exact ⟨beq_eq_false_iff_ne.mpr (by omega), beq_eq_false_iff_ne.mpr (by omega)⟩
  refine PySem.P.mul_str (by rw [decide_eq_false (by omega), decide_eq_false (by omega)]; rfl) (fun _ _ => ?_) (fun _ _ => ?_) ?_
  · have h1 : (z.length : Int) * n ≤ 100 * 100 := Int.mul_le_mul (by omega) n1 (by omega) (by omega)
    have h2 : (z.length : Int) ≤ (2 ^ 63 - 1) / n := (Int.le_ediv_iff_mul_le (by omega)).mpr (Int.le_trans h1 (by decide))
    omega
  · refine decide_eq_false (Nat.not_lt.mpr (Nat.le_trans (m := 10000) ?_ (by decide)))
    have : n.toNat ≤ 100 := by omega
    exact Nat.mul_le_mul z1 this
  · rw [if_neg (by omega), e1, if_neg (by decide)]
    exact ⟨Nat.le_trans lz (by decide), ⟨.str _, H, I.tok _, ⟨_, rfl⟩, q⟩⟩
end
end Sl
set_option Elab.async false
set_option linter.all false
set_option maxRecDepth 100000
set_option maxHeartbeats 4000000
set_option exponentiation.threshold 9000
/-! {True: x}: a dict whose one key is a truth value -/
namespace L2
open PySem PySem.Spec PyProof.Rows PpSet
/-- the object at p is o -/
def BkO (p : Addr) (o : Obj) : HO := .ext fun h => h.get? p = some o
/-- o is a dict with the one key b -/
structure BkOk (P : Program) (w : World) (p : Addr) (o : Obj) (b : Bool) : Prop where
  sys : (p == sysModules) = false
  ex : o.ExactDict
  dt : ∃ es ep en, o.data = .dict es ep ∧ es.size = 1 ∧ es[0]? = some en ∧ en.key = Value.bool b
  of : ∃ u, ∀ h : Heap, h.get? p = some o → h.DictOf (boolK P w) p [(b, u)]
section
variable {X : Cx} {pins : List (Addr × Obj)} {σ : L2.St} {H : Hp} {s : Shared}
theorem bk_at {p : Addr} {o : Obj} (I : Inv X pins σ H s) (e : H p = some (BkO p o)) : s.heap.get? p = some o := (I.hok p _ e).1
/-- the display -/
def tDispB (P : Program) (w : World) (b : Bool) (tv : TE) : TE := fun σ H Q => ∀ p, H p = none → tv σ (upd H p (.dK [])) fun y H2 => H2 p = some (.dK []) ∧ ∀ o, BkOk P w p o b → Q (.ref p) (upd H2 p (BkO p o))
theorem pairs_nil {P : Program} {w : World} {h : Heap} {a : Addr} (d : h.DictOf (mixKind P w) a []) : h.DictOf (boolK P w) a [] := by
  obtain ⟨o, es, ep, h1, h2, h3, h4, h5, h6⟩ := d
  have e : es = #[] := by
    cases es with
    | mk l => cases l with
      | nil => rfl
      | cons x l => cases h5
  subst e
  exact ⟨o, #[], ep, h1, h2, h3, fun x hx => by simp at hx, .nil, List.nodup_nil⟩
theorem pe_dispB {b : Bool} {j : Nat} {pos pos' : Pos} {v : Expr} {tv : TE} (hv : PE X v tv) (hk : PE X (.Constant (.bool b) j pos') (tC (.bl b))) : PE X (.Dict [some (.Constant (.bool b) j pos')] [v] pos) (tDispB X.prog X.w b tv) := by
  refine ⟨fun pins s σ H Q I q => ?_⟩
  have hn := I.hok.fresh (Nat.le_refl s.heap.objs.size)
  have I1 := I.laid (a := s.heap.objs.size) (o := .dK []) (h' := s.heap.push { cls := .type "dict", data := .dict #[] }) (t' := s.toks) (fun _ _ q => Heap.get?_push_of_some _ q) (Nat.le_refl _) (dk_empty s.heap I.big)
  have q1 := q s.heap.objs.size hn
  refine wpAny_Dict_walk (knd := boolK X.prog X.w) rfl rfl (by simp) (by simp) ?_
  refine pairTrees_cons_walk (Constant_bool (thn (hv.run pins _ σ _ _ I1 q1) fun w2 s2 ⟨y, H2, I2, ry, e, q2⟩ => pairTrees_nil_walk ?_))
  obtain ⟨z, hd, vs0, r0, dd⟩ := dk_of I2.hok e
  cases r0
  refine ⟨[(b, w2)], ⟨boolK_is _ _ b, rfl, True.intro⟩, pairs_nil dd, fun h' dd' hs => ?_⟩
  obtain ⟨o, es, ep, h1, h2, h3, h4, h5, h6⟩ := dd'
  have hz : es.size = 1 ∧ ∃ en : DictEntry, es[0]? = some en ∧ en.key = Value.bool b := by
    have h5 : Pairs (boolK X.prog X.w) es.toList [(b, w2)] := h5
    cases hl : es.toList with
    | nil => rw [hl] at h5; cases h5
    | cons x l =>
      rw [hl] at h5
      cases h5 with
      | cons a c d =>
        cases d
        refine ⟨by rw [← Array.length_toList, hl]; rfl, x, by rw [← Array.getElem?_toList, hl]; rfl, isB_shape a⟩
  obtain ⟨hz, en, hen, hk⟩ := hz
  have ok : BkOk X.prog X.w s.heap.objs.size o b := ⟨hd, h2, ⟨es, ep, en, h3, hz, hen, hk⟩, w2, fun h e => ⟨o, es, ep, e, h2, h3, h4, h5, h6⟩⟩
  have new : ObjOk X.prog X.w (upd H2 s.heap.objs.size (BkO s.heap.objs.size o)) h' s.heap.objs.size (BkO s.heap.objs.size o) := ⟨h1, ⟨o, h1⟩, fun g1 g2 e1 k => k _ e1⟩
  exact ⟨.ref s.heap.objs.size, _, d_write I2 (by rw [e]; exact True.intro) hs ⟨o, h1⟩ new, rfl, q2 o ok⟩
/-- isinstance(x, dict) of such a dict -/
def rIsiB (P : Program) (w : World) : List V → Hp → VK → Prop := fun xs H Q => ∃ (p : Addr) (o : Obj) (b : Bool), xs = [.ref p, .ty "dict"] ∧ H p = some (BkO p o) ∧ BkOk P w p o b ∧ Q (.bl true) H
theorem cr_isiB : CallR X (.builtin "isinstance") (rIsiB X.prog X.w) := by
  intro pins s σ H xs us Q I r h
  obtain ⟨p, o, b, rfl, e, ok, q⟩ := h
  obtain ⟨u1, u2, rfl, r1, r2⟩ := vals2 r
  cases (show u1 = Value.ref p from r1)
  cases (show u2 = Value.type "dict" from r2)
  exact PySem.W.kia_one PySem.W.kitx_dict I.kIn ⟨o, bk_at I e, ok.ex.1⟩ (kit_ty (show kitB "dict" "dict" = some true by decide +kernel)) (fun z => nomatch z) fun tk => ⟨.bl true, H, I.tok tk, rfl, q⟩
/-- len of such a dict -/
def rLenB (P : Program) (w : World) : List V → Hp → VK → Prop := fun xs H Q => ∃ (p : Addr) (o : Obj) (b : Bool), xs = [.ref p] ∧ H p = some (BkO p o) ∧ BkOk P w p o b ∧ Q (.int 1) H
theorem cr_lenB : CallR X (.builtin "len") (rLenB X.prog X.w) := by
  intro pins s σ H xs us Q I r h
  obtain ⟨p, o, b, rfl, e, ok, q⟩ := h
  obtain ⟨u1, rfl, r1⟩ := vals1 r
  cases (show u1 = Value.ref p from r1)
  obtain ⟨u, d⟩ := ok.of
  exact PySem.call_len_dict ok.sys (d _ (bk_at I e)) (show (((1 : Nat) : Int)) < 2 ^ 63 by decide) ⟨.int 1, H, I.tok _, ⟨_, rfl⟩, q⟩
/-- the keys of such a dict -/
def Itb (d : Addr) (o : Obj) (b : Bool) : It :=
  ⟨fun i H => H d = some (BkO d o) ∧ i < 1, fun i H x H' => H' = H ∧ x = .bl b, fun i H => H d = some (BkO d o) ∧ 1 ≤ i⟩
theorem turn_keysB {P : Program} {w : World} {K : PySem.W.Frag} {tg : Expr} {d : Addr} {o : Obj} {b : Bool} {es : Array DictEntry} {ep : Nat} {en : DictEntry} (it : Addr) (hd : o.data = .dict es ep) (hz : es.size = 1) (hen : es[0]? = some en) (hk : en.key = Value.bool b) :
    Turn P w K tg (Itb d o b) [it] it (fun i h => h.IsKeyIter it d i 1 ep) where
  mem := by simp
  obj := fun i h st b hb => by
    have e : b = it := by simpa using hb
    subst e
    obtain ⟨oi, e, c, dd⟩ := st
    exact ⟨oi, e, fun v z => by rw [dd] at z; cases z⟩
  keep := fun i h h' st k => st.at fun oi e => k it (by simp) oi e
  item := by
    intro X hP hw hK hc i pins s σ H E I hf st hg
    subst hP hw hK
    obtain ⟨hdd, hi⟩ := hg
    obtain ⟨f0, f1, f2, f3, f4, f5⟩ := hf it (by simp)
    obtain rfl : i = 0 := by omega
    refine next_key_item st (bk_at I hdd) hd hz hen fun h' st' sb => ?_
    have I1 : Inv X pins σ H { s with heap := h' } := I.turned (t' := s.toks) (fun b ob hb e => (sb.2 b hb).trans e) f0 f1 f3 f4 f5
    obtain ⟨oi, e, c, dd⟩ := id st'
    exact ⟨en.key, rfl, go_of (s := { s with heap := h' }) e c dd (by decide) ⟨.bl b, H, I1, hk, ⟨rfl, rfl⟩, st', fun b hb => (hf b hb).1⟩⟩
  done := by
    intro X hP hw hK hc i pins s σ H E I hf st hg
    subst hP hw hK
    obtain ⟨hdd, hi⟩ := hg
    obtain ⟨f0, f1, f2, f3, f4, f5⟩ := hf it (by simp)
    exact next_key_end (I.ok.hd hc) st (bk_at I hdd) hd hz hi fun h' eb => ⟨rfl, I.turned (t' := s.toks) (fun b ob hb e => eb b ob hb e) f0 f1 f3 f4 f5⟩
  self := fun A i s Q E st h => wpAny_pyIter_keyiter st h
def iKeysB (P : Program) (w : World) (td : TE) : TI := fun σ H R => td σ H fun x H1 => ∃ d o b, x = .ref d ∧ H1 d = some (BkO d o) ∧ BkOk P w d o b ∧ R (Itb d o b) H1
theorem pi_keysB {tg e : Expr} {td : TE} (he : PE X e td) : PI X tg e (iKeysB X.prog X.w td) := by
  refine ⟨fun pins s σ H R I h => ?_⟩
  refine thn (he.run pins s σ H _ I h) fun u s1 ⟨x, H1, I1, rx, d, o, b, ex, hd, ok, q⟩ => ?_
  subst ex
  obtain rfl : u = Value.ref d := rx
  obtain ⟨es, ep, en, h3, hz, hen, hk⟩ := ok.dt
  refine iter_keys ok.sys (bk_at I1 hd) ok.ex h3 (pi_one (tk := s1.toks) I1 _ (turn_keysB _ h3 hz hen hk) ⟨_, Heap.get?_push_size _ rfl, rfl, ?_⟩ q)
  rw [hz] <;> rfl
end
end L2
namespace Sl
open PySem L2 C8 StX
section
variable {σ : L2.St} {H H1 : Hp} {Q : VK} {K : PySem.W.Frag} {P : Program} {w : World} {te td : TE} {R : It → Hp → Prop} {g : TG} {tt : TT} {vs : List Nat}
theorem rd_isiB {p : Addr} {o : Obj} {b : Bool} (e : H p = some (BkO p o)) (ok : BkOk P w p o b) (h : Q (.bl true) H) : rIsiB P w [.ref p, .ty "dict"] H Q := ⟨p, o, b, rfl, e, ok, h⟩
theorem rd_lenB {p : Addr} {o : Obj} {b : Bool} (e : H p = some (BkO p o)) (ok : BkOk P w p o b) (h : Q (.int 1) H) : rLenB P w [.ref p] H Q := ⟨p, o, b, rfl, e, ok, h⟩
def rKeysB (P : Program) (w : World) (R : It → Hp → Prop) (x : V) (H1 : Hp) : Prop := ∃ d o b, x = .ref d ∧ H1 d = some (BkO d o) ∧ BkOk P w d o b ∧ R (Itb d o b) H1
theorem rd_iKeysB (h : td σ H fun x H1 => rKeysB P w R x H1) : iKeysB P w td σ H R := h
theorem rd_keysB {d : Addr} {o : Obj} {b : Bool} (e : H d = some (BkO d o)) (ok : BkOk P w d o b) (h : R (Itb d o b) H) : rKeysB P w R (.ref d) H := ⟨d, o, b, rfl, e, ok, h⟩
end
end Sl
set_option Elab.async false
set_option linter.all false
set_option maxRecDepth 100000
set_option maxHeartbeats 4000000
/-! an own instance == an int, by the own __eq__ -/
namespace L2
open PySem PySem.Spec PyProof.Rows
section
variable {X : Cx} {k j : Nat} {C : Addr} {sp : Sp} {dvs : List V}
def rEqOI (C : Addr) (sp : Sp) (dvs : List V) : R2 := fun x y H Q => ∃ (a dx : Addr) (fs : List (Str × V)) (i : Int), x = .ref a ∧ y = .int i ∧ H a = some (.ins C dx fs) ∧ sp ([.ref a, .int i] ++ dvs) H (fun v H' => ∃ k, v = .bl k ∧ Q v H') C8.E0
theorem op_eqOI (c : C8.Met X.prog X.w X.K X.mg X.base k C "__eq__" sp dvs) (hr : Room j X.A) (hk : k ≤ j) (hn : PySem.W.subIn X.K (.type "int") (.ref C) = some false) : OpR X (compareOp .Eq) (rEqOI C sp dvs) := by
  obtain ⟨f, fd, ps, ds, cl, hm, F, bd, d⟩ := c.ex
  intro pins s σ H x y v u Q I rx ry h
  obtain ⟨o, dx, fs, i, rfl, rfl, e, q⟩ := h
  obtain rfl : v = Value.ref o := rx
  obtain ⟨t, rfl⟩ := ry
  obtain ⟨mA, O, _, _, _, _⟩ := ins_get I.hok e
  obtain ⟨od, J, _⟩ := O.look
  obtain ⟨m, F0⟩ := I.fr
  refine PySem.W.cmp_K (op := .Eq) (tb := .type "int") hr.units0 F0 I.ok.mod.kin J (fun _ _ _ _ _ q => wpAny_pure q) (by unfold PySem.W.notFirst; rw [hn]; simp) hm.at_ hm.fn (wpAny_mono (run_fn (us := [.ref o, .int i t]) (vs := [.ref o, .int i]) F (hr.mono hk) bd d C8.pass0 I (.cons rfl (.cons ⟨t, rfl⟩ .nil)) q) (fun v s2 y => ?_) fun _ _ y => y)
  obtain ⟨x2, H2, I2, rx2, b, rfl, q2⟩ := y
  obtain rfl : v = Value.bool b := rx2
  exact ⟨.bl b, H2, I2, rfl, q2⟩
end
end L2
namespace Sl
open PySem L2 C8 StX
theorem rd_eqOI {H : Hp} {Q : VK} {C a dx : Addr} {sp : Sp} {dvs : List V} {fs : List (Str × V)} {i : Int} (e : H a = some (.ins C dx fs)) (h : sp ([.ref a, .int i] ++ dvs) H (fun v H' => ∃ k, v = .bl k ∧ Q v H') C8.E0) : rEqOI C sp dvs (.ref a) (.int i) H Q := ⟨a, dx, fs, i, rfl, rfl, e, h⟩
end Sl
set_option Elab.async false
set_option linter.all false
set_option maxRecDepth 100000
set_option maxHeartbeats 4000000
set_option exponentiation.threshold 9000
/-! readings: displays of one pair, tuple + tuple, list(range), dict of pairs -/
namespace Sl
open PySem L2 C8 StX PySem.Spec PyProof.Rows
section
variable {σ : L2.St} {H H' : Hp} {Q : VK} {te tk tv : TE} {K : PySem.W.Frag} {x y v : V} {P : Program} {w : World}
def rDisp1 (p : Addr) (Q : VK) (x y : V) (H2 : Hp) : Prop := H2 p = some (.dK []) ∧ ∃ kvs : List (Key × V), [(x, y)] = kvs.map (fun kv => (kV kv.1, kv.2)) ∧ kvs.length ≤ 15 ∧ Q (.ref p) (upd H2 p (.dK (mergeK [] kvs)))
theorem rd_disp1 (h : ∀ p H1, H p = none → Same H H1 → H1 p = some (.dK []) → tk σ H1 fun x H2 => tv σ H2 fun y H3 => rDisp1 p Q x y H3) : tDisp [(tk, tv)] σ H Q :=
  fun p hp => h p _ hp (Same.new (Same.refl H) hp) upd_same
theorem rd_d1 {p : Addr} {i : Int} {H2 : Hp} (e : H2 p = some (.dK [])) (h : ∀ H3, H3 = upd H2 p (.dK [(Sum.inl i, y)]) → H3 p = some (.dK [(Sum.inl i, y)]) → Q (.ref p) H3) : rDisp1 p Q (.int i) y H2 := ⟨e, [(Sum.inl i, y)], rfl, Nat.le_of_lt_succ (by decide : 1 < 16), h _ rfl upd_same⟩
def rDispB (P : Program) (w : World) (b : Bool) (p : Addr) (Q : VK) (y : V) (H2 : Hp) : Prop := H2 p = some (.dK []) ∧ ∀ o, BkOk P w p o b → Q (.ref p) (upd H2 p (BkO p o))
theorem rd_dispB {b : Bool} (h : ∀ p H1, H p = none → Same H H1 → H1 p = some (.dK []) → tv σ H1 fun y H2 => rDispB P w b p Q y H2) : tDispB P w b tv σ H Q :=
  fun p hp => h p _ hp (Same.new (Same.refl H) hp) upd_same
theorem rd_dB {b : Bool} {p : Addr} {H2 : Hp} (e : H2 p = some (.dK [])) (h : ∀ o H3, BkOk P w p o b → H3 = upd H2 p (BkO p o) → H3 p = some (BkO p o) → Q (.ref p) H3) : rDispB P w b p Q y H2 := ⟨e, fun o ok => h o _ ok rfl upd_same⟩
theorem rd_catA {a b : Addr} {xs ys : List V} (e1 : H a = some (.tup xs)) (e2 : H b = some (.tup ys)) (l : xs.length + ys.length ≤ 100000) (h : ∀ p H', Same H H' → H' p = some (.tup (xs ++ ys)) → Q (.ref p) H') : rCatA K (.ref a) (.ref b) H Q := by
  refine ⟨a, b, xs, ys, rfl, rfl, SqT.of e1, SqT.of e2, Nat.le_trans l (by decide), fun z => ?_, fun _ z => ?_, fun _ _ p hp => h p _ (Same.new (Same.refl H) hp) upd_same⟩
  · subst z; exact h b H (Same.refl H) e2
  · subst z; exact h a H (Same.refl H) (by rw [List.append_nil]; exact e1)
def rLstRg (Q : VK) (a b : Int) (H1 : Hp) : Prop := RgOk a b ∧ ∀ q, H1 q = none → Q (.ref q) (upd H1 q (.lst (rgV a b)))
theorem rd_listRg0 {tr : L2.St → Hp → (Int → Int → Hp → Prop) → Prop} (h : tr σ H fun a b H1 => rLstRg Q a b H1) : tLstRg tr σ H Q := h
end
end Sl
set_option Elab.async false
set_option linter.all false
set_option maxRecDepth 100000
set_option maxHeartbeats 4000000
namespace Sl
open PySem L2 C8 StX
def topS (i : Nat) : Stmt := PySem.Challenge.pw_siltstore_k01_whole_sheets.main.body.getD i (.Pass ⟨0, 0, 0, 0⟩)
abbrev s_is_whole : Stmt := topS 10
abbrev N_is_whole : List Str := ["thing"]
abbrev P_is_whole : List Str := ["thing"]
theorem sc_is_whole : FnScope N_is_whole P_is_whole (fnScope s_is_whole) := fnScope_by (by decide +kernel)
abbrev s_is_key : Stmt := topS 11
abbrev N_is_key : List Str := ["thing"]
abbrev P_is_key : List Str := ["thing"]
theorem sc_is_key : FnScope N_is_key P_is_key (fnScope s_is_key) := fnScope_by (by decide +kernel)
abbrev s_check_key : Stmt := topS 12
abbrev N_check_key : List Str := ["thing"]
abbrev P_check_key : List Str := ["thing"]
theorem sc_check_key : FnScope N_check_key P_check_key (fnScope s_check_key) := fnScope_by (by decide +kernel)
abbrev s_is_value : Stmt := topS 13
abbrev N_is_value : List Str := ["thing", "sign"]
abbrev P_is_value : List Str := ["thing"]
theorem sc_is_value : FnScope N_is_value P_is_value (fnScope s_is_value) := fnScope_by (by decide +kernel)
abbrev s_is_range : Stmt := topS 14
abbrev N_is_range : List Str := ["thing", "one"]
abbrev P_is_range : List Str := ["thing"]
theorem sc_is_range : FnScope N_is_range P_is_range (fnScope s_is_range) := fnScope_by (by decide +kernel)
abbrev s_joined_ranges : Stmt := topS 15
abbrev N_joined_ranges : List Str := ["ranges", "found", "low", "high"]
abbrev P_joined_ranges : List Str := ["ranges"]
theorem sc_joined_ranges : FnScope N_joined_ranges P_joined_ranges (fnScope s_joined_ranges) := fnScope_by (by decide +kernel)
abbrev s_without_keys : Stmt := topS 16
abbrev N_without_keys : List Str := ["ranges", "keys", "found", "low", "high", "first", "key"]
abbrev P_without_keys : List Str := ["ranges", "keys"]
theorem sc_without_keys : FnScope N_without_keys P_without_keys (fnScope s_without_keys) := fnScope_by (by decide +kernel)
abbrev s_Sheet_init : Stmt := inClass (topS 17) 0
abbrev N_Sheet_init : List Str := ["self", "leaves", "marks", "ranges", "one", "key", "told"]
abbrev P_Sheet_init : List Str := ["self", "leaves", "marks", "ranges"]
theorem sc_Sheet_init : FnScope N_Sheet_init P_Sheet_init (fnScope s_Sheet_init) := fnScope_by (by decide +kernel)
def emT : Option Obj → Bool
  | some o => (match o.cls with | .type s => s == "tuple" | _ => false) && (match o.data with | .seq a _ => a.size == 0 | _ => false)
  | none => false
theorem emT_sq {K : PySem.W.Frag} {D : Addr} (h : emT (K.lookup D) = true) (H : Hp) : SqT K H D [] := by
  cases e : K.lookup D with
  | none => rw [e] at h; cases h
  | some o =>
    rw [e] at h
    obtain ⟨c, d, dt, sl⟩ := o
    unfold emT at h
    rw [Bool.and_eq_true] at h
    obtain ⟨h1, h2⟩ := h
    cases c <;> first | (cases h1; done) | skip
    cases dt <;> first | (cases h2; done) | skip
    rename_i s its n
    have e1 : s = "tuple" := beq_iff_eq.mp h1
    have e2 : its.size = 0 := beq_iff_eq.mp h2
    subst e1
    have e3 : its = #[] := Array.eq_empty_of_size_eq_zero e2
    subst e3
    exact .inr ⟨_, #[], n, e, rfl, rfl, Nat.zero_le _, .nil⟩
abbrev s_Sheet_eq : Stmt := inClass (topS 17) 1
abbrev N_Sheet_eq : List Str := ["self", "other"]
abbrev P_Sheet_eq : List Str := ["self", "other"]
theorem sc_Sheet_eq : FnScope N_Sheet_eq P_Sheet_eq (fnScope s_Sheet_eq) := fnScope_by (by decide +kernel)
abbrev s_Sheet_len : Stmt := inClass (topS 17) 2
abbrev N_Sheet_len : List Str := ["self"]
abbrev P_Sheet_len : List Str := ["self"]
theorem sc_Sheet_len : FnScope N_Sheet_len P_Sheet_len (fnScope s_Sheet_len) := fnScope_by (by decide +kernel)
abbrev s_Sheet_contains : Stmt := inClass (topS 17) 3
abbrev N_Sheet_contains : List Str := ["self", "key"]
abbrev P_Sheet_contains : List Str := ["self", "key"]
theorem sc_Sheet_contains : FnScope N_Sheet_contains P_Sheet_contains (fnScope s_Sheet_contains) := fnScope_by (by decide +kernel)
abbrev s_Sheet_is_gone : Stmt := inClass (topS 17) 4
abbrev N_Sheet_is_gone : List Str := ["self", "key", "low", "high"]
abbrev P_Sheet_is_gone : List Str := ["self", "key"]
theorem sc_Sheet_is_gone : FnScope N_Sheet_is_gone P_Sheet_is_gone (fnScope s_Sheet_is_gone) := fnScope_by (by decide +kernel)
abbrev s__law_draw : Stmt := topS 19
abbrev N__law_draw : List Str := ["_law_script", "_law_at", "_law_many", "_law_row", "_law_cell", "_law_turn", "_law_step", "_law_mixed"]
abbrev P__law_draw : List Str := ["_law_script", "_law_at", "_law_many"]
theorem sc__law_draw : FnScope N__law_draw P__law_draw (fnScope s__law_draw) := fnScope_by (by decide +kernel)
abbrev s__law_sheet : Stmt := topS 20
abbrev N__law_sheet : List Str := ["_law_script", "_law_at", "_law_most", "_law_leaves", "_law_marks", "_law_ranges", "_law_turn", "_law_key", "_law_low"]
abbrev P__law_sheet : List Str := ["_law_script", "_law_at", "_law_most"]
theorem sc__law_sheet : FnScope N__law_sheet P__law_sheet (fnScope s__law_sheet) := fnScope_by (by decide +kernel)
abbrev s__law_tells : Stmt := topS 21
abbrev N__law_tells : List Str := ["_law_told", "_law_key", "_law_leaves", "_law_marks", "_law_ranges", "_law_low", "_law_high"]
abbrev P__law_tells : List Str := ["_law_told", "_law_key"]
theorem sc__law_tells : FnScope N__law_tells P__law_tells (fnScope s__law_tells) := fnScope_by (by decide +kernel)
abbrev s_law : Stmt := topS 22
abbrev N_law : List Str := ["_law_script", "_law_shift", "_law_leaves", "_law_marks", "_law_ranges", "_law_told", "_law_key", "_law_value", "_law_low", "_law_high", "_law_sheet_here", "_law_gone", "_law_due", "_law_other", "_law_bad", "_law_at"]
abbrev P_law : List Str := ["_law_script"]
theorem sc_law : FnScope N_law P_law (fnScope s_law) := fnScope_by (by decide +kernel)
/-- what isinstance asks of an own class, without the class itself -/
structure InsF (K : PySem.W.Frag) (C : Addr) : Prop where
  ha : PySem.W.findIn K (.ref C) "__class__" = some (some (.builtin "object.__class__"))
  hn : PySem.W.specialIn K (.builtin "object.__class__") "__get__" = some (some (.builtin "getset_descriptor.__get__"))
  htk : PySem.W.takesIn K (.builtin "object.__class__") = some true
  hm : PySem.W.mroIn K C (.type "object") = some true
theorem kit_self {K : PySem.W.Frag} {C : Addr} : PySem.W.kitOne K (.ref C) (.ref C) = some true := by
  unfold PySem.W.kitOne
  rw [if_pos (by simp)]
structure TX (K : PySem.W.Frag) (mg : Str → Option Value) (C_Sheet C_BadSheet C_BadKey D_Sheet_0 D_Sheet_1 : Addr) : Prop where
  mg_Sheet : mg "Sheet" = some (.ref C_Sheet)
  mg_BadSheet : mg "BadSheet" = some (.ref C_BadSheet)
  mg_BadKey : mg "BadKey" = some (.ref C_BadKey)
  d_is_whole : ∃ f fd, C8.Def K mg "is_whole" s_is_whole f fd ∧ fd.defaults = .none
  d_is_key : ∃ f fd, C8.Def K mg "is_key" s_is_key f fd ∧ fd.defaults = .none
  d_check_key : ∃ f fd, C8.Def K mg "check_key" s_check_key f fd ∧ fd.defaults = .none
  d_is_value : ∃ f fd, C8.Def K mg "is_value" s_is_value f fd ∧ fd.defaults = .none
  d_is_range : ∃ f fd, C8.Def K mg "is_range" s_is_range f fd ∧ fd.defaults = .none
  d_joined_ranges : ∃ f fd, C8.Def K mg "joined_ranges" s_joined_ranges f fd ∧ fd.defaults = .none
  d_without_keys : ∃ f fd, C8.Def K mg "without_keys" s_without_keys f fd ∧ fd.defaults = .none
  m_Sheet_init : ∃ f fd, C8.Fun K "__init__" "Sheet.__init__" s_Sheet_init f fd ∧ ((∃ ds, Vals [] ds ∧ Binds K fd P_Sheet_init ds) ∧ ∃ ds, Vals [.ref D_Sheet_0, .ref D_Sheet_1] ds ∧ Binds K fd P_Sheet_init ds) ∧ Mk K C_Sheet f
  e_D_Sheet_0 : emT (K.lookup D_Sheet_0) = true
  e_D_Sheet_1 : emT (K.lookup D_Sheet_1) = true
  m_Sheet_eq : ∃ f fd, C8.Fun K "__eq__" "Sheet.__eq__" s_Sheet_eq f fd ∧ fd.defaults = .none ∧ Meth K C_Sheet "__eq__" f ∧ PySem.W.fnIn K f = true
  m_Sheet_len : ∃ f fd, C8.Fun K "__len__" "Sheet.__len__" s_Sheet_len f fd ∧ fd.defaults = .none ∧ Meth K C_Sheet "__len__" f ∧ PySem.W.fnIn K f = true
  m_Sheet_contains : ∃ f fd, C8.Fun K "__contains__" "Sheet.__contains__" s_Sheet_contains f fd ∧ fd.defaults = .none ∧ Meth K C_Sheet "__contains__" f ∧ PySem.W.fnIn K f = true
  m_Sheet_is_gone : ∃ f fd, C8.Fun K "is_gone" "Sheet.is_gone" s_Sheet_is_gone f fd ∧ fd.defaults = .none ∧ Meth K C_Sheet "is_gone" f ∧ PySem.W.fnIn K f = true
  d__law_draw : ∃ f fd, C8.Def K mg "_law_draw" s__law_draw f fd ∧ fd.defaults = .none
  d__law_sheet : ∃ f fd, C8.Def K mg "_law_sheet" s__law_sheet f fd ∧ fd.defaults = .none
  d__law_tells : ∃ f fd, C8.Def K mg "_law_tells" s__law_tells f fd ∧ fd.defaults = .none
  d_law : ∃ f fd, C8.Def K mg "law" s_law f fd ∧ fd.defaults = .none
  cl_Sheet : Cls K C_Sheet
  ic_Sheet : InsF K C_Sheet
  na_Sheet_leaves : NoAttr K C_Sheet "leaves"
  na_Sheet_gone : NoAttr K C_Sheet "gone"
  ne_Sheet : PySem.W.findIn K (.ref C_Sheet) "__ne__" = some (some (.builtin "object.__ne__"))
  nk_Sheet : ∀ n, PySem.W.subIn K (.type n) (.ref C_Sheet) = some false → PySem.W.kitOne K (.type n) (.ref C_Sheet) = some false
  x_BadSheet : XOwn K C_BadSheet
  x_BadKey : XOwn K C_BadKey
  g_MOST_KEY : ∃ u, mg "MOST_KEY" = some u ∧ RelV (.int 999999) u
  g_MOST_ITEMS : ∃ u, mg "MOST_ITEMS" = some u ∧ RelV (.int 60) u
  g_MOST_SIGNS : ∃ u, mg "MOST_SIGNS" = some u ∧ RelV (.int 12) u
  b_max : mg "max" = none
  b_min : mg "min" = none
  b_len : mg "len" = none
  b_sum : mg "sum" = none
  b_abs : mg "abs" = none
  b_int : mg "int" = none
  b_bool : mg "bool" = none
  b_isinstance : mg "isinstance" = none
  b_range : mg "range" = none
  b_enumerate : mg "enumerate" = none
  b_list : mg "list" = none
  b_tuple : mg "tuple" = none
  b_sorted : mg "sorted" = none
  b_all : mg "all" = none
  b_any : mg "any" = none
  b_dict : mg "dict" = none
  b_str : mg "str" = none
  b_zip : mg "zip" = none
  b_reversed : mg "reversed" = none
  b_set : mg "set" = none
theorem TX.g_Sheet {K : PySem.W.Frag} {mg : Str → Option Value} {C_Sheet C_BadSheet C_BadKey D_Sheet_0 D_Sheet_1 : Addr} (T : TX K mg C_Sheet C_BadSheet C_BadKey D_Sheet_0 D_Sheet_1) : ∃ u, mg "Sheet" = some u ∧ RelV (.ref C_Sheet) u := ⟨_, T.mg_Sheet, rfl⟩
theorem TX.i_Sheet {K : PySem.W.Frag} {mg : Str → Option Value} {C_Sheet C_BadSheet C_BadKey D_Sheet_0 D_Sheet_1 : Addr} (T : TX K mg C_Sheet C_BadSheet C_BadKey D_Sheet_0 D_Sheet_1) : InsC K C_Sheet := ⟨T.cl_Sheet, T.ic_Sheet.ha, T.ic_Sheet.hn, T.ic_Sheet.htk, T.ic_Sheet.hm, kit_self⟩
end Sl
set_option Elab.async false
set_option linter.all false
set_option maxRecDepth 100000
set_option maxHeartbeats 4000000
namespace Sl
open PySem L2 C8 StX
/-! ### data without lists stands when a list changes -/
mutual
inductive Dn (H : Hp) : V → PyData → Prop
  | non : Dn H .non .none
  | bl (b : Bool) : Dn H (.bl b) (.bool b)
  | int (i : Int) : Dn H (.int i) (.int i)
  | str (x : Str) : Dn H (.str x) (.str x)
  | tup {a : Addr} {xs : List V} {ds : List PyData} : H a = some (.tup xs) → DnAll H xs ds → Dn H (.ref a) (.tuple ds)
inductive DnAll (H : Hp) : List V → List PyData → Prop
  | nil : DnAll H [] []
  | cons {v : V} {vs : List V} {d : PyData} {ds : List PyData} : Dn H v d → DnAll H vs ds → DnAll H (v :: vs) (d :: ds)
end
mutual
/-- it stands where all tuples stand -/
theorem Dn.keep {H H' : Hp} (s : ∀ a xs, H a = some (.tup xs) → H' a = some (.tup xs)) : ∀ {v : V} {d : PyData}, Dn H v d → Dn H' v d
  | _, _, .non => .non
  | _, _, .bl b => .bl b
  | _, _, .int i => .int i
  | _, _, .str x => .str x
  | _, _, .tup e h => .tup (s _ _ e) (DnAll.keep s h)
theorem DnAll.keep {H H' : Hp} (s : ∀ a xs, H a = some (.tup xs) → H' a = some (.tup xs)) : ∀ {vs : List V} {ds : List PyData}, DnAll H vs ds → DnAll H' vs ds
  | _, _, .nil => .nil
  | _, _, .cons h t => .cons (Dn.keep s h) (DnAll.keep s t)
end
mutual
theorem Dn.dt {H : Hp} : ∀ {v : V} {d : PyData}, Dn H v d → Dt H v d
  | _, _, .non => .non
  | _, _, .bl b => .bl b
  | _, _, .int i => .int i
  | _, _, .str x => .str x
  | _, _, .tup e h => .tup e (DnAll.dt h)
theorem DnAll.dt {H : Hp} : ∀ {vs : List V} {ds : List PyData}, DnAll H vs ds → DtAll H vs ds
  | _, _, .nil => .nil
  | _, _, .cons h t => .cons (Dn.dt h) (DnAll.dt t)
end
theorem Dn.mono {H H' : Hp} (s : Same H H') {v : V} {d : PyData} (h : Dn H v d) : Dn H' v d := h.keep fun a xs e => s a _ e
theorem DnAll.mono {H H' : Hp} (s : Same H H') {v : List V} {d : List PyData} (h : DnAll H v d) : DnAll H' v d := h.keep fun a xs e => s a _ e
theorem keep_lst {H : Hp} {t : Addr} {xs ys : List V} (e : H t = some (.lst xs)) : ∀ a zs, H a = some (.tup zs) → upd H t (.lst ys) a = some (.tup zs) := fun a zs ea => by
  rw [upd_ne (fun q => by rw [q, e] at ea; cases ea)]
  exact ea
theorem DnAll.updL {H : Hp} {t : Addr} {xs ys : List V} (e : H t = some (.lst xs)) {vs : List V} {ds : List PyData} (h : DnAll H vs ds) : DnAll (upd H t (.lst ys)) vs ds := h.keep (keep_lst e)
theorem Dn.updL {H : Hp} {t : Addr} {xs ys : List V} (e : H t = some (.lst xs)) {v : V} {d : PyData} (h : Dn H v d) : Dn (upd H t (.lst ys)) v d := h.keep (keep_lst e)
theorem DnAll.append {H : Hp} : ∀ {vs ws : List V} {ds es : List PyData}, DnAll H vs ds → DnAll H ws es → DnAll H (vs ++ ws) (ds ++ es)
  | _, _, _, _, .nil, s => s
  | _, _, _, _, .cons h t, s => .cons h (DnAll.append t s)
theorem DnAll.length {H : Hp} : ∀ {vs : List V} {ds : List PyData}, DnAll H vs ds → vs.length = ds.length
  | _, _, .nil => rfl
  | _, _, .cons _ t => by rw [List.length_cons, List.length_cons, DnAll.length t]
theorem DnAll.intsD {H : Hp} : ∀ (ns : List Int), DnAll H (ns.map V.int) (Sl.intsD ns)
  | [] => .nil
  | n :: ns => .cons (.int n) (DnAll.intsD ns)
def triD (q : Int × Int × Int) : PyData := .tuple [.int q.1, .int q.2.1, .int q.2.2]
def pairD (q : Int × Int) : PyData := .tuple [.int q.1, .int q.2]
theorem Dn.tri {H : Hp} {t : Addr} {a b c : Int} (e : H t = some (.tup [.int a, .int b, .int c])) : Dn H (.ref t) (triD (a, b, c)) := .tup e (.cons (.int _) (.cons (.int _) (.cons (.int _) .nil)))
theorem Dn.pair {H : Hp} {t : Addr} {q : Int × Int} (e : H t = some (.tup [.int q.1, .int q.2])) : Dn H (.ref t) (pairD q) := .tup e (.cons (.int _) (.cons (.int _) .nil))
theorem Dt.tri_inv {H : Hp} {v : V} {q : Int × Int × Int} (h : Dt H v (triD q)) : ∃ t, v = .ref t ∧ H t = some (.tup [.int q.1, .int q.2.1, .int q.2.2]) := by
  unfold triD at h
  cases h with
  | tup e h =>
    cases h with
    | cons h1 h2 =>
      cases h1
      cases h2 with
      | cons h1 h2 =>
        cases h1
        cases h2 with
        | cons h1 h2 =>
          cases h1
          cases h2
          exact ⟨_, rfl, e⟩
/-! ### shapes, equality -/
theorem lay_map {α : Type} {f : α → PyData} (h : ∀ x, (f x).canLay0 = true) : ∀ l : List α, PyData.canLayAll0 (l.map f) = true
  | [] => by simp [PyData.canLayAll0]
  | x :: l => by simp [PyData.canLayAll0, h x, lay_map h l]
theorem depth_map {α : Type} {f : α → PyData} {n : Nat} (h : ∀ x, (f x).depth ≤ n) : ∀ l : List α, PyData.depthAll (l.map f) ≤ n
  | [] => by simp [PyData.depthAll]
  | x :: l => by simp only [List.map_cons, PyData.depthAll]; have := h x; have := depth_map h l; omega
theorem shaped_listMap {α : Type} {f : α → PyData} (h : ∀ x, (f x).canLay0 = true) (hd : ∀ x, (f x).depth ≤ 60) (l : List α) : SeqAt.shaped (.list (l.map f)) = true := by
  have := depth_map hd l
  refine Bool.and_eq_true_iff.mpr ⟨by simp only [PyData.canLay0]; exact lay_map h l, decide_eq_true ?_⟩
  simp only [PyData.depth]
  omega
theorem shaped_tupMap {α : Type} {f : α → PyData} (h : ∀ x, (f x).canLay0 = true) (hd : ∀ x, (f x).depth ≤ 60) (l : List α) : SeqAt.shaped (.tuple (l.map f)) = true := by
  have := depth_map hd l
  refine Bool.and_eq_true_iff.mpr ⟨by simp only [PyData.canLay0]; exact lay_map h l, decide_eq_true ?_⟩
  simp only [PyData.depth]
  omega
theorem shaped_ints (ns : List Int) : SeqAt.shaped (.list (intsD ns)) = true := shaped_listMap (fun _ => by simp [PyData.canLay0]) (fun _ => by simp [PyData.depth]) ns
theorem shaped_tris (l : List (Int × Int × Int)) : SeqAt.shaped (.list (l.map triD)) = true := shaped_listMap (fun _ => by simp [triD, PyData.canLay0, PyData.canLayAll0]) (fun _ => by simp [triD, PyData.depth, PyData.depthAll]) l
theorem shaped_pair (q : Int × Int) : SeqAt.shaped (pairD q) = true := by simp [SeqAt.shaped, pairD, PyData.canLay0, PyData.canLayAll0, PyData.depth, PyData.depthAll]
theorem shaped_pairsT (l : List (Int × Int)) : SeqAt.shaped (.tuple (l.map pairD)) = true := shaped_tupMap (fun _ => by simp [pairD, PyData.canLay0, PyData.canLayAll0]) (fun _ => by simp [pairD, PyData.depth, PyData.depthAll]) l
theorem eqv_self {d : PyData} (h : SeqAt.shaped d = true) : PyData.eqv d d = true := SeqAt.eqv_refl d (SeqAt.canLay_of_shaped h)
theorem eqv_nil (l : List PyData) : PyData.eqv (.list l) (.list []) = decide (l = []) := by
  cases l with
  | nil => simp [PyData.eqv, PyData.eqvAll]
  | cons x l => simp [PyData.eqv, PyData.eqvAll]
/-! ### isinstance against (list, tuple) -/
section
variable {H : Hp} {Q : VK} {K : PySem.W.Frag}
theorem kit_ll : PySem.W.kitAny K (.type "list") [.type "list", .type "tuple"] = some true := kitAny_cons (b := true) (kit_ty (by decide +kernel)) (fun h => nomatch h) (fun _ => rfl)
theorem kit_tt : PySem.W.kitAny K (.type "tuple") [.type "list", .type "tuple"] = some true := kitAny_cons (b := false) (kit_ty (by decide +kernel)) (fun _ => kitAny_cons (b := true) (kit_ty (by decide +kernel)) (fun h => nomatch h) (fun _ => rfl)) (fun h => nomatch h)
theorem rd_isiTL {a u : Addr} {xs : List V} (e : H a = some (.lst xs)) (eu : H u = some (.tup [.ty "list", .ty "tuple"])) (h : Q (.bl true) H) : rIsiT K [.ref a, .ref u] H Q :=
  ⟨_, u, _, _, [.type "list", .type "tuple"], true, rfl, eu, .cons (.ty _) (.cons (.ty _) .nil), .base (.lst e), kit_ll, h⟩
theorem rd_isiTT {a u : Addr} {xs : List V} (e : H a = some (.tup xs)) (eu : H u = some (.tup [.ty "list", .ty "tuple"])) (h : Q (.bl true) H) : rIsiT K [.ref a, .ref u] H Q :=
  ⟨_, u, _, _, [.type "list", .type "tuple"], true, rfl, eu, .cons (.ty _) (.cons (.ty _) .nil), .base (.tup e), kit_tt, h⟩
/-- a conditional expression of two plain values -/
theorem rd_iteV {p : Prop} [Decidable p] {σ : L2.St} {ta tb : TE} {v : V} (h1 : p → ∀ Q' : VK, Q' v H → ta σ H Q') (h2 : ¬ p → ∀ Q' : VK, Q' v H → tb σ H Q') (h : Q v H) : if decide p = true then ta σ H Q else tb σ H Q := by
  by_cases c : p
  · rw [if_pos (decide_eq_true c)]; exact h1 c Q h
  · rw [if_neg (by rw [decide_eq_false c]; exact Bool.false_ne_true)]; exact h2 c Q h
end
end Sl
set_option Elab.async false
set_option linter.all false
set_option maxRecDepth 100000
set_option maxHeartbeats 8000000
set_option exponentiation.threshold 9000
namespace Sl
open PySem L2 C8 StX Silt
local macro_rules | `(tactic| walk_at "side") => `(tactic| first
  | exact cdivw (by omega) (by omega)
  | exact cmulw (by omega) (by omega) (by omega) (by omega)
  | exact Or.inr ⟨by omega, by omega⟩
  | exact Or.inl ⟨by omega, by omega⟩
  | omega
  | exact ⟨by omega, by omega, by decide⟩
  | decide)
local macro_rules | `(tactic| walk_at "rd1") => `(tactic| first
  | with_reducible refine rd_seq ?_
  | with_reducible refine rd_asg ?_
  | with_reducible refine rd_drop ?_
  | with_reducible refine rd_ret ?_
  | with_reducible refine rd_retN ?_
  | with_reducible refine rd_ifS ?_
  | ((with_reducible refine rd_var0 ?_); refine ⟨_, rfl, ?_⟩)
  | with_reducible refine rd_c ?_
  | with_reducible refine rd_op ?_
  | with_reducible refine rd_un ?_
  | with_reducible refine rd_I0 ?_
  | with_reducible refine rd_U ?_
  | ((with_reducible refine rd_I ?c ?_); (case c => walk_at "side"))
  | with_reducible refine rd_ipI ?_
  | with_reducible refine rd_eqI ?_
  | with_reducible refine rd_neI ?_
  | with_reducible refine rd_test ?_
  | with_reducible refine rd_tB ?_
  | with_reducible refine rd_bl ?_
  | with_reducible refine rd_not ?_
  | with_reducible refine rd_and ?_
  | with_reducible refine rd_or ?_
  | with_reducible refine rd_andV ?_
  | with_reducible refine rd_orV ?_
  | with_reducible refine rd_notV ?_
  | with_reducible refine rd_ifE ?_
  | with_reducible refine rd_chain ?_
  | with_reducible refine rd_chain3 ?_
  | with_reducible refine rd_nil ?_
  | with_reducible refine rd_cons ?_
  | with_reducible refine rd_call ?_
  | with_reducible refine rd_CB ?_
  | with_reducible refine rd_par ?_
  | with_reducible refine rd_par2 ?_
  | with_reducible refine rd_par3 ?_
  | with_reducible refine rd_par4 ?_
  | ((with_reducible refine rd_aug0 ?_); refine ⟨_, rfl, ?_⟩)
  | with_reducible refine rd_gname ?_
  | with_reducible refine rd_gcons ?_
  | with_reducible refine rd_gnil ?_
  | with_reducible refine rd_max ?_
  | with_reducible refine rd_min ?_
  | with_reducible refine rd_int1 ?_
  | with_reducible refine rd_abs ?_
  | with_reducible refine rd_lst ?_
  | with_reducible refine rd_tup ?_
  | with_reducible refine rd_bm ?_
  | with_reducible refine rd_fld0 ?_
  | with_reducible refine rd_sl0 ?_
  | with_reducible refine rd_noP ?_
  | with_reducible refine rd_part ?_
  | with_reducible refine rd_part2 ?_
  | with_reducible refine rd_meth0 ?_
  | with_reducible refine rd_star ?_
  | with_reducible refine rd_for ?_
  | with_reducible refine rd_rng1 ?_
  | with_reducible refine rd_rng2 ?_
  | with_reducible refine rd_rng3 ?_
  | with_reducible refine rd_iList ?_
  | with_reducible refine rd_iTup ?_
  | with_reducible refine rd_iEnum ?_
  | with_reducible refine rd_lc ?_
  | with_reducible refine rd_yes ?_
  | with_reducible refine rd_augS ?_
  | with_reducible refine rd_drawNew ?_
  | with_reducible refine rd_make0 ?_
  | with_reducible refine rd_next ?_
  | with_reducible refine rd_break ?_
  | with_reducible refine rd_cont ?_
  | with_reducible refine rd_iteTT ?_
  | with_reducible refine rd_iteFF ?_
  | with_reducible refine rd_iteNTT ?_
  | with_reducible refine rd_iteNFF ?_
  | with_reducible refine rd_con0 ?_
  | with_reducible refine rd_truO0 ?_
  | with_reducible refine rd_gfld0 ?_
  | with_reducible refine rd_dc ?_
  | with_reducible refine rd_iKeys ?_
  | with_reducible refine rd_dget0 ?_
  | with_reducible refine rd_dput0 ?_
  | with_reducible refine rd_dnot0 ?_
  | with_reducible refine rd_iEnumT ?_
  | with_reducible refine rd_raP0 ?_
  | with_reducible refine rd_xf0 ?_
  | with_reducible refine rd_cKw ?_
  | with_reducible refine rd_iStr ?_
  | with_reducible refine rd_gSub ?_
  | with_reducible refine rd_asgG ?_)
local macro_rules | `(tactic| walk_at "rd") => `(tactic| repeat walk_at "rd1")
local macro_rules | `(tactic| walk_at "len") => `(tactic| first
  | (intro vs H Q E h; obtain ⟨h2, _⟩ := h; rw [h2]; rfl)
  | (intro vs H Q E h; obtain ⟨_, h2, _⟩ := h; rw [h2]; rfl)
  | (intro vs H Q E h; obtain ⟨_, _, h2, _⟩ := h; rw [h2]; rfl)
  | (intro vs H Q E h; obtain ⟨_, _, _, h2, _⟩ := h; rw [h2]; rfl)
  | (intro vs H Q E h; obtain ⟨_, _, _, _, h2, _⟩ := h; rw [h2]; rfl)
  | (intro vs H Q E h; obtain ⟨_, _, _, _, _, h2, _⟩ := h; rw [h2]; rfl)
  | (intro vs H Q E h; obtain ⟨_, _, _, _, _, _, h2, _⟩ := h; rw [h2]; rfl)
  | (intro vs H Q E h; obtain ⟨_, _, _, _, _, _, _, h2, _⟩ := h; rw [h2]; rfl)
  | (intro vs H Q E h; obtain ⟨_, _, _, _, _, _, _, _, h2, _⟩ := h; rw [h2]; rfl)
  | (intro vs H Q E h; obtain ⟨_, _, _, _, _, _, _, _, _, h2, _⟩ := h; rw [h2]; rfl)
  | (intro vs H Q E h; obtain ⟨_, _, _, _, _, _, _, _, _, _, h2, _⟩ := h; rw [h2]; rfl)
  | (intro vs H Q E h; obtain ⟨_, _, _, _, _, _, _, _, _, _, _, h2, _⟩ := h; rw [h2]; rfl)
  | (intro vs H Q E h; obtain ⟨_, _, _, _, _, _, _, _, _, _, _, _, h2, _⟩ := h; rw [h2]; rfl))
theorem atI_nat' {α : Type} {xs : List α} {i : Nat} {x : α} (h : xs[i]? = some x) : atI xs (i : Int) = some x := atI_nat h
theorem none_back {H H' : Hp} {a : Addr} (s : Same H H') (h : H' a = none) : H a = none := by
  cases z : H a with
  | none => rfl
  | some o => rw [s _ _ z] at h; cases h
theorem refs_get {rs : List Addr} {j : Nat} {x : V} (hx : (rs.map V.ref)[j]? = some x) : ∃ r, rs[j]? = some r ∧ V.ref r = x := by
  rw [List.getElem?_map] at hx
  cases z : rs[j]? with
  | none => rw [z] at hx; cases hx
  | some r => rw [z] at hx; exact ⟨r, rfl, Option.some.inj hx⟩
/-- references to pairs of ints, one for each -/
def IvP (H : Hp) (xs : List V) (rs : List Iv) : Prop := xs.length = rs.length ∧ ∀ (i : Nat) r, rs[i]? = some r → ∃ t, xs[i]? = some (V.ref t) ∧ H t = some (.tup [.int r.1, .int r.2])
theorem IvP.keep {H H' : Hp} {xs : List V} {rs : List Iv} (s : ∀ a ys, H a = some (.tup ys) → H' a = some (.tup ys)) (h : IvP H xs rs) : IvP H' xs rs :=
  ⟨h.1, fun i r hr => by obtain ⟨t, h1, h2⟩ := h.2 i r hr; exact ⟨t, h1, s _ _ h2⟩⟩
theorem IvP.mono {H H' : Hp} {xs : List V} {rs : List Iv} (s : Same H H') (h : IvP H xs rs) : IvP H' xs rs := h.keep fun a ys e => s _ _ e
theorem IvP.updL {H : Hp} {a : Addr} {ys : List V} {o : HO} {xs : List V} {rs : List Iv} (e : H a = some (.lst ys)) (h : IvP H xs rs) : IvP (upd H a o) xs rs := h.keep fun b zs e2 => by
  rw [upd_ne (fun z => by rw [z, e] at e2; cases e2)]
  exact e2
theorem IvP.nil {H : Hp} : IvP H [] [] := ⟨rfl, fun i r h => by simp at h⟩
theorem IvP.snoc {H : Hp} {xs : List V} {rs : List Iv} {t : Addr} {r : Iv} (h : IvP H xs rs) (e : H t = some (.tup [.int r.1, .int r.2])) : IvP H (xs ++ [.ref t]) (rs ++ [r]) := by
  refine ⟨by rw [List.length_append, List.length_append, h.1]; rfl, fun i q hq => ?_⟩
  rcases Nat.lt_or_ge i rs.length with z | z
  · rw [List.getElem?_append_left z] at hq
    obtain ⟨u, h1, h2⟩ := h.2 i q hq
    exact ⟨u, by rw [List.getElem?_append_left (by rw [h.1]; exact z)]; exact h1, h2⟩
  · rw [List.getElem?_append_right z] at hq
    have : i = rs.length := by
      have := (List.getElem?_eq_some_iff.mp hq).1
      simp at this
      omega
    subst this
    rw [Nat.sub_self] at hq
    have hq : r = q := by simpa using hq
    subst hq
    exact ⟨t, by rw [List.getElem?_append_right (by rw [h.1]; exact Nat.le_refl _), h.1, Nat.sub_self]; rfl, e⟩
theorem IvP.init {H : Hp} {xs : List V} {x : V} {rs : List Iv} {r : Iv} (h : IvP H (xs ++ [x]) (rs ++ [r])) : IvP H xs rs ∧ ∃ t, x = .ref t ∧ H t = some (.tup [.int r.1, .int r.2]) := by
  have hl : xs.length = rs.length := by have := h.1; simpa using this
  refine ⟨⟨hl, fun i q hq => ?_⟩, ?_⟩
  · have hi := (List.getElem?_eq_some_iff.mp hq).1
    obtain ⟨t, h1, h2⟩ := h.2 i q (by rw [List.getElem?_append_left hi]; exact hq)
    rw [List.getElem?_append_left (by omega)] at h1
    exact ⟨t, h1, h2⟩
  · obtain ⟨t, h1, h2⟩ := h.2 rs.length r (by simp)
    rw [List.getElem?_append_right (by omega), hl, Nat.sub_self] at h1
    exact ⟨t, by simpa using h1, h2⟩
theorem IvP.app {H : Hp} : ∀ {ts : List Iv} {ys xs : List V} {rs : List Iv}, IvP H xs rs → IvP H ys ts → IvP H (xs ++ ys) (rs ++ ts)
  | ts, ys, xs, rs, h1, h2 => by
    refine ⟨by rw [List.length_append, List.length_append, h1.1, h2.1], fun i q hq => ?_⟩
    rcases Nat.lt_or_ge i rs.length with z | z
    · rw [List.getElem?_append_left z] at hq
      obtain ⟨u, e1, e2⟩ := h1.2 i q hq
      exact ⟨u, by rw [List.getElem?_append_left (by rw [h1.1]; exact z)]; exact e1, e2⟩
    · rw [List.getElem?_append_right z] at hq
      obtain ⟨u, e1, e2⟩ := h2.2 _ q hq
      exact ⟨u, by rw [List.getElem?_append_right (by rw [h1.1]; exact z), h1.1]; exact e1, e2⟩
theorem IvP.getV {H : Hp} {xs : List V} {rs : List Iv} {i : Nat} {x : V} (h : IvP H xs rs) (hx : xs[i]? = some x) : ∃ r t, rs[i]? = some r ∧ x = .ref t ∧ H t = some (.tup [.int r.1, .int r.2]) := by
  have hi : i < rs.length := by rw [← h.1]; exact (List.getElem?_eq_some_iff.mp hx).1
  obtain ⟨t, h1, h2⟩ := h.2 i _ (List.getElem?_eq_getElem hi)
  rw [hx] at h1
  cases h1
  exact ⟨_, t, List.getElem?_eq_getElem hi, rfl, h2⟩
/-- a plain value -/
def Sc (v : V) : Prop := (tyS v).isSome = true
def wholeB : V → Bool
  | .int _ => true
  | _ => false
def keyB : V → Bool
  | .int i => decide (0 ≤ i ∧ i ≤ 999999)
  | _ => false
def sgB (c : Nat) : Bool := decide (97 ≤ c ∧ c ≤ 122) || decide (48 ≤ c ∧ c ≤ 57)
def valB : V → Bool
  | .str z => decide (1 ≤ z.length ∧ z.length ≤ 12) && z.cps.toList.all sgB
  | _ => false
def rgB : List V → Bool
  | [.int i, .int j] => decide (0 ≤ i ∧ i ≤ j ∧ j ≤ 999999)
  | _ => false
def spIsW : Sp := fun vs H Q _ => ∃ v, vs = [v] ∧ Sc v ∧ Q (.bl (wholeB v)) H
def spIsKey : Sp := fun vs H Q _ => ∃ v, vs = [v] ∧ Sc v ∧ Q (.bl (keyB v)) H
def spChkK : Sp := fun vs H Q _ => ∃ v, vs = [v] ∧ keyB v = true ∧ Q .non H
def spChkKX (C : Addr) : Sp := fun vs H Q E => ∃ v, vs = [v] ∧ Sc v ∧ (keyB v = true → Q .non H) ∧ (keyB v = false → E (.ref C) none H)
def spIsVal : Sp := fun vs H Q _ => ∃ v, vs = [v] ∧ Sc v ∧ (∀ z, v = .str z → z.length ≤ 1000) ∧ ∀ H', Same H H' → Q (.bl (valB v)) H'
def spIsRng : Sp := fun vs H Q _ => ∃ (t : Addr), vs = [.ref t] ∧ ((∃ ws, H t = some (.tup ws) ∧ ws.length ≤ 9 ∧ (∀ w ∈ ws, Sc w) ∧ ∀ H', Same H H' → Q (.bl (rgB ws)) H') ∨ ∃ xs, H t = some (.lst xs) ∧ Q (.bl false) H)
theorem sc_cases {v : V} (h : Sc v) : (∃ i, v = .int i) ∨ (∃ b, v = .bl b) ∨ (∃ z, v = .str z) ∨ v = .non := by
  cases v <;> first | exact .inl ⟨_, rfl⟩ | exact .inr (.inl ⟨_, rfl⟩) | exact .inr (.inr (.inl ⟨_, rfl⟩)) | exact .inr (.inr (.inr rfl)) | cases h
theorem keyB_sc {v : V} (h : keyB v = true) : ∃ i, v = .int i ∧ 0 ≤ i ∧ i ≤ 999999 := by
  cases v <;> first | (exact ⟨_, rfl, of_decide_eq_true h⟩) | cases h
theorem len_cps (z : Str) : z.length = z.cps.toList.length := by
  show z.cps.size = _
  simp
/-- one sign against another -/
theorem sgn_le (c d : Nat) : (!decide (([d] : List Nat) < [c])) = decide (c ≤ d) := by
  by_cases h : c ≤ d
  · rw [decide_eq_true h, decide_eq_false (by rw [List.cons_lt_cons_iff]; simp; omega)]
    rfl
  · rw [decide_eq_false h, decide_eq_true (by rw [List.cons_lt_cons_iff]; omega)]
    rfl
theorem rd_leC {H : Hp} {Q : VK} {i j : Str} {c d : Nat} (e1 : i.cps.toList = [c]) (e2 : j.cps.toList = [d]) (h : Q (.bl (decide (c ≤ d))) H) : rLeS (.str i) (.str j) H Q := by
  refine rd_leS ?_
  rw [e1, e2, sgn_le]
  exact h
theorem all_take {α : Type} {f : α → Bool} {l : List α} {D : Addr} {H : Hp} (e : H D = some (.lst ((l.map f).map V.bl))) {Q : VK} {K : PySem.W.Frag} (h : Q (.bl (l.all f)) H) : rAll K [.ref D] H Q := by
  refine ⟨D, l.map f, rfl, SqL.of e, ?_⟩
  rw [List.all_map]
  exact h
theorem rgB_keys {w1 w2 : V} (h : rgB [w1, w2] = true) : keyB w1 = true ∧ keyB w2 = true := by
  cases w1 <;> first | cases h | skip
  cases w2 <;> first | cases h | skip
  have h := of_decide_eq_true h
  exact ⟨decide_eq_true ⟨h.1, by omega⟩, decide_eq_true ⟨by omega, h.2.2⟩⟩
section
variable {P : Program} {w : World} {K : PySem.W.Frag} {mg : Str → Option Value} {base : Heap} {C_Sheet C_BadSheet C_BadKey D_Sheet_0 D_Sheet_1 : Addr}
theorem cal_is_whole (T : TX K mg C_Sheet C_BadSheet C_BadKey D_Sheet_0 D_Sheet_1) : Cal P w K mg base 1 "is_whole" spIsW [] := by
  obtain ⟨f0, fd, D, dn⟩ := T.d_is_whole
  refine cal0 D (D.fn.binds dn fun _ _ _ _ _ _ us hl => match us, hl with | [_], _ => rfl) .nil sc_is_whole (by walk_at "len") (fun cdv A outer s H vs Q E hr h => ?_)
  obtain ⟨v, rfl, h, k⟩ := h
  rcases sc_cases h with ⟨i, rfl⟩ | ⟨b, rfl⟩ | ⟨z, rfl⟩ | rfl
  · refine ⟨_, (pss_one (ps_ret (pe_and (pe_callB call_isi (by rfl) T.b_isinstance (by decide +kernel) (pa_cons (pv 0) (pa_cons (pe_bltn (v := .ty "int") (u := .type "int") rfl T.b_int (by decide +kernel) rfl) pa_nil))) (pe_one (pe_not (pe_callB call_isi (by rfl) T.b_isinstance (by decide +kernel) (pa_cons (pv 0) (pa_cons (pe_bltn (v := .ty "bool") (u := .type "bool") rfl T.b_bool (by decide +kernel) rfl) pa_nil)))))))), ?_⟩
    walk_at "rd"
    refine rd_isiS rfl (r := true) (by decide +kernel) ?_
    walk_at "rd"
    refine rd_isiS rfl (r := false) (by decide +kernel) ?_
    walk_at "rd"
    exact k
  · refine ⟨_, (pss_one (ps_ret (pe_and (pe_callB call_isi (by rfl) T.b_isinstance (by decide +kernel) (pa_cons (pv 0) (pa_cons (pe_bltn (v := .ty "int") (u := .type "int") rfl T.b_int (by decide +kernel) rfl) pa_nil))) (pe_one (pe_not (pe_callB call_isi (by rfl) T.b_isinstance (by decide +kernel) (pa_cons (pv 0) (pa_cons (pe_bltn (v := .ty "bool") (u := .type "bool") rfl T.b_bool (by decide +kernel) rfl) pa_nil)))))))), ?_⟩
    walk_at "rd"
    refine rd_isiS rfl (r := true) (by decide +kernel) ?_
    walk_at "rd"
    refine rd_isiS rfl (r := true) (by decide +kernel) ?_
    walk_at "rd"
    exact k
  · refine ⟨_, (pss_one (ps_ret (pe_and (pe_callB call_isi (by rfl) T.b_isinstance (by decide +kernel) (pa_cons (pv 0) (pa_cons (pe_bltn (v := .ty "int") (u := .type "int") rfl T.b_int (by decide +kernel) rfl) pa_nil))) (pe_one (pe_not (pe_callB call_isi (by rfl) T.b_isinstance (by decide +kernel) (pa_cons (pv 0) (pa_cons (pe_bltn (v := .ty "bool") (u := .type "bool") rfl T.b_bool (by decide +kernel) rfl) pa_nil)))))))), ?_⟩
    walk_at "rd"
    refine rd_isiS rfl (r := false) (by decide +kernel) ?_
    walk_at "rd"
    exact k
  · refine ⟨_, (pss_one (ps_ret (pe_and (pe_callB call_isi (by rfl) T.b_isinstance (by decide +kernel) (pa_cons (pv 0) (pa_cons (pe_bltn (v := .ty "int") (u := .type "int") rfl T.b_int (by decide +kernel) rfl) pa_nil))) (pe_one (pe_not (pe_callB call_isi (by rfl) T.b_isinstance (by decide +kernel) (pa_cons (pv 0) (pa_cons (pe_bltn (v := .ty "bool") (u := .type "bool") rfl T.b_bool (by decide +kernel) rfl) pa_nil)))))))), ?_⟩
    walk_at "rd"
    refine rd_isiS rfl (r := false) (by decide +kernel) ?_
    walk_at "rd"
    exact k
theorem cal_is_key (T : TX K mg C_Sheet C_BadSheet C_BadKey D_Sheet_0 D_Sheet_1) : Cal P w K mg base 2 "is_key" spIsKey [] := by
  obtain ⟨f0, fd, D, dn⟩ := T.d_is_key
  have G_is_whole := cal_is_whole (P := P) (w := w) (base := base) T
  refine cal0 D (D.fn.binds dn fun _ _ _ _ _ _ us hl => match us, hl with | [_], _ => rfl) .nil sc_is_key (by walk_at "len") (fun cdv A outer s H vs Q E hr h => ?_)
  obtain ⟨v, rfl, h, k⟩ := h
  refine ⟨_, (pss_one (ps_ret (pe_and (pe_c G_is_whole hr (by decide) rfl (pa_cons (pv 0) pa_nil)) (pe_one (pe_chain op_le op_le pe_int (pv 0) (pe_gc rfl T.g_MOST_KEY)))))), ?_⟩
  walk_at "rd"
  refine ⟨v, rfl, h, ?_⟩
  rcases sc_cases h with ⟨i, rfl⟩ | ⟨b, rfl⟩ | ⟨z, rfl⟩ | rfl
  · have k : Q (.bl (decide (0 ≤ i ∧ i ≤ 999999))) H := k
    refine ⟨true, rfl, ?_⟩
    walk_at "rd"
    refine rd_ite (fun c => ?_) (fun c => ?_)
    · walk_at "rd"
      rw [show decide (0 ≤ i ∧ i ≤ 999999) = decide (i ≤ 999999) from by by_cases z : i ≤ 999999 <;> simp [c, z]] at k
      exact k
    · rw [decide_eq_false (fun z => c z.1)] at k
      exact k
  all_goals
    refine ⟨false, rfl, ?_⟩
    walk_at "rd"
    exact k
theorem cal_check_key (T : TX K mg C_Sheet C_BadSheet C_BadKey D_Sheet_0 D_Sheet_1) : Cal P w K mg base 3 "check_key" spChkK [] := by
  obtain ⟨f0, fd, D, dn⟩ := T.d_check_key
  have G_is_key := cal_is_key (P := P) (w := w) (base := base) T
  refine cal0 D (D.fn.binds dn fun _ _ _ _ _ _ us hl => match us, hl with | [_], _ => rfl) .nil sc_check_key (by walk_at "len") (fun cdv A outer s H vs Q E hr h => ?_)
  obtain ⟨v, rfl, hv, k⟩ := h
  obtain ⟨i, rfl, _⟩ := keyB_sc hv
  refine ⟨_, (pss_one (ps_if (pt_not (pt_val (pe_c G_is_key hr (by decide) rfl (pa_cons (pv 0) pa_nil)))) (pss_one ps_never) pss_nil)), ?_⟩
  walk_at "rd"
  refine ⟨_, rfl, rfl, ?_⟩
  rw [hv]
  walk_at "rd"
  exact k
theorem xal_check_key (T : TX K mg C_Sheet C_BadSheet C_BadKey D_Sheet_0 D_Sheet_1) : CalX P w K mg base 3 "check_key" (spChkKX C_BadKey) [] := by
  obtain ⟨f0, fd, D, dn⟩ := T.d_check_key
  have G_is_key := cal_is_key (P := P) (w := w) (base := base) T
  refine calX0 D (D.fn.binds dn fun _ _ _ _ _ _ us hl => match us, hl with | [_], _ => rfl) .nil sc_check_key (by walk_at "len") (fun cdv A outer s H vs Q E hr h => ?_)
  obtain ⟨v, rfl, hv, k1, k2⟩ := h
  refine ⟨_, (pss_one (ps_if (pt_not (pt_val (pe_c G_is_key hr (by decide) rfl (pa_cons (pv 0) pa_nil)))) (pss_one (ps_raiseO rfl (takes_of rfl rfl rfl rfl) T.x_BadKey T.mg_BadKey rfl)) pss_nil)), ?_⟩
  walk_at "rd"
  refine ⟨_, rfl, hv, ?_⟩
  cases e : keyB v
  · walk_at "rd"
    exact rd_raise (k2 e)
  · walk_at "rd"
    exact k1 e
theorem cal_is_value (T : TX K mg C_Sheet C_BadSheet C_BadKey D_Sheet_0 D_Sheet_1) : Cal P w K mg base 1 "is_value" spIsVal [] := by
  obtain ⟨f0, fd, D, dn⟩ := T.d_is_value
  refine cal0 D (D.fn.binds dn fun _ _ _ _ _ _ us hl => match us, hl with | [_], _ => rfl) .nil sc_is_value (by walk_at "len") (fun cdv A outer s H vs Q E hr h => ?_)
  obtain ⟨v, rfl, hv, hz, k⟩ := h
  rcases sc_cases hv with ⟨i, rfl⟩ | ⟨b, rfl⟩ | ⟨z, rfl⟩ | rfl
  · refine ⟨_, (pss_cons (ps_if (PW.pt (pw_or (pt_not (pt_val (pe_callB call_isi (by rfl) T.b_isinstance (by decide +kernel) (pa_cons (pv 0) (pa_cons (pe_bltn (v := .ty "str") (u := .type "str") rfl T.b_str (by decide +kernel) rfl) pa_nil))))) (pw_or1 (pt_not (pt_chain op_le op_le pe_int (pe_callB cr_lenTx (by rfl) T.b_len (by decide +kernel) (pa_cons (pv 0) pa_nil)) (pe_gc rfl T.g_MOST_SIGNS)))))) (pss_one (ps_ret pe_bl)) pss_nil)
      (pss_one (ps_ret (pe_callB (cr_all rfl) (by rfl) T.b_all (by decide +kernel) (pa_cons (pe_lc (own := [("sign", 1)]) (g := gName 1) (tt := tYes) rfl sc_is_value.nd (pi_str (pv 0)) (blkOk_by (own := [("sign", 1)]) (N := N_is_value) (sc := fnScope s_is_value) (by decide +kernel)) (fun _ _ _ _ _ => (pg_n 1 sc_is_value.nd)) (fun _ _ _ _ _ => pts_nil) (fun _ _ _ _ _ => (pe_or (pe_chain op_leS op_leS pe_str (pv 1) pe_str) (pe_one (pe_chain op_leS op_leS pe_str (pv 1) pe_str))))) pa_nil))))), ?_⟩
    walk_at "rd"
    refine rd_isiS rfl (r := false) (by decide +kernel) ?_
    walk_at "rd"
    exact k H (Same.refl H)
  · refine ⟨_, (pss_cons (ps_if (PW.pt (pw_or (pt_not (pt_val (pe_callB call_isi (by rfl) T.b_isinstance (by decide +kernel) (pa_cons (pv 0) (pa_cons (pe_bltn (v := .ty "str") (u := .type "str") rfl T.b_str (by decide +kernel) rfl) pa_nil))))) (pw_or1 (pt_not (pt_chain op_le op_le pe_int (pe_callB cr_lenTx (by rfl) T.b_len (by decide +kernel) (pa_cons (pv 0) pa_nil)) (pe_gc rfl T.g_MOST_SIGNS)))))) (pss_one (ps_ret pe_bl)) pss_nil)
      (pss_one (ps_ret (pe_callB (cr_all rfl) (by rfl) T.b_all (by decide +kernel) (pa_cons (pe_lc (own := [("sign", 1)]) (g := gName 1) (tt := tYes) rfl sc_is_value.nd (pi_str (pv 0)) (blkOk_by (own := [("sign", 1)]) (N := N_is_value) (sc := fnScope s_is_value) (by decide +kernel)) (fun _ _ _ _ _ => (pg_n 1 sc_is_value.nd)) (fun _ _ _ _ _ => pts_nil) (fun _ _ _ _ _ => (pe_or (pe_chain op_leS op_leS pe_str (pv 1) pe_str) (pe_one (pe_chain op_leS op_leS pe_str (pv 1) pe_str))))) pa_nil))))), ?_⟩
    walk_at "rd"
    refine rd_isiS rfl (r := false) (by decide +kernel) ?_
    walk_at "rd"
    exact k H (Same.refl H)
  · refine ⟨_, (pss_cons (ps_if (PW.pt (pw_or (pt_not (pt_val (pe_callB call_isi (by rfl) T.b_isinstance (by decide +kernel) (pa_cons (pv 0) (pa_cons (pe_bltn (v := .ty "str") (u := .type "str") rfl T.b_str (by decide +kernel) rfl) pa_nil))))) (pw_or1 (pt_not (pt_chain op_le op_le pe_int (pe_callB cr_lenTx (by rfl) T.b_len (by decide +kernel) (pa_cons (pv 0) pa_nil)) (pe_gc rfl T.g_MOST_SIGNS)))))) (pss_one (ps_ret pe_bl)) pss_nil)
      (pss_one (ps_ret (pe_callB (cr_all rfl) (by rfl) T.b_all (by decide +kernel) (pa_cons (pe_lc (own := [("sign", 1)]) (g := gName 1) (tt := tYes) rfl sc_is_value.nd (pi_str (pv 0)) (blkOk_by (own := [("sign", 1)]) (N := N_is_value) (sc := fnScope s_is_value) (by decide +kernel)) (fun _ _ _ _ _ => (pg_n 1 sc_is_value.nd)) (fun _ _ _ _ _ => pts_nil) (fun _ _ _ _ _ => (pe_or (pe_chain op_leS op_leS pe_str (pv 1) pe_str) (pe_one (pe_chain op_leS op_leS pe_str (pv 1) pe_str))))) pa_nil))))), ?_⟩
    walk_at "rd"
    refine rd_isiS rfl (r := true) (by decide +kernel) ?_
    walk_at "rd"
    have zl : z.length = z.cps.toList.length := len_cps z
    have hz0 : z.length ≤ sizeLine := Nat.le_trans (hz z rfl) (by decide)
    by_cases c1 : 1 ≤ z.length ∧ z.length ≤ 12
    · have hz : z.length ≤ sizeLine := Nat.le_trans c1.2 (by decide)
      refine rd_lenTx hz ?_
      walk_at "rd"
      refine rd_iteT (by omega) ?_
      walk_at "rd"
      refine rd_iteNF (by omega) ?_
      walk_at "rd"
      refine rd_stR ?_
      refine lcR_str (fun D i H' => Same H H' ∧ H' D = some (.lst (((z.cps.toList.take i).map sgB).map V.bl))) (fun D H' _ s e _ => ⟨s, e⟩) ?_ ?_
      · rintro D i c H1 hD hc ⟨s1, eD⟩
        have hc2 : z.cps.toList[i]? = some c := by simpa using hc
        have hil : i < z.cps.toList.length := (List.getElem?_eq_some_iff.mp hc2).1
        walk_at "rd"
        refine ⟨rfl, ?_⟩
        have fin : ∀ b, b = sgB c → LcE D (fun H' => Same H H' ∧ H' D = some (.lst (((z.cps.toList.take (i + 1)).map sgB).map V.bl))) (.bl b) H1 := by
          rintro b rfl
          refine rd_lcE eD (by rw [List.length_map, List.length_map, List.length_take]; omega) fun H2 eH2 eD2 => ?_
          refine ⟨by rw [eH2]; exact Same.mut s1 hD, ?_⟩
          rw [eD2, List.take_add_one, hc2, List.map_append, List.map_append]
          rfl
        walk_at "rd"
        refine rd_leC (c := 97) (d := c) rfl rfl ?_
        refine ⟨_, rfl, ?_⟩
        refine rd_ite (fun a1 => ?_) (fun a1 => ?_)
        · walk_at "rd"
          refine rd_leC (c := c) (d := 122) rfl rfl ?_
          refine ⟨_, rfl, rd_ite (fun a2 => ?_) (fun a2 => ?_)⟩
          · exact fin _ (by unfold sgB; rw [decide_eq_true (show 97 ≤ c ∧ c ≤ 122 from ⟨a1, a2⟩)]; rfl)
          · walk_at "rd"
            walk_at "rd"
            refine rd_leC (c := 48) (d := c) rfl rfl ?_
            refine ⟨_, rfl, rd_ite (fun a3 => ?_) (fun a3 => ?_)⟩
            · walk_at "rd"
              refine rd_leC (c := c) (d := 57) rfl rfl ?_
              exact fin _ (by unfold sgB; rw [decide_eq_false (show ¬ (97 ≤ c ∧ c ≤ 122) from fun y => a2 y.2), Bool.false_or]; by_cases z : c ≤ 57 <;> simp [a3, z])
            · exact fin _ (by unfold sgB; rw [decide_eq_false (show ¬ (97 ≤ c ∧ c ≤ 122) from fun y => a2 y.2), Bool.false_or, decide_eq_false (show ¬ (48 ≤ c ∧ c ≤ 57) from fun y => a3 y.1)])
        · refine ⟨_, rfl, rd_iteFF ?_⟩
          walk_at "rd"
          refine rd_leC (c := 48) (d := c) rfl rfl ?_
          refine ⟨_, rfl, rd_ite (fun a3 => ?_) (fun a3 => ?_)⟩
          · walk_at "rd"
            refine rd_leC (c := c) (d := 57) rfl rfl ?_
            exact fin _ (by unfold sgB; rw [decide_eq_false (show ¬ (97 ≤ c ∧ c ≤ 122) from fun y => a1 y.1), Bool.false_or]; by_cases z : c ≤ 57 <;> simp [a3, z])
          · exact fin _ (by unfold sgB; rw [decide_eq_false (show ¬ (97 ≤ c ∧ c ≤ 122) from fun y => a1 y.1), Bool.false_or, decide_eq_false (show ¬ (48 ≤ c ∧ c ≤ 57) from fun y => a3 y.1)])
      · rintro D H1 hD ⟨s1, eD⟩
        have e2 : z.cps.toList.take z.cps.size = z.cps.toList := List.take_of_length_le (by simp)
        rw [e2] at eD
        walk_at "rd"
        refine all_take eD ?_
        have k := k H1 s1
        have : valB (V.str z) = z.cps.toList.all sgB := by
          show (decide (1 ≤ z.length ∧ z.length ≤ 12) && z.cps.toList.all sgB) = _
          rw [decide_eq_true c1, Bool.true_and]
        rw [this] at k
        exact k
    · have hv2 : valB (V.str z) = false := by
        show (decide (1 ≤ z.length ∧ z.length ≤ 12) && z.cps.toList.all sgB) = false
        rw [decide_eq_false c1, Bool.false_and]
      rw [hv2] at k
      refine rd_lenTx hz0 ?_
      walk_at "rd"
      refine rd_ite (fun a1 => ?_) (fun a1 => ?_)
      · walk_at "rd"
        refine rd_iteNT (by omega) ?_
        walk_at "rd"
        exact k H (Same.refl H)
      · walk_at "rd"
        exact k H (Same.refl H)
  · refine ⟨_, (pss_cons (ps_if (PW.pt (pw_or (pt_not (pt_val (pe_callB call_isi (by rfl) T.b_isinstance (by decide +kernel) (pa_cons (pv 0) (pa_cons (pe_bltn (v := .ty "str") (u := .type "str") rfl T.b_str (by decide +kernel) rfl) pa_nil))))) (pw_or1 (pt_not (pt_chain op_le op_le pe_int (pe_callB cr_lenTx (by rfl) T.b_len (by decide +kernel) (pa_cons (pv 0) pa_nil)) (pe_gc rfl T.g_MOST_SIGNS)))))) (pss_one (ps_ret pe_bl)) pss_nil)
      (pss_one (ps_ret (pe_callB (cr_all rfl) (by rfl) T.b_all (by decide +kernel) (pa_cons (pe_lc (own := [("sign", 1)]) (g := gName 1) (tt := tYes) rfl sc_is_value.nd (pi_str (pv 0)) (blkOk_by (own := [("sign", 1)]) (N := N_is_value) (sc := fnScope s_is_value) (by decide +kernel)) (fun _ _ _ _ _ => (pg_n 1 sc_is_value.nd)) (fun _ _ _ _ _ => pts_nil) (fun _ _ _ _ _ => (pe_or (pe_chain op_leS op_leS pe_str (pv 1) pe_str) (pe_one (pe_chain op_leS op_leS pe_str (pv 1) pe_str))))) pa_nil))))), ?_⟩
    walk_at "rd"
    refine rd_isiS rfl (r := false) (by decide +kernel) ?_
    walk_at "rd"
    exact k H (Same.refl H)
theorem cal_is_range (T : TX K mg C_Sheet C_BadSheet C_BadKey D_Sheet_0 D_Sheet_1) : Cal P w K mg base 3 "is_range" spIsRng [] := by
  obtain ⟨f0, fd, D, dn⟩ := T.d_is_range
  have G_is_key := cal_is_key (P := P) (w := w) (base := base) T
  refine cal0 D (D.fn.binds dn fun _ _ _ _ _ _ us hl => match us, hl with | [_], _ => rfl) .nil sc_is_range (by walk_at "len") (fun cdv A outer s H vs Q E hr h => ?_)
  obtain ⟨t, rfl, h⟩ := h
  rcases h with ⟨ws, et, hl, hw, k⟩ | ⟨xs, et, k⟩
  · refine ⟨_, (pss_one (ps_ret (pe_and (pe_callB call_isi (by rfl) T.b_isinstance (by decide +kernel) (pa_cons (pv 0) (pa_cons (pe_bltn (v := .ty "tuple") (u := .type "tuple") rfl T.b_tuple (by decide +kernel) rfl) pa_nil))) (pe_and (pe_cmpR op_eq (pe_callB cr_lenS (by rfl) T.b_len (by decide +kernel) (pa_cons (pv 0) pa_nil)) pe_int (nomark _)) (pe_and (pe_callB (cr_all rfl) (by rfl) T.b_all (by decide +kernel) (pa_cons (pe_lc (own := [("one", 1)]) (g := gName 1) (tt := tYes) rfl sc_is_range.nd (pi_tup (pv 0)) (blkOk_by (own := [("one", 1)]) (N := N_is_range) (sc := fnScope s_is_range) (by decide +kernel)) (fun _ _ _ _ _ => (pg_n 1 sc_is_range.nd)) (fun _ _ _ _ _ => pts_nil) (fun _ _ _ _ _ => (pe_c G_is_key hr (by decide) rfl (pa_cons (pv 1) pa_nil)))) pa_nil)) (pe_one (pe_cmpR op_le (pe_ix ix_tup (pv 0) pe_int (fun _ _ => rfl)) (pe_ix ix_tup (pv 0) pe_int (fun _ _ => rfl)) (nomark _)))))))), ?_⟩
    walk_at "rd"
    refine rd_isiTup et (r := true) (by decide +kernel) ?_
    walk_at "rd"
    refine rd_lenT et ?_
    walk_at "rd"
    refine rd_ite (fun c => ?_) (fun c => ?_)
    · obtain ⟨w1, w2, rfl⟩ : ∃ w1 w2, ws = [w1, w2] := by
        match ws, c with
        | [a, b], _ => exact ⟨a, b, rfl⟩
        | [], c => simp at c
        | [_], c => simp at c
        | _ :: _ :: _ :: _, c => simp at c; omega
      have h1 := hw w1 (by simp)
      have h2 := hw w2 (by simp)
      walk_at "rd"
      refine rd_tpR (SqT.of et) ?_
      refine lcR_tup (xs := [w1, w2]) (fun D i H' => Same H H' ∧ H' D = some (.lst ((([w1, w2].take i).map keyB).map V.bl))) (fun D i H' _ ⟨s, _⟩ => SqT.of (s _ _ et)) (fun D H' _ s e _ => ⟨s, e⟩) ?_ ?_
      · rintro D i x H1 hD hx ⟨s1, eD⟩
        have hil : i < 2 := (List.getElem?_eq_some_iff.mp hx).1
        walk_at "rd"
        refine ⟨rfl, ?_⟩
        walk_at "rd"
        refine ⟨x, rfl, ?_, ?_⟩
        · have := List.mem_of_getElem? hx
          simp only [List.mem_cons, List.not_mem_nil, or_false] at this
          rcases this with rfl | rfl
          · exact h1
          · exact h2
        refine rd_lcE eD (by rw [List.length_map, List.length_map, List.length_take]; omega) fun H2 eH2 eD2 => ?_
        refine ⟨by rw [eH2]; exact Same.mut s1 hD, ?_⟩
        rw [eD2, List.take_add_one, hx, List.map_append, List.map_append]
        rfl
      · rintro D H1 hD ⟨s1, eD⟩
        have k := k H1 s1
        walk_at "rd"
        refine all_take (f := keyB) (l := [w1, w2]) eD ?_
        refine ⟨_, rfl, ?_⟩
        cases hb : [w1, w2].all keyB
        · walk_at "rd"
          have : rgB [w1, w2] = false := by
            cases e : rgB [w1, w2]
            · rfl
            · obtain ⟨e1, e2⟩ := rgB_keys e
              rw [show [w1, w2].all keyB = (keyB w1 && (keyB w2 && true)) from rfl, e1, e2] at hb
              cases hb
          rw [this] at k
          exact k
        · have hb : (keyB w1 && (keyB w2 && true)) = true := hb
          rw [Bool.and_eq_true, Bool.and_eq_true] at hb
          obtain ⟨i, rfl, i0, i1⟩ := keyB_sc hb.1
          obtain ⟨j, rfl, j0, j1⟩ := keyB_sc hb.2.1
          walk_at "rd"
          refine rd_ixT (s1 _ _ et) (atI_nat' (i := 0) rfl) ?_
          walk_at "rd"
          refine rd_ixT (s1 _ _ et) (atI_nat' (i := 1) rfl) ?_
          have : rgB [V.int i, V.int j] = decide (i ≤ j) := by
            show decide (0 ≤ i ∧ i ≤ j ∧ j ≤ 999999) = _
            by_cases z : i ≤ j
            · rw [decide_eq_true z, decide_eq_true (show 0 ≤ i ∧ i ≤ j ∧ j ≤ 999999 from ⟨i0, z, j1⟩)]
            · rw [decide_eq_false z, decide_eq_false (fun y => z y.2.1)]
          rw [this] at k
          walk_at "rd"
          exact k
    · walk_at "rd"
      have : rgB ws = false := by
        match ws, c with
        | [a, b], c => exact absurd rfl c
        | [], _ => rfl
        | [a], _ => cases a <;> rfl
        | a :: b :: d :: e, _ => cases a <;> first | rfl | (cases b <;> rfl)
      have k := k H (Same.refl H)
      rw [this] at k
      exact k
  · refine ⟨_, (pss_one (ps_ret (pe_and (pe_callB call_isi (by rfl) T.b_isinstance (by decide +kernel) (pa_cons (pv 0) (pa_cons (pe_bltn (v := .ty "tuple") (u := .type "tuple") rfl T.b_tuple (by decide +kernel) rfl) pa_nil))) (pe_and (pe_cmpR op_eq (pe_callB cr_lenS (by rfl) T.b_len (by decide +kernel) (pa_cons (pv 0) pa_nil)) pe_int (nomark _)) (pe_and (pe_callB (cr_all rfl) (by rfl) T.b_all (by decide +kernel) (pa_cons (pe_lc (own := [("one", 1)]) (g := gName 1) (tt := tYes) rfl sc_is_range.nd (pi_tup (pv 0)) (blkOk_by (own := [("one", 1)]) (N := N_is_range) (sc := fnScope s_is_range) (by decide +kernel)) (fun _ _ _ _ _ => (pg_n 1 sc_is_range.nd)) (fun _ _ _ _ _ => pts_nil) (fun _ _ _ _ _ => (pe_c G_is_key hr (by decide) rfl (pa_cons (pv 1) pa_nil)))) pa_nil)) (pe_one (pe_cmpR op_le (pe_ix ix_tup (pv 0) pe_int (fun _ _ => rfl)) (pe_ix ix_tup (pv 0) pe_int (fun _ _ => rfl)) (nomark _)))))))), ?_⟩
    walk_at "rd"
    refine rd_isiLst et (r := false) (by decide +kernel) ?_
    walk_at "rd"
    exact k
end
end Sl

set_option Elab.async false
set_option linter.all false
set_option maxRecDepth 100000
set_option maxHeartbeats 8000000
set_option exponentiation.threshold 9000
namespace Sl
open PySem L2 C8 StX Silt
local macro_rules | `(tactic| walk_at "side") => `(tactic| first
  | exact cdivw (by omega) (by omega)
  | exact cmulw (by omega) (by omega) (by omega) (by omega)
  | exact Or.inr ⟨by omega, by omega⟩
  | exact Or.inl ⟨by omega, by omega⟩
  | omega
  | exact ⟨by omega, by omega, by decide⟩
  | decide)
local macro_rules | `(tactic| walk_at "rd1") => `(tactic| first
  | with_reducible refine rd_seq ?_
  | with_reducible refine rd_asg ?_
  | with_reducible refine rd_drop ?_
  | with_reducible refine rd_ret ?_
  | with_reducible refine rd_retN ?_
  | with_reducible refine rd_ifS ?_
  | ((with_reducible refine rd_var0 ?_); refine ⟨_, rfl, ?_⟩)
  | with_reducible refine rd_c ?_
  | with_reducible refine rd_op ?_
  | with_reducible refine rd_un ?_
  | with_reducible refine rd_I0 ?_
  | with_reducible refine rd_U ?_
  | ((with_reducible refine rd_I ?c ?_); (case c => walk_at "side"))
  | with_reducible refine rd_ipI ?_
  | with_reducible refine rd_eqI ?_
  | with_reducible refine rd_neI ?_
  | with_reducible refine rd_test ?_
  | with_reducible refine rd_tB ?_
  | with_reducible refine rd_bl ?_
  | with_reducible refine rd_not ?_
  | with_reducible refine rd_and ?_
  | with_reducible refine rd_or ?_
  | with_reducible refine rd_andV ?_
  | with_reducible refine rd_orV ?_
  | with_reducible refine rd_notV ?_
  | with_reducible refine rd_ifE ?_
  | with_reducible refine rd_chain ?_
  | with_reducible refine rd_chain3 ?_
  | with_reducible refine rd_nil ?_
  | with_reducible refine rd_cons ?_
  | with_reducible refine rd_call ?_
  | with_reducible refine rd_CB ?_
  | with_reducible refine rd_par ?_
  | with_reducible refine rd_par2 ?_
  | with_reducible refine rd_par3 ?_
  | with_reducible refine rd_par4 ?_
  | ((with_reducible refine rd_aug0 ?_); refine ⟨_, rfl, ?_⟩)
  | with_reducible refine rd_gname ?_
  | with_reducible refine rd_gcons ?_
  | with_reducible refine rd_gnil ?_
  | with_reducible refine rd_max ?_
  | with_reducible refine rd_min ?_
  | with_reducible refine rd_int1 ?_
  | with_reducible refine rd_abs ?_
  | with_reducible refine rd_lst ?_
  | with_reducible refine rd_tup ?_
  | with_reducible refine rd_bm ?_
  | with_reducible refine rd_fld0 ?_
  | with_reducible refine rd_sl0 ?_
  | with_reducible refine rd_noP ?_
  | with_reducible refine rd_part ?_
  | with_reducible refine rd_part2 ?_
  | with_reducible refine rd_meth0 ?_
  | with_reducible refine rd_star ?_
  | with_reducible refine rd_for ?_
  | with_reducible refine rd_rng1 ?_
  | with_reducible refine rd_rng2 ?_
  | with_reducible refine rd_rng3 ?_
  | with_reducible refine rd_iList ?_
  | with_reducible refine rd_iTup ?_
  | with_reducible refine rd_iEnum ?_
  | with_reducible refine rd_lc ?_
  | with_reducible refine rd_yes ?_
  | with_reducible refine rd_augS ?_
  | with_reducible refine rd_drawNew ?_
  | with_reducible refine rd_make0 ?_
  | with_reducible refine rd_next ?_
  | with_reducible refine rd_break ?_
  | with_reducible refine rd_cont ?_
  | with_reducible refine rd_iteTT ?_
  | with_reducible refine rd_iteFF ?_
  | with_reducible refine rd_iteNTT ?_
  | with_reducible refine rd_iteNFF ?_
  | with_reducible refine rd_con0 ?_
  | with_reducible refine rd_truO0 ?_
  | with_reducible refine rd_gfld0 ?_
  | with_reducible refine rd_dc ?_
  | with_reducible refine rd_iKeys ?_
  | with_reducible refine rd_dget0 ?_
  | with_reducible refine rd_dput0 ?_
  | with_reducible refine rd_dnot0 ?_
  | with_reducible refine rd_iEnumT ?_
  | with_reducible refine rd_raP0 ?_
  | with_reducible refine rd_xf0 ?_
  | with_reducible refine rd_cKw ?_
  | with_reducible refine rd_iStr ?_
  | with_reducible refine rd_gSub ?_
  | with_reducible refine rd_asgG ?_)
local macro_rules | `(tactic| walk_at "rd") => `(tactic| repeat walk_at "rd1")
local macro_rules | `(tactic| walk_at "len") => `(tactic| first
  | (intro vs H Q E h; obtain ⟨h2, _⟩ := h; rw [h2]; rfl)
  | (intro vs H Q E h; obtain ⟨_, h2, _⟩ := h; rw [h2]; rfl)
  | (intro vs H Q E h; obtain ⟨_, _, h2, _⟩ := h; rw [h2]; rfl)
  | (intro vs H Q E h; obtain ⟨_, _, _, h2, _⟩ := h; rw [h2]; rfl)
  | (intro vs H Q E h; obtain ⟨_, _, _, _, h2, _⟩ := h; rw [h2]; rfl)
  | (intro vs H Q E h; obtain ⟨_, _, _, _, _, h2, _⟩ := h; rw [h2]; rfl)
  | (intro vs H Q E h; obtain ⟨_, _, _, _, _, _, h2, _⟩ := h; rw [h2]; rfl)
  | (intro vs H Q E h; obtain ⟨_, _, _, _, _, _, _, h2, _⟩ := h; rw [h2]; rfl)
  | (intro vs H Q E h; obtain ⟨_, _, _, _, _, _, _, _, h2, _⟩ := h; rw [h2]; rfl)
  | (intro vs H Q E h; obtain ⟨_, _, _, _, _, _, _, _, _, h2, _⟩ := h; rw [h2]; rfl)
  | (intro vs H Q E h; obtain ⟨_, _, _, _, _, _, _, _, _, _, h2, _⟩ := h; rw [h2]; rfl)
  | (intro vs H Q E h; obtain ⟨_, _, _, _, _, _, _, _, _, _, _, h2, _⟩ := h; rw [h2]; rfl)
  | (intro vs H Q E h; obtain ⟨_, _, _, _, _, _, _, _, _, _, _, _, h2, _⟩ := h; rw [h2]; rfl))
def kOf (H : Hp) : V → Int × Int
  | .ref t => match H t with
    | some (.tup [.int i, .int j]) => (i, j)
    | _ => (0, 0)
  | _ => (0, 0)
theorem kOf_of {H : Hp} {t : Addr} {i j : Int} (e : H t = some (.tup [.int i, .int j])) : kOf H (.ref t) = (i, j) := by
  show (match H t with
    | some (.tup [.int i, .int j]) => (i, j)
    | _ => (0, 0)) = (i, j)
  rw [e]
theorem IvP.k {H : Hp} {xs : List V} {rs : List Iv} (h : IvP H xs rs) : rs = xs.map (kOf H) ∧ ∀ x ∈ xs, ∃ t, x = V.ref t ∧ H t = some (.tup [.int (kOf H x).1, .int (kOf H x).2]) := by
  constructor
  · refine List.ext_getElem? fun i => ?_
    rw [List.getElem?_map]
    cases z : xs[i]? with
    | none =>
      rw [List.getElem?_eq_none_iff] at z
      exact List.getElem?_eq_none_iff.mpr (by rw [← h.1]; exact z)
    | some x =>
      obtain ⟨r, t, h1, rfl, h2⟩ := h.getV z
      rw [h1, Option.map_some, kOf_of h2]
  · intro x hx
    obtain ⟨i, hi⟩ := List.getElem?_of_mem hx
    obtain ⟨r, t, h1, rfl, h2⟩ := h.getV hi
    exact ⟨t, rfl, by rw [kOf_of h2]; exact h2⟩
theorem IvP.perm {H : Hp} {xs ys : List V} {rs : List Iv} (h : IvP H xs rs) (p : ys.Perm xs) : IvP H ys (ys.map (kOf H)) ∧ (ys.map (kOf H)).Perm rs := by
  obtain ⟨h1, h2⟩ := h.k
  refine ⟨⟨by rw [List.length_map], fun i r hr => ?_⟩, by rw [h1]; exact p.map _⟩
  rw [List.getElem?_map] at hr
  cases z : ys[i]? with
  | none => rw [z] at hr; cases hr
  | some y =>
    rw [z] at hr
    have hr : kOf H y = r := Option.some.inj hr
    obtain ⟨t, rfl, e⟩ := h2 y (p.mem_iff.mp (List.mem_of_getElem? z))
    rw [hr] at e
    exact ⟨t, rfl, e⟩
theorem IvP.all {H : Hp} : ∀ {rs : List Iv} {xs : List V}, IvP H xs rs → DnAll H xs (rs.map pairD)
  | [], [], _ => .nil
  | [], x :: xs, h => by have := h.1; simp at this
  | r :: rs, [], h => by have := h.1; simp at this
  | r :: rs, x :: xs, h => by
    obtain ⟨t, h1, h2⟩ := h.2 0 r rfl
    have h1 : x = V.ref t := by simpa using h1
    subst h1
    exact .cons (.pair h2) (IvP.all ⟨by have := h.1; simpa using this, fun i q hq => h.2 (i + 1) q (by simpa using hq)⟩)
theorem shaped_pairsLs (l : List Iv) : SeqAt.shaped (.list (l.map pairD)) = true := shaped_listMap (fun _ => by simp [pairD, PyData.canLay0, PyData.canLayAll0]) (fun _ => by simp [pairD, PyData.depth, PyData.depthAll]) l
theorem ixN_end {n : Nat} : ixN (n + 1) (-1) = some n := by
  unfold ixN
  rw [if_neg (by decide), if_pos (by omega)]
  congr 1
  omega
def spJoin : Sp := fun vs H Q _ => ∃ (a : Addr) (xs : List V) (rs : List Iv), vs = [.ref a] ∧ H a = some (.lst xs) ∧ IvP H xs rs ∧ (∀ r ∈ rs, r.1 ≤ r.2) ∧ rs.length ≤ 1000 ∧
  ∀ H' L ys out, Same H H' → H L = none → H' L = some (.lst ys) → IvP H' ys out → Canon out → (∀ k, inR out k ↔ inR rs k) → out.length ≤ rs.length → Q (.ref L) H'
theorem Same.unlock {H H' : Hp} {d : Addr} {u o : HO} (e : H d = some u) (s : Same (upd H d o) H') : Same H (upd H' d u) := fun a w ha => by
  by_cases z : a = d
  · subst z
    rw [e] at ha
    cases ha
    exact upd_same
  · rw [upd_ne z]
    exact s a w (by rw [upd_ne z]; exact ha)
theorem dV_get {ls : List (Int × V)} {i : Nat} {k : Key} {z : V} (h : (dV ls)[i]? = some (k, z)) : ∃ y, ls[i]? = some (y, z) ∧ k = Sum.inl y := by
  unfold dV at h
  rw [List.getElem?_map] at h
  cases q : ls[i]? with
  | none => rw [q] at h; cases h
  | some x => rw [q] at h; cases h; exact ⟨x.1, rfl, rfl⟩
theorem within_snoc (ks : List Int) (y : Int) (r : Iv) : within (ks ++ [y]) r = within ks r ++ if r.1 ≤ y ∧ y ≤ r.2 then [y] else [] := by
  unfold within
  rw [List.filter_append]
  congr 1
  by_cases c : r.1 ≤ y ∧ y ≤ r.2
  · rw [if_pos c, List.filter_cons, if_pos (decide_eq_true c)]
    rfl
  · rw [if_neg c, List.filter_cons, if_neg (by rw [decide_eq_false c]; decide)]
    rfl
def keysL (ls : List (Int × V)) : List Int := ls.map (·.1)
def spWithout : Sp := fun vs H Q _ => ∃ (a D : Addr) (xs : List V) (rs : List Iv) (ls : List (Int × V)), vs = [.ref a, .ref D] ∧ H a = some (.lst xs) ∧ IvP H xs rs ∧ Canon rs ∧ H D = some (.dK (dV ls)) ∧ (keysL ls).Nodup ∧ ls.length < 64 ∧ rs.length ≤ 1000 ∧
  ∀ H' L ys out, Same H H' → H L = none → H' L = some (.lst ys) → IvP H' ys out → Canon out → (∀ k, inR out k ↔ inR rs k ∧ k ∉ keysL ls) → out.length ≤ rs.length + ls.length → Q (.ref L) H'
theorem rd_sortG {a : Addr} {ks : List Int} {H : Hp} {Q : VK} {K : PySem.W.Frag} (e : SqL K H a (ks.map V.int)) (l : ks.length < 64) (h : ∀ (ys : List Int) p H', ys.Perm ks → ys.Pairwise (· ≤ ·) → H p = none → Same H H' → H' p = some (.lst (ys.map V.int)) → Q (.ref p) H') : rSorted K [.ref a] H Q :=
  ⟨a, ks, rfl, e, l, fun ys p pm sr hp => h ys p _ pm sr hp (Same.new (Same.refl H) hp) upd_same⟩
section
variable {P : Program} {w : World} {K : PySem.W.Frag} {mg : Str → Option Value} {base : Heap} {C_Sheet C_BadSheet C_BadKey D_Sheet_0 D_Sheet_1 : Addr}
theorem cal_joined_ranges (T : TX K mg C_Sheet C_BadSheet C_BadKey D_Sheet_0 D_Sheet_1) : Cal P w K mg base 1 "joined_ranges" spJoin [] := by
  obtain ⟨f0, fd, D, dn⟩ := T.d_joined_ranges
  refine cal0 D (D.fn.binds dn fun _ _ _ _ _ _ us hl => match us, hl with | [_], _ => rfl) .nil sc_joined_ranges (by walk_at "len") (fun cdv A outer s H vs Q E hr h => ?_)
  obtain ⟨a, xs, rs, rfl, ea, iv, ord, hl, k⟩ := h
  refine ⟨_, (pss_cons (ps_s 1 sc_joined_ranges.nd (pe_lst pa_nil))
      (pss_cons (ps_for PassesOwn.never rfl (pi_list (pe_callB cr_sortedPO (by rfl) T.b_sorted (by decide +kernel) (pa_cons (pv 0) pa_nil))) (pg_tup rfl (pgs_cons (pg_n 2 sc_joined_ranges.nd) (pgs_cons (pg_n 3 sc_joined_ranges.nd) pgs_nil))) (pss_one (ps_if (PW.pt (pw_and (pt_cmpR (op_neD hr.units) (pv 1) (pe_lst pa_nil) (nomark _)) (pw_and1 (pt_cmpR op_le (pv 2) (pe_op op_add (pe_ix ix_tup (pe_ix ix_list (pv 1) (pe_un un_neg pe_int) (fun _ _ => rfl)) pe_int (fun _ _ => rfl)) pe_int) (nomark _))))) (pss_one (ps_asg (pe_tup (pa_cons (pe_ix ix_tup (pe_ix ix_list (pv 1) (pe_un un_neg pe_int) (fun _ _ => rfl)) pe_int (fun _ _ => rfl)) (pa_cons (pe_callB (cr_max2 rfl) (by rfl) T.b_max (by decide +kernel) (pa_cons (pe_ix ix_tup (pe_ix ix_list (pv 1) (pe_un un_neg pe_int) (fun _ _ => rfl)) pe_int (fun _ _ => rfl)) (pa_cons (pv 3) pa_nil))) pa_nil))) (pg_sub (pv 1) (pe_un un_neg pe_int) set_list))) (pss_one (ps_expr (pe_bm PySem.F.plainAttrs_list PySem.F.slot_list_append PySem.F.type_list_append mt_append (pv 1) (pa_cons (pe_tup (pa_cons (pv 2) (pa_cons (pv 3) pa_nil))) pa_nil)))))))
      (pss_one (ps_ret (pv 1))))), ?_⟩
  walk_at "rd"
  refine rd_newL (by simp) fun F H1 hF s1 eF _ => ?_
  walk_at "rd"
  have iv1 := iv.mono s1
  obtain ⟨_, hk⟩ := iv1.k
  refine rd_sortPO (k := kOf H1) (SqL.of (s1 _ _ ea)) hk fun ys p H2 sr sb hp s2 ep => ?_
  walk_at "rd"
  obtain ⟨iv2, pm⟩ := iv1.perm sb.perm
  obtain ⟨ts, ets⟩ : ∃ ts, ts = ys.map (kOf H1) := ⟨_, rfl⟩
  rw [← ets] at iv2 pm
  have iv2 := iv2.mono s2
  have srt : ts.Pairwise fun x y => x.1 ≤ y.1 := by
    rw [ets]
    refine List.pairwise_map.mpr (sr.imp fun h => ?_)
    have := SrtO.lexB_no.mp h
    omega
  have ordt : ∀ r ∈ ts, r.1 ≤ r.2 := fun r hr => ord r (pm.mem_iff.mp hr)
  have lt : ts.length = rs.length := pm.length_eq
  have eF2 := s2 _ _ eF
  have hpF : p ≠ F := fun z => by rw [z, eF] at hp; cases hp
  refine rd_lsR (SqL.of ep) ?_
  refine forR_lst (xs := ys) (fun j σ H' => ∃ zs out v2 v3, Same H H' ∧ H' p = some (.lst ys) ∧ IvP H' ys ts ∧ H' F = some (.lst zs) ∧ IvP H' zs out ∧ Canon out ∧ (∀ k, inR out k ↔ inR (ts.take j) k) ∧ (∀ r ∈ out, ∀ q ∈ ts.drop j, r.1 ≤ q.1) ∧ out.length ≤ j ∧ σ = [some (.ref a), some (.ref F), v2, v3]) (fun j σ H' ⟨_, _, _, _, _, e, _⟩ => SqL.of e) ⟨[], [], none, none, s1.trans s2, ep, iv2, eF2, IvP.nil, Canon.nil, (fun k => Iff.rfl), (fun r hr => by cases hr), Nat.le_refl _, rfl⟩ ?_ ?_
  · rintro j x σ H3 hx ⟨zs, out, v2, v3, s3, ep3, ivt, eF3, ivo, can, mem, low, lo, rfl⟩
    obtain ⟨r, t, hr, rfl, et⟩ := ivt.getV hx
    have hj := (List.getElem?_eq_some_iff.mp hr).1
    have hrm := List.mem_of_getElem? hr
    have tk : ts.take (j + 1) = ts.take j ++ [r] := by rw [List.take_add_one, hr]; rfl
    have dr : ts.drop j = r :: ts.drop (j + 1) := by rw [List.drop_eq_getElem_cons hj]; congr 1; exact (List.getElem?_eq_some_iff.mp hr).2
    have lowr : ∀ q ∈ out, q.1 ≤ r.1 := fun q hq => low q hq r (by rw [dr]; exact List.mem_cons_self)
    have next : ∀ q ∈ ts.drop (j + 1), r.1 ≤ q.1 := fun q hq => by
      have := List.pairwise_iff_getElem.mp srt
      obtain ⟨m, hm⟩ := List.getElem?_of_mem hq
      rw [List.getElem?_drop] at hm
      obtain ⟨h1, h2⟩ := List.getElem?_eq_some_iff.mp hm
      obtain ⟨h3, h4⟩ := List.getElem?_eq_some_iff.mp hr
      have := this j (j + 1 + m) h3 h1 (by omega)
      rw [h2, h4] at this
      exact this
    refine rd_gtup et rfl ?_
    walk_at "rd"
    refine rd_newL (by simp) fun w H4 _ s4 ew _ => ?_
    have ivo4 := ivo.mono s4
    have eF4 := s4 _ _ eF3
    refine rd_neD (.lst eF4 ivo4.all.dt) (.lst ew .nil) (shaped_pairsLs _) (by rfl) ?_
    rw [eqv_nil]
    have lz : zs.length = out.length := ivo.1
    have addNew : ∀ H5 t5, Same H4 H5 → H5 t5 = some (.tup [.int r.1, .int r.2]) → (∀ q ∈ out, q.2 + 1 < r.1) → ∀ H6, H6 = upd H5 F (.lst (zs ++ [.ref t5])) → H6 F = some (.lst (zs ++ [.ref t5])) → ∃ zs out v2 v3, Same H H6 ∧ H6 p = some (.lst ys) ∧ IvP H6 ys ts ∧ H6 F = some (.lst zs) ∧ IvP H6 zs out ∧ Canon out ∧ (∀ k, inR out k ↔ inR (ts.take (j + 1)) k) ∧ (∀ r ∈ out, ∀ q ∈ ts.drop (j + 1), r.1 ≤ q.1) ∧ out.length ≤ j + 1 ∧ ([some (V.ref a), some (.ref F), some (.int r.1), some (.int r.2)] : L2.St) = [some (.ref a), some (.ref F), v2, v3] := by
      rintro H5 t5 s5 e5 gap H6 eH6 eF6
      obtain ⟨c1, c2, c3⟩ := join_new can (ordt r hrm) lowr gap
      have eF5 := s5 _ _ eF4
      refine ⟨zs ++ [.ref t5], out ++ [r], _, _, by rw [eH6]; exact Same.mut ((s3.trans s4).trans s5) hF, by rw [eH6, upd_ne hpF]; exact (s4.trans s5) _ _ ep3, by rw [eH6]; exact ((ivt.mono s4).mono s5).updL eF5, eF6, by rw [eH6]; exact ((ivo4.mono s5).snoc e5).updL eF5, c1, fun k => ?_, fun q hq q' hq' => Int.le_trans (c3 q hq) (next q' hq'), by simp; omega, rfl⟩
      rw [c2 k, mem k, tk, inR_app, inR_cons]
      exact ⟨fun x => x.elim .inl fun y => .inr (.inl y), fun x => x.elim .inl fun y => y.elim .inr fun z => absurd z (inR_nil k)⟩
    rcases List.eq_nil_or_concat out with z | ⟨o', q, z⟩
    · subst z
      refine ⟨_, rfl, rd_iteNF rfl ?_⟩
      walk_at "rd"
      refine rd_tyL eF4 ?_
      walk_at "rd"
      refine rd_newT (by simp) fun t5 H5 _ s5 e5 _ => ?_
      walk_at "rd"
      refine rd_app (s5 _ _ eF4) (by rw [lz]; simp) fun H6 eH6 eF6 => ?_
      exact addNew H5 t5 s5 e5 (fun q hq => by cases hq) H6 eH6 eF6
    · have z : out = o' ++ [q] := by rw [z]; simp
      subst z
      obtain ⟨zs', y, rfl⟩ : ∃ zs' y, zs = zs' ++ [y] := by
        rcases List.eq_nil_or_concat zs with u | ⟨u, v, w⟩
        · rw [u] at lz; simp at lz
        · exact ⟨u, v, by rw [w]; simp⟩
      obtain ⟨ivi, t0, rfl, e0⟩ := ivo4.init
      refine ⟨_, rfl, rd_iteNT (by simp) ?_⟩
      walk_at "rd"
      refine rd_ixL eF4 (atI_last _ _) ?_
      walk_at "rd"
      refine rd_ixT e0 (atI_nat' (i := 1) rfl) ?_
      walk_at "rd"
      refine rd_ite (fun c => ?_) (fun c => ?_)
      · obtain ⟨c1, c2, c3⟩ := join_last can (ordt r hrm) lowr c
        walk_at "rd"
        refine rd_ixL eF4 (atI_last _ _) ?_
        walk_at "rd"
        refine rd_ixT e0 (atI_nat' (i := 0) rfl) ?_
        walk_at "rd"
        refine rd_ixL eF4 (atI_last _ _) ?_
        walk_at "rd"
        refine rd_ixT e0 (atI_nat' (i := 1) rfl) ?_
        walk_at "rd"
        refine rd_newT (by simp) fun t5 H5 _ s5 e5 _ => ?_
        walk_at "rd"
        have eF5 := s5 _ _ eF4
        refine rd_setL (j := zs'.length) eF5 (by rw [List.length_append]; exact ixN_end) fun H6 eH6 eF6 => ?_
        have eset : (zs' ++ [V.ref t0]).set zs'.length (.ref t5) = zs' ++ [.ref t5] := by simp
        rw [eset] at eH6 eF6
        refine ⟨zs' ++ [.ref t5], o' ++ [(q.1, max q.2 r.2)], _, _, by rw [eH6]; exact Same.mut ((s3.trans s4).trans s5) hF, by rw [eH6, upd_ne hpF]; exact (s4.trans s5) _ _ ep3, by rw [eH6]; exact ((ivt.mono s4).mono s5).updL eF5, eF6, by rw [eH6]; exact ((ivi.mono s5).snoc e5).updL eF5, c1, fun k => ?_, fun u hu q' hq' => Int.le_trans (c3 u hu) (next q' hq'), by simp at lo ⊢; omega, rfl⟩
        rw [c2 k, mem k, tk, inR_app, inR_cons]
        exact ⟨fun x => x.elim .inl fun y => .inr (.inl y), fun x => x.elim .inl fun y => y.elim .inr fun z => absurd z (inR_nil k)⟩
      · walk_at "rd"
        refine rd_tyL eF4 ?_
        walk_at "rd"
        refine rd_newT (by simp) fun t5 H5 _ s5 e5 _ => ?_
        walk_at "rd"
        refine rd_app (s5 _ _ eF4) (by rw [lz]; omega) fun H6 eH6 eF6 => ?_
        refine addNew H5 t5 s5 e5 (fun u hu => ?_) H6 eH6 eF6
        rcases List.mem_append.mp hu with v | v
        · have h3 := can.init.2.2 u v
          have h4 := can.init.2.1
          omega
        · rw [List.mem_singleton.mp v]
          omega
  · rintro σ H3 ⟨zs, out, v2, v3, s3, ep3, ivt, eF3, ivo, can, mem, low, lo, rfl⟩
    walk_at "rd"
    have ly : ys.length = ts.length := ivt.1
    refine k H3 F zs out s3 hF eF3 ivo can (fun k => ?_) (by omega)
    rw [mem k, ly, List.take_length]
    exact inR_perm pm k
theorem cal_without_keys (T : TX K mg C_Sheet C_BadSheet C_BadKey D_Sheet_0 D_Sheet_1) : Cal P w K mg base 1 "without_keys" spWithout [] := by
  obtain ⟨f0, fd, D, dn⟩ := T.d_without_keys
  refine cal0 D (D.fn.binds dn fun _ _ _ _ _ _ us hl => match us, hl with | [_, _], _ => rfl) .nil sc_without_keys (by walk_at "len") (fun cdv A outer s H vs Q E hr h => ?_)
  obtain ⟨a, D, xs, rs, ls, rfl, ea, iv, can, eD, nd, ll, lr, k⟩ := h
  obtain ⟨ks, eks⟩ : ∃ ks, ks = keysL ls := ⟨_, rfl⟩
  rw [← eks] at nd k
  refine ⟨_, (pss_cons (ps_s 2 sc_without_keys.nd (pe_lst pa_nil))
      (pss_cons (ps_for PassesOwn.never rfl (pi_list (pv 0)) (pg_tup rfl (pgs_cons (pg_n 3 sc_without_keys.nd) (pgs_cons (pg_n 4 sc_without_keys.nd) pgs_nil))) (pss_cons (ps_s 5 sc_without_keys.nd (pv 3))
      (pss_cons (ps_for PassesOwn.never rfl (pi_list (pe_callB cr_sorted (by rfl) T.b_sorted (by decide +kernel) (pa_cons (pe_lock (pe_lc (own := [("key", 6)]) (g := gName 6) (tt := _) rfl sc_without_keys.nd (pi_keys (pv 1)) (blkOk_by (own := [("key", 6)]) (N := N_without_keys) (sc := fnScope s_without_keys) (by decide +kernel)) (fun _ _ _ _ _ => (pg_n 6 sc_without_keys.nd)) (fun _ _ _ _ _ => (pts_one (pt_chain op_le op_le (pv 3) (pv 6) (pv 4)))) (fun _ _ _ _ _ => (pv 6)))) pa_nil))) (pg_n 6 sc_without_keys.nd) (pss_cons (ps_if (pt_cmpR op_lt (pv 5) (pv 6) (nomark _)) (pss_one (ps_expr (pe_bm PySem.F.plainAttrs_list PySem.F.slot_list_append PySem.F.type_list_append mt_append (pv 2) (pa_cons (pe_tup (pa_cons (pv 5) (pa_cons (pe_op op_sub (pv 6) pe_int) pa_nil))) pa_nil)))) pss_nil)
      (pss_one (ps_s 5 sc_without_keys.nd (pe_op op_add (pv 6) pe_int)))))
      (pss_one (ps_if (pt_cmpR op_le (pv 5) (pv 4) (nomark _)) (pss_one (ps_expr (pe_bm PySem.F.plainAttrs_list PySem.F.slot_list_append PySem.F.type_list_append mt_append (pv 2) (pa_cons (pe_tup (pa_cons (pv 5) (pa_cons (pv 4) pa_nil))) pa_nil)))) pss_nil)))))
      (pss_one (ps_ret (pv 2))))), ?_⟩
  walk_at "rd"
  refine rd_newL (by simp) fun F H1 hF s1 eF _ => ?_
  walk_at "rd"
  refine rd_lsR (SqL.of (s1 _ _ ea)) ?_
  refine forR_lst (xs := xs) (fun i σ H' => ∃ zs out v3 v4 v5 v6, Same H H' ∧ H' F = some (.lst zs) ∧ IvP H' zs out ∧ Canon out ∧ (∀ t ∈ out, ∀ q ∈ rs.drop i, t.2 + 1 < q.1) ∧ (∀ k, inR out k ↔ inR (rs.take i) k ∧ k ∉ ks) ∧ out.length ≤ i + ((rs.take i).map fun r => (within ks r).length).sum ∧ σ = [some (.ref a), some (.ref D), some (.ref F), v3, v4, v5, v6]) (fun i σ H' ⟨_, _, _, _, _, _, s, _⟩ => SqL.of (s _ _ ea)) ⟨[], [], none, none, none, none, s1, eF, IvP.nil, Canon.nil, (fun t ht => by cases ht), (fun k => ⟨fun z => absurd z (inR_nil k), fun z => absurd z.1 (inR_nil k)⟩), Nat.le_refl _, rfl⟩ ?_ ?_
  · rintro i x σ H2 hx ⟨zs, out, v3, v4, v5, v6, s2, eF2, ivo, cano, gap, mem, lo, rfl⟩
    obtain ⟨r, t, hr, rfl, et⟩ := (iv.mono s2).getV hx
    have hi := (List.getElem?_eq_some_iff.mp hr).1
    have hrm := List.mem_of_getElem? hr
    have tk : rs.take (i + 1) = rs.take i ++ [r] := by rw [List.take_add_one, hr]; rfl
    have dr : rs.drop i = r :: rs.drop (i + 1) := by rw [List.drop_eq_getElem_cons hi]; congr 1; exact (List.getElem?_eq_some_iff.mp hr).2
    have gapr : ∀ q ∈ out, q.2 + 1 < r.1 := fun q hq => gap q hq r (by rw [dr]; exact List.mem_cons_self)
    have rr : r.1 ≤ r.2 := can.1 r hrm
    have next : ∀ q ∈ rs.drop (i + 1), r.2 + 1 < q.1 := fun q hq => by
      have := List.pairwise_iff_getElem.mp can.2
      obtain ⟨m, hm⟩ := List.getElem?_of_mem hq
      rw [List.getElem?_drop] at hm
      obtain ⟨h1, h2⟩ := List.getElem?_eq_some_iff.mp hm
      obtain ⟨h3, h4⟩ := List.getElem?_eq_some_iff.mp hr
      have := this i (i + 1 + m) h3 h1 (by omega)
      rw [h2, h4] at this
      exact this
    have eD2 := s2 _ _ eD
    refine rd_gtup et rfl ?_
    walk_at "rd"
    have sumb : ((rs.take i).map fun r => (within ks r).length).sum ≤ ks.length := within_le ⟨fun r hr => can.1 r (List.mem_of_mem_take hr), can.2.sublist (List.take_sublist _ _)⟩ ks
    refine rd_lock eD2 trivial fun od => ?_
    obtain ⟨HL, eHL⟩ : ∃ HL, HL = upd H2 D (.frz od (.dK (dV ls))) := ⟨_, rfl⟩
    rw [← eHL]
    have eLL : HL D = some (.frz od (.dK (dV ls))) := by rw [eHL]; exact upd_same
    have lk : ks.length = ls.length := by rw [eks]; unfold keysL; rw [List.length_map]
    walk_at "rd"
    refine rd_keysR eLL ?_
    refine lcR_keys (fun W j H' => Same HL H' ∧ H' W = some (.lst ((within (ks.take j) r).map V.int))) (fun W j H' _ ⟨s, _⟩ => s _ _ eLL) (fun W H' _ s e _ => ⟨s, e⟩) ?_ ?_
    · rintro W j kx z H3 hW hj ⟨s3, eW⟩
      obtain ⟨y, hy, rfl⟩ := dV_get hj
      have hk : ks[j]? = some y := by rw [eks]; unfold keysL; rw [List.getElem?_map, hy]; rfl
      have ekv : kV (Sum.inl y) = V.int y := rfl
      rw [ekv]
      have tkk : ks.take (j + 1) = ks.take j ++ [y] := by rw [List.take_add_one, hk]; rfl
      have wl : (within (ks.take j) r).length < 64 := Nat.lt_of_le_of_lt (List.length_filter_le _ _) (by rw [List.length_take]; omega)
      walk_at "rd"
      refine ⟨rfl, ?_⟩
      walk_at "rd"
      refine rd_ite (fun c1 => ?_) (fun c1 => ?_)
      · walk_at "rd"
        refine rd_ite (fun c2 => ?_) (fun c2 => ?_)
        · walk_at "rd"
          refine rd_lcE eW (by rw [List.length_map]; omega) fun H4 eH4 eW4 => ?_
          refine ⟨by rw [eH4]; exact Same.mut s3 hW, ?_⟩
          rw [eW4, tkk, within_snoc, if_pos ⟨c1, c2⟩, List.map_append]
          rfl
        · exact ⟨s3, by rw [eW, tkk, within_snoc, if_neg (fun z => c2 z.2), List.append_nil]⟩
      · refine ⟨_, rfl, rd_iteFF ?_⟩
        exact ⟨s3, by rw [eW, tkk, within_snoc, if_neg (fun z => c1 z.1), List.append_nil]⟩
    · rintro W H3 hW ⟨s3, eW⟩
      have hWD : W ≠ D := fun z => by rw [z, eLL] at hW; cases hW
      rw [dV_len, ← lk, List.take_length] at eW
      refine ⟨s3 _ _ eLL, ?_⟩
      obtain ⟨H4, eH4⟩ : ∃ H4, H4 = upd H3 D (.dK (dV ls)) := ⟨_, rfl⟩
      rw [← eH4]
      have s24 : Same H2 H4 := by
        rw [eH4]
        refine Same.unlock eD2 (o := .frz od (.dK (dV ls))) ?_
        rw [← eHL]
        exact s3
      have eW4 : H4 W = some (.lst ((within ks r).map V.int)) := by rw [eH4, upd_ne hWD]; exact eW
      have wl : (within ks r).length < 64 := Nat.lt_of_le_of_lt (List.length_filter_le _ _) (by omega)
      walk_at "rd"
      refine rd_sortG (SqL.of eW4) wl fun zs2 p H5 pm sr hp s5 ep => ?_
      walk_at "rd"
      have s05 := (s2.trans s24).trans s5
      have hpF : p ≠ F := fun z => by rw [z, s24 _ _ eF2] at hp; cases hp
      have pmem : ∀ y, y ∈ zs2 ↔ (y ∈ ks ∧ r.1 ≤ y ∧ y ≤ r.2) := fun y => by
        rw [pm.mem_iff]
        unfold within
        rw [List.mem_filter, decide_eq_true_iff]
      have lz : zs2.length = (within ks r).length := pm.length_eq
      have ndz : zs2.Nodup := pm.nodup_iff.mpr (nd.filter _)
      have srt : zs2.Pairwise (· < ·) := by
        refine (sr.and ndz).imp fun h => ?_
        have h1 := h.1
        have h2 := h.2
        omega
      refine rd_lsR (SqL.of ep) ?_
      refine forR_lst (xs := zs2.map V.int) (fun j σ H' => ∃ zs out2 first v6, Same H H' ∧ H' p = some (.lst (zs2.map V.int)) ∧ H' F = some (.lst zs) ∧ IvP H' zs out2 ∧ Cut out (· ∈ ks) r.1 first out2 ∧ r.1 ≤ first ∧ first ≤ r.2 + 1 ∧ (∀ y ∈ zs2.take j, y < first) ∧ (∀ y ∈ zs2.drop j, first ≤ y) ∧ out2.length ≤ out.length + j ∧ σ = [some (.ref a), some (.ref D), some (.ref F), some (.int r.1), some (.int r.2), some (.int first), v6]) (fun j σ H' ⟨_, _, _, _, _, e, _⟩ => SqL.of e) ⟨zs, out, r.1, v6, s05, ep, s5 _ _ (s24 _ _ eF2), (ivo.mono s24).mono s5, Cut.start cano gapr, Int.le_refl _, by omega, (fun y hy => by cases hy), (fun y hy => ((pmem y).mp hy).2.1), Nat.le_refl _, rfl⟩ ?_ ?_
      · rintro j x σ H6 hx ⟨zs6, out2, first, v6, s6, ep6, eF6, iv6, cut, f0, f1, lowj, hij, l6, rfl⟩
        obtain ⟨y, hy, rfl⟩ : ∃ y, zs2[j]? = some y ∧ x = V.int y := by
          rw [List.getElem?_map] at hx
          cases q : zs2[j]? with
          | none => rw [q] at hx; cases hx
          | some y => rw [q] at hx; exact ⟨y, rfl, (Option.some.inj hx).symm⟩
        have hj := (List.getElem?_eq_some_iff.mp hy).1
        obtain ⟨yk, y1, y2⟩ := (pmem y).mp (List.mem_of_getElem? hy)
        have dz : zs2.drop j = y :: zs2.drop (j + 1) := by rw [List.drop_eq_getElem_cons hj]; congr 1; exact (List.getElem?_eq_some_iff.mp hy).2
        have tz : zs2.take (j + 1) = zs2.take j ++ [y] := by rw [List.take_add_one, hy]; rfl
        have fy : first ≤ y := hij y (by rw [dz]; exact List.mem_cons_self)
        have hi2 : ∀ q ∈ zs2.drop (j + 1), y + 1 ≤ q := fun q hq => by
          have h1 : (zs2.drop j).Pairwise (· < ·) := srt.sublist (List.drop_sublist _ _)
          rw [dz] at h1
          have := (List.pairwise_cons.mp h1).1 q hq
          omega
        have lo2 : ∀ q ∈ zs2.take (j + 1), q < y + 1 := fun q hq => by
          rw [tz] at hq
          rcases List.mem_append.mp hq with u | u
          · have := lowj q u; omega
          · rw [List.mem_singleton.mp u]; omega
        have no : ∀ k, first ≤ k → k < y → ¬ k ∈ ks := fun k h1 h2 h3 => by
          have hm := (pmem k).mpr ⟨h3, by omega, by omega⟩
          rw [← List.take_append_drop j zs2] at hm
          rcases List.mem_append.mp hm with u | u
          · have := lowj k u; omega
          · rw [dz] at u
            rcases List.mem_cons.mp u with w | w
            · omega
            · have := hi2 k w; omega
        have l60 : zs6.length = out2.length := iv6.1
        walk_at "rd"
        refine rd_ite (fun c => ?_) (fun c => ?_)
        · walk_at "rd"
          refine rd_tyL eF6 ?_
          walk_at "rd"
          refine rd_newT (by simp) fun t7 H7 _ s7 e7 _ => ?_
          walk_at "rd"
          have eF7 := s7 _ _ eF6
          refine rd_app eF7 (by omega) fun H8 eH8 eF8 => ?_
          walk_at "rd"
          refine ⟨zs6 ++ [.ref t7], out2 ++ [(first, y - 1)], y + 1, _, by rw [eH8]; exact Same.mut (s6.trans s7) hF, by rw [eH8, upd_ne hpF]; exact s7 _ _ ep6, eF8, by rw [eH8]; exact ((iv6.mono s7).snoc e7).updL eF7, cut.piece f0 c no yk, by omega, by omega, lo2, hi2, by simp; omega, rfl⟩
        · have : first = y := by omega
          subst this
          walk_at "rd"
          exact ⟨zs6, out2, first + 1, _, s6, ep6, eF6, iv6, cut.skip yk, by omega, by omega, lo2, hi2, by omega, rfl⟩
      · rintro σ H6 ⟨zs6, out2, first, v6, s6, ep6, eF6, iv6, cut, f0, f1, lowj, hij, l6, rfl⟩
        rw [List.length_map, List.take_length] at lowj
        rw [List.length_map] at l6
        obtain ⟨f', ef', can', le', mem'⟩ := cut.done (hi := r.2) f0 f1 fun k h1 h2 h3 => by
          have := lowj k ((pmem k).mpr ⟨h3, by omega, h2⟩)
          omega
        have l60 : zs6.length = out2.length := iv6.1
        have sumw : ((rs.take (i + 1)).map fun r => (within ks r).length).sum = ((rs.take i).map fun r => (within ks r).length).sum + (within ks r).length := by rw [tk, List.map_append, List.sum_append]; simp
        have fin : ∀ H8 zs8 v6, Same H H8 → H8 F = some (.lst zs8) → IvP H8 zs8 f' → ∃ zs out v3 v4 v5 v6', Same H H8 ∧ H8 F = some (.lst zs) ∧ IvP H8 zs out ∧ Canon out ∧ (∀ t ∈ out, ∀ q ∈ rs.drop (i + 1), t.2 + 1 < q.1) ∧ (∀ k, inR out k ↔ inR (rs.take (i + 1)) k ∧ k ∉ ks) ∧ out.length ≤ i + 1 + ((rs.take (i + 1)).map fun r => (within ks r).length).sum ∧ ([some (V.ref a), some (.ref D), some (.ref F), some (.int r.1), some (.int r.2), some (.int first), v6] : L2.St) = [some (.ref a), some (.ref D), some (.ref F), v3, v4, v5, v6'] := by
          rintro H8 zs8 v6 s8 eF8 iv8
          refine ⟨zs8, f', _, _, _, _, s8, eF8, iv8, can', fun t ht q hq => by have h1 := le' t ht; have h2 := next q hq; omega, fun k => ?_, ?_, rfl⟩
          · rw [mem' k, mem k, tk, inR_app, inR_cons]
            have := inR_nil k
            constructor
            · rintro (⟨h1, h2⟩ | ⟨h1, h2, h3⟩)
              · exact ⟨.inl h1, h2⟩
              · exact ⟨.inr (.inl ⟨h1, h2⟩), h3⟩
            · rintro ⟨h1 | h1 | h1, h2⟩
              · exact .inl ⟨h1, h2⟩
              · exact .inr ⟨h1.1, h1.2, h2⟩
              · exact absurd h1 this
          · have : f'.length ≤ out2.length + 1 := by
              rw [ef']
              split
              · simp
              · omega
            omega
        walk_at "rd"
        refine rd_ite (fun c => ?_) (fun c => ?_)
        · walk_at "rd"
          refine rd_tyL eF6 ?_
          walk_at "rd"
          refine rd_newT (by simp) fun t7 H7 _ s7 e7 _ => ?_
          walk_at "rd"
          have eF7 := s7 _ _ eF6
          refine rd_app eF7 (by omega) fun H8 eH8 eF8 => ?_
          rw [if_pos c] at ef'
          exact fin H8 _ _ (by rw [eH8]; exact Same.mut (s6.trans s7) hF) eF8 (by rw [eH8, ef']; exact ((iv6.mono s7).snoc e7).updL eF7)
        · walk_at "rd"
          rw [if_neg c] at ef'
          exact fin H6 _ _ s6 eF6 (by rw [ef']; exact iv6)
  · rintro σ H2 ⟨zs, out, v3, v4, v5, v6, s2, eF2, ivo, cano, gap, mem, lo, rfl⟩
    walk_at "rd"
    have lx : xs.length = rs.length := iv.1
    rw [lx, List.take_length] at mem lo
    have w := within_le can ks
    have lk : ks.length = ls.length := by rw [eks]; unfold keysL; rw [List.length_map]
    exact k H2 F zs out s2 hF eF2 ivo cano mem (by omega)
end
end Sl

set_option Elab.async false
set_option linter.all false
set_option maxRecDepth 100000
set_option maxHeartbeats 8000000
set_option exponentiation.threshold 9000
namespace Sl
open PySem L2 C8 StX Silt
local macro_rules | `(tactic| walk_at "side") => `(tactic| first
  | exact cdivw (by omega) (by omega)
  | exact cmulw (by omega) (by omega) (by omega) (by omega)
  | exact Or.inr ⟨by omega, by omega⟩
  | exact Or.inl ⟨by omega, by omega⟩
  | omega
  | exact ⟨by omega, by omega, by decide⟩
  | decide)
local macro_rules | `(tactic| walk_at "rd1") => `(tactic| first
  | with_reducible refine rd_seq ?_
  | with_reducible refine rd_asg ?_
  | with_reducible refine rd_drop ?_
  | with_reducible refine rd_ret ?_
  | with_reducible refine rd_retN ?_
  | with_reducible refine rd_ifS ?_
  | ((with_reducible refine rd_var0 ?_); refine ⟨_, rfl, ?_⟩)
  | with_reducible refine rd_c ?_
  | with_reducible refine rd_op ?_
  | with_reducible refine rd_un ?_
  | with_reducible refine rd_I0 ?_
  | with_reducible refine rd_U ?_
  | ((with_reducible refine rd_I ?c ?_); (case c => walk_at "side"))
  | with_reducible refine rd_ipI ?_
  | with_reducible refine rd_eqI ?_
  | with_reducible refine rd_neI ?_
  | with_reducible refine rd_test ?_
  | with_reducible refine rd_tB ?_
  | with_reducible refine rd_bl ?_
  | with_reducible refine rd_not ?_
  | with_reducible refine rd_and ?_
  | with_reducible refine rd_or ?_
  | with_reducible refine rd_andV ?_
  | with_reducible refine rd_orV ?_
  | with_reducible refine rd_notV ?_
  | with_reducible refine rd_ifE ?_
  | with_reducible refine rd_chain ?_
  | with_reducible refine rd_chain3 ?_
  | with_reducible refine rd_nil ?_
  | with_reducible refine rd_cons ?_
  | with_reducible refine rd_call ?_
  | with_reducible refine rd_CB ?_
  | with_reducible refine rd_par ?_
  | with_reducible refine rd_par2 ?_
  | with_reducible refine rd_par3 ?_
  | with_reducible refine rd_par4 ?_
  | ((with_reducible refine rd_aug0 ?_); refine ⟨_, rfl, ?_⟩)
  | with_reducible refine rd_gname ?_
  | with_reducible refine rd_gcons ?_
  | with_reducible refine rd_gnil ?_
  | with_reducible refine rd_max ?_
  | with_reducible refine rd_min ?_
  | with_reducible refine rd_int1 ?_
  | with_reducible refine rd_abs ?_
  | with_reducible refine rd_lst ?_
  | with_reducible refine rd_tup ?_
  | with_reducible refine rd_bm ?_
  | with_reducible refine rd_fld0 ?_
  | with_reducible refine rd_sl0 ?_
  | with_reducible refine rd_noP ?_
  | with_reducible refine rd_part ?_
  | with_reducible refine rd_part2 ?_
  | with_reducible refine rd_meth0 ?_
  | with_reducible refine rd_star ?_
  | with_reducible refine rd_for ?_
  | with_reducible refine rd_rng1 ?_
  | with_reducible refine rd_rng2 ?_
  | with_reducible refine rd_rng3 ?_
  | with_reducible refine rd_iList ?_
  | with_reducible refine rd_iTup ?_
  | with_reducible refine rd_iEnum ?_
  | with_reducible refine rd_lc ?_
  | with_reducible refine rd_yes ?_
  | with_reducible refine rd_augS ?_
  | with_reducible refine rd_drawNew ?_
  | with_reducible refine rd_make0 ?_
  | with_reducible refine rd_next ?_
  | with_reducible refine rd_break ?_
  | with_reducible refine rd_cont ?_
  | with_reducible refine rd_iteTT ?_
  | with_reducible refine rd_iteFF ?_
  | with_reducible refine rd_iteNTT ?_
  | with_reducible refine rd_iteNFF ?_
  | with_reducible refine rd_con0 ?_
  | with_reducible refine rd_truO0 ?_
  | with_reducible refine rd_gfld0 ?_
  | with_reducible refine rd_dc ?_
  | with_reducible refine rd_iKeys ?_
  | with_reducible refine rd_dget0 ?_
  | with_reducible refine rd_dput0 ?_
  | with_reducible refine rd_dnot0 ?_
  | with_reducible refine rd_iEnumT ?_
  | with_reducible refine rd_raP0 ?_
  | with_reducible refine rd_xf0 ?_
  | with_reducible refine rd_cKw ?_
  | with_reducible refine rd_iStr ?_
  | with_reducible refine rd_gSub ?_
  | with_reducible refine rd_asgG ?_)
local macro_rules | `(tactic| walk_at "rd") => `(tactic| repeat walk_at "rd1")
local macro_rules | `(tactic| walk_at "len") => `(tactic| first
  | (intro vs H Q E h; obtain ⟨h2, _⟩ := h; rw [h2]; rfl)
  | (intro vs H Q E h; obtain ⟨_, h2, _⟩ := h; rw [h2]; rfl)
  | (intro vs H Q E h; obtain ⟨_, _, h2, _⟩ := h; rw [h2]; rfl)
  | (intro vs H Q E h; obtain ⟨_, _, _, h2, _⟩ := h; rw [h2]; rfl)
  | (intro vs H Q E h; obtain ⟨_, _, _, _, h2, _⟩ := h; rw [h2]; rfl)
  | (intro vs H Q E h; obtain ⟨_, _, _, _, _, h2, _⟩ := h; rw [h2]; rfl)
  | (intro vs H Q E h; obtain ⟨_, _, _, _, _, _, h2, _⟩ := h; rw [h2]; rfl)
  | (intro vs H Q E h; obtain ⟨_, _, _, _, _, _, _, h2, _⟩ := h; rw [h2]; rfl)
  | (intro vs H Q E h; obtain ⟨_, _, _, _, _, _, _, _, h2, _⟩ := h; rw [h2]; rfl)
  | (intro vs H Q E h; obtain ⟨_, _, _, _, _, _, _, _, _, h2, _⟩ := h; rw [h2]; rfl)
  | (intro vs H Q E h; obtain ⟨_, _, _, _, _, _, _, _, _, _, h2, _⟩ := h; rw [h2]; rfl)
  | (intro vs H Q E h; obtain ⟨_, _, _, _, _, _, _, _, _, _, _, h2, _⟩ := h; rw [h2]; rfl)
  | (intro vs H Q E h; obtain ⟨_, _, _, _, _, _, _, _, _, _, _, _, h2, _⟩ := h; rw [h2]; rfl))
theorem sqT_mono {K : PySem.W.Frag} {H H' : Hp} {a : Addr} {xs : List V} (s : Same H H') (h : SqT K H a xs) : SqT K H' a xs := by
  rcases h with h | h
  · rcases h with h | ⟨o, h⟩
    · exact .inl (.inl (s _ _ h))
    · exact .inl (.inr ⟨o, s _ _ h⟩)
  · exact .inr h
/-- a list or a tuple -/
def SqQ (K : PySem.W.Frag) (H : Hp) (a : Addr) (xs : List V) : Prop := SqL K H a xs ∨ SqT K H a xs
theorem SqQ.mono {K : PySem.W.Frag} {H H' : Hp} {a : Addr} {xs : List V} (s : Same H H') (h : SqQ K H a xs) : SqQ K H' a xs := h.imp (L2.Same.seq s) (sqT_mono s)
theorem dV_nodup {ls : List (Int × V)} (h : (keysL ls).Nodup) : ((dV ls).map (·.1)).Nodup := by
  rw [dV_keys]
  exact List.Pairwise.map _ (fun a b hab z => hab (Sum.inl.inj z)) h
theorem dV_val {ls : List (Int × V)} (h : (keysL ls).Nodup) {k : Int} {v : V} (m : (k, v) ∈ ls) : valV (dV ls) (Sum.inl k) = some v := val_nodup (dV_nodup h) (Sum.inl k, v) (List.mem_map.mpr ⟨(k, v), m, rfl⟩)
theorem dV_no {ls : List (Int × V)} {k : Int} (h : k ∉ keysL ls) : valV (dV ls) (Sum.inl k) = none := by
  induction ls with
  | nil => rfl
  | cons q r ih =>
    show valV ((Sum.inl q.1, q.2) :: dV r) (Sum.inl k) = none
    rw [valV_neg (fun z => h (by rw [← Sum.inl.inj z]; exact List.mem_cons_self))]
    exact ih fun z => h (List.mem_cons_of_mem _ z)
theorem dV_putNew {ls : List (Int × V)} {k : Int} {v : V} (h : k ∉ keysL ls) : putK (dV ls) (Sum.inl k) v = dV (ls ++ [(k, v)]) := by
  rw [putK_new _ (dV_no h)]
  unfold dV
  rw [List.map_append]
  rfl
section
variable {σ : L2.St} {H : Hp} {Q : VK} {K : PySem.W.Frag} {g : TG} {tt : TT} {te : TE} {vs : List Nat}
theorem rd_dgetV {a : Addr} {ls : List (Int × V)} {k : Int} {v : V} (e : Rd H a (.dK (dV ls))) (l : valV (dV ls) (Sum.inl k) = some v) (h : Q v H) : rDGet (.ref a) (.int k) H Q := ⟨a, v, rfl, .inl ⟨_, Sum.inl k, e, rfl, l.symm⟩, h⟩
theorem rd_dcEV {D : Addr} {Nx : Hp → Prop} {ls : List (Int × V)} {k : Int} {v : V} (e : H D = some (.dK (dV ls))) (l : ls.length < 100000) (n : k ∉ keysL ls) (h : ∀ H', H' = upd H D (.dK (dV (ls ++ [(k, v)]))) → H' D = some (.dK (dV (ls ++ [(k, v)]))) → Nx H') : DcE D Nx (.int k) v H :=
  ⟨_, Sum.inl k, rfl, e, by rw [dV_len]; exact Nat.lt_trans l (by decide), by rw [dV_putNew n]; exact h _ rfl upd_same⟩
theorem tyX_Q {a : Addr} {xs : List V} (h : SqQ K H a xs) : ∃ t, (t = .type "list" ∨ t = .type "tuple") ∧ TyX K H (.ref a) t := by
  rcases h with (h | ⟨o, its, n, h1, h2, _⟩) | (h | ⟨o, its, n, h1, h2, _⟩)
  · rcases h with h | ⟨o, h⟩
    · exact ⟨_, .inl rfl, .base (.lst h)⟩
    · exact ⟨_, .inl rfl, .base (.frz h)⟩
  · exact ⟨_, .inl rfl, .kList h1 h2⟩
  · rcases h with h | ⟨o, h⟩
    · exact ⟨_, .inr rfl, .base (.tup h)⟩
    · exact ⟨_, .inr rfl, .fTuple h⟩
  · exact ⟨_, .inr rfl, .kTuple h1 h2⟩
def rGFld (K : PySem.W.Frag) (f : Str) (v : V) (QS : L2.St → Hp → Prop) (σ : L2.St) (x : V) (H1 : Hp) : Prop := ∃ a C dx fs, x = .ref a ∧ H1 a = some (.ins C dx fs) ∧ Cls K C ∧ NoAttr K C f ∧ fs.length < 1000 ∧ QS σ (upd H1 a (.ins C dx (putF f v fs)))
theorem rd_gfld0 {to : TE} {f : Str} {v : V} {QS : L2.St → Hp → Prop} (h : to σ H fun x H1 => rGFld K f v QS σ x H1) : gFld K to f v σ H QS := h
theorem rd_gfld {f : Str} {v : V} {QS : L2.St → Hp → Prop} {a C dx : Addr} {fs : List (Str × V)} (e : H a = some (.ins C dx fs)) (c : Cls K C) (n : NoAttr K C f) (l : fs.length < 1000) (h : ∀ H', H' = upd H a (.ins C dx (putF f v fs)) → H' a = some (.ins C dx (putF f v fs)) → QS σ H') : rGFld K f v QS σ (.ref a) H :=
  ⟨a, C, dx, fs, rfl, e, c, n, l, h _ rfl upd_same⟩
/-- an instance's attribute is put: lists and tuples stand -/
theorem SqQ.updI {a b C dx : Addr} {fs : List (Str × V)} {xs : List V} {o : HO} (e : H a = some (.ins C dx fs)) (h : SqQ K H b xs) : SqQ K (upd H a o) b xs := by
  have ne : ∀ u, H b = some u → (∀ C dx fs, u ≠ .ins C dx fs) → upd H a o b = some u := fun u hu n => by
    rw [upd_ne (fun z => by rw [z, e] at hu; cases hu; exact n _ _ _ rfl)]
    exact hu
  rcases h with (h | h) | (h | h)
  · rcases h with h | ⟨o, h⟩
    · exact .inl (.inl (.inl (ne _ h (fun _ _ _ z => by cases z))))
    · exact .inl (.inl (.inr ⟨o, ne _ h (fun _ _ _ z => by cases z)⟩))
  · exact .inl (.inr h)
  · rcases h with h | ⟨o, h⟩
    · exact .inr (.inl (.inl (ne _ h (fun _ _ _ z => by cases z))))
    · exact .inr (.inl (.inr ⟨o, ne _ h (fun _ _ _ z => by cases z)⟩))
  · exact .inr (.inr h)
theorem IvP.updI {a C dx : Addr} {fs : List (Str × V)} {xs : List V} {rs : List Iv} {o : HO} (e : H a = some (.ins C dx fs)) (h : IvP H xs rs) : IvP (upd H a o) xs rs := h.keep fun b ys hb => by
  rw [upd_ne (fun z => by rw [z, e] at hb; cases hb)]
  exact hb
theorem rd_isiTQ {a u : Addr} {xs : List V} (e : SqQ K H a xs) (eu : H u = some (.tup [.ty "list", .ty "tuple"])) (h : Q (.bl true) H) : rIsiT K [.ref a, .ref u] H Q := by
  obtain ⟨t, rfl | rfl, ht⟩ := tyX_Q e
  · exact ⟨_, u, _, _, [.type "list", .type "tuple"], true, rfl, eu, .cons (.ty _) (.cons (.ty _) .nil), ht, kit_ll, h⟩
  · exact ⟨_, u, _, _, [.type "list", .type "tuple"], true, rfl, eu, .cons (.ty _) (.cons (.ty _) .nil), ht, kit_tt, h⟩
def JQ (K : PySem.W.Frag) (H : Hp) (a : Addr) (xs : List V) (J : It) : Prop := (J = Itl K a ∧ SqL K H a xs) ∨ (J = Itt K a ∧ SqT K H a xs)
theorem altQ {n : Nat} {a : Addr} {xs : List V} {R : It → Hp → Prop} (hn : σ[n]? = some (some (.ref a))) (sM : SqQ K H a xs) (h : ∀ J, JQ K H a xs J → R J H) : iList K (tVar n) σ H R ∨ iTup K (tVar n) σ H R :=
  sM.elim (fun z => .inl ⟨_, hn, a, rfl, ⟨xs, z⟩, h _ (.inl ⟨rfl, z⟩)⟩) fun z => .inr ⟨_, hn, a, rfl, ⟨xs, z⟩, h _ (.inr ⟨rfl, z⟩)⟩
theorem lcR_Q {a : Addr} {xs : List V} {J : It} (hJ : JQ K H a xs J) (Pv : Addr → Nat → Hp → Prop) (hP : ∀ D i H', H D = none → Pv D i H' → Same H H') (h0 : ∀ D H', H D = none → Same H H' → H' D = some (.lst []) → H' = upd H D (.lst []) → Pv D 0 H')
    (hs : ∀ D i x H', H D = none → xs[i]? = some x → Pv D i H' → g x (wipe σ vs) H' fun σ2 H2 => wipe σ2 vs = wipe σ vs ∧ tt σ2 H2 fun b H3 => if b = true then te σ2 H3 fun y H4 => LcE D (Pv D (i + 1)) y H4 else Pv D (i + 1) H3)
    (hd : ∀ D H', H D = none → Pv D xs.length H' → Q (.ref D) H') : LcR J g tt te vs σ H Q := by
  rcases hJ with ⟨rfl, h⟩ | ⟨rfl, h⟩
  · exact lcR_lst Pv (fun D i H' hD p => L2.Same.seq (hP D i H' hD p) h) h0 hs hd
  · exact lcR_tup Pv (fun D i H' hD p => sqT_mono (hP D i H' hD p) h) h0 hs hd
theorem all_true {D : Addr} {n : Nat} (e : H D = some (.lst ((List.replicate n true).map V.bl))) (h : Q (.bl true) H) : rAll K [.ref D] H Q := by
  refine ⟨D, List.replicate n true, rfl, SqL.of e, ?_⟩
  rw [show (List.replicate n true).all id = true from by simp]
  exact h
end
theorem valB_str {v : V} (h : valB v = true) : ∃ z, v = .str z ∧ z.length ≤ 12 := by
  cases v <;> first | cases h | skip
  rename_i z
  have h : (decide (1 ≤ z.length ∧ z.length ≤ 12) && z.cps.toList.all sgB) = true := h
  rw [Bool.and_eq_true] at h
  exact ⟨z, rfl, (of_decide_eq_true h.1).2⟩
def valO (ls : List (Int × V)) (k : Int) : V := (valV (dV ls) (Sum.inl k)).getD .non
theorem map_valO {ls : List (Int × V)} (h : (keysL ls).Nodup) : (keysL ls).map (fun k => (k, valO ls k)) = ls := by
  unfold keysL
  rw [List.map_map]
  refine (List.map_congr_left fun q hq => ?_).trans (List.map_id _)
  show (q.1, valO ls q.1) = q
  unfold valO
  rw [dV_val h (k := q.1) (v := q.2) hq]
  rfl
theorem keysL_map (zs : List Int) (f : Int → V) : keysL (zs.map fun k => (k, f k)) = zs := by
  unfold keysL
  rw [List.map_map]
  exact (List.map_congr_left fun _ _ => rfl).trans (List.map_id _)
theorem inR_pts {ms : List Int} {k : Int} : inR (ms.map fun m => (m, m)) k ↔ k ∈ ms := by
  constructor
  · rintro ⟨r, hr, h1, h2⟩
    obtain ⟨m, hm, rfl⟩ := List.mem_map.mp hr
    have h1 : m ≤ k := h1
    have h2 : k ≤ m := h2
    rw [show k = m by omega]
    exact hm
  · intro h
    exact ⟨(k, k), List.mem_map.mpr ⟨k, h, rfl⟩, Int.le_refl _, Int.le_refl _⟩
def ShF (D G : Addr) : List (Str × V) := [("leaves", .ref D), ("gone", .ref G)]
theorem put_sh (D G : Addr) : putF "gone" (.ref G) (putF "leaves" (.ref D) []) = ShF D G := by
  have h : ¬ (("leaves" : Str) = "gone") := by decide +kernel
  show (if ("leaves" : Str) = "gone" then [(("leaves" : Str), V.ref G)] else (("leaves" : Str), V.ref D) :: putF "gone" (V.ref G) []) = ShF D G
  rw [if_neg h]
  rfl
theorem sh_gone (D G : Addr) : (ShF D G).lookup ("gone" : Str) = some (V.ref G) := by rfl
def spSheet (K : PySem.W.Frag) (C : Addr) : Sp := fun vs H Q _ => ∃ (self dx D M R : Addr) (H0 : Hp) (ls : List (Int × V)) (ms : List Int) (xs : List V) (rs : List Iv), vs = [.ref self, .ref D, .ref M, .ref R] ∧ Same H0 H ∧ H0 self = none ∧ H self = some (.ins C dx []) ∧
  H D = some (.dK (dV ls)) ∧ (keysL ls).Nodup ∧ (∀ q ∈ ls, keyB (.int q.1) = true ∧ valB q.2 = true) ∧ SqQ K H M (ms.map V.int) ∧ (∀ m ∈ ms, keyB (.int m) = true ∧ m ∉ keysL ls) ∧ SqQ K H R xs ∧ IvP H xs rs ∧ (∀ r ∈ rs, 0 ≤ r.1 ∧ r.1 ≤ r.2 ∧ r.2 ≤ 999999) ∧ 2 * ls.length + ms.length + rs.length ≤ 60 ∧
  ∀ H' D' G ls' ys gs, Same H0 H' → H' self = some (.ins C dx (ShF D' G)) → H' D' = some (.dK (dV ls')) → ls'.Perm ls → (keysL ls').Pairwise (· < ·) → H' G = some (.tup ys) → IvP H' ys gs → Canon gs → (∀ k, inR gs k ↔ (k ∈ ms ∨ inR rs k) ∧ k ∉ keysL ls) → ls.length + gs.length ≤ 60 → H0 D' = none → Q .non H'
section
variable {P : Program} {w : World} {K : PySem.W.Frag} {mg : Str → Option Value} {base : Heap} {C_Sheet C_BadSheet C_BadKey D_Sheet_0 D_Sheet_1 : Addr}
theorem mak2_Sheet_init (T : TX K mg C_Sheet C_BadSheet C_BadKey D_Sheet_0 D_Sheet_1) : ∃ f fd, C8.Fun K "__init__" "Sheet.__init__" s_Sheet_init f fd ∧ ((∃ ds, Vals [] ds ∧ Binds K fd P_Sheet_init ds) ∧ ∃ ds, Vals [.ref D_Sheet_0, .ref D_Sheet_1] ds ∧ Binds K fd P_Sheet_init ds) ∧ Mk K C_Sheet f ∧ FnOk P w K mg base (C8.CX0) 4 f fd P_Sheet_init (spSheet K C_Sheet) := by
  obtain ⟨f0, fd, D, bb, mk⟩ := T.m_Sheet_init
  have G_is_value := cal_is_value (P := P) (w := w) (base := base) T
  have G_is_key := cal_is_key (P := P) (w := w) (base := base) T
  have G_is_range := cal_is_range (P := P) (w := w) (base := base) T
  have G_joined_ranges := cal_joined_ranges (P := P) (w := w) (base := base) T
  have G_without_keys := cal_without_keys (P := P) (w := w) (base := base) T
  refine ⟨f0, fd, D, bb, mk, fn0 D sc_Sheet_init (by walk_at "len") (fun cdv A outer s H vs Q E hr h => ?_)⟩
  obtain ⟨self, dx, D, M, R, H0, ls, ms, xs, rs, rfl, s0, h0, eS, eD, nd, okl, sM, okm, sR, iv, okr, ll, k⟩ := h
  refine ⟨_, (pss_cut (ps_if (PW.pt (pw_or (pt_not (pt_val (pe_callB call_isi (by rfl) T.b_isinstance (by decide +kernel) (pa_cons (pv 1) (pa_cons (pe_bltn (v := .ty "dict") (u := .type "dict") rfl T.b_dict (by decide +kernel) rfl) pa_nil))))) (pw_or1 (pt_not (pt_val (pe_callB (cr_all rfl) (by rfl) T.b_all (by decide +kernel) (pa_cons (pe_lc (own := [("one", 4)]) (g := gName 4) (tt := tYes) rfl sc_Sheet_init.nd (pi_tup (pe_tup (pa_cons (pv 2) (pa_cons (pv 3) pa_nil)))) (blkOk_by (own := [("one", 4)]) (N := N_Sheet_init) (sc := fnScope s_Sheet_init) (by decide +kernel)) (fun _ _ _ _ _ => (pg_n 4 sc_Sheet_init.nd)) (fun _ _ _ _ _ => pts_nil) (fun _ _ _ _ _ => (pe_callB (callK rIsiT K call_isiT) (by rfl) T.b_isinstance (by decide +kernel) (pa_cons (pv 4) (pa_cons (pe_tup (pa_cons (pe_bltn (v := .ty "list") (u := .type "list") rfl T.b_list (by decide +kernel) rfl) (pa_cons (pe_bltn (v := .ty "tuple") (u := .type "tuple") rfl T.b_tuple (by decide +kernel) rfl) pa_nil))) pa_nil))))) pa_nil))))))) (pss_one ps_never) pss_nil)
      (pss_cut (ps_if (pt_cmpR op_gt (pe_op op_add (pe_op op_add (pe_callB cr_lenDk (by rfl) T.b_len (by decide +kernel) (pa_cons (pv 1) pa_nil)) (pe_callB cr_lenS (by rfl) T.b_len (by decide +kernel) (pa_cons (pv 2) pa_nil))) (pe_callB cr_lenS (by rfl) T.b_len (by decide +kernel) (pa_cons (pv 3) pa_nil))) (pe_gc rfl T.g_MOST_ITEMS) (nomark _)) (pss_one ps_never) pss_nil)
      (pss_cut (ps_if (pt_not (pt_val (pe_callB (cr_all rfl) (by rfl) T.b_all (by decide +kernel) (pa_cons (pe_lock (pe_lc (own := [("key", 5)]) (g := gName 5) (tt := tYes) rfl sc_Sheet_init.nd (pi_keys (pv 1)) (blkOk_by (own := [("key", 5)]) (N := N_Sheet_init) (sc := fnScope s_Sheet_init) (by decide +kernel)) (fun _ _ _ _ _ => (pg_n 5 sc_Sheet_init.nd)) (fun _ _ _ _ _ => pts_nil) (fun _ _ _ _ _ => (pe_and (pe_c G_is_key hr (by decide) rfl (pa_cons (pv 5) pa_nil)) (pe_one (pe_c G_is_value hr (by decide) rfl (pa_cons (pe_dget (hu_of hr) (pv 1) (pv 5) (fun _ _ => rfl)) pa_nil))))))) pa_nil)))) (pss_one ps_never) pss_nil)
      (pss_cut (ps_if (PW.pt (pw_or (pt_not (pt_val (pe_callB (cr_all rfl) (by rfl) T.b_all (by decide +kernel) (pa_cons (pe_lc (own := [("key", 5)]) (g := gName 5) (tt := tYes) rfl sc_Sheet_init.nd (pi_alt (pi_list (pv 2)) (pi_tup (pv 2))) (blkOk_by (own := [("key", 5)]) (N := N_Sheet_init) (sc := fnScope s_Sheet_init) (by decide +kernel)) (fun _ _ _ _ _ => (pg_n 5 sc_Sheet_init.nd)) (fun _ _ _ _ _ => pts_nil) (fun _ _ _ _ _ => (pe_and (pe_c G_is_key hr (by decide) rfl (pa_cons (pv 5) pa_nil)) (pe_one (pe_cmp (pc_dnotin (hu_of hr) (pv 5) (pv 1))))))) pa_nil)))) (pw_or1 (pt_not (pt_val (pe_callB (cr_all rfl) (by rfl) T.b_all (by decide +kernel) (pa_cons (pe_lc (own := [("one", 4)]) (g := gName 4) (tt := tYes) rfl sc_Sheet_init.nd (pi_alt (pi_list (pv 3)) (pi_tup (pv 3))) (blkOk_by (own := [("one", 4)]) (N := N_Sheet_init) (sc := fnScope s_Sheet_init) (by decide +kernel)) (fun _ _ _ _ _ => (pg_n 4 sc_Sheet_init.nd)) (fun _ _ _ _ _ => pts_nil) (fun _ _ _ _ _ => (pe_c G_is_range hr (by decide) rfl (pa_cons (pv 4) pa_nil)))) pa_nil))))))) (pss_one ps_never) pss_nil)
      (pss_cons (ps_asg (pe_dc (own := [("key", 5)]) (g := gName 5) (tt := tYes) rfl sc_Sheet_init.nd (pi_list (pe_callB (cr_sortDI rfl) (by rfl) T.b_sorted (by decide +kernel) (pa_cons (pv 1) pa_nil))) (blkOk_by (own := [("key", 5)]) (N := N_Sheet_init) (sc := fnScope s_Sheet_init) (by decide +kernel)) (fun _ _ _ _ _ => (pg_n 5 sc_Sheet_init.nd)) (fun _ _ _ _ _ => pts_nil) (fun _ _ _ _ _ => (pv 5)) (fun _ _ _ _ _ => (pe_dget (hu_of hr) (pv 1) (pv 5) (fun _ _ => rfl)))) (pg_attr (pv 0)))
      (pss_cons (ps_s 6 sc_Sheet_init.nd (pe_c G_joined_ranges hr (by decide) rfl (pa_cons (pe_lst (pa_star (pe_lc (own := [("key", 5)]) (g := gName 5) (tt := tYes) rfl sc_Sheet_init.nd (pi_alt (pi_list (pv 2)) (pi_tup (pv 2))) (blkOk_by (own := [("key", 5)]) (N := N_Sheet_init) (sc := fnScope s_Sheet_init) (by decide +kernel)) (fun _ _ _ _ _ => (pg_n 5 sc_Sheet_init.nd)) (fun _ _ _ _ _ => pts_nil) (fun _ _ _ _ _ => (pe_tup (pa_cons (pv 5) (pa_cons (pv 5) pa_nil))))) (pa_star (pv 3) pa_nil))) pa_nil)))
      (pss_cons (ps_asg (pe_callTy cr_tupOf (by rfl) T.b_tuple (by decide +kernel) (pa_cons (pe_c G_without_keys hr (by decide) rfl (pa_cons (pv 6) (pa_cons (pe_fld (pv 0) rfl) pa_nil))) pa_nil)) (pg_attr (pv 0)))
      (pss_one (ps_if (pt_cmpR op_gt (pe_op op_add (pe_callB cr_lenDk (by rfl) T.b_len (by decide +kernel) (pa_cons (pe_fld (pv 0) rfl) pa_nil)) (pe_callB cr_lenS (by rfl) T.b_len (by decide +kernel) (pa_cons (pe_fld (pv 0) rfl) pa_nil))) (pe_gc rfl T.g_MOST_ITEMS) (nomark _)) (pss_one ps_never) pss_nil))))))))), ?_⟩
  have nd2 := nd
  walk_at "rd"
  refine ⟨fun σ H' => Same H H' ∧ σ = [some (.ref self), some (.ref D), some (.ref M), some (.ref R), none, none, none], ?_, ?_⟩
  · walk_at "rd"
    refine rd_isiD eD (r := true) (by decide +kernel) ?_
    walk_at "rd"
    refine rd_newT (by simp) fun u H1 _ s1 eu _ => ?_
    walk_at "rd"
    refine rd_tpR (SqT.of eu) ?_
    refine lcR_tup (xs := [.ref M, .ref R]) (fun W i H' => Same H1 H' ∧ H' W = some (.lst ((List.replicate i true).map V.bl))) (fun W i H' _ ⟨s, _⟩ => SqT.of (s _ _ eu)) (fun W H' _ s e _ => ⟨s, e⟩) ?_ ?_
    · rintro W i x H2 hW hx ⟨s2, eW⟩
      have hi : i < 2 := (List.getElem?_eq_some_iff.mp hx).1
      obtain ⟨a, ys, rfl, sa⟩ : ∃ a ys, x = .ref a ∧ SqQ K H a ys := by
        have := List.mem_of_getElem? hx
        simp only [List.mem_cons, List.not_mem_nil, or_false] at this
        rcases this with rfl | rfl
        · exact ⟨_, _, rfl, sM⟩
        · exact ⟨_, _, rfl, sR⟩
      walk_at "rd"
      refine ⟨rfl, ?_⟩
      walk_at "rd"
      refine rd_newT (by simp) fun w H3 _ s3 ew _ => ?_
      walk_at "rd"
      refine rd_isiTQ (sa.mono ((s1.trans s2).trans s3)) ew ?_
      refine rd_lcE (s3 _ _ eW) (by simp; omega) fun H4 eH4 eW4 => ?_
      refine ⟨by rw [eH4]; exact Same.mut (s2.trans s3) hW, ?_⟩
      rw [eW4, List.replicate_succ', List.map_append]
      rfl
    · rintro W H2 hW ⟨s2, eW⟩
      walk_at "rd"
      refine all_true eW ?_
      walk_at "rd"
      exact ⟨s1.trans s2, rfl⟩
  rintro σ H1 ⟨s1, rfl⟩
  walk_at "rd"
  refine ⟨fun σ H' => Same H H' ∧ σ = [some (.ref self), some (.ref D), some (.ref M), some (.ref R), none, none, none], ?_, ?_⟩
  · walk_at "rd"
    refine rd_lenDk (s1 _ _ eD) ?_
    walk_at "rd"
    refine ⟨M, _, rfl, sM.mono s1, ?_⟩
    walk_at "rd"
    refine ⟨R, _, rfl, sR.mono s1, ?_⟩
    walk_at "rd"
    refine rd_iteF (by rw [dV_len, List.length_map, iv.1]; omega) ?_
    walk_at "rd"
    exact ⟨s1, rfl⟩
  clear s1
  rintro σ H1 ⟨s1, rfl⟩
  walk_at "rd"
  refine ⟨fun σ H' => Same H H' ∧ σ = [some (.ref self), some (.ref D), some (.ref M), some (.ref R), none, none, none], ?_, ?_⟩
  · walk_at "rd"
    have eD1 := s1 _ _ eD
    refine rd_lock eD1 trivial fun od => ?_
    obtain ⟨HL, eHL⟩ : ∃ HL, HL = upd H1 D (.frz od (.dK (dV ls))) := ⟨_, rfl⟩
    rw [← eHL]
    have eLL : HL D = some (.frz od (.dK (dV ls))) := by rw [eHL]; exact upd_same
    walk_at "rd"
    refine rd_keysR eLL ?_
    refine lcR_keys (fun W j H' => Same HL H' ∧ H' W = some (.lst ((List.replicate j true).map V.bl))) (fun W j H' _ ⟨s, _⟩ => s _ _ eLL) (fun W H' _ s e _ => ⟨s, e⟩) ?_ ?_
    · rintro W j kx z H2 hW hj ⟨s2, eW⟩
      obtain ⟨y, hy, rfl⟩ := dV_get hj
      have hm := List.mem_of_getElem? hy
      have hj2 := (List.getElem?_eq_some_iff.mp hy).1
      obtain ⟨o1, o2⟩ := okl _ hm
      obtain ⟨zs, rfl, zl⟩ := valB_str o2
      have ekv : kV (Sum.inl y) = V.int y := rfl
      rw [ekv]
      walk_at "rd"
      refine ⟨rfl, ?_⟩
      walk_at "rd"
      refine ⟨_, rfl, rfl, ?_⟩
      refine ⟨true, by rw [o1], ?_⟩
      walk_at "rd"
      refine rd_dgetV (.inr ⟨od, s2 _ _ eLL⟩) (dV_val nd hm) ?_
      walk_at "rd"
      refine ⟨_, rfl, rfl, fun z e => by cases e; omega, fun H3 s3 => ?_⟩
      rw [o2]
      refine rd_lcE (s3 _ _ eW) (by simp; omega) fun H4 eH4 eW4 => ?_
      refine ⟨by rw [eH4]; exact Same.mut (s2.trans s3) hW, ?_⟩
      rw [eW4, List.replicate_succ', List.map_append]
      rfl
    · rintro W H2 hW ⟨s2, eW⟩
      have hWD : W ≠ D := fun z => by rw [z, eLL] at hW; cases hW
      refine ⟨s2 _ _ eLL, ?_⟩
      obtain ⟨H3, eH3⟩ : ∃ H3, H3 = upd H2 D (.dK (dV ls)) := ⟨_, rfl⟩
      rw [← eH3]
      have s13 : Same H1 H3 := by
        rw [eH3]
        refine Same.unlock eD1 (o := .frz od (.dK (dV ls))) ?_
        rw [← eHL]
        exact s2
      have eW3 : H3 W = some (.lst ((List.replicate (dV ls).length true).map V.bl)) := by rw [eH3, upd_ne hWD]; exact eW
      walk_at "rd"
      refine all_true eW3 ?_
      walk_at "rd"
      exact ⟨s1.trans s13, rfl⟩
  clear s1
  rintro σ H1 ⟨s1, rfl⟩
  walk_at "rd"
  refine ⟨fun σ H' => Same H H' ∧ σ = [some (.ref self), some (.ref D), some (.ref M), some (.ref R), none, none, none], ?_, ?_⟩
  · walk_at "rd"
    refine altQ rfl (sM.mono s1) fun J hJ => ?_
    refine lcR_Q hJ (fun W j H' => Same H1 H' ∧ H' W = some (.lst ((List.replicate j true).map V.bl))) (fun W j H' _ ⟨s, _⟩ => s) (fun W H' _ s e _ => ⟨s, e⟩) ?_ ?_
    · rintro W j x H2 hW hx ⟨s2, eW⟩
      have hj := (List.getElem?_eq_some_iff.mp hx).1
      rw [List.length_map] at hj
      obtain ⟨m, hm, rfl⟩ : ∃ m, ms[j]? = some m ∧ x = V.int m := by
        rw [List.getElem?_map] at hx
        cases q : ms[j]? with
        | none => rw [q] at hx; cases hx
        | some m => rw [q] at hx; exact ⟨m, rfl, (Option.some.inj hx).symm⟩
      obtain ⟨o1, o2⟩ := okm m (List.mem_of_getElem? hm)
      walk_at "rd"
      refine ⟨rfl, ?_⟩
      walk_at "rd"
      refine ⟨_, rfl, rfl, ?_⟩
      refine ⟨true, by rw [o1], ?_⟩
      walk_at "rd"
      refine ⟨D, _, rfl, DGet.k (k := Sum.inl m) ((s1.trans s2) _ _ eD), ?_⟩
      rw [dV_no o2]
      refine rd_lcE eW (by simp; omega) fun H4 eH4 eW4 => ?_
      refine ⟨by rw [eH4]; exact Same.mut s2 hW, ?_⟩
      rw [eW4, List.replicate_succ', List.map_append]
      rfl
    · rintro W H2 hW ⟨s2, eW⟩
      walk_at "rd"
      refine all_true eW ?_
      walk_at "rd"
      have s02 := s1.trans s2
      refine altQ rfl (sR.mono s02) fun J hJ => ?_
      refine lcR_Q hJ (fun W j H' => Same H2 H' ∧ H' W = some (.lst ((List.replicate j true).map V.bl))) (fun W j H' _ ⟨s, _⟩ => s) (fun W H' _ s e _ => ⟨s, e⟩) ?_ ?_
      · rintro W2 j x H3 hW2 hx ⟨s3, eW2⟩
        have hj := (List.getElem?_eq_some_iff.mp hx).1
        obtain ⟨r, t, hr, rfl, et⟩ := (iv.mono (s02.trans s3)).getV hx
        obtain ⟨o1, o2, o3⟩ := okr r (List.mem_of_getElem? hr)
        have lx := iv.1
        walk_at "rd"
        refine ⟨rfl, ?_⟩
        walk_at "rd"
        refine ⟨t, rfl, .inl ⟨_, et, by simp, fun w hw => ?_, fun H4 s4 => ?_⟩⟩
        · simp only [List.mem_cons, List.not_mem_nil, or_false] at hw
          rcases hw with rfl | rfl <;> rfl
        have : rgB [V.int r.1, V.int r.2] = true := decide_eq_true ⟨o1, o2, o3⟩
        rw [this]
        refine rd_lcE (s4 _ _ eW2) (by simp; omega) fun H5 eH5 eW5 => ?_
        refine ⟨by rw [eH5]; exact Same.mut (s3.trans s4) hW2, ?_⟩
        rw [eW5, List.replicate_succ', List.map_append]
        rfl
      · rintro W2 H3 hW2 ⟨s3, eW2⟩
        walk_at "rd"
        refine all_true eW2 ?_
        walk_at "rd"
        exact ⟨s02.trans s3, rfl⟩
  clear s1
  rintro σ H1 ⟨s1, rfl⟩
  walk_at "rd"
  have eD1 := s1 _ _ eD
  have sM1 := sM.mono s1
  have sR1 := sR.mono s1
  have iv1 := iv.mono s1
  refine ⟨D, dV ls, keysL ls, rfl, .inl eD1, dV_keys ls, by unfold keysL; rw [List.length_map]; omega, fun zs p pm sr hp => ?_⟩
  obtain ⟨H2, eH2⟩ : ∃ H2, H2 = upd H1 p (.lst (zs.map V.int)) := ⟨_, rfl⟩
  rw [← eH2]
  have s2 : Same H1 H2 := by rw [eH2]; exact Same.new (Same.refl H1) hp
  have ep2 : H2 p = some (.lst (zs.map V.int)) := by rw [eH2]; exact upd_same
  have ndz : zs.Nodup := pm.nodup_iff.mpr nd
  have srt : zs.Pairwise (· < ·) := (sr.and ndz).imp fun h => by have h1 := h.1; have h2 := h.2; omega
  have lz : zs.length = ls.length := by rw [pm.length_eq]; unfold keysL; rw [List.length_map]
  walk_at "rd"
  refine rd_lsR (SqL.of ep2) ?_
  refine dcR_lst (xs := zs.map V.int) (fun W j H' => Same H2 H' ∧ H' W = some (.dK (dV ((zs.take j).map fun k => (k, valO ls k))))) (fun W j H' _ ⟨s, _⟩ => SqL.of (s _ _ ep2)) (fun W H' _ s e _ => ⟨s, e⟩) ?_ ?_
  · rintro W j x H3 hW hx ⟨s3, eW⟩
    obtain ⟨y, hy, rfl⟩ : ∃ y, zs[j]? = some y ∧ x = V.int y := by
      rw [List.getElem?_map] at hx
      cases q : zs[j]? with
      | none => rw [q] at hx; cases hx
      | some y => rw [q] at hx; exact ⟨y, rfl, (Option.some.inj hx).symm⟩
    have hj := (List.getElem?_eq_some_iff.mp hy).1
    have hym := pm.mem_iff.mp (List.mem_of_getElem? hy)
    obtain ⟨q, hq, rfl⟩ := List.mem_map.mp hym
    have hv : valV (dV ls) (Sum.inl q.1) = some q.2 := dV_val nd hq
    have tz : zs.take (j + 1) = zs.take j ++ [q.1] := by rw [List.take_add_one, hy]; rfl
    have hn : q.1 ∉ keysL ((zs.take j).map fun k => (k, valO ls k)) := by
      rw [keysL_map]
      intro z
      have : (zs.take (j + 1)).Nodup := ndz.sublist (List.take_sublist _ _)
      rw [tz, List.nodup_append] at this
      exact this.2.2 _ z _ (List.mem_singleton.mpr rfl) rfl
    walk_at "rd"
    refine ⟨rfl, ?_⟩
    walk_at "rd"
    refine rd_dgetV (.inl ((s2.trans s3) _ _ eD1)) hv ?_
    refine rd_dcEV eW (by rw [List.length_map, List.length_take]; omega) hn fun H4 eH4 eW4 => ?_
    refine ⟨by rw [eH4]; exact Same.mut s3 hW, ?_⟩
    rw [eW4, tz, List.map_append]
    show some (HO.dK (dV (_ ++ [(q.1, q.2)]))) = some (HO.dK (dV (_ ++ [(q.1, valO ls q.1)])))
    unfold valO
    rw [hv]
    rfl
  · rintro W H3 hW ⟨s3, eW⟩
    rw [List.length_map, List.take_length] at eW
    obtain ⟨ls', els⟩ : ∃ ls', ls' = zs.map fun k => (k, valO ls k) := ⟨_, rfl⟩
    rw [← els] at eW
    have kls : keysL ls' = zs := by rw [els, keysL_map]
    have pls : ls'.Perm ls := by
      rw [els]
      have := pm.map fun k => (k, valO ls k)
      rw [map_valO nd] at this
      exact this
    have s13 := s2.trans s3
    have s03 : Same H H3 := s1.trans s13
    have eS3 := s03 _ _ eS
    have hW0 : H0 W = none := none_back ((s0.trans s1).trans s2) hW
    refine rd_gfld0 ?_
    walk_at "rd"
    refine rd_gfld eS3 T.cl_Sheet T.na_Sheet_leaves (by decide) fun H4 eH4 eS4 => ?_
    have sM4 : SqQ K H4 M (ms.map V.int) := by rw [eH4]; exact (sM1.mono s13).updI eS3
    have sR4 : SqQ K H4 R xs := by rw [eH4]; exact (sR1.mono s13).updI eS3
    have iv4 : IvP H4 xs rs := by rw [eH4]; exact (iv1.mono s13).updI eS3
    have eW4 : H4 W = some (.dK (dV ls')) := by rw [eH4, upd_ne (fun z => by rw [z, eS3] at eW; cases eW)]; exact eW
    have s04 : Same H0 H4 := by rw [eH4]; exact Same.mut (s0.trans s03) h0
    walk_at "rd"
    refine altQ rfl sM4 fun J hJ => ?_
    refine lcR_Q hJ (fun W2 j H' => Same H4 H' ∧ ∃ zs2, H' W2 = some (.lst zs2) ∧ IvP H' zs2 ((ms.take j).map fun m => (m, m))) (fun W2 j H' _ ⟨s, _⟩ => s) (fun W2 H' _ s e _ => ⟨s, [], e, IvP.nil⟩) ?_ ?_
    · rintro W2 j x H5 hW2 hx ⟨s5, zs2, eZ, ivz⟩
      obtain ⟨m, hm, rfl⟩ : ∃ m, ms[j]? = some m ∧ x = V.int m := by
        rw [List.getElem?_map] at hx
        cases q : ms[j]? with
        | none => rw [q] at hx; cases hx
        | some m => rw [q] at hx; exact ⟨m, rfl, (Option.some.inj hx).symm⟩
      have hj := (List.getElem?_eq_some_iff.mp hm).1
      have lz2 : zs2.length ≤ j := by rw [ivz.1, List.length_map, List.length_take]; omega
      walk_at "rd"
      refine ⟨rfl, ?_⟩
      walk_at "rd"
      refine rd_newT (by simp) fun t6 H6 _ s6 e6 _ => ?_
      refine rd_lcE (s6 _ _ eZ) (by omega) fun H7 eH7 eZ7 => ?_
      refine ⟨by rw [eH7]; exact Same.mut (s5.trans s6) hW2, zs2 ++ [.ref t6], eZ7, ?_⟩
      rw [List.take_add_one, hm, List.map_append, eH7]
      exact ((ivz.mono s6).snoc (r := (m, m)) e6).updL (s6 _ _ eZ)
    · rintro W2 H5 hW2 ⟨s5, zs2, eZ, ivz⟩
      rw [List.length_map, List.take_length] at ivz
      refine ⟨W2, zs2, rfl, .inr (SqL.of eZ), ?_⟩
      walk_at "rd"
      refine ⟨R, xs, rfl, (sR4.mono s5).symm, ?_⟩
      walk_at "rd"
      have ivA := ivz.app (iv4.mono s5)
      have lA : (zs2 ++ xs).length ≤ 60 := by rw [ivA.1, List.length_append, List.length_map]; omega
      refine rd_newL (by rw [List.append_nil]; omega) fun A H6 _ s6 eA _ => ?_
      rw [List.append_nil] at eA
      walk_at "rd"
      refine ⟨A, _, _, rfl, eA, ivA.mono s6, fun r hr => ?_, by rw [List.length_append, List.length_map]; omega, fun H7 Jn ys out s7 hJ7 eJ ivj canj memj lenj => ?_⟩
      · rcases List.mem_append.mp hr with z | z
        · obtain ⟨m, _, rfl⟩ := List.mem_map.mp z
          exact Int.le_refl _
        · exact (okr r z).2.1
      rw [List.length_append, List.length_map] at lenj
      have s47 := (s5.trans s6).trans s7
      have eS7 := s47 _ _ eS4
      have eW7 := s47 _ _ eW4
      have ll' : ls'.length = ls.length := pls.length_eq
      walk_at "rd"
      refine rd_fld eS7 T.cl_Sheet T.na_Sheet_leaves rfl ?_
      walk_at "rd"
      refine ⟨Jn, W, ys, out, ls', rfl, eJ, ivj, canj, eW7, by rw [kls]; exact ndz, by omega, by omega, fun H8 G0 ys8 gs s8 hG0 eG8 ivg cang memg leng => ?_⟩
      walk_at "rd"
      refine rd_tupOfL eG8 fun G H9 _ s9 eG _ => ?_
      have s79 := s8.trans s9
      have eS9 := s79 _ _ eS7
      have eW9 := s79 _ _ eW7
      refine rd_gfld0 ?_
      walk_at "rd"
      refine rd_gfld eS9 T.cl_Sheet T.na_Sheet_gone (by show 1 < 1000; decide) fun H10 eH10 eS10 => ?_
      have eW10 : H10 W = some (.dK (dV ls')) := by rw [eH10, upd_ne (fun z => by rw [z, eS9] at eW9; cases eW9)]; exact eW9
      have eG10 : H10 G = some (.tup ys8) := by rw [eH10, upd_ne (fun z => by rw [z, eS9] at eG; cases eG)]; exact eG
      have ivg10 : IvP H10 ys8 gs := by rw [eH10]; exact (ivg.mono s9).updI eS9
      have eSF : putF "gone" (.ref G) (putF "leaves" (.ref W) []) = ShF W G := put_sh W G
      rw [eSF] at eS10
      have lg := ivg10.1
      walk_at "rd"
      refine rd_fld eS10 T.cl_Sheet T.na_Sheet_leaves rfl ?_
      walk_at "rd"
      refine rd_lenDk eW10 ?_
      walk_at "rd"
      refine rd_fld eS10 T.cl_Sheet T.na_Sheet_gone (sh_gone W G) ?_
      walk_at "rd"
      refine rd_lenT eG10 ?_
      walk_at "rd"
      refine rd_iteF (by rw [dV_len]; omega) ?_
      walk_at "rd"
      refine k H10 W G ls' ys8 gs (by rw [eH10]; exact Same.mut (s04.trans (s47.trans s79)) h0) eS10 eW10 pls (by rw [kls]; exact srt) eG10 ivg10 cang (fun q => ?_) (by omega) hW0
      rw [memg q, memj q, inR_app, inR_pts, kls, pm.mem_iff]
end
end Sl

set_option Elab.async false
set_option linter.all false
set_option maxRecDepth 100000
set_option maxHeartbeats 8000000
set_option exponentiation.threshold 9000
namespace Sl
open PySem L2 C8 StX Silt
local macro_rules | `(tactic| walk_at "side") => `(tactic| first
  | exact cdivw (by omega) (by omega)
  | exact cmulw (by omega) (by omega) (by omega) (by omega)
  | exact Or.inr ⟨by omega, by omega⟩
  | exact Or.inl ⟨by omega, by omega⟩
  | omega
  | exact ⟨by omega, by omega, by decide⟩
  | decide)
local macro_rules | `(tactic| walk_at "rd1") => `(tactic| first
  | with_reducible refine rd_seq ?_
  | with_reducible refine rd_asg ?_
  | with_reducible refine rd_drop ?_
  | with_reducible refine rd_ret ?_
  | with_reducible refine rd_retN ?_
  | with_reducible refine rd_ifS ?_
  | ((with_reducible refine rd_var0 ?_); refine ⟨_, rfl, ?_⟩)
  | with_reducible refine rd_c ?_
  | with_reducible refine rd_op ?_
  | with_reducible refine rd_un ?_
  | with_reducible refine rd_I0 ?_
  | with_reducible refine rd_U ?_
  | ((with_reducible refine rd_I ?c ?_); (case c => walk_at "side"))
  | with_reducible refine rd_ipI ?_
  | with_reducible refine rd_eqI ?_
  | with_reducible refine rd_neI ?_
  | with_reducible refine rd_test ?_
  | with_reducible refine rd_tB ?_
  | with_reducible refine rd_bl ?_
  | with_reducible refine rd_not ?_
  | with_reducible refine rd_and ?_
  | with_reducible refine rd_or ?_
  | with_reducible refine rd_andV ?_
  | with_reducible refine rd_orV ?_
  | with_reducible refine rd_notV ?_
  | with_reducible refine rd_ifE ?_
  | with_reducible refine rd_chain ?_
  | with_reducible refine rd_chain3 ?_
  | with_reducible refine rd_nil ?_
  | with_reducible refine rd_cons ?_
  | with_reducible refine rd_call ?_
  | with_reducible refine rd_CB ?_
  | with_reducible refine rd_par ?_
  | with_reducible refine rd_par2 ?_
  | with_reducible refine rd_par3 ?_
  | with_reducible refine rd_par4 ?_
  | ((with_reducible refine rd_aug0 ?_); refine ⟨_, rfl, ?_⟩)
  | with_reducible refine rd_gname ?_
  | with_reducible refine rd_gcons ?_
  | with_reducible refine rd_gnil ?_
  | with_reducible refine rd_max ?_
  | with_reducible refine rd_min ?_
  | with_reducible refine rd_int1 ?_
  | with_reducible refine rd_abs ?_
  | with_reducible refine rd_lst ?_
  | with_reducible refine rd_tup ?_
  | with_reducible refine rd_bm ?_
  | with_reducible refine rd_fld0 ?_
  | with_reducible refine rd_sl0 ?_
  | with_reducible refine rd_noP ?_
  | with_reducible refine rd_part ?_
  | with_reducible refine rd_part2 ?_
  | with_reducible refine rd_meth0 ?_
  | with_reducible refine rd_star ?_
  | with_reducible refine rd_for ?_
  | with_reducible refine rd_rng1 ?_
  | with_reducible refine rd_rng2 ?_
  | with_reducible refine rd_rng3 ?_
  | with_reducible refine rd_iList ?_
  | with_reducible refine rd_iTup ?_
  | with_reducible refine rd_iEnum ?_
  | with_reducible refine rd_lc ?_
  | with_reducible refine rd_yes ?_
  | with_reducible refine rd_augS ?_
  | with_reducible refine rd_drawNew ?_
  | with_reducible refine rd_make0 ?_
  | with_reducible refine rd_next ?_
  | with_reducible refine rd_break ?_
  | with_reducible refine rd_cont ?_
  | with_reducible refine rd_iteTT ?_
  | with_reducible refine rd_iteFF ?_
  | with_reducible refine rd_iteNTT ?_
  | with_reducible refine rd_iteNFF ?_
  | with_reducible refine rd_con0 ?_
  | with_reducible refine rd_truO0 ?_
  | with_reducible refine rd_gfld0 ?_
  | with_reducible refine rd_dc ?_
  | with_reducible refine rd_iKeys ?_
  | with_reducible refine rd_dget0 ?_
  | with_reducible refine rd_dput0 ?_
  | with_reducible refine rd_dnot0 ?_
  | with_reducible refine rd_iEnumT ?_
  | with_reducible refine rd_raP0 ?_
  | with_reducible refine rd_xf0 ?_
  | with_reducible refine rd_cKw ?_
  | with_reducible refine rd_iStr ?_
  | with_reducible refine rd_gSub ?_
  | with_reducible refine rd_asgG ?_)
local macro_rules | `(tactic| walk_at "rd") => `(tactic| repeat walk_at "rd1")
local macro_rules | `(tactic| walk_at "len") => `(tactic| first
  | (intro vs H Q E h; obtain ⟨h2, _⟩ := h; rw [h2]; rfl)
  | (intro vs H Q E h; obtain ⟨_, h2, _⟩ := h; rw [h2]; rfl)
  | (intro vs H Q E h; obtain ⟨_, _, h2, _⟩ := h; rw [h2]; rfl)
  | (intro vs H Q E h; obtain ⟨_, _, _, h2, _⟩ := h; rw [h2]; rfl)
  | (intro vs H Q E h; obtain ⟨_, _, _, _, h2, _⟩ := h; rw [h2]; rfl)
  | (intro vs H Q E h; obtain ⟨_, _, _, _, _, h2, _⟩ := h; rw [h2]; rfl)
  | (intro vs H Q E h; obtain ⟨_, _, _, _, _, _, h2, _⟩ := h; rw [h2]; rfl)
  | (intro vs H Q E h; obtain ⟨_, _, _, _, _, _, _, h2, _⟩ := h; rw [h2]; rfl)
  | (intro vs H Q E h; obtain ⟨_, _, _, _, _, _, _, _, h2, _⟩ := h; rw [h2]; rfl)
  | (intro vs H Q E h; obtain ⟨_, _, _, _, _, _, _, _, _, h2, _⟩ := h; rw [h2]; rfl)
  | (intro vs H Q E h; obtain ⟨_, _, _, _, _, _, _, _, _, _, h2, _⟩ := h; rw [h2]; rfl)
  | (intro vs H Q E h; obtain ⟨_, _, _, _, _, _, _, _, _, _, _, h2, _⟩ := h; rw [h2]; rfl)
  | (intro vs H Q E h; obtain ⟨_, _, _, _, _, _, _, _, _, _, _, _, h2, _⟩ := h; rw [h2]; rfl))
/-- a sheet -/
def ShP (C : Addr) (H : Hp) (x : Addr) (ls : List (Int × V)) (gs : List Iv) : Prop := ∃ dx D G ys, H x = some (.ins C dx (ShF D G)) ∧ H D = some (.dK (dV ls)) ∧ (keysL ls).Pairwise (· < ·) ∧ (∀ q ∈ ls, valB q.2 = true) ∧ H G = some (.tup ys) ∧ IvP H ys gs ∧ Canon gs
theorem ShP.mono {C : Addr} {H H' : Hp} {x : Addr} {ls : List (Int × V)} {gs : List Iv} (s : Same H H') (h : ShP C H x ls gs) : ShP C H' x ls gs := by
  obtain ⟨dx, D, G, ys, h1, h2, h3, h4, h5, h6, h7⟩ := h
  exact ⟨dx, D, G, ys, s _ _ h1, s _ _ h2, h3, h4, s _ _ h5, h6.mono s, h7⟩
theorem asc_nd {l : List Int} (h : l.Pairwise (· < ·)) : l.Nodup := h.imp fun h => by omega
def spShEq (C : Addr) : Sp := fun vs H Q _ => ∃ (x : Addr) (y : V) (ls : List (Int × V)) (gs : List Iv), vs = [.ref x, y] ∧ ShP C H x ls gs ∧ ((∃ b hs, y = .ref b ∧ ShP C H b ls hs ∧ ∀ H', Same H H' → Q (.bl (decide (gs = hs))) H') ∨ ∃ i, y = .int i ∧ Q (.bl false) H)
def spShLen (C : Addr) : Sp := fun vs H Q _ => ∃ (x : Addr) (ls : List (Int × V)) (gs : List Iv), vs = [.ref x] ∧ ShP C H x ls gs ∧ Q (.int ls.length) H
def spShIn (C : Addr) : Sp := fun vs H Q _ => ∃ (x : Addr) (k : Int) (ls : List (Int × V)) (gs : List Iv), vs = [.ref x, .int k] ∧ ShP C H x ls gs ∧ Q (.bl (decide (k ∈ keysL ls))) H
def inRB (gs : List Iv) (k : Int) : Bool := gs.any fun r => decide (r.1 ≤ k ∧ k ≤ r.2)
theorem inRB_iff {gs : List Iv} {k : Int} : inRB gs k = true ↔ inR gs k := by
  unfold inRB inR
  rw [List.any_eq_true]
  exact ⟨fun ⟨x, h1, h2⟩ => ⟨x, h1, of_decide_eq_true h2⟩, fun ⟨x, h1, h2⟩ => ⟨x, h1, decide_eq_true h2⟩⟩
def spGone (C : Addr) : Sp := fun vs H Q _ => ∃ (x : Addr) (k : Int) (ls : List (Int × V)) (gs : List Iv), vs = [.ref x, .int k] ∧ ShP C H x ls gs ∧ keyB (.int k) = true ∧ gs.length ≤ 1000 ∧ ∀ H', Same H H' → Q (.bl (inRB gs k)) H'
def spGoneX (C CX : Addr) : Sp := fun vs H _ E => ∃ (x : Addr) (v : V) (ls : List (Int × V)) (gs : List Iv), vs = [.ref x, v] ∧ Sc v ∧ keyB v = false ∧ E (.ref CX) none H
theorem flat_val {v : V} (h : valB v = true) : flatB v = true := by
  obtain ⟨z, rfl, _⟩ := valB_str h
  rfl
theorem eqv_pairsT : ∀ (l m : List Iv), PyData.eqv (.tuple (l.map pairD)) (.tuple (m.map pairD)) = decide (l = m)
  | [], [] => by simp [PyData.eqv, PyData.eqvAll]
  | [], x :: m => by simp [PyData.eqv, PyData.eqvAll]
  | x :: l, [] => by simp [PyData.eqv, PyData.eqvAll]
  | x :: l, y :: m => by
    have ih := eqv_pairsT l m
    simp only [PyData.eqv, List.map_cons, PyData.eqvAll, pairD, Bool.and_true] at ih ⊢
    rw [ih]
    rw [Bool.eq_iff_iff]
    simp only [Bool.and_eq_true, decide_eq_true_iff, List.cons.injEq, beq_iff_eq, Prod.ext_iff]
section
variable {P : Program} {w : World} {K : PySem.W.Frag} {mg : Str → Option Value} {base : Heap} {C_Sheet C_BadSheet C_BadKey D_Sheet_0 D_Sheet_1 : Addr}
theorem met_Sheet_len (T : TX K mg C_Sheet C_BadSheet C_BadKey D_Sheet_0 D_Sheet_1) : Met P w K mg base 1 C_Sheet "__len__" (spShLen C_Sheet) [] := by
  obtain ⟨f0, fd, D, dn, me, _⟩ := T.m_Sheet_len
  refine met0 T.cl_Sheet me D (D.binds dn fun _ _ _ _ _ _ us hl => match us, hl with | [_], _ => rfl) sc_Sheet_len (by walk_at "len") (fun cdv A outer s H vs Q E hr h => ?_)
  obtain ⟨x, ls, gs, rfl, ⟨dx, D, G, ys, h1, h2, h3, h4, h5, h6, h7⟩, k⟩ := h
  refine ⟨_, (pss_one (ps_ret (pe_callB cr_lenDk (by rfl) T.b_len (by decide +kernel) (pa_cons (pe_fld (pv 0) rfl) pa_nil)))), ?_⟩
  walk_at "rd"
  refine rd_fld h1 T.cl_Sheet T.na_Sheet_leaves rfl ?_
  walk_at "rd"
  refine rd_lenDk h2 ?_
  rw [dV_len]
  exact k
theorem met_Sheet_contains (T : TX K mg C_Sheet C_BadSheet C_BadKey D_Sheet_0 D_Sheet_1) : Met P w K mg base 1 C_Sheet "__contains__" (spShIn C_Sheet) [] := by
  obtain ⟨f0, fd, D, dn, me, _⟩ := T.m_Sheet_contains
  refine met0 T.cl_Sheet me D (D.binds dn fun _ _ _ _ _ _ us hl => match us, hl with | [_, _], _ => rfl) sc_Sheet_contains (by walk_at "len") (fun cdv A outer s H vs Q E hr h => ?_)
  obtain ⟨x, k0, ls, gs, rfl, ⟨dx, D, G, ys, h1, h2, h3, h4, h5, h6, h7⟩, k⟩ := h
  refine ⟨_, (pss_one (ps_ret (pe_cmp (pc_din (hu_of hr) (pv 1) (pe_fld (pv 0) rfl))))), ?_⟩
  walk_at "rd"
  refine rd_din0 ?_
  walk_at "rd"
  refine rd_fld h1 T.cl_Sheet T.na_Sheet_leaves rfl ?_
  refine ⟨D, _, rfl, DGet.k (k := Sum.inl k0) h2, ?_⟩
  have : (valV (dV ls) (Sum.inl k0)).isSome = decide (k0 ∈ keysL ls) := by
    by_cases c : k0 ∈ keysL ls
    · obtain ⟨q, hq, rfl⟩ := List.mem_map.mp c
      rw [dV_val (asc_nd h3) (k := q.1) (v := q.2) hq, decide_eq_true c]
      rfl
    · rw [dV_no c, decide_eq_false c]
      rfl
  rw [this]
  exact k
theorem met_Sheet_is_gone (T : TX K mg C_Sheet C_BadSheet C_BadKey D_Sheet_0 D_Sheet_1) : Met P w K mg base 4 C_Sheet "is_gone" (spGone C_Sheet) [] := by
  obtain ⟨f0, fd, D, dn, me, _⟩ := T.m_Sheet_is_gone
  have G_check_key := cal_check_key (P := P) (w := w) (base := base) T
  refine met0 T.cl_Sheet me D (D.binds dn fun _ _ _ _ _ _ us hl => match us, hl with | [_, _], _ => rfl) sc_Sheet_is_gone (by walk_at "len") (fun cdv A outer s H vs Q E hr h => ?_)
  obtain ⟨x, k0, ls, gs, rfl, ⟨dx, D, G, ys, h1, h2, h3, h4, h5, h6, h7⟩, hk, hg, k⟩ := h
  refine ⟨_, (pss_cons (ps_expr (pe_c G_check_key hr (by decide) rfl (pa_cons (pv 1) pa_nil)))
      (pss_one (ps_ret (pe_callB (cr_any rfl) (by rfl) T.b_any (by decide +kernel) (pa_cons (pe_lc (own := [("low", 2), ("high", 3)]) (g := gTup _ 2 (gCons (gName 2) (gCons (gName 3) gNil))) (tt := tYes) rfl sc_Sheet_is_gone.nd (pi_tup (pe_fld (pv 0) rfl)) (blkOk_by (own := [("low", 2), ("high", 3)]) (N := N_Sheet_is_gone) (sc := fnScope s_Sheet_is_gone) (by decide +kernel)) (fun _ _ _ _ _ => (pg_tup rfl (pgs_cons (pg_n 2 sc_Sheet_is_gone.nd) (pgs_cons (pg_n 3 sc_Sheet_is_gone.nd) pgs_nil)))) (fun _ _ _ _ _ => pts_nil) (fun _ _ _ _ _ => (pe_chain op_le op_le (pv 2) (pv 1) (pv 3)))) pa_nil))))), ?_⟩
  walk_at "rd"
  refine ⟨_, rfl, hk, ?_⟩
  walk_at "rd"
  refine rd_fld h1 T.cl_Sheet T.na_Sheet_gone (sh_gone D G) ?_
  walk_at "rd"
  refine rd_tpR (SqT.of h5) ?_
  refine lcR_tup (xs := ys) (fun W j H' => Same H H' ∧ H' W = some (.lst (((gs.take j).map fun r => decide (r.1 ≤ k0 ∧ k0 ≤ r.2)).map V.bl))) (fun W j H' _ ⟨s, _⟩ => SqT.of (s _ _ h5)) (fun W H' _ s e _ => ⟨s, e⟩) ?_ ?_
  · rintro W j y H1 hW hy ⟨s1, eW⟩
    obtain ⟨r, t, hr, rfl, et⟩ := (h6.mono s1).getV hy
    have hj := (List.getElem?_eq_some_iff.mp hr).1
    have fin : ∀ b, b = decide (r.1 ≤ k0 ∧ k0 ≤ r.2) → LcE W (fun H' => Same H H' ∧ H' W = some (.lst (((gs.take (j + 1)).map fun r => decide (r.1 ≤ k0 ∧ k0 ≤ r.2)).map V.bl))) (.bl b) H1 := by
      rintro b rfl
      refine rd_lcE eW (by rw [List.length_map, List.length_map, List.length_take]; omega) fun H2 eH2 eW2 => ?_
      refine ⟨by rw [eH2]; exact Same.mut s1 hW, ?_⟩
      rw [eW2, List.take_add_one, hr, List.map_append, List.map_append]
      rfl
    refine rd_gtup et rfl ?_
    walk_at "rd"
    refine ⟨rfl, ?_⟩
    walk_at "rd"
    refine rd_ite (fun c => ?_) (fun c => ?_)
    · walk_at "rd"
      exact fin _ (by by_cases z : k0 ≤ r.2 <;> simp [c, z])
    · exact fin _ (by rw [decide_eq_false (fun z => c z.1)])
  · rintro W H1 hW ⟨s1, eW⟩
    rw [h6.1, List.take_length] at eW
    walk_at "rd"
    refine ⟨W, _, rfl, SqL.of eW, ?_⟩
    have k := k H1 s1
    unfold inRB at k
    rw [List.any_map]
    exact k
theorem met_Sheet_eq (T : TX K mg C_Sheet C_BadSheet C_BadKey D_Sheet_0 D_Sheet_1) : Met P w K mg base 1 C_Sheet "__eq__" (spShEq C_Sheet) [] := by
  obtain ⟨f0, fd, D, dn, me, _⟩ := T.m_Sheet_eq
  refine met0 T.cl_Sheet me D (D.binds dn fun _ _ _ _ _ _ us hl => match us, hl with | [_, _], _ => rfl) sc_Sheet_eq (by walk_at "len") (fun cdv A outer s H vs Q E hr h => ?_)
  obtain ⟨x, y, ls, gs, rfl, ⟨dx, D, G, ys, h1, h2, h3, h4, h5, h6, h7⟩, h⟩ := h
  rcases h with ⟨b, hs, rfl, ⟨dx', D', G', ys', h1', h2', h3', h4', h5', h6', h7'⟩, k⟩ | ⟨i, rfl, k⟩
  · refine ⟨_, (pss_one (ps_ret (pe_and (pe_callB call_isi (by rfl) T.b_isinstance (by decide +kernel) (pa_cons (pv 1) (pa_cons (pe_gc rfl T.g_Sheet) pa_nil))) (pe_one (pe_cmpR (op_eqDG (hu65 hr)) (pe_tup (pa_cons (pe_fld (pv 0) rfl) (pa_cons (pe_fld (pv 0) rfl) pa_nil))) (pe_tup (pa_cons (pe_fld (pv 1) rfl) (pa_cons (pe_fld (pv 1) rfl) pa_nil))) (nomark _)))))), ?_⟩
    walk_at "rd"
    refine rd_isiC T.i_Sheet h1' ?_
    walk_at "rd"
    refine rd_fld h1 T.cl_Sheet T.na_Sheet_leaves rfl ?_
    walk_at "rd"
    refine rd_fld h1 T.cl_Sheet T.na_Sheet_gone (sh_gone D G) ?_
    walk_at "rd"
    refine rd_newT (by simp) fun t1 H1 _ s1 e1 _ => ?_
    walk_at "rd"
    refine rd_fld (s1 _ _ h1') T.cl_Sheet T.na_Sheet_leaves rfl ?_
    walk_at "rd"
    refine rd_fld (s1 _ _ h1') T.cl_Sheet T.na_Sheet_gone (sh_gone D' G') ?_
    walk_at "rd"
    refine rd_newT (by simp) fun t2 H2 _ s2 e2 _ => ?_
    have s12 := s1.trans s2
    refine rd_eqDG (s2 _ _ e1) e2 (s12 _ _ h2) (s12 _ _ h2') (fun z hz => ?_) (.tup (s12 _ _ h5) (h6.mono s12).all.dt) (.tup (s12 _ _ h5') (h6'.mono s12).all.dt) (shaped_pairsT gs) (shaped_pairsT hs) ?_
    · unfold dV at hz
      obtain ⟨q, hq, rfl⟩ := List.mem_map.mp hz
      exact ⟨dV_val (asc_nd h3) (k := q.1) (v := q.2) hq, flat_val (h4 q hq)⟩
    rw [eqv_pairsT]
    exact k H2 s12
  · refine ⟨_, (pss_one (ps_ret (pe_and (pe_callB call_isi (by rfl) T.b_isinstance (by decide +kernel) (pa_cons (pv 1) (pa_cons (pe_gc rfl T.g_Sheet) pa_nil))) (pe_one (pe_cmpR (op_eqDG (hu65 hr)) (pe_tup (pa_cons (pe_fld (pv 0) rfl) (pa_cons (pe_fld (pv 0) rfl) pa_nil))) (pe_tup (pa_cons (pe_fld (pv 1) rfl) (pa_cons (pe_fld (pv 1) rfl) pa_nil))) (nomark _)))))), ?_⟩
    walk_at "rd"
    refine rd_isiCi (T.nk_Sheet _ sub_int) ?_
    walk_at "rd"
    exact k
end
end Sl

set_option Elab.async false
set_option linter.all false
set_option maxRecDepth 100000
set_option maxHeartbeats 8000000
set_option exponentiation.threshold 9000
namespace Sl
open PySem L2 C8 StX Silt
local macro_rules | `(tactic| walk_at "side") => `(tactic| first
  | exact cdivw (by omega) (by omega)
  | exact cmulw (by omega) (by omega) (by omega) (by omega)
  | exact Or.inr ⟨by omega, by omega⟩
  | exact Or.inl ⟨by omega, by omega⟩
  | omega
  | exact ⟨by omega, by omega, by decide⟩
  | decide)
local macro_rules | `(tactic| walk_at "rd1") => `(tactic| first
  | with_reducible refine rd_seq ?_
  | with_reducible refine rd_asg ?_
  | with_reducible refine rd_drop ?_
  | with_reducible refine rd_ret ?_
  | with_reducible refine rd_retN ?_
  | with_reducible refine rd_ifS ?_
  | ((with_reducible refine rd_var0 ?_); refine ⟨_, rfl, ?_⟩)
  | with_reducible refine rd_c ?_
  | with_reducible refine rd_op ?_
  | with_reducible refine rd_un ?_
  | with_reducible refine rd_I0 ?_
  | with_reducible refine rd_U ?_
  | ((with_reducible refine rd_I ?c ?_); (case c => walk_at "side"))
  | with_reducible refine rd_ipI ?_
  | with_reducible refine rd_eqI ?_
  | with_reducible refine rd_neI ?_
  | with_reducible refine rd_test ?_
  | with_reducible refine rd_tB ?_
  | with_reducible refine rd_bl ?_
  | with_reducible refine rd_not ?_
  | with_reducible refine rd_and ?_
  | with_reducible refine rd_or ?_
  | with_reducible refine rd_andV ?_
  | with_reducible refine rd_orV ?_
  | with_reducible refine rd_notV ?_
  | with_reducible refine rd_ifE ?_
  | with_reducible refine rd_chain ?_
  | with_reducible refine rd_chain3 ?_
  | with_reducible refine rd_nil ?_
  | with_reducible refine rd_cons ?_
  | with_reducible refine rd_call ?_
  | with_reducible refine rd_CB ?_
  | with_reducible refine rd_par ?_
  | with_reducible refine rd_par2 ?_
  | with_reducible refine rd_par3 ?_
  | with_reducible refine rd_par4 ?_
  | ((with_reducible refine rd_aug0 ?_); refine ⟨_, rfl, ?_⟩)
  | with_reducible refine rd_gname ?_
  | with_reducible refine rd_gcons ?_
  | with_reducible refine rd_gnil ?_
  | with_reducible refine rd_max ?_
  | with_reducible refine rd_min ?_
  | with_reducible refine rd_int1 ?_
  | with_reducible refine rd_abs ?_
  | with_reducible refine rd_lst ?_
  | with_reducible refine rd_tup ?_
  | with_reducible refine rd_bm ?_
  | with_reducible refine rd_fld0 ?_
  | with_reducible refine rd_sl0 ?_
  | with_reducible refine rd_noP ?_
  | with_reducible refine rd_part ?_
  | with_reducible refine rd_part2 ?_
  | with_reducible refine rd_meth0 ?_
  | with_reducible refine rd_star ?_
  | with_reducible refine rd_for ?_
  | with_reducible refine rd_rng1 ?_
  | with_reducible refine rd_rng2 ?_
  | with_reducible refine rd_rng3 ?_
  | with_reducible refine rd_iList ?_
  | with_reducible refine rd_iTup ?_
  | with_reducible refine rd_iEnum ?_
  | with_reducible refine rd_lc ?_
  | with_reducible refine rd_yes ?_
  | with_reducible refine rd_augS ?_
  | with_reducible refine rd_drawNew ?_
  | with_reducible refine rd_make0 ?_
  | with_reducible refine rd_next ?_
  | with_reducible refine rd_break ?_
  | with_reducible refine rd_cont ?_
  | with_reducible refine rd_iteTT ?_
  | with_reducible refine rd_iteFF ?_
  | with_reducible refine rd_iteNTT ?_
  | with_reducible refine rd_iteNFF ?_
  | with_reducible refine rd_con0 ?_
  | with_reducible refine rd_truO0 ?_
  | with_reducible refine rd_gfld0 ?_
  | with_reducible refine rd_dc ?_
  | with_reducible refine rd_iKeys ?_
  | with_reducible refine rd_dget0 ?_
  | with_reducible refine rd_dput0 ?_
  | with_reducible refine rd_dnot0 ?_
  | with_reducible refine rd_iEnumT ?_
  | with_reducible refine rd_raP0 ?_
  | with_reducible refine rd_xf0 ?_
  | with_reducible refine rd_cKw ?_
  | with_reducible refine rd_iStr ?_
  | with_reducible refine rd_gSub ?_
  | with_reducible refine rd_asgG ?_)
local macro_rules | `(tactic| walk_at "rd") => `(tactic| repeat walk_at "rd1")
local macro_rules | `(tactic| walk_at "len") => `(tactic| first
  | (intro vs H Q E h; obtain ⟨h2, _⟩ := h; rw [h2]; rfl)
  | (intro vs H Q E h; obtain ⟨_, h2, _⟩ := h; rw [h2]; rfl)
  | (intro vs H Q E h; obtain ⟨_, _, h2, _⟩ := h; rw [h2]; rfl)
  | (intro vs H Q E h; obtain ⟨_, _, _, h2, _⟩ := h; rw [h2]; rfl)
  | (intro vs H Q E h; obtain ⟨_, _, _, _, h2, _⟩ := h; rw [h2]; rfl)
  | (intro vs H Q E h; obtain ⟨_, _, _, _, _, h2, _⟩ := h; rw [h2]; rfl)
  | (intro vs H Q E h; obtain ⟨_, _, _, _, _, _, h2, _⟩ := h; rw [h2]; rfl)
  | (intro vs H Q E h; obtain ⟨_, _, _, _, _, _, _, h2, _⟩ := h; rw [h2]; rfl)
  | (intro vs H Q E h; obtain ⟨_, _, _, _, _, _, _, _, h2, _⟩ := h; rw [h2]; rfl)
  | (intro vs H Q E h; obtain ⟨_, _, _, _, _, _, _, _, _, h2, _⟩ := h; rw [h2]; rfl)
  | (intro vs H Q E h; obtain ⟨_, _, _, _, _, _, _, _, _, _, h2, _⟩ := h; rw [h2]; rfl)
  | (intro vs H Q E h; obtain ⟨_, _, _, _, _, _, _, _, _, _, _, h2, _⟩ := h; rw [h2]; rfl)
  | (intro vs H Q E h; obtain ⟨_, _, _, _, _, _, _, _, _, _, _, _, h2, _⟩ := h; rw [h2]; rfl))
local macro_rules | `(tactic| walk_at "side") => `(tactic| first | exact ⟨by decide, by decide⟩ | exact ⟨by decide, by decide, by decide⟩ | exact Or.inr ⟨by decide, by decide⟩ | exact ⟨by omega, wide_nat (by omega)⟩)
theorem cut_60 (xs : List V) : cutV xs none (some 60) = xs.take 60 := by
  unfold cutV
  have e : HT.sIx xs.length xs.length (some 60) = min 60 xs.length := by
    show (if (60 : Int) < 0 then ((60 : Int) + (xs.length : Int)).toNat else min (60 : Int).toNat xs.length) = _
    rw [if_neg (by decide)]
    rfl
  rw [e, HT.sIx_none, List.drop_zero, Nat.sub_zero]
  rcases Nat.le_total 60 xs.length with h | h
  · rw [Nat.min_eq_left h]
  · rw [Nat.min_eq_right h, List.take_length, List.take_of_length_le h]
theorem rd_ixSq {K : PySem.W.Frag} {H : Hp} {Q : VK} {a : Addr} {xs : List V} {j : Int} {v : V} (e : SqL K H a xs) (n : atI xs j = some v) (h : Q v H) : rIxL K (.ref a) (.int j) H Q := ⟨a, xs, j, v, rfl, rfl, e, n, h⟩
theorem fmod_pos {i j : Int} (h : 0 < j) : 0 ≤ i.fmod j ∧ i.fmod j < j := by
  rw [Int.fmod_eq_emod_of_nonneg _ (by omega)]
  exact ⟨Int.emod_nonneg _ (by omega), Int.emod_lt_of_pos _ h⟩
def spLDraw (K : PySem.W.Frag) : Sp := fun vs H Q _ => ∃ (sc : Addr) (ns : List Int) (i m : Int), vs = [.ref sc, .int i, .int m] ∧ SqL K H sc (ns.map V.int) ∧ ns.length ≤ 63 ∧ (0 ≤ i ∧ i ≤ 1000000) ∧ 0 < m ∧ ∀ H' n, Same H H' → 0 ≤ n → n < m → Q (.int n) H'
section
variable {P : Program} {w : World} {K : PySem.W.Frag} {mg : Str → Option Value} {base : Heap} {C_Sheet C_BadSheet C_BadKey D_Sheet_0 D_Sheet_1 : Addr}
theorem cal__law_draw (T : TX K mg C_Sheet C_BadSheet C_BadKey D_Sheet_0 D_Sheet_1) : Cal P w K mg base 1 "_law_draw" (spLDraw K) [] := by
  obtain ⟨f0, fd, D, dn⟩ := T.d__law_draw
  refine cal0 D (D.fn.binds dn fun _ _ _ _ _ _ us hl => match us, hl with | [_, _, _], _ => rfl) .nil sc__law_draw (by walk_at "len") (fun cdv A outer s H vs Q E hr h => ?_)
  obtain ⟨sc, ns, i, m, rfl, hS, h63, hi, hm, k⟩ := h
  refine ⟨_, (pss_cut (ps_s 3 sc__law_draw.nd (pe_ifExp (pt_cmpR (op_neD hr.units) (pv 0) (pe_lst pa_nil) (nomark _)) (pe_slice sl_list (pv 0) po_none (po_some pe_int)) (pe_lst (pa_cons pe_int pa_nil))))
      (pss_cut (ps_par (i := 4) (j := 5) rfl sc__law_draw.nd rfl rfl (by decide) rfl rfl (pa_cons (pe_ix ix_list (pv 3) (pe_op op_modN (pv 1) (pe_callB cr_lenS (by rfl) T.b_len (by decide +kernel) (pa_cons (pv 3) pa_nil))) (fun _ _ => rfl)) (pa_cons (pe_op op_fdivW (pv 1) (pe_callB cr_lenS (by rfl) T.b_len (by decide +kernel) (pa_cons (pv 3) pa_nil))) pa_nil)) (by rfl))
      (pss_cons (ps_if (pt_cmpR op_ge (pv 4) (pe_op op_pow pe_int pe_int) (nomark _)) (pss_cons (ps_s 4 sc__law_draw.nd (pe_op op_modN (pe_callTy cr_int1 (by rfl) T.b_int (by decide +kernel) (pa_cons (pv 4) pa_nil)) (pe_op op_pow pe_int pe_int)))
      (pss_cons (ps_for PassesOwn.never rfl (pi_range1 rfl T.b_range (pa_cons (pe_op op_modN (pv 5) pe_int) pa_nil)) (pg_n 6 sc__law_draw.nd) (pss_one (ps_s 4 sc__law_draw.nd (pe_op op_fdivW (pv 4) pe_int))))
      (pss_one (ps_ret (pe_op op_modN (pe_op op_modN (pe_callTy cr_int1 (by rfl) T.b_int (by decide +kernel) (pa_cons (pv 4) pa_nil)) pe_int) (pv 2)))))) pss_nil)
      (pss_cons (ps_s 7 sc__law_draw.nd (pe_op op_add (pe_op op_mul (pe_op op_add (pe_op op_add (pe_op op_modN (pe_callTy cr_int1 (by rfl) T.b_int (by decide +kernel) (pa_cons (pe_op op_add (pv 4) (pe_op op_mul pe_int (pv 5))) pa_nil)) pe_int) (pe_op op_mul pe_int (pv 1))) pe_int) pe_int) (pe_op op_modN (pe_callTy cr_int1 (by rfl) T.b_int (by decide +kernel) (pa_cons (pe_op op_fdivW (pv 4) pe_int) pa_nil)) pe_int)))
      (pss_one (ps_ret (pe_op op_modN (pe_callTy cr_int1 (by rfl) T.b_int (by decide +kernel) (pa_cons (pe_op op_modN (pe_op op_mul (pe_op op_modN (pv 7) pe_int) pe_int) pe_int) pa_nil)) (pv 2)))))))), ?_⟩
  walk_at "rd"
  refine ⟨fun σ' H' => ∃ (r : Addr) (ms : List Int), Same H H' ∧ SqL K H' r (ms.map V.int) ∧ ms ≠ [] ∧ ms.length ≤ 63 ∧ σ' = [some (.ref sc), some (.int i), some (.int m), some (.ref r), none, none, none, none], ?_, ?_⟩
  · walk_at "rd"
    refine rd_newL (by decide) fun u H1 _ s1 eu _ => ?_
    refine ⟨.list (intsD ns), .list [], .lst (L2.Same.seq s1 hS) (DtAll.intsD ns).dp, .lst (SqL.of eu) .nil, shaped_ints ns, by decide, ?_⟩
    rw [eqv_nil]
    walk_at "rd"
    refine rd_iteN (fun c => ?_) (fun c => ?_)
    · walk_at "rd"
      refine rd_slL (L2.Same.seq s1 hS) fun p H2 _ s2 ep _ => ?_
      rw [cut_60, ← List.map_take] at ep
      refine ⟨p, ns.take 60, s1.trans s2, SqL.of ep, fun z => c ?_, by rw [List.length_take]; omega, rfl⟩
      have := congrArg List.length z
      rw [List.length_take] at this
      have : ns = [] := List.length_eq_zero_iff.mp (by simp at this; rcases this with h | h <;> simp_all)
      rw [this]
      rfl
    · walk_at "rd"
      refine rd_newL (by decide) fun p H2 _ s2 ep _ => ?_
      exact ⟨p, [7], s1.trans s2, SqL.of ep, (fun z => nomatch z), by decide, rfl⟩
  rintro σ H1 ⟨r, ms, s1, sr, hne, hm63, rfl⟩
  walk_at "rd"
  have hl : 0 < ms.length := List.length_pos_iff.mpr hne
  refine ⟨fun σ' H' => ∃ (c tn : Int), Same H H' ∧ 0 ≤ tn ∧ σ' = [some (.ref sc), some (.int i), some (.int m), some (.ref r), some (.int c), some (.int tn), none, none], ?_, ?_⟩
  · walk_at "rd"
    refine rd_lenSq sr ?_
    rw [List.length_map]
    walk_at "rd"
    have fm := fmod_pos (i := i) (j := (ms.length : Int)) (by omega)
    obtain ⟨n, hn⟩ : ∃ n : Nat, i.fmod (ms.length : Int) = n := ⟨(i.fmod (ms.length : Int)).toNat, by omega⟩
    rw [hn]
    refine rd_ixSq sr (v := .int (ms[n]'(by omega))) (atI_nat' (by rw [List.getElem?_map, List.getElem?_eq_getElem (by omega : n < ms.length)]; rfl)) ?_
    walk_at "rd"
    refine rd_lenSq sr ?_
    rw [List.length_map]
    walk_at "rd"
    refine rd_I ⟨by omega, Nat.lt_of_le_of_lt (Nat.log2_le_self _) (by omega)⟩ ?_
    walk_at "rd"
    exact ⟨_, _, s1, Int.ediv_nonneg hi.1 (by omega), rfl⟩
  rintro σ H2 ⟨c, tn, s2, ht, rfl⟩
  clear sr s1
  walk_at "rd"
  refine rd_ite (fun c1 => ?_) (fun c1 => ?_)
  · walk_at "rd"
    have fm := fmod_pos (i := tn) (j := 40) (by decide)
    refine rd_rgR1 (by omega) (by omega) ?_
    refine forR_rng (fun j σ H' => ∃ c v6, Same H H' ∧ σ = [some (.ref sc), some (.int i), some (.int m), some (.ref r), some (.int c), some (.int tn), v6, none]) ⟨_, _, s2, rfl⟩ ?_ ?_
    · rintro j σ H3 hj ⟨c3, v6, s3, rfl⟩
      walk_at "rd"
      exact ⟨_, _, s3, rfl⟩
    · rintro σ H3 ⟨c3, v6, s3, rfl⟩
      walk_at "rd"
      have fm := fmod_pos (i := c3.fmod 97) hm
      exact k H3 _ s3 fm.1 fm.2
  · walk_at "rd"
    exact k H2 _ s2 (fmod_pos hm).1 (fmod_pos hm).2
end
end Sl

set_option Elab.async false
set_option linter.all false
set_option maxRecDepth 100000
set_option maxHeartbeats 8000000
set_option exponentiation.threshold 9000
namespace Sl
open PySem L2 C8 StX Silt
local macro_rules | `(tactic| walk_at "side") => `(tactic| first
  | exact cdivw (by omega) (by omega)
  | exact cmulw (by omega) (by omega) (by omega) (by omega)
  | exact Or.inr ⟨by omega, by omega⟩
  | exact Or.inl ⟨by omega, by omega⟩
  | omega
  | exact ⟨by omega, by omega, by decide⟩
  | decide)
local macro_rules | `(tactic| walk_at "rd1") => `(tactic| first
  | with_reducible refine rd_seq ?_
  | with_reducible refine rd_asg ?_
  | with_reducible refine rd_drop ?_
  | with_reducible refine rd_ret ?_
  | with_reducible refine rd_retN ?_
  | with_reducible refine rd_ifS ?_
  | ((with_reducible refine rd_var0 ?_); refine ⟨_, rfl, ?_⟩)
  | with_reducible refine rd_c ?_
  | with_reducible refine rd_op ?_
  | with_reducible refine rd_un ?_
  | with_reducible refine rd_I0 ?_
  | with_reducible refine rd_U ?_
  | ((with_reducible refine rd_I ?c ?_); (case c => walk_at "side"))
  | with_reducible refine rd_ipI ?_
  | with_reducible refine rd_eqI ?_
  | with_reducible refine rd_neI ?_
  | with_reducible refine rd_test ?_
  | with_reducible refine rd_tB ?_
  | with_reducible refine rd_bl ?_
  | with_reducible refine rd_not ?_
  | with_reducible refine rd_and ?_
  | with_reducible refine rd_or ?_
  | with_reducible refine rd_andV ?_
  | with_reducible refine rd_orV ?_
  | with_reducible refine rd_notV ?_
  | with_reducible refine rd_ifE ?_
  | with_reducible refine rd_chain ?_
  | with_reducible refine rd_chain3 ?_
  | with_reducible refine rd_nil ?_
  | with_reducible refine rd_cons ?_
  | with_reducible refine rd_call ?_
  | with_reducible refine rd_CB ?_
  | with_reducible refine rd_par ?_
  | with_reducible refine rd_par2 ?_
  | with_reducible refine rd_par3 ?_
  | with_reducible refine rd_par4 ?_
  | ((with_reducible refine rd_aug0 ?_); refine ⟨_, rfl, ?_⟩)
  | with_reducible refine rd_gname ?_
  | with_reducible refine rd_gcons ?_
  | with_reducible refine rd_gnil ?_
  | with_reducible refine rd_max ?_
  | with_reducible refine rd_min ?_
  | with_reducible refine rd_int1 ?_
  | with_reducible refine rd_abs ?_
  | with_reducible refine rd_lst ?_
  | with_reducible refine rd_tup ?_
  | with_reducible refine rd_bm ?_
  | with_reducible refine rd_fld0 ?_
  | with_reducible refine rd_sl0 ?_
  | with_reducible refine rd_noP ?_
  | with_reducible refine rd_part ?_
  | with_reducible refine rd_part2 ?_
  | with_reducible refine rd_meth0 ?_
  | with_reducible refine rd_star ?_
  | with_reducible refine rd_for ?_
  | with_reducible refine rd_rng1 ?_
  | with_reducible refine rd_rng2 ?_
  | with_reducible refine rd_rng3 ?_
  | with_reducible refine rd_iList ?_
  | with_reducible refine rd_iTup ?_
  | with_reducible refine rd_iEnum ?_
  | with_reducible refine rd_lc ?_
  | with_reducible refine rd_yes ?_
  | with_reducible refine rd_augS ?_
  | with_reducible refine rd_drawNew ?_
  | with_reducible refine rd_make0 ?_
  | with_reducible refine rd_next ?_
  | with_reducible refine rd_break ?_
  | with_reducible refine rd_cont ?_
  | with_reducible refine rd_iteTT ?_
  | with_reducible refine rd_iteFF ?_
  | with_reducible refine rd_iteNTT ?_
  | with_reducible refine rd_iteNFF ?_
  | with_reducible refine rd_con0 ?_
  | with_reducible refine rd_truO0 ?_
  | with_reducible refine rd_gfld0 ?_
  | with_reducible refine rd_dc ?_
  | with_reducible refine rd_iKeys ?_
  | with_reducible refine rd_dget0 ?_
  | with_reducible refine rd_dput0 ?_
  | with_reducible refine rd_dnot0 ?_
  | with_reducible refine rd_iEnumT ?_
  | with_reducible refine rd_raP0 ?_
  | with_reducible refine rd_xf0 ?_
  | with_reducible refine rd_cKw ?_
  | with_reducible refine rd_iStr ?_
  | with_reducible refine rd_gSub ?_
  | with_reducible refine rd_asgG ?_)
local macro_rules | `(tactic| walk_at "rd") => `(tactic| repeat walk_at "rd1")
local macro_rules | `(tactic| walk_at "len") => `(tactic| first
  | (intro vs H Q E h; obtain ⟨h2, _⟩ := h; rw [h2]; rfl)
  | (intro vs H Q E h; obtain ⟨_, h2, _⟩ := h; rw [h2]; rfl)
  | (intro vs H Q E h; obtain ⟨_, _, h2, _⟩ := h; rw [h2]; rfl)
  | (intro vs H Q E h; obtain ⟨_, _, _, h2, _⟩ := h; rw [h2]; rfl)
  | (intro vs H Q E h; obtain ⟨_, _, _, _, h2, _⟩ := h; rw [h2]; rfl)
  | (intro vs H Q E h; obtain ⟨_, _, _, _, _, h2, _⟩ := h; rw [h2]; rfl)
  | (intro vs H Q E h; obtain ⟨_, _, _, _, _, _, h2, _⟩ := h; rw [h2]; rfl)
  | (intro vs H Q E h; obtain ⟨_, _, _, _, _, _, _, h2, _⟩ := h; rw [h2]; rfl)
  | (intro vs H Q E h; obtain ⟨_, _, _, _, _, _, _, _, h2, _⟩ := h; rw [h2]; rfl)
  | (intro vs H Q E h; obtain ⟨_, _, _, _, _, _, _, _, _, h2, _⟩ := h; rw [h2]; rfl)
  | (intro vs H Q E h; obtain ⟨_, _, _, _, _, _, _, _, _, _, h2, _⟩ := h; rw [h2]; rfl)
  | (intro vs H Q E h; obtain ⟨_, _, _, _, _, _, _, _, _, _, _, h2, _⟩ := h; rw [h2]; rfl)
  | (intro vs H Q E h; obtain ⟨_, _, _, _, _, _, _, _, _, _, _, _, h2, _⟩ := h; rw [h2]; rfl))
def putL (ls : List (Int × V)) (k : Int) (v : V) : List (Int × V) := if k ∈ keysL ls then ls.map (fun q => if q.1 = k then (q.1, v) else q) else ls ++ [(k, v)]
theorem dV_put (ls : List (Int × V)) (k : Int) (v : V) : putK (dV ls) (Sum.inl k) v = dV (putL ls k v) := by
  unfold putL
  by_cases c : k ∈ keysL ls
  · rw [if_pos c]
    unfold putK dV
    obtain ⟨q, hq, e⟩ := List.mem_map.mp c
    rw [if_pos (by
      rw [List.any_eq_true]
      exact ⟨_, List.mem_map.mpr ⟨q, hq, rfl⟩, decide_eq_true (by rw [e])⟩), List.map_map, List.map_map]
    refine List.map_congr_left fun q _ => ?_
    show (if (Sum.inl q.1 : Key) = Sum.inl k then ((Sum.inl q.1 : Key), v) else (Sum.inl q.1, q.2)) = _
    by_cases d : q.1 = k
    · rw [if_pos (by rw [d])]
      show _ = (Sum.inl (if q.1 = k then (q.1, v) else q).1, (if q.1 = k then (q.1, v) else q).2)
      rw [if_pos d]
    · rw [if_neg (fun z => d (Sum.inl.inj z))]
      show _ = (Sum.inl (if q.1 = k then (q.1, v) else q).1, (if q.1 = k then (q.1, v) else q).2)
      rw [if_neg d]
  · rw [if_neg c]
    exact dV_putNew c
theorem putL_keys (ls : List (Int × V)) (k : Int) (v : V) : keysL (putL ls k v) = if k ∈ keysL ls then keysL ls else keysL ls ++ [k] := by
  unfold putL
  by_cases c : k ∈ keysL ls
  · rw [if_pos c, if_pos c]
    unfold keysL
    rw [List.map_map]
    refine List.map_congr_left fun q _ => ?_
    show (if q.1 = k then (q.1, v) else q).1 = q.1
    split <;> rfl
  · rw [if_neg c, if_neg c]
    unfold keysL
    rw [List.map_append]
    rfl
theorem putL_mem {ls : List (Int × V)} {k : Int} {v : V} {q : Int × V} (h : q ∈ putL ls k v) : q ∈ ls ∨ q = (k, v) := by
  unfold putL at h
  by_cases c : k ∈ keysL ls
  · rw [if_pos c] at h
    obtain ⟨x, hx, rfl⟩ := List.mem_map.mp h
    by_cases d : x.1 = k
    · rw [if_pos d, d]; exact .inr rfl
    · rw [if_neg d]; exact .inl hx
  · rw [if_neg c] at h
    rcases List.mem_append.mp h with z | z
    · exact .inl z
    · exact .inr (List.mem_singleton.mp z)
theorem putL_len (ls : List (Int × V)) (k : Int) (v : V) : (putL ls k v).length ≤ ls.length + 1 := by
  unfold putL
  split
  · rw [List.length_map]; omega
  · rw [List.length_append]; exact Nat.le_refl _
theorem putL_nodup {ls : List (Int × V)} {k : Int} {v : V} (h : (keysL ls).Nodup) : (keysL (putL ls k v)).Nodup := by
  rw [putL_keys]
  split
  · exact h
  · rename_i c
    rw [List.nodup_append]
    exact ⟨h, by simp, fun x hx y hy z => c (by rw [← List.mem_singleton.mp hy, ← z]; exact hx)⟩
theorem val_app {ch : Nat} {z : Str} (h1 : sgB ch = true) (h2 : z.cps.toList.all sgB = true) (h3 : z.length ≤ 11) : valB (.str ((⟨#[ch]⟩ : Str) ++ z)) = true := by
  have h3 : z.cps.size ≤ 11 := h3
  show (decide (1 ≤ (#[ch] ++ z.cps).size ∧ (#[ch] ++ z.cps).size ≤ 12) && (#[ch] ++ z.cps).toList.all sgB) = true
  rw [Bool.and_eq_true]
  refine ⟨decide_eq_true ?_, ?_⟩
  · rw [Array.size_append]
    show 1 ≤ 1 + z.cps.size ∧ 1 + z.cps.size ≤ 12
    omega
  · rw [Array.toList_append, List.all_append, h2]
    show (([ch] : List Nat).all sgB && true) = true
    simp [h1]
theorem abcd_get {c : Int} (h0 : 0 ≤ c) (h1 : c < 4) : ∃ ch, ("abcd" : Str).cps[c.toNat]? = some ch ∧ sgB ch = true := by
  have : c = 0 ∨ c = 1 ∨ c = 2 ∨ c = 3 := by omega
  rcases this with rfl | rfl | rfl | rfl
  · exact ⟨97, by decide +kernel, by decide⟩
  · exact ⟨98, by decide +kernel, by decide⟩
  · exact ⟨99, by decide +kernel, by decide⟩
  · exact ⟨100, by decide +kernel, by decide⟩
/-- a drawn value of a place -/
def valD (i : Int) (v : V) : Prop := valB v = true ∧ ∃ ch : Nat, v = .str ((⟨#[ch]⟩ : Str) ++ (toString i : Str))
/-- what a drawn sheet is told by -/
structure Drawn (K : PySem.W.Frag) (H : Hp) (D M R : Addr) (i most : Int) (ls : List (Int × V)) (ms : List Int) (xs : List V) (rs : List Iv) : Prop where
  eD : H D = some (.dK (dV ls))
  nd : (keysL ls).Nodup
  ll : ls.length ≤ 3
  okl : ∀ q ∈ ls, 0 ≤ q.1 ∧ q.1 < most ∧ valD i q.2
  eM : H M = some (.lst (ms.map V.int))
  lm : ms.length ≤ 2
  okm : ∀ m ∈ ms, 0 ≤ m ∧ m < most ∧ m ∉ keysL ls
  eR : H R = some (.lst xs)
  iv : IvP H xs rs
  lr : rs.length ≤ 2
  okr : ∀ r ∈ rs, 0 ≤ r.1 ∧ r.1 < most ∧ r.1 ≤ r.2 ∧ r.2 ≤ r.1 + 3
theorem Drawn.mono {K : PySem.W.Frag} {H H' : Hp} {D M R : Addr} {i most : Int} {ls : List (Int × V)} {ms : List Int} {xs : List V} {rs : List Iv} (s : Same H H') (h : Drawn K H D M R i most ls ms xs rs) : Drawn K H' D M R i most ls ms xs rs :=
  ⟨s _ _ h.eD, h.nd, h.ll, h.okl, s _ _ h.eM, h.lm, h.okm, s _ _ h.eR, h.iv.mono s, h.lr, h.okr⟩
def spLSheet (K : PySem.W.Frag) : Sp := fun vs H Q _ => ∃ (sc : Addr) (ns : List Int) (i most : Int), vs = [.ref sc, .int i, .int most] ∧ SqL K H sc (ns.map V.int) ∧ ns.length ≤ 63 ∧ (0 ≤ i ∧ i ≤ 1000) ∧ (0 < most ∧ most ≤ 100000) ∧ ((toString i : Str).cps.toList.all sgB = true ∧ (toString i : Str).length ≤ 11) ∧
  ∀ H' t D M R ls ms xs rs, Same H H' → H' t = some (.tup [.ref D, .ref M, .ref R]) → Drawn K H' D M R i most ls ms xs rs → H D = none → H M = none → H R = none → Q (.ref t) H'
section
variable {P : Program} {w : World} {K : PySem.W.Frag} {mg : Str → Option Value} {base : Heap} {C_Sheet C_BadSheet C_BadKey D_Sheet_0 D_Sheet_1 : Addr}
theorem cal__law_sheet (T : TX K mg C_Sheet C_BadSheet C_BadKey D_Sheet_0 D_Sheet_1) : Cal P w K mg base 2 "_law_sheet" (spLSheet K) [] := by
  obtain ⟨f0, fd, D, dn⟩ := T.d__law_sheet
  have G__law_draw := cal__law_draw (P := P) (w := w) (base := base) T
  refine cal0 D (D.fn.binds dn fun _ _ _ _ _ _ us hl => match us, hl with | [_, _, _], _ => rfl) .nil sc__law_sheet (by walk_at "len") (fun cdv A outer s H vs Q E hr h => ?_)
  obtain ⟨sc, ns, i, most, rfl, hS, h63, hi, hm, ⟨hv, hv2⟩, k⟩ := h
  refine ⟨_, (pss_cons (ps_par3 (i := 3) (j := 4) (l := 5) rfl sc__law_sheet.nd rfl rfl rfl (by decide) (by decide) (by decide) rfl rfl rfl (pa_cons pe_dnewK (pa_cons (pe_lst pa_nil) (pa_cons (pe_lst pa_nil) pa_nil))) (by rfl))
      (pss_cut (ps_for PassesOwn.never rfl (pi_range1 rfl T.b_range (pa_cons (pe_c G__law_draw hr (by decide) rfl (pa_cons (pv 0) (pa_cons (pv 1) (pa_cons pe_int pa_nil)))) pa_nil)) (pg_n 6 sc__law_sheet.nd) (pss_one (ps_dput (hu_of hr) (pv 3) (pe_c G__law_draw hr (by decide) rfl (pa_cons (pv 0) (pa_cons (pe_op op_add (pe_op op_add (pv 1) pe_int) (pv 6)) (pa_cons (pv 2) pa_nil)))) (pe_op op_addS (pe_ixS pe_str (pe_c G__law_draw hr (by decide) rfl (pa_cons (pv 0) (pa_cons (pe_op op_add (pe_op op_add (pv 1) pe_int) (pv 6)) (pa_cons pe_int pa_nil)))) (fun _ _ => rfl)) (pe_callTy cr_strI (by rfl) T.b_str (by decide +kernel) (pa_cons (pv 1) pa_nil))) rfl)))
      (pss_cut (ps_for PassesOwn.never rfl (pi_range1 rfl T.b_range (pa_cons (pe_c G__law_draw hr (by decide) rfl (pa_cons (pv 0) (pa_cons (pe_op op_add (pv 1) pe_int) (pa_cons pe_int pa_nil)))) pa_nil)) (pg_n 6 sc__law_sheet.nd) (pss_cons (ps_s 7 sc__law_sheet.nd (pe_c G__law_draw hr (by decide) rfl (pa_cons (pv 0) (pa_cons (pe_op op_add (pe_op op_add (pv 1) pe_int) (pv 6)) (pa_cons (pv 2) pa_nil)))))
      (pss_one (ps_if (pt_cmp (pc_dnotin (hu_of hr) (pv 7) (pv 3))) (pss_one (ps_expr (pe_bm PySem.F.plainAttrs_list PySem.F.slot_list_append PySem.F.type_list_append mt_append (pv 4) (pa_cons (pv 7) pa_nil)))) pss_nil))))
      (pss_cut (ps_for PassesOwn.never rfl (pi_range1 rfl T.b_range (pa_cons (pe_c G__law_draw hr (by decide) rfl (pa_cons (pv 0) (pa_cons (pe_op op_add (pv 1) pe_int) (pa_cons pe_int pa_nil)))) pa_nil)) (pg_n 6 sc__law_sheet.nd) (pss_cons (ps_s 8 sc__law_sheet.nd (pe_c G__law_draw hr (by decide) rfl (pa_cons (pv 0) (pa_cons (pe_op op_add (pe_op op_add (pv 1) pe_int) (pv 6)) (pa_cons (pv 2) pa_nil)))))
      (pss_one (ps_expr (pe_bm PySem.F.plainAttrs_list PySem.F.slot_list_append PySem.F.type_list_append mt_append (pv 5) (pa_cons (pe_tup (pa_cons (pv 8) (pa_cons (pe_op op_add (pv 8) (pe_c G__law_draw hr (by decide) rfl (pa_cons (pv 0) (pa_cons (pe_op op_add (pe_op op_add (pv 1) pe_int) (pv 6)) (pa_cons pe_int pa_nil))))) pa_nil))) pa_nil))))))
      (pss_one (ps_ret (pe_tup (pa_cons (pv 3) (pa_cons (pv 4) (pa_cons (pv 5) pa_nil)))))))))), ?_⟩
  walk_at "rd"
  refine rd_dnew fun D H1 hD s1 eD _ => ?_
  walk_at "rd"
  refine rd_newL (by decide) fun M H2 hM s2 eM _ => ?_
  walk_at "rd"
  refine rd_newL (by decide) fun R H3 hR s3 eR _ => ?_
  walk_at "rd"
  have s03 := (s1.trans s2).trans s3
  have hM0 : H M = none := none_back s1 hM
  have hR0 : H R = none := none_back (s1.trans s2) hR
  have eD3 := (s2.trans s3) _ _ eD
  have eM3 := s3 _ _ eM
  have hDM : D ≠ M := fun z => by rw [z, hM] at eD; cases eD
  have hDR : D ≠ R := fun z => by have := s2 _ _ eD; rw [z, hR] at this; cases this
  have hMR : M ≠ R := fun z => by rw [z] at eM; rw [hR] at eM; cases eM
  have seq : ∀ {H'}, Same H H' → SqL K H' sc (ns.map V.int) := fun s => L2.Same.seq s hS
  refine ⟨fun σ H' => ∃ (ls : List (Int × V)) (v6 : Option V), Same H H' ∧ H' D = some (.dK (dV ls)) ∧ (keysL ls).Nodup ∧ ls.length ≤ 3 ∧ (∀ q ∈ ls, 0 ≤ q.1 ∧ q.1 < most ∧ valD i q.2) ∧ H' M = some (.lst []) ∧ H' R = some (.lst []) ∧ σ = [some (.ref sc), some (.int i), some (.int most), some (.ref D), some (.ref M), some (.ref R), v6, none, none], ?_, ?_⟩
  · walk_at "rd"
    refine ⟨sc, ns, _, _, rfl, seq s03, h63, by omega, by decide, fun H4 n s4 n0 n1 => ?_⟩
    walk_at "rd"
    refine rd_rgR1 (by omega) (by omega) ?_
    refine forR_rng (fun j σ H' => ∃ (ls : List (Int × V)) (v6 : Option V), Same H H' ∧ H' D = some (.dK (dV ls)) ∧ (keysL ls).Nodup ∧ ls.length ≤ j ∧ (∀ q ∈ ls, 0 ≤ q.1 ∧ q.1 < most ∧ valD i q.2) ∧ H' M = some (.lst []) ∧ H' R = some (.lst []) ∧ σ = [some (.ref sc), some (.int i), some (.int most), some (.ref D), some (.ref M), some (.ref R), v6, none, none]) ⟨[], _, s03.trans s4, s4 _ _ eD3, List.nodup_nil, Nat.le_refl _, (fun q hq => by cases hq), s4 _ _ eM3, s4 _ _ eR, rfl⟩ ?_ ?_
    · rintro j σ H5 hj ⟨ls, v6, s5, eD5, nd, ll, okl, eM5, eR5, rfl⟩
      walk_at "rd"
      refine ⟨sc, ns, _, _, rfl, seq s5, h63, by omega, by decide, fun H6 c s6 c0 c1 => ?_⟩
      obtain ⟨ch, e1, e2⟩ := abcd_get c0 c1
      refine rd_ixS (c := ch) c0 (by omega) (by show c < 4; exact c1) e1 ?_
      walk_at "rd"
      refine rd_strI (Nat.lt_of_le_of_lt (Nat.log2_le_self _) (by omega)) ?_
      walk_at "rd"
      refine rd_addS (by show 1 + (toString i : Str).length ≤ 100000; omega) ?_
      walk_at "rd"
      refine ⟨sc, ns, _, _, rfl, seq (s5.trans s6), h63, by omega, hm.1, fun H7 key s7 k0 k1 => ?_⟩
      have s57 := s6.trans s7
      have eD7 := s57 _ _ eD5
      have lp := putL_len ls key (.str ((⟨#[ch]⟩ : Str) ++ (toString i : Str)))
      refine ⟨D, _, rfl, DPut.k (k := Sum.inl key) eD7 (by rw [dV_len]; exact Nat.lt_of_le_of_lt (show ls.length ≤ 100 by omega) (by decide)), ?_⟩
      rw [dV_put]
      refine ⟨_, _, Same.mut (s5.trans s57) hD, upd_same, putL_nodup nd, by omega, fun q hq => ?_, by rw [upd_ne hDM.symm]; exact s57 _ _ eM5, by rw [upd_ne hDR.symm]; exact s57 _ _ eR5, rfl⟩
      rcases putL_mem hq with z | rfl
      · exact okl q z
      · exact ⟨k0, k1, val_app e2 hv hv2, ch, rfl⟩
    · rintro σ H5 ⟨ls, v6, s5, eD5, nd, ll, okl, eM5, eR5, rfl⟩
      exact ⟨ls, v6, s5, eD5, nd, by omega, okl, eM5, eR5, rfl⟩
  rintro σ H4 ⟨ls, v6, s4, eD4, nd, ll, okl, eM4, eR4, rfl⟩
  walk_at "rd"
  refine ⟨fun σ H' => ∃ (ms : List Int) (v6 v7 : Option V), Same H H' ∧ H' D = some (.dK (dV ls)) ∧ H' M = some (.lst (ms.map V.int)) ∧ ms.length ≤ 2 ∧ (∀ m ∈ ms, 0 ≤ m ∧ m < most ∧ m ∉ keysL ls) ∧ H' R = some (.lst []) ∧ σ = [some (.ref sc), some (.int i), some (.int most), some (.ref D), some (.ref M), some (.ref R), v6, v7, none], ?_, ?_⟩
  · walk_at "rd"
    refine ⟨sc, ns, _, _, rfl, seq s4, h63, by omega, by decide, fun H5 n s5 n0 n1 => ?_⟩
    walk_at "rd"
    refine rd_rgR1 (by omega) (by omega) ?_
    refine forR_rng (fun j σ H' => ∃ (ms : List Int) (v6 v7 : Option V), Same H H' ∧ H' D = some (.dK (dV ls)) ∧ H' M = some (.lst (ms.map V.int)) ∧ ms.length ≤ j ∧ (∀ m ∈ ms, 0 ≤ m ∧ m < most ∧ m ∉ keysL ls) ∧ H' R = some (.lst []) ∧ σ = [some (.ref sc), some (.int i), some (.int most), some (.ref D), some (.ref M), some (.ref R), v6, v7, none]) ⟨[], _, _, s4.trans s5, s5 _ _ eD4, s5 _ _ eM4, Nat.le_refl _, (fun q hq => by cases hq), s5 _ _ eR4, rfl⟩ ?_ ?_
    · rintro j σ H6 hj ⟨ms, v6, v7, s6, eD6, eM6, lm, okm, eR6, rfl⟩
      walk_at "rd"
      refine ⟨sc, ns, _, _, rfl, seq s6, h63, by omega, hm.1, fun H7 key s7 k0 k1 => ?_⟩
      walk_at "rd"
      refine ⟨D, _, rfl, DGet.k (k := Sum.inl key) (s7 _ _ eD6), ?_⟩
      by_cases c : key ∈ keysL ls
      · obtain ⟨q, hq, rfl⟩ := List.mem_map.mp c
        rw [dV_val nd (k := q.1) (v := q.2) hq]
        refine ⟨false, rfl, rd_iteFF ?_⟩
        walk_at "rd"
        exact ⟨ms, _, _, s6.trans s7, s7 _ _ eD6, s7 _ _ eM6, by omega, okm, s7 _ _ eR6, rfl⟩
      · rw [dV_no c]
        refine ⟨true, rfl, rd_iteTT ?_⟩
        walk_at "rd"
        have eM7 := s7 _ _ eM6
        refine rd_tyL eM7 ?_
        walk_at "rd"
        refine rd_app eM7 (by rw [List.length_map]; omega) fun H8 eH8 eM8 => ?_
        refine ⟨ms ++ [key], _, _, by rw [eH8]; exact Same.mut (s6.trans s7) hM0, by rw [eH8, upd_ne hDM]; exact s7 _ _ eD6, by rw [eM8, List.map_append]; rfl, by simp; omega, fun m hm2 => ?_, by rw [eH8, upd_ne hMR.symm]; exact s7 _ _ eR6, rfl⟩
        rcases List.mem_append.mp hm2 with z | z
        · exact okm m z
        · rw [List.mem_singleton.mp z]
          exact ⟨k0, k1, c⟩
    · rintro σ H6 ⟨ms, v6, v7, s6, eD6, eM6, lm, okm, eR6, rfl⟩
      exact ⟨ms, v6, v7, s6, eD6, eM6, by omega, okm, eR6, rfl⟩
  rintro σ H5 ⟨ms, v6, v7, s5, eD5, eM5, lm, okm, eR5, rfl⟩
  walk_at "rd"
  refine ⟨fun σ H' => ∃ (xs : List V) (rs : List Iv) (v6 v7 v8 : Option V), Same H H' ∧ H' D = some (.dK (dV ls)) ∧ H' M = some (.lst (ms.map V.int)) ∧ H' R = some (.lst xs) ∧ IvP H' xs rs ∧ rs.length ≤ 2 ∧ (∀ r ∈ rs, 0 ≤ r.1 ∧ r.1 < most ∧ r.1 ≤ r.2 ∧ r.2 ≤ r.1 + 3) ∧ σ = [some (.ref sc), some (.int i), some (.int most), some (.ref D), some (.ref M), some (.ref R), v6, v7, v8], ?_, ?_⟩
  · walk_at "rd"
    refine ⟨sc, ns, _, _, rfl, seq s5, h63, by omega, by decide, fun H6 n s6 n0 n1 => ?_⟩
    walk_at "rd"
    refine rd_rgR1 (by omega) (by omega) ?_
    refine forR_rng (fun j σ H' => ∃ (xs : List V) (rs : List Iv) (v6 v7 v8 : Option V), Same H H' ∧ H' D = some (.dK (dV ls)) ∧ H' M = some (.lst (ms.map V.int)) ∧ H' R = some (.lst xs) ∧ IvP H' xs rs ∧ rs.length ≤ j ∧ (∀ r ∈ rs, 0 ≤ r.1 ∧ r.1 < most ∧ r.1 ≤ r.2 ∧ r.2 ≤ r.1 + 3) ∧ σ = [some (.ref sc), some (.int i), some (.int most), some (.ref D), some (.ref M), some (.ref R), v6, v7, v8]) ⟨[], [], _, _, _, s5.trans s6, s6 _ _ eD5, s6 _ _ eM5, s6 _ _ eR5, IvP.nil, Nat.le_refl _, (fun q hq => by cases hq), rfl⟩ ?_ ?_
    · rintro j σ H7 hj ⟨xs, rs, v6, v7, v8, s7, eD7, eM7, eR7, iv, lr, okr, rfl⟩
      walk_at "rd"
      refine ⟨sc, ns, _, _, rfl, seq s7, h63, by omega, hm.1, fun H8 low s8 l0 l1 => ?_⟩
      walk_at "rd"
      refine rd_tyL (s8 _ _ eR7) ?_
      walk_at "rd"
      refine ⟨sc, ns, _, _, rfl, seq (s7.trans s8), h63, by omega, by decide, fun H9 d s9 d0 d1 => ?_⟩
      walk_at "rd"
      refine rd_newT (by simp) fun t1 H10 _ s10 e10 _ => ?_
      walk_at "rd"
      have s710 := (s8.trans s9).trans s10
      have eR10 := s710 _ _ eR7
      have lx := iv.1
      refine rd_app eR10 (by omega) fun H11 eH11 eR11 => ?_
      refine ⟨xs ++ [.ref t1], rs ++ [(low, low + d)], _, _, _, by rw [eH11]; exact Same.mut (s7.trans s710) hR0, by rw [eH11, upd_ne hDR]; exact s710 _ _ eD7, by rw [eH11, upd_ne hMR]; exact s710 _ _ eM7, eR11, by rw [eH11]; exact ((iv.mono s710).snoc (r := (low, low + d)) e10).updL eR10, by simp; omega, fun r hr => ?_, rfl⟩
      rcases List.mem_append.mp hr with z | z
      · exact okr r z
      · rw [List.mem_singleton.mp z]
        exact ⟨l0, l1, by show low ≤ low + d; omega, by show low + d ≤ low + 3; omega⟩
    · rintro σ H7 ⟨xs, rs, v6, v7, v8, s7, eD7, eM7, eR7, iv, lr, okr, rfl⟩
      exact ⟨xs, rs, v6, v7, v8, s7, eD7, eM7, eR7, iv, by omega, okr, rfl⟩
  rintro σ H6 ⟨xs, rs, v6, v7, v8, s6, eD6, eM6, eR6, iv, lr, okr, rfl⟩
  walk_at "rd"
  refine rd_newT (by simp) fun t H7 _ s7 et _ => ?_
  exact k H7 t D M R ls ms xs rs (s6.trans s7) et (Drawn.mono s7 ⟨eD6, nd, ll, okl, eM6, lm, okm, eR6, iv, lr, okr⟩) hD hM0 hR0
end
end Sl

set_option Elab.async false
set_option linter.all false
set_option maxRecDepth 100000
set_option maxHeartbeats 8000000
set_option exponentiation.threshold 9000
namespace Sl
open PySem L2 C8 StX Silt
local macro_rules | `(tactic| walk_at "side") => `(tactic| first
  | exact cdivw (by omega) (by omega)
  | exact cmulw (by omega) (by omega) (by omega) (by omega)
  | exact Or.inr ⟨by omega, by omega⟩
  | exact Or.inl ⟨by omega, by omega⟩
  | omega
  | exact ⟨by omega, by omega, by decide⟩
  | decide)
local macro_rules | `(tactic| walk_at "rd1") => `(tactic| first
  | with_reducible refine rd_seq ?_
  | with_reducible refine rd_asg ?_
  | with_reducible refine rd_drop ?_
  | with_reducible refine rd_ret ?_
  | with_reducible refine rd_retN ?_
  | with_reducible refine rd_ifS ?_
  | ((with_reducible refine rd_var0 ?_); refine ⟨_, rfl, ?_⟩)
  | with_reducible refine rd_c ?_
  | with_reducible refine rd_op ?_
  | with_reducible refine rd_un ?_
  | with_reducible refine rd_I0 ?_
  | with_reducible refine rd_U ?_
  | ((with_reducible refine rd_I ?c ?_); (case c => walk_at "side"))
  | with_reducible refine rd_ipI ?_
  | with_reducible refine rd_eqI ?_
  | with_reducible refine rd_neI ?_
  | with_reducible refine rd_test ?_
  | with_reducible refine rd_tB ?_
  | with_reducible refine rd_bl ?_
  | with_reducible refine rd_not ?_
  | with_reducible refine rd_and ?_
  | with_reducible refine rd_or ?_
  | with_reducible refine rd_andV ?_
  | with_reducible refine rd_orV ?_
  | with_reducible refine rd_notV ?_
  | with_reducible refine rd_ifE ?_
  | with_reducible refine rd_chain ?_
  | with_reducible refine rd_chain3 ?_
  | with_reducible refine rd_nil ?_
  | with_reducible refine rd_cons ?_
  | with_reducible refine rd_call ?_
  | with_reducible refine rd_CB ?_
  | with_reducible refine rd_par ?_
  | with_reducible refine rd_par2 ?_
  | with_reducible refine rd_par3 ?_
  | with_reducible refine rd_par4 ?_
  | ((with_reducible refine rd_aug0 ?_); refine ⟨_, rfl, ?_⟩)
  | with_reducible refine rd_gname ?_
  | with_reducible refine rd_gcons ?_
  | with_reducible refine rd_gnil ?_
  | with_reducible refine rd_max ?_
  | with_reducible refine rd_min ?_
  | with_reducible refine rd_int1 ?_
  | with_reducible refine rd_abs ?_
  | with_reducible refine rd_lst ?_
  | with_reducible refine rd_tup ?_
  | with_reducible refine rd_bm ?_
  | with_reducible refine rd_fld0 ?_
  | with_reducible refine rd_sl0 ?_
  | with_reducible refine rd_noP ?_
  | with_reducible refine rd_part ?_
  | with_reducible refine rd_part2 ?_
  | with_reducible refine rd_meth0 ?_
  | with_reducible refine rd_star ?_
  | with_reducible refine rd_for ?_
  | with_reducible refine rd_rng1 ?_
  | with_reducible refine rd_rng2 ?_
  | with_reducible refine rd_rng3 ?_
  | with_reducible refine rd_iList ?_
  | with_reducible refine rd_iTup ?_
  | with_reducible refine rd_iEnum ?_
  | with_reducible refine rd_lc ?_
  | with_reducible refine rd_yes ?_
  | with_reducible refine rd_augS ?_
  | with_reducible refine rd_drawNew ?_
  | with_reducible refine rd_make0 ?_
  | with_reducible refine rd_next ?_
  | with_reducible refine rd_break ?_
  | with_reducible refine rd_cont ?_
  | with_reducible refine rd_iteTT ?_
  | with_reducible refine rd_iteFF ?_
  | with_reducible refine rd_iteNTT ?_
  | with_reducible refine rd_iteNFF ?_
  | with_reducible refine rd_con0 ?_
  | with_reducible refine rd_truO0 ?_
  | with_reducible refine rd_gfld0 ?_
  | with_reducible refine rd_dc ?_
  | with_reducible refine rd_iKeys ?_
  | with_reducible refine rd_dget0 ?_
  | with_reducible refine rd_dput0 ?_
  | with_reducible refine rd_dnot0 ?_
  | with_reducible refine rd_iEnumT ?_
  | with_reducible refine rd_raP0 ?_
  | with_reducible refine rd_xf0 ?_
  | with_reducible refine rd_cKw ?_
  | with_reducible refine rd_iStr ?_
  | with_reducible refine rd_gSub ?_
  | with_reducible refine rd_asgG ?_)
local macro_rules | `(tactic| walk_at "rd") => `(tactic| repeat walk_at "rd1")
local macro_rules | `(tactic| walk_at "len") => `(tactic| first
  | (intro vs H Q E h; obtain ⟨h2, _⟩ := h; rw [h2]; rfl)
  | (intro vs H Q E h; obtain ⟨_, h2, _⟩ := h; rw [h2]; rfl)
  | (intro vs H Q E h; obtain ⟨_, _, h2, _⟩ := h; rw [h2]; rfl)
  | (intro vs H Q E h; obtain ⟨_, _, _, h2, _⟩ := h; rw [h2]; rfl)
  | (intro vs H Q E h; obtain ⟨_, _, _, _, h2, _⟩ := h; rw [h2]; rfl)
  | (intro vs H Q E h; obtain ⟨_, _, _, _, _, h2, _⟩ := h; rw [h2]; rfl)
  | (intro vs H Q E h; obtain ⟨_, _, _, _, _, _, h2, _⟩ := h; rw [h2]; rfl)
  | (intro vs H Q E h; obtain ⟨_, _, _, _, _, _, _, h2, _⟩ := h; rw [h2]; rfl)
  | (intro vs H Q E h; obtain ⟨_, _, _, _, _, _, _, _, h2, _⟩ := h; rw [h2]; rfl)
  | (intro vs H Q E h; obtain ⟨_, _, _, _, _, _, _, _, _, h2, _⟩ := h; rw [h2]; rfl)
  | (intro vs H Q E h; obtain ⟨_, _, _, _, _, _, _, _, _, _, h2, _⟩ := h; rw [h2]; rfl)
  | (intro vs H Q E h; obtain ⟨_, _, _, _, _, _, _, _, _, _, _, h2, _⟩ := h; rw [h2]; rfl)
  | (intro vs H Q E h; obtain ⟨_, _, _, _, _, _, _, _, _, _, _, _, h2, _⟩ := h; rw [h2]; rfl))
theorem inV_int (k : Int) (ms : List Int) : inV (.int k) (ms.map V.int) = decide (k ∈ ms) := by
  unfold inV
  rw [List.any_map, Bool.eq_iff_iff, List.any_eq_true, decide_eq_true_iff]
  constructor
  · rintro ⟨m, hm, h⟩
    have h : eqV (.int m) (.int k) = true := h
    have : m = k := by simpa [eqV] using h
    rw [← this]
    exact hm
  · intro h
    exact ⟨k, h, by show eqV (.int k) (.int k) = true; simp [eqV]⟩
theorem flat_ints (ms : List Int) : (ms.map V.int).all flatV = true := by
  rw [List.all_map, List.all_eq_true]
  exact fun _ _ => rfl
def tellB (ms : List Int) (rs : List Iv) (k : Int) : Bool := decide (k ∈ ms) || inRB rs k
def tellL (ls : List (Int × V)) (ms : List Int) (rs : List Iv) (k : Int) : List V := if k ∈ keysL ls then [valO ls k] else if tellB ms rs k = true then [.non] else []
def spTells : Sp := fun vs H Q _ => ∃ (t D M R : Addr) (k : Int) (ls : List (Int × V)) (ms : List Int) (xs : List V) (rs : List Iv), vs = [.ref t, .int k] ∧ H t = some (.tup [.ref D, .ref M, .ref R]) ∧ H D = some (.dK (dV ls)) ∧ (keysL ls).Nodup ∧ H M = some (.lst (ms.map V.int)) ∧ H R = some (.lst xs) ∧ IvP H xs rs ∧ rs.length ≤ 1000 ∧
  ∀ H' p, Same H H' → H' p = some (.lst (tellL ls ms rs k)) → Q (.ref p) H'
section
variable {P : Program} {w : World} {K : PySem.W.Frag} {mg : Str → Option Value} {base : Heap} {C_Sheet C_BadSheet C_BadKey D_Sheet_0 D_Sheet_1 : Addr}
theorem cal__law_tells (T : TX K mg C_Sheet C_BadSheet C_BadKey D_Sheet_0 D_Sheet_1) : Cal P w K mg base 1 "_law_tells" spTells [] := by
  obtain ⟨f0, fd, D, dn⟩ := T.d__law_tells
  refine cal0 D (D.fn.binds dn fun _ _ _ _ _ _ us hl => match us, hl with | [_, _], _ => rfl) .nil sc__law_tells (by walk_at "len") (fun cdv A outer s H vs Q E hr h => ?_)
  obtain ⟨t, D, M, R, k0, ls, ms, xs, rs, rfl, et, eD, nd, eM, eR, iv, lr, k⟩ := h
  refine ⟨_, (pss_cons (ps_asg (pv 0) (pg_tup rfl (pgs_cons (pg_n 2 sc__law_tells.nd) (pgs_cons (pg_n 3 sc__law_tells.nd) (pgs_cons (pg_n 4 sc__law_tells.nd) pgs_nil)))))
      (pss_cons (ps_if (pt_cmp (pc_din (hu_of hr) (pv 1) (pv 2))) (pss_one (ps_ret (pe_lst (pa_cons (pe_dget (hu_of hr) (pv 2) (pv 1) (fun _ _ => rfl)) pa_nil)))) pss_nil)
      (pss_one (ps_ret (pe_ifExp (PW.pt (pw_or (pt_cmpR op_in_seq (pv 1) (pv 3) (by with_unfolding_all rfl)) (pw_or1 (pt_val (pe_callB (cr_any rfl) (by rfl) T.b_any (by decide +kernel) (pa_cons (pe_lc (own := [("_law_low", 5), ("_law_high", 6)]) (g := gTup _ 2 (gCons (gName 5) (gCons (gName 6) gNil))) (tt := tYes) rfl sc__law_tells.nd (pi_list (pv 4)) (blkOk_by (own := [("_law_low", 5), ("_law_high", 6)]) (N := N__law_tells) (sc := fnScope s__law_tells) (by decide +kernel)) (fun _ _ _ _ _ => (pg_tup rfl (pgs_cons (pg_n 5 sc__law_tells.nd) (pgs_cons (pg_n 6 sc__law_tells.nd) pgs_nil)))) (fun _ _ _ _ _ => pts_nil) (fun _ _ _ _ _ => (pe_chain op_le op_le (pv 5) (pv 1) (pv 6)))) pa_nil)))))) (pe_lst (pa_cons pe_non pa_nil)) (pe_lst pa_nil)))))), ?_⟩
  walk_at "rd"
  refine rd_gtup et rfl ?_
  walk_at "rd"
  refine rd_din0 ?_
  walk_at "rd"
  refine ⟨D, _, rfl, DGet.k (k := Sum.inl k0) eD, ?_⟩
  unfold tellL at k
  by_cases c : k0 ∈ keysL ls
  · rw [if_pos c] at k
    obtain ⟨q, hq, rfl⟩ := List.mem_map.mp c
    have hv := dV_val nd (k := q.1) (v := q.2) hq
    rw [hv]
    refine ⟨true, rfl, rd_iteTT ?_⟩
    walk_at "rd"
    refine rd_dgetV (.inl eD) hv ?_
    walk_at "rd"
    refine rd_newL (by simp) fun p H1 _ s1 ep _ => ?_
    refine k H1 p s1 ?_
    unfold valO
    rw [hv]
    exact ep
  · rw [if_neg c] at k
    rw [dV_no c]
    refine ⟨false, rfl, rd_iteFF ?_⟩
    walk_at "rd"
    refine ⟨M, _, rfl, .inl (SqL.of eM), rfl, flat_ints ms, ?_⟩
    rw [inV_int]
    refine ⟨_, rfl, rd_ite (fun c1 => ?_) (fun c1 => ?_)⟩
    · have : tellB ms rs k0 = true := by unfold tellB; rw [decide_eq_true c1]; rfl
      rw [if_pos this] at k
      walk_at "rd"
      refine rd_newL (by simp) fun p H1 _ s1 ep _ => ?_
      exact k H1 p s1 ep
    · have tb : tellB ms rs k0 = inRB rs k0 := by unfold tellB; rw [decide_eq_false c1]; rfl
      rw [tb] at k
      walk_at "rd"
      refine rd_lsR (SqL.of eR) ?_
      refine lcR_lst (xs := xs) (fun W j H' => Same H H' ∧ H' W = some (.lst (((rs.take j).map fun r => decide (r.1 ≤ k0 ∧ k0 ≤ r.2)).map V.bl))) (fun W j H' _ ⟨s, _⟩ => SqL.of (s _ _ eR)) (fun W H' _ s e _ => ⟨s, e⟩) ?_ ?_
      · rintro W j y H1 hW hy ⟨s1, eW⟩
        obtain ⟨r, t, hr, rfl, et⟩ := (iv.mono s1).getV hy
        have hj := (List.getElem?_eq_some_iff.mp hr).1
        have fin : ∀ b, b = decide (r.1 ≤ k0 ∧ k0 ≤ r.2) → LcE W (fun H' => Same H H' ∧ H' W = some (.lst (((rs.take (j + 1)).map fun r => decide (r.1 ≤ k0 ∧ k0 ≤ r.2)).map V.bl))) (.bl b) H1 := by
          rintro b rfl
          refine rd_lcE eW (by rw [List.length_map, List.length_map, List.length_take]; omega) fun H2 eH2 eW2 => ?_
          refine ⟨by rw [eH2]; exact Same.mut s1 hW, ?_⟩
          rw [eW2, List.take_add_one, hr, List.map_append, List.map_append]
          rfl
        refine rd_gtup et rfl ?_
        walk_at "rd"
        refine ⟨rfl, ?_⟩
        walk_at "rd"
        refine rd_ite (fun c => ?_) (fun c => ?_)
        · walk_at "rd"
          exact fin _ (by by_cases z : k0 ≤ r.2 <;> simp [c, z])
        · exact fin _ (by rw [decide_eq_false (fun z => c z.1)])
      · rintro W H1 hW ⟨s1, eW⟩
        rw [iv.1, List.take_length] at eW
        walk_at "rd"
        refine ⟨W, _, rfl, SqL.of eW, ?_⟩
        rw [List.any_map]
        have e2 : rs.any (id ∘ fun r => decide (r.1 ≤ k0 ∧ k0 ≤ r.2)) = inRB rs k0 := rfl
        rw [e2]
        refine ⟨_, rfl, ?_⟩
        cases hb : inRB rs k0
        · rw [hb, if_neg (by decide)] at k
          walk_at "rd"
          refine rd_newL (by simp) fun p H2 _ s2 ep _ => ?_
          exact k H2 p (s1.trans s2) ep
        · rw [hb, if_pos rfl] at k
          walk_at "rd"
          refine rd_newL (by simp) fun p H2 _ s2 ep _ => ?_
          exact k H2 p (s1.trans s2) ep
end
end Sl

set_option Elab.async false
set_option linter.all false
set_option maxRecDepth 100000
set_option maxHeartbeats 8000000
set_option exponentiation.threshold 9000
namespace Sl
open PySem L2 C8 StX Silt
local macro_rules | `(tactic| walk_at "side") => `(tactic| first
  | exact cdivw (by omega) (by omega)
  | exact cmulw (by omega) (by omega) (by omega) (by omega)
  | exact Or.inr ⟨by omega, by omega⟩
  | exact Or.inl ⟨by omega, by omega⟩
  | omega
  | exact ⟨by omega, by omega, by decide⟩
  | decide)
local macro_rules | `(tactic| walk_at "rd1") => `(tactic| first
  | with_reducible refine rd_seq ?_
  | with_reducible refine rd_asg ?_
  | with_reducible refine rd_drop ?_
  | with_reducible refine rd_ret ?_
  | with_reducible refine rd_retN ?_
  | with_reducible refine rd_ifS ?_
  | ((with_reducible refine rd_var0 ?_); refine ⟨_, rfl, ?_⟩)
  | with_reducible refine rd_c ?_
  | with_reducible refine rd_op ?_
  | with_reducible refine rd_un ?_
  | with_reducible refine rd_I0 ?_
  | with_reducible refine rd_U ?_
  | ((with_reducible refine rd_I ?c ?_); (case c => walk_at "side"))
  | with_reducible refine rd_ipI ?_
  | with_reducible refine rd_eqI ?_
  | with_reducible refine rd_neI ?_
  | with_reducible refine rd_test ?_
  | with_reducible refine rd_tB ?_
  | with_reducible refine rd_bl ?_
  | with_reducible refine rd_not ?_
  | with_reducible refine rd_and ?_
  | with_reducible refine rd_or ?_
  | with_reducible refine rd_andV ?_
  | with_reducible refine rd_orV ?_
  | with_reducible refine rd_notV ?_
  | with_reducible refine rd_ifE ?_
  | with_reducible refine rd_chain ?_
  | with_reducible refine rd_chain3 ?_
  | with_reducible refine rd_nil ?_
  | with_reducible refine rd_cons ?_
  | with_reducible refine rd_call ?_
  | with_reducible refine rd_CB ?_
  | with_reducible refine rd_par ?_
  | with_reducible refine rd_par2 ?_
  | with_reducible refine rd_par3 ?_
  | with_reducible refine rd_par4 ?_
  | ((with_reducible refine rd_aug0 ?_); refine ⟨_, rfl, ?_⟩)
  | with_reducible refine rd_gname ?_
  | with_reducible refine rd_gcons ?_
  | with_reducible refine rd_gnil ?_
  | with_reducible refine rd_max ?_
  | with_reducible refine rd_min ?_
  | with_reducible refine rd_int1 ?_
  | with_reducible refine rd_abs ?_
  | with_reducible refine rd_lst ?_
  | with_reducible refine rd_tup ?_
  | with_reducible refine rd_bm ?_
  | with_reducible refine rd_fld0 ?_
  | with_reducible refine rd_sl0 ?_
  | with_reducible refine rd_noP ?_
  | with_reducible refine rd_part ?_
  | with_reducible refine rd_part2 ?_
  | with_reducible refine rd_meth0 ?_
  | with_reducible refine rd_star ?_
  | with_reducible refine rd_for ?_
  | with_reducible refine rd_rng1 ?_
  | with_reducible refine rd_rng2 ?_
  | with_reducible refine rd_rng3 ?_
  | with_reducible refine rd_iList ?_
  | with_reducible refine rd_iTup ?_
  | with_reducible refine rd_iEnum ?_
  | with_reducible refine rd_lc ?_
  | with_reducible refine rd_yes ?_
  | with_reducible refine rd_augS ?_
  | with_reducible refine rd_drawNew ?_
  | with_reducible refine rd_make0 ?_
  | with_reducible refine rd_next ?_
  | with_reducible refine rd_break ?_
  | with_reducible refine rd_cont ?_
  | with_reducible refine rd_iteTT ?_
  | with_reducible refine rd_iteFF ?_
  | with_reducible refine rd_iteNTT ?_
  | with_reducible refine rd_iteNFF ?_
  | with_reducible refine rd_con0 ?_
  | with_reducible refine rd_truO0 ?_
  | with_reducible refine rd_gfld0 ?_
  | with_reducible refine rd_dc ?_
  | with_reducible refine rd_iKeys ?_
  | with_reducible refine rd_dget0 ?_
  | with_reducible refine rd_dput0 ?_
  | with_reducible refine rd_dnot0 ?_
  | with_reducible refine rd_iEnumT ?_
  | with_reducible refine rd_raP0 ?_
  | with_reducible refine rd_xf0 ?_
  | with_reducible refine rd_cKw ?_
  | with_reducible refine rd_iStr ?_
  | with_reducible refine rd_gSub ?_
  | with_reducible refine rd_asgG ?_)
local macro_rules | `(tactic| walk_at "rd") => `(tactic| repeat walk_at "rd1")
local macro_rules | `(tactic| walk_at "len") => `(tactic| first
  | (intro vs H Q E h; obtain ⟨h2, _⟩ := h; rw [h2]; rfl)
  | (intro vs H Q E h; obtain ⟨_, h2, _⟩ := h; rw [h2]; rfl)
  | (intro vs H Q E h; obtain ⟨_, _, h2, _⟩ := h; rw [h2]; rfl)
  | (intro vs H Q E h; obtain ⟨_, _, _, h2, _⟩ := h; rw [h2]; rfl)
  | (intro vs H Q E h; obtain ⟨_, _, _, _, h2, _⟩ := h; rw [h2]; rfl)
  | (intro vs H Q E h; obtain ⟨_, _, _, _, _, h2, _⟩ := h; rw [h2]; rfl)
  | (intro vs H Q E h; obtain ⟨_, _, _, _, _, _, h2, _⟩ := h; rw [h2]; rfl)
  | (intro vs H Q E h; obtain ⟨_, _, _, _, _, _, _, h2, _⟩ := h; rw [h2]; rfl)
  | (intro vs H Q E h; obtain ⟨_, _, _, _, _, _, _, _, h2, _⟩ := h; rw [h2]; rfl)
  | (intro vs H Q E h; obtain ⟨_, _, _, _, _, _, _, _, _, h2, _⟩ := h; rw [h2]; rfl)
  | (intro vs H Q E h; obtain ⟨_, _, _, _, _, _, _, _, _, _, h2, _⟩ := h; rw [h2]; rfl)
  | (intro vs H Q E h; obtain ⟨_, _, _, _, _, _, _, _, _, _, _, h2, _⟩ := h; rw [h2]; rfl)
  | (intro vs H Q E h; obtain ⟨_, _, _, _, _, _, _, _, _, _, _, _, h2, _⟩ := h; rw [h2]; rfl))
def spGoneR (C : Addr) : Sp := fun vs H Q E => ∃ (x : Addr) (v : V), vs = [.ref x, v] ∧ Sc v ∧ keyB v = false ∧ E (.ref C) none H
/-- a list or a tuple, or a plain value -/
def SqO (K : PySem.W.Frag) (H : Hp) (v : V) (b : Bool) : Prop := (∃ (a : Addr) (ys : List V), v = .ref a ∧ SqQ K H a ys ∧ b = true) ∨ (Sc v ∧ b = false)
theorem SqO.mono {K : PySem.W.Frag} {H H' : Hp} {v : V} {b : Bool} (s : Same H H') (h : SqO K H v b) : SqO K H' v b := by
  rcases h with ⟨a, ys, e, q, r⟩ | h
  · exact .inl ⟨a, ys, e, q.mono s, r⟩
  · exact .inr h
def inKeys (ls : List (Int × V)) : V → Bool
  | .int i => decide (i ∈ keysL ls)
  | _ => false
/-- what may stand in a list of ranges -/
def ItsR (H : Hp) (xs : List V) (bs : List Bool) : Prop := bs.length = xs.length ∧ ∀ (i : Nat) (x : V), xs[i]? = some x → ∃ (t : Addr) (b : Bool), bs[i]? = some b ∧ x = .ref t ∧ ((∃ ws, H t = some (.tup ws) ∧ ws.length ≤ 9 ∧ (∀ w ∈ ws, Sc w) ∧ b = rgB ws) ∨ ∃ ys, H t = some (.lst ys) ∧ b = false)
def spSheetX (K : PySem.W.Frag) (C : Addr) : Sp := fun vs H Q E => ∃ (self : Addr) (L M R : V), vs = [.ref self, L, M, R] ∧ (∀ H', Same H H' → E (.ref C) none H') ∧
  ((∃ (a : Addr) (ys : List V), L = .ref a ∧ H a = some (.lst ys)) ∨ ∃ (D : Addr) (ls : List (Int × V)), L = .ref D ∧ H D = some (.dK (dV ls)) ∧ ((∃ bM bR, SqO K H M bM ∧ SqO K H R bR ∧ (bM && bR) = false) ∨
    ∃ (m r : Addr) (mv xs : List V) (bs : List Bool), M = .ref m ∧ R = .ref r ∧ SqQ K H m mv ∧ SqQ K H r xs ∧ (keysL ls).Nodup ∧ (∀ q ∈ ls, Sc q.2 ∧ ∀ z, q.2 = .str z → z.length ≤ 1000) ∧ (∀ v ∈ mv, Sc v) ∧ ItsR H xs bs ∧ ls.length ≤ 1000 ∧ mv.length ≤ 1000 ∧ xs.length ≤ 1000 ∧
      (60 < ls.length + mv.length + xs.length ∨ (ls.all fun q => keyB (.int q.1) && valB q.2) = false ∨ (mv.all fun v => keyB v && !inKeys ls v) = false ∨ bs.all id = false)))
theorem kit_no {a : String} (h : a = "int" ∨ a = "bool" ∨ a = "str" ∨ a = "NoneType") {K : PySem.W.Frag} : PySem.W.kitAny K (.type a) [.type "list", .type "tuple"] = some false := by
  rcases h with rfl | rfl | rfl | rfl <;>
    exact kitAny_cons (b := false) (kit_ty (by decide +kernel)) (fun _ => kitAny_cons (b := false) (kit_ty (by decide +kernel)) (fun _ => rfl) (fun h => nomatch h)) (fun h => nomatch h)
theorem rd_isiTO {K : PySem.W.Frag} {H : Hp} {Q : VK} {v : V} {b : Bool} {u : Addr} (e : SqO K H v b) (eu : H u = some (.tup [.ty "list", .ty "tuple"])) (h : Q (.bl b) H) : rIsiT K [v, .ref u] H Q := by
  rcases e with ⟨a, ys, rfl, q, rfl⟩ | ⟨hv, rfl⟩
  · exact rd_isiTQ q eu h
  · rcases sc_cases hv with ⟨i, rfl⟩ | ⟨i, rfl⟩ | ⟨i, rfl⟩ | rfl
    · exact ⟨_, u, _, _, [.type "list", .type "tuple"], false, rfl, eu, .cons (.ty _) (.cons (.ty _) .nil), .base (tyS_of rfl), kit_no (a := "int") (by simp), h⟩
    · exact ⟨_, u, _, _, [.type "list", .type "tuple"], false, rfl, eu, .cons (.ty _) (.cons (.ty _) .nil), .base (tyS_of rfl), kit_no (a := "bool") (by simp), h⟩
    · exact ⟨_, u, _, _, [.type "list", .type "tuple"], false, rfl, eu, .cons (.ty _) (.cons (.ty _) .nil), .base (tyS_of rfl), kit_no (a := "str") (by simp), h⟩
    · exact ⟨_, u, _, _, [.type "list", .type "tuple"], false, rfl, eu, .cons (.ty _) (.cons (.ty _) .nil), .base (tyS_of rfl), kit_no (a := "NoneType") (by simp), h⟩
theorem all_bs {K : PySem.W.Frag} {H : Hp} {Q : VK} {D : Addr} {bs : List Bool} (e : H D = some (.lst (bs.map V.bl))) (h : Q (.bl (bs.all id)) H) : rAll K [.ref D] H Q := ⟨D, bs, rfl, SqL.of e, h⟩
section
variable {P : Program} {w : World} {K : PySem.W.Frag} {mg : Str → Option Value} {base : Heap} {C_Sheet C_BadSheet C_BadKey D_Sheet_0 D_Sheet_1 : Addr}
theorem xet_Sheet_is_gone (T : TX K mg C_Sheet C_BadSheet C_BadKey D_Sheet_0 D_Sheet_1) : MetX P w K mg base 4 C_Sheet "is_gone" (spGoneR C_BadKey) [] := by
  obtain ⟨f0, fd, D, dn, me, _⟩ := T.m_Sheet_is_gone
  have X_check_key := xal_check_key (P := P) (w := w) (base := base) T
  refine metX0 T.cl_Sheet me D (D.binds dn fun _ _ _ _ _ _ us hl => match us, hl with | [_, _], _ => rfl) sc_Sheet_is_gone (by walk_at "len") (fun cdv A outer s H vs Q E hr h => ?_)
  obtain ⟨x, v, rfl, hv, kb, k⟩ := h
  refine ⟨_, (pss_cons (ps_expr (pe_cX X_check_key hr (by decide) rfl (fun σ => passAt (takes_of rfl rfl rfl rfl) σ) (pa_cons (pv 1) pa_nil)))
      (pss_one ps_never)), ?_⟩
  walk_at "rd"
  refine rd_callSd ?_
  walk_at "rd"
  exact rd_callSd2 ⟨v, rfl, hv, fun z => (by rw [kb] at z; cases z), fun _ => k⟩
theorem xak2_Sheet_init (T : TX K mg C_Sheet C_BadSheet C_BadKey D_Sheet_0 D_Sheet_1) : ∃ f fd, C8.Fun K "__init__" "Sheet.__init__" s_Sheet_init f fd ∧ ((∃ ds, Vals [] ds ∧ Binds K fd P_Sheet_init ds) ∧ ∃ ds, Vals [.ref D_Sheet_0, .ref D_Sheet_1] ds ∧ Binds K fd P_Sheet_init ds) ∧ Mk K C_Sheet f ∧ FnOk P w K mg base (L2.CX P w) 4 f fd P_Sheet_init (spSheetX K C_BadSheet) := by
  obtain ⟨f0, fd, D, bb, mk⟩ := T.m_Sheet_init
  have G_is_value := cal_is_value (P := P) (w := w) (base := base) T
  have G_is_key := cal_is_key (P := P) (w := w) (base := base) T
  have G_is_range := cal_is_range (P := P) (w := w) (base := base) T
  refine ⟨f0, fd, D, bb, mk, fnX D sc_Sheet_init (by walk_at "len") (fun cdv A outer s H vs Q E hr h => ?_)⟩
  obtain ⟨self, L, M, R, rfl, k, h⟩ := h
  refine ⟨_, (pss_cut (ps_if (PW.pt (pw_or (pt_not (pt_val (pe_callB call_isi (by rfl) T.b_isinstance (by decide +kernel) (pa_cons (pv 1) (pa_cons (pe_bltn (v := .ty "dict") (u := .type "dict") rfl T.b_dict (by decide +kernel) rfl) pa_nil))))) (pw_or1 (pt_not (pt_val (pe_callB (cr_all rfl) (by rfl) T.b_all (by decide +kernel) (pa_cons (pe_lc (own := [("one", 4)]) (g := gName 4) (tt := tYes) rfl sc_Sheet_init.nd (pi_tup (pe_tup (pa_cons (pv 2) (pa_cons (pv 3) pa_nil)))) (blkOk_by (own := [("one", 4)]) (N := N_Sheet_init) (sc := fnScope s_Sheet_init) (by decide +kernel)) (fun _ _ _ _ _ => (pg_n 4 sc_Sheet_init.nd)) (fun _ _ _ _ _ => pts_nil) (fun _ _ _ _ _ => (pe_callB (callK rIsiT K call_isiT) (by rfl) T.b_isinstance (by decide +kernel) (pa_cons (pv 4) (pa_cons (pe_tup (pa_cons (pe_bltn (v := .ty "list") (u := .type "list") rfl T.b_list (by decide +kernel) rfl) (pa_cons (pe_bltn (v := .ty "tuple") (u := .type "tuple") rfl T.b_tuple (by decide +kernel) rfl) pa_nil))) pa_nil))))) pa_nil))))))) (pss_one (ps_raiseO rfl (takes_of rfl rfl rfl rfl) T.x_BadSheet T.mg_BadSheet rfl)) pss_nil)
      (pss_cut (ps_if (pt_cmpR op_gt (pe_op op_add (pe_op op_add (pe_callB cr_lenDk (by rfl) T.b_len (by decide +kernel) (pa_cons (pv 1) pa_nil)) (pe_callB cr_lenS (by rfl) T.b_len (by decide +kernel) (pa_cons (pv 2) pa_nil))) (pe_callB cr_lenS (by rfl) T.b_len (by decide +kernel) (pa_cons (pv 3) pa_nil))) (pe_gc rfl T.g_MOST_ITEMS) (nomark _)) (pss_one (ps_raiseO rfl (takes_of rfl rfl rfl rfl) T.x_BadSheet T.mg_BadSheet rfl)) pss_nil)
      (pss_cut (ps_if (pt_not (pt_val (pe_callB (cr_all rfl) (by rfl) T.b_all (by decide +kernel) (pa_cons (pe_lock (pe_lc (own := [("key", 5)]) (g := gName 5) (tt := tYes) rfl sc_Sheet_init.nd (pi_keys (pv 1)) (blkOk_by (own := [("key", 5)]) (N := N_Sheet_init) (sc := fnScope s_Sheet_init) (by decide +kernel)) (fun _ _ _ _ _ => (pg_n 5 sc_Sheet_init.nd)) (fun _ _ _ _ _ => pts_nil) (fun _ _ _ _ _ => (pe_and (pe_c G_is_key hr (by decide) rfl (pa_cons (pv 5) pa_nil)) (pe_one (pe_c G_is_value hr (by decide) rfl (pa_cons (pe_dget (hu_of hr) (pv 1) (pv 5) (fun _ _ => rfl)) pa_nil))))))) pa_nil)))) (pss_one (ps_raiseO rfl (takes_of rfl rfl rfl rfl) T.x_BadSheet T.mg_BadSheet rfl)) pss_nil)
      (pss_cons (ps_if (PW.pt (pw_or (pt_not (pt_val (pe_callB (cr_all rfl) (by rfl) T.b_all (by decide +kernel) (pa_cons (pe_lc (own := [("key", 5)]) (g := gName 5) (tt := tYes) rfl sc_Sheet_init.nd (pi_alt (pi_list (pv 2)) (pi_tup (pv 2))) (blkOk_by (own := [("key", 5)]) (N := N_Sheet_init) (sc := fnScope s_Sheet_init) (by decide +kernel)) (fun _ _ _ _ _ => (pg_n 5 sc_Sheet_init.nd)) (fun _ _ _ _ _ => pts_nil) (fun _ _ _ _ _ => (pe_and (pe_c G_is_key hr (by decide) rfl (pa_cons (pv 5) pa_nil)) (pe_one (pe_cmp (pc_dnotin (hu_of hr) (pv 5) (pv 1))))))) pa_nil)))) (pw_or1 (pt_not (pt_val (pe_callB (cr_all rfl) (by rfl) T.b_all (by decide +kernel) (pa_cons (pe_lc (own := [("one", 4)]) (g := gName 4) (tt := tYes) rfl sc_Sheet_init.nd (pi_alt (pi_list (pv 3)) (pi_tup (pv 3))) (blkOk_by (own := [("one", 4)]) (N := N_Sheet_init) (sc := fnScope s_Sheet_init) (by decide +kernel)) (fun _ _ _ _ _ => (pg_n 4 sc_Sheet_init.nd)) (fun _ _ _ _ _ => pts_nil) (fun _ _ _ _ _ => (pe_c G_is_range hr (by decide) rfl (pa_cons (pv 4) pa_nil)))) pa_nil))))))) (pss_one (ps_raiseO rfl (takes_of rfl rfl rfl rfl) T.x_BadSheet T.mg_BadSheet rfl)) pss_nil)
      (pss_cons ps_never
      (pss_cons ps_never
      (pss_cons ps_never
      (pss_one ps_never)))))))), ?_⟩
  walk_at "rd"
  rcases h with ⟨a, ys, rfl, eL⟩ | ⟨D, ls, rfl, eD, h⟩
  · refine ⟨fun σ H' => False, ?_, fun σ H' z => z.elim⟩
    walk_at "rd"
    refine rd_isiLst eL (r := false) (by decide +kernel) ?_
    walk_at "rd"
    exact rd_raise (k H (Same.refl H))
  obtain ⟨bM, bR, sM, sR, h⟩ : ∃ bM bR, SqO K H M bM ∧ SqO K H R bR ∧ ((bM && bR) = true → ∃ (m r : Addr) (mv xs : List V) (bs : List Bool), M = .ref m ∧ R = .ref r ∧ SqQ K H m mv ∧ SqQ K H r xs ∧ (keysL ls).Nodup ∧ (∀ q ∈ ls, Sc q.2 ∧ ∀ z, q.2 = .str z → z.length ≤ 1000) ∧ (∀ v ∈ mv, Sc v) ∧ ItsR H xs bs ∧ ls.length ≤ 1000 ∧ mv.length ≤ 1000 ∧ xs.length ≤ 1000 ∧
      (60 < ls.length + mv.length + xs.length ∨ (ls.all fun q => keyB (.int q.1) && valB q.2) = false ∨ (mv.all fun v => keyB v && !inKeys ls v) = false ∨ bs.all id = false)) := by
    rcases h with ⟨bM, bR, h1, h2, h3⟩ | h
    · exact ⟨bM, bR, h1, h2, fun z => by rw [h3] at z; cases z⟩
    · obtain ⟨m, r, mv, xs, bs, rfl, rfl, h1, h2, h3⟩ := h
      exact ⟨true, true, .inl ⟨_, _, rfl, h1, rfl⟩, .inl ⟨_, _, rfl, h2, rfl⟩, fun _ => ⟨m, r, mv, xs, bs, rfl, rfl, h1, h2, h3⟩⟩
  refine ⟨fun σ H' => Same H H' ∧ (bM && bR) = true ∧ σ = [some (.ref self), some (.ref D), some M, some R, none, none, none], ?_, ?_⟩
  · walk_at "rd"
    refine rd_isiD eD (r := true) (by decide +kernel) ?_
    walk_at "rd"
    refine rd_newT (by simp) fun u H1 _ s1 eu _ => ?_
    walk_at "rd"
    refine rd_tpR (SqT.of eu) ?_
    refine lcR_tup (xs := [M, R]) (fun W i H' => Same H1 H' ∧ H' W = some (.lst (([bM, bR].take i).map V.bl))) (fun W i H' _ ⟨s, _⟩ => SqT.of (s _ _ eu)) (fun W H' _ s e _ => ⟨s, e⟩) ?_ ?_
    · rintro W i x H2 hW hx ⟨s2, eW⟩
      obtain ⟨b, hb, sb⟩ : ∃ b, [bM, bR][i]? = some b ∧ SqO K H x b := by
        match i, hx with
        | 0, hx => cases hx; exact ⟨_, rfl, sM⟩
        | 1, hx => cases hx; exact ⟨_, rfl, sR⟩
        | (i + 2), hx => simp at hx
      have hi := (List.getElem?_eq_some_iff.mp hb).1
      walk_at "rd"
      refine ⟨rfl, ?_⟩
      walk_at "rd"
      refine rd_newT (by simp) fun w H3 _ s3 ew _ => ?_
      walk_at "rd"
      refine rd_isiTO (sb.mono ((s1.trans s2).trans s3)) ew ?_
      refine rd_lcE (s3 _ _ eW) (by simp; omega) fun H4 eH4 eW4 => ?_
      refine ⟨by rw [eH4]; exact Same.mut (s2.trans s3) hW, ?_⟩
      rw [eW4, List.take_add_one, hb, List.map_append]
      rfl
    · rintro W H2 hW ⟨s2, eW⟩
      walk_at "rd"
      refine all_bs (bs := [bM, bR]) eW ?_
      have e2 : [bM, bR].all id = (bM && bR) := by simp
      rw [e2]
      cases hb : bM && bR
      · walk_at "rd"
        exact rd_raise (k H2 (s1.trans s2))
      · walk_at "rd"
        exact ⟨s1.trans s2, rfl, rfl⟩
  rintro σ H1 ⟨s1, hb, rfl⟩
  obtain ⟨m, r, mv, xs, bs, rfl, rfl, qM, qR, nd, okl, okm, its, l1, l2, l3, h⟩ := h hb
  clear sM sR hb
  walk_at "rd"
  refine ⟨fun σ H' => Same H H' ∧ ¬ 60 < ls.length + mv.length + xs.length ∧ σ = [some (.ref self), some (.ref D), some (.ref m), some (.ref r), none, none, none], ?_, ?_⟩
  · walk_at "rd"
    refine rd_lenDk (s1 _ _ eD) ?_
    walk_at "rd"
    refine ⟨m, _, rfl, qM.mono s1, ?_⟩
    walk_at "rd"
    refine ⟨r, _, rfl, qR.mono s1, ?_⟩
    walk_at "rd"
    refine rd_ite (fun c => ?_) (fun c => ?_)
    · walk_at "rd"
      exact rd_raise (k H1 s1)
    · walk_at "rd"
      exact ⟨s1, by rw [dV_len] at c; omega, rfl⟩
  clear s1
  rintro σ H1 ⟨s1, c1, rfl⟩
  walk_at "rd"
  refine ⟨fun σ H' => Same H H' ∧ (ls.all fun q => keyB (.int q.1) && valB q.2) = true ∧ σ = [some (.ref self), some (.ref D), some (.ref m), some (.ref r), none, none, none], ?_, ?_⟩
  · walk_at "rd"
    have eD1 := s1 _ _ eD
    refine rd_lock eD1 trivial fun od => ?_
    obtain ⟨HL, eHL⟩ : ∃ HL, HL = upd H1 D (.frz od (.dK (dV ls))) := ⟨_, rfl⟩
    rw [← eHL]
    have eLL : HL D = some (.frz od (.dK (dV ls))) := by rw [eHL]; exact upd_same
    walk_at "rd"
    refine rd_keysR eLL ?_
    refine lcR_keys (fun W j H' => Same HL H' ∧ H' W = some (.lst (((ls.take j).map fun q => keyB (.int q.1) && valB q.2).map V.bl))) (fun W j H' _ ⟨s, _⟩ => s _ _ eLL) (fun W H' _ s e _ => ⟨s, e⟩) ?_ ?_
    · rintro W j kx z H2 hW hj ⟨s2, eW⟩
      obtain ⟨y, hy, rfl⟩ := dV_get hj
      have hm := List.mem_of_getElem? hy
      have hj2 := (List.getElem?_eq_some_iff.mp hy).1
      obtain ⟨o1, o2⟩ := okl _ hm
      have fin : ∀ (H3 : Hp) (b : Bool), Same H2 H3 → b = (keyB (.int y) && valB z) → LcE W (fun H' => Same HL H' ∧ H' W = some (.lst (((ls.take (j + 1)).map fun q => keyB (.int q.1) && valB q.2).map V.bl))) (.bl b) H3 := by
        rintro H3 b s3 rfl
        refine rd_lcE (s3 _ _ eW) (by rw [List.length_map, List.length_map, List.length_take]; omega) fun H4 eH4 eW4 => ?_
        refine ⟨by rw [eH4]; exact Same.mut (s2.trans s3) hW, ?_⟩
        rw [eW4, List.take_add_one, hy, List.map_append, List.map_append]
        rfl
      have ekv : kV (Sum.inl y) = V.int y := rfl
      rw [ekv]
      walk_at "rd"
      refine ⟨rfl, ?_⟩
      walk_at "rd"
      refine ⟨_, rfl, rfl, ?_⟩
      refine ⟨keyB (.int y), rfl, ?_⟩
      cases hb : keyB (.int y)
      · exact fin H2 _ (Same.refl H2) (by rw [hb]; rfl)
      · walk_at "rd"
        refine rd_dgetV (.inr ⟨od, s2 _ _ eLL⟩) (dV_val nd hm) ?_
        walk_at "rd"
        refine ⟨_, rfl, o1, o2, fun H3 s3 => ?_⟩
        exact fin H3 _ s3 (by rw [hb]; rfl)
    · rintro W H2 hW ⟨s2, eW⟩
      have hWD : W ≠ D := fun z => by rw [z, eLL] at hW; cases hW
      refine ⟨s2 _ _ eLL, ?_⟩
      obtain ⟨H3, eH3⟩ : ∃ H3, H3 = upd H2 D (.dK (dV ls)) := ⟨_, rfl⟩
      rw [← eH3]
      have s13 : Same H1 H3 := by
        rw [eH3]
        refine Same.unlock eD1 (o := .frz od (.dK (dV ls))) ?_
        rw [← eHL]
        exact s2
      have eW3 : H3 W = some (.lst ((ls.map fun q => keyB (.int q.1) && valB q.2).map V.bl)) := by
        rw [eH3, upd_ne hWD, eW, dV_len, List.take_length]
      walk_at "rd"
      refine all_take eW3 ?_
      cases hb : ls.all fun q => keyB (.int q.1) && valB q.2
      · walk_at "rd"
        exact rd_raise (k H3 (s1.trans s13))
      · walk_at "rd"
        exact ⟨s1.trans s13, rfl, rfl⟩
  clear s1
  rintro σ H1 ⟨s1, c2, rfl⟩
  have h3 : (mv.all fun v => keyB v && !inKeys ls v) = true → bs.all id = false := by
    rcases h with h | h | h | h
    · exact absurd h c1
    · rw [c2] at h; cases h
    · intro z; rw [h] at z; cases z
    · exact fun _ => h
  walk_at "rd"
  refine altQ rfl (qM.mono s1) fun J hJ => ?_
  refine lcR_Q hJ (fun W j H' => Same H1 H' ∧ H' W = some (.lst (((mv.take j).map fun v => keyB v && !inKeys ls v).map V.bl))) (fun W j H' _ ⟨s, _⟩ => s) (fun W H' _ s e _ => ⟨s, e⟩) ?_ ?_
  · rintro W j x H2 hW hx ⟨s2, eW⟩
    have hj := (List.getElem?_eq_some_iff.mp hx).1
    have sx := okm x (List.mem_of_getElem? hx)
    have fin : ∀ b, b = (keyB x && !inKeys ls x) → LcE W (fun H' => Same H1 H' ∧ H' W = some (.lst (((mv.take (j + 1)).map fun v => keyB v && !inKeys ls v).map V.bl))) (.bl b) H2 := by
      rintro b rfl
      refine rd_lcE eW (by rw [List.length_map, List.length_map, List.length_take]; omega) fun H4 eH4 eW4 => ?_
      refine ⟨by rw [eH4]; exact Same.mut s2 hW, ?_⟩
      rw [eW4, List.take_add_one, hx, List.map_append, List.map_append]
      rfl
    walk_at "rd"
    refine ⟨rfl, ?_⟩
    walk_at "rd"
    refine ⟨_, rfl, sx, ?_⟩
    refine ⟨keyB x, rfl, ?_⟩
    cases hb : keyB x
    · exact fin _ (by rw [hb]; rfl)
    · obtain ⟨i, rfl, _⟩ := keyB_sc hb
      walk_at "rd"
      refine ⟨D, _, rfl, DGet.k (k := Sum.inl i) ((s1.trans s2) _ _ eD), ?_⟩
      refine fin _ ?_
      rw [hb, Bool.true_and]
      by_cases c : i ∈ keysL ls
      · obtain ⟨q, hq, rfl⟩ := List.mem_map.mp c
        rw [dV_val nd (k := q.1) (v := q.2) hq]
        show _ = !decide (q.1 ∈ keysL ls)
        rw [decide_eq_true c]
        rfl
      · rw [dV_no c]
        show _ = !decide (i ∈ keysL ls)
        rw [decide_eq_false c]
        rfl
  · rintro W H2 hW ⟨s2, eW⟩
    rw [List.take_length] at eW
    walk_at "rd"
    refine all_take eW ?_
    have s02 := s1.trans s2
    cases hb : mv.all fun v => keyB v && !inKeys ls v
    · walk_at "rd"
      exact rd_raise (k H2 s02)
    · have h4 := h3 hb
      walk_at "rd"
      refine altQ rfl (qR.mono s02) fun J hJ => ?_
      refine lcR_Q hJ (fun W j H' => Same H2 H' ∧ H' W = some (.lst ((bs.take j).map V.bl))) (fun W j H' _ ⟨s, _⟩ => s) (fun W H' _ s e _ => ⟨s, e⟩) ?_ ?_
      · rintro W j x H3 hW hx ⟨s3, eW⟩
        have hj := (List.getElem?_eq_some_iff.mp hx).1
        obtain ⟨t, b, hbb, rfl, hb2⟩ := its.2 j x hx
        have fin : ∀ H4, Same H3 H4 → LcE W (fun H' => Same H2 H' ∧ H' W = some (.lst ((bs.take (j + 1)).map V.bl))) (.bl b) H4 := by
          intro H4 s4
          refine rd_lcE (s4 _ _ eW) (by rw [List.length_map, List.length_take]; omega) fun H5 eH5 eW5 => ?_
          refine ⟨by rw [eH5]; exact Same.mut (s3.trans s4) hW, ?_⟩
          rw [eW5, List.take_add_one, hbb, List.map_append]
          rfl
        walk_at "rd"
        refine ⟨rfl, ?_⟩
        walk_at "rd"
        refine ⟨t, rfl, ?_⟩
        have s03 := s02.trans s3
        rcases hb2 with ⟨ws, et, lw, sw, rfl⟩ | ⟨ys, et, rfl⟩
        · exact .inl ⟨ws, s03 _ _ et, lw, sw, fun H4 s4 => fin H4 s4⟩
        · exact .inr ⟨ys, s03 _ _ et, fin H3 (Same.refl H3)⟩
      · rintro W H3 hW ⟨s3, eW⟩
        rw [← its.1, List.take_length] at eW
        walk_at "rd"
        refine all_bs eW ?_
        rw [h4]
        walk_at "rd"
        exact rd_raise (k H3 (s02.trans s3))
end
end Sl

set_option Elab.async false
set_option linter.all false
set_option maxRecDepth 100000
set_option maxHeartbeats 8000000
set_option exponentiation.threshold 9000
namespace Sl
open PySem L2 C8 StX Silt
local macro_rules | `(tactic| walk_at "side") => `(tactic| first
  | exact cdivw (by omega) (by omega)
  | exact cmulw (by omega) (by omega) (by omega) (by omega)
  | exact Or.inr ⟨by omega, by omega⟩
  | exact Or.inl ⟨by omega, by omega⟩
  | omega
  | exact ⟨by omega, by omega, by decide⟩
  | decide)
local macro_rules | `(tactic| walk_at "rd1") => `(tactic| first
  | with_reducible refine rd_seq ?_
  | with_reducible refine rd_asg ?_
  | with_reducible refine rd_drop ?_
  | with_reducible refine rd_ret ?_
  | with_reducible refine rd_retN ?_
  | with_reducible refine rd_ifS ?_
  | ((with_reducible refine rd_var0 ?_); refine ⟨_, rfl, ?_⟩)
  | with_reducible refine rd_c ?_
  | with_reducible refine rd_op ?_
  | with_reducible refine rd_un ?_
  | with_reducible refine rd_I0 ?_
  | with_reducible refine rd_U ?_
  | ((with_reducible refine rd_I ?c ?_); (case c => walk_at "side"))
  | with_reducible refine rd_ipI ?_
  | with_reducible refine rd_eqI ?_
  | with_reducible refine rd_neI ?_
  | with_reducible refine rd_test ?_
  | with_reducible refine rd_tB ?_
  | with_reducible refine rd_bl ?_
  | with_reducible refine rd_not ?_
  | with_reducible refine rd_and ?_
  | with_reducible refine rd_or ?_
  | with_reducible refine rd_andV ?_
  | with_reducible refine rd_orV ?_
  | with_reducible refine rd_notV ?_
  | with_reducible refine rd_ifE ?_
  | with_reducible refine rd_chain ?_
  | with_reducible refine rd_chain3 ?_
  | with_reducible refine rd_nil ?_
  | with_reducible refine rd_cons ?_
  | with_reducible refine rd_call ?_
  | with_reducible refine rd_CB ?_
  | with_reducible refine rd_par ?_
  | with_reducible refine rd_par2 ?_
  | with_reducible refine rd_par3 ?_
  | with_reducible refine rd_par4 ?_
  | ((with_reducible refine rd_aug0 ?_); refine ⟨_, rfl, ?_⟩)
  | with_reducible refine rd_gname ?_
  | with_reducible refine rd_gcons ?_
  | with_reducible refine rd_gnil ?_
  | with_reducible refine rd_max ?_
  | with_reducible refine rd_min ?_
  | with_reducible refine rd_int1 ?_
  | with_reducible refine rd_abs ?_
  | with_reducible refine rd_lst ?_
  | with_reducible refine rd_tup ?_
  | with_reducible refine rd_bm ?_
  | with_reducible refine rd_fld0 ?_
  | with_reducible refine rd_sl0 ?_
  | with_reducible refine rd_noP ?_
  | with_reducible refine rd_part ?_
  | with_reducible refine rd_part2 ?_
  | with_reducible refine rd_meth0 ?_
  | with_reducible refine rd_star ?_
  | with_reducible refine rd_for ?_
  | with_reducible refine rd_rng1 ?_
  | with_reducible refine rd_rng2 ?_
  | with_reducible refine rd_rng3 ?_
  | with_reducible refine rd_iList ?_
  | with_reducible refine rd_iTup ?_
  | with_reducible refine rd_iEnum ?_
  | with_reducible refine rd_lc ?_
  | with_reducible refine rd_yes ?_
  | with_reducible refine rd_augS ?_
  | with_reducible refine rd_drawNew ?_
  | with_reducible refine rd_make0 ?_
  | with_reducible refine rd_next ?_
  | with_reducible refine rd_break ?_
  | with_reducible refine rd_cont ?_
  | with_reducible refine rd_iteTT ?_
  | with_reducible refine rd_iteFF ?_
  | with_reducible refine rd_iteNTT ?_
  | with_reducible refine rd_iteNFF ?_
  | with_reducible refine rd_con0 ?_
  | with_reducible refine rd_truO0 ?_
  | with_reducible refine rd_gfld0 ?_
  | with_reducible refine rd_dc ?_
  | with_reducible refine rd_iKeys ?_
  | with_reducible refine rd_dget0 ?_
  | with_reducible refine rd_dput0 ?_
  | with_reducible refine rd_dnot0 ?_
  | with_reducible refine rd_iEnumT ?_
  | with_reducible refine rd_raP0 ?_
  | with_reducible refine rd_xf0 ?_
  | with_reducible refine rd_cKw ?_
  | with_reducible refine rd_iStr ?_
  | with_reducible refine rd_gSub ?_
  | with_reducible refine rd_asgG ?_)
local macro_rules | `(tactic| walk_at "rd") => `(tactic| repeat walk_at "rd1")
local macro_rules | `(tactic| walk_at "len") => `(tactic| first
  | (intro vs H Q E h; obtain ⟨h2, _⟩ := h; rw [h2]; rfl)
  | (intro vs H Q E h; obtain ⟨_, h2, _⟩ := h; rw [h2]; rfl)
  | (intro vs H Q E h; obtain ⟨_, _, h2, _⟩ := h; rw [h2]; rfl)
  | (intro vs H Q E h; obtain ⟨_, _, _, h2, _⟩ := h; rw [h2]; rfl)
  | (intro vs H Q E h; obtain ⟨_, _, _, _, h2, _⟩ := h; rw [h2]; rfl)
  | (intro vs H Q E h; obtain ⟨_, _, _, _, _, h2, _⟩ := h; rw [h2]; rfl)
  | (intro vs H Q E h; obtain ⟨_, _, _, _, _, _, h2, _⟩ := h; rw [h2]; rfl)
  | (intro vs H Q E h; obtain ⟨_, _, _, _, _, _, _, h2, _⟩ := h; rw [h2]; rfl)
  | (intro vs H Q E h; obtain ⟨_, _, _, _, _, _, _, _, h2, _⟩ := h; rw [h2]; rfl)
  | (intro vs H Q E h; obtain ⟨_, _, _, _, _, _, _, _, _, h2, _⟩ := h; rw [h2]; rfl)
  | (intro vs H Q E h; obtain ⟨_, _, _, _, _, _, _, _, _, _, h2, _⟩ := h; rw [h2]; rfl)
  | (intro vs H Q E h; obtain ⟨_, _, _, _, _, _, _, _, _, _, _, h2, _⟩ := h; rw [h2]; rfl)
  | (intro vs H Q E h; obtain ⟨_, _, _, _, _, _, _, _, _, _, _, _, h2, _⟩ := h; rw [h2]; rfl))
/-- too many stretches -/
def spSheetM (K : PySem.W.Frag) (C CX : Addr) : Sp := fun vs H Q E => ∃ (self dx D M R : Addr) (H0 : Hp) (ls : List (Int × V)) (ms : List Int) (xs : List V) (rs : List Iv), vs = [.ref self, .ref D, .ref M, .ref R] ∧ Same H0 H ∧ H0 self = none ∧ H self = some (.ins C dx []) ∧
  H D = some (.dK (dV ls)) ∧ (keysL ls).Nodup ∧ (∀ q ∈ ls, keyB (.int q.1) = true ∧ valB q.2 = true) ∧ SqQ K H M (ms.map V.int) ∧ (∀ m ∈ ms, keyB (.int m) = true ∧ m ∉ keysL ls) ∧ SqQ K H R xs ∧ IvP H xs rs ∧ (∀ r ∈ rs, 0 ≤ r.1 ∧ r.1 ≤ r.2 ∧ r.2 ≤ 999999) ∧ ls.length + ms.length + rs.length ≤ 60 ∧
  ((∀ gs, Canon gs → (∀ k, inR gs k ↔ (k ∈ ms ∨ inR rs k) ∧ k ∉ keysL ls) → 60 < ls.length + gs.length) ∧ ∀ H', Same H0 H' → E (.ref CX) none H')
section
variable {P : Program} {w : World} {K : PySem.W.Frag} {mg : Str → Option Value} {base : Heap} {C_Sheet C_BadSheet C_BadKey D_Sheet_0 D_Sheet_1 : Addr}
theorem xak2_Sheet_init_many (T : TX K mg C_Sheet C_BadSheet C_BadKey D_Sheet_0 D_Sheet_1) : ∃ f fd, C8.Fun K "__init__" "Sheet.__init__" s_Sheet_init f fd ∧ ((∃ ds, Vals [] ds ∧ Binds K fd P_Sheet_init ds) ∧ ∃ ds, Vals [.ref D_Sheet_0, .ref D_Sheet_1] ds ∧ Binds K fd P_Sheet_init ds) ∧ Mk K C_Sheet f ∧ FnOk P w K mg base (L2.CX P w) 4 f fd P_Sheet_init (spSheetM K C_Sheet C_BadSheet) := by
  obtain ⟨f0, fd, D, bb, mk⟩ := T.m_Sheet_init
  have G_is_value := cal_is_value (P := P) (w := w) (base := base) T
  have G_is_key := cal_is_key (P := P) (w := w) (base := base) T
  have G_is_range := cal_is_range (P := P) (w := w) (base := base) T
  have G_joined_ranges := cal_joined_ranges (P := P) (w := w) (base := base) T
  have G_without_keys := cal_without_keys (P := P) (w := w) (base := base) T
  refine ⟨f0, fd, D, bb, mk, fnX D sc_Sheet_init (by walk_at "len") (fun cdv A outer s H vs Q E hr h => ?_)⟩
  obtain ⟨self, dx, D, M, R, H0, ls, ms, xs, rs, rfl, s0, h0, eS, eD, nd, okl, sM, okm, sR, iv, okr, ll, k⟩ := h
  refine ⟨_, (pss_cut (ps_if (PW.pt (pw_or (pt_not (pt_val (pe_callB call_isi (by rfl) T.b_isinstance (by decide +kernel) (pa_cons (pv 1) (pa_cons (pe_bltn (v := .ty "dict") (u := .type "dict") rfl T.b_dict (by decide +kernel) rfl) pa_nil))))) (pw_or1 (pt_not (pt_val (pe_callB (cr_all rfl) (by rfl) T.b_all (by decide +kernel) (pa_cons (pe_lc (own := [("one", 4)]) (g := gName 4) (tt := tYes) rfl sc_Sheet_init.nd (pi_tup (pe_tup (pa_cons (pv 2) (pa_cons (pv 3) pa_nil)))) (blkOk_by (own := [("one", 4)]) (N := N_Sheet_init) (sc := fnScope s_Sheet_init) (by decide +kernel)) (fun _ _ _ _ _ => (pg_n 4 sc_Sheet_init.nd)) (fun _ _ _ _ _ => pts_nil) (fun _ _ _ _ _ => (pe_callB (callK rIsiT K call_isiT) (by rfl) T.b_isinstance (by decide +kernel) (pa_cons (pv 4) (pa_cons (pe_tup (pa_cons (pe_bltn (v := .ty "list") (u := .type "list") rfl T.b_list (by decide +kernel) rfl) (pa_cons (pe_bltn (v := .ty "tuple") (u := .type "tuple") rfl T.b_tuple (by decide +kernel) rfl) pa_nil))) pa_nil))))) pa_nil))))))) (pss_one (ps_raiseO rfl (takes_of rfl rfl rfl rfl) T.x_BadSheet T.mg_BadSheet rfl)) pss_nil)
      (pss_cut (ps_if (pt_cmpR op_gt (pe_op op_add (pe_op op_add (pe_callB cr_lenDk (by rfl) T.b_len (by decide +kernel) (pa_cons (pv 1) pa_nil)) (pe_callB cr_lenS (by rfl) T.b_len (by decide +kernel) (pa_cons (pv 2) pa_nil))) (pe_callB cr_lenS (by rfl) T.b_len (by decide +kernel) (pa_cons (pv 3) pa_nil))) (pe_gc rfl T.g_MOST_ITEMS) (nomark _)) (pss_one (ps_raiseO rfl (takes_of rfl rfl rfl rfl) T.x_BadSheet T.mg_BadSheet rfl)) pss_nil)
      (pss_cut (ps_if (pt_not (pt_val (pe_callB (cr_all rfl) (by rfl) T.b_all (by decide +kernel) (pa_cons (pe_lock (pe_lc (own := [("key", 5)]) (g := gName 5) (tt := tYes) rfl sc_Sheet_init.nd (pi_keys (pv 1)) (blkOk_by (own := [("key", 5)]) (N := N_Sheet_init) (sc := fnScope s_Sheet_init) (by decide +kernel)) (fun _ _ _ _ _ => (pg_n 5 sc_Sheet_init.nd)) (fun _ _ _ _ _ => pts_nil) (fun _ _ _ _ _ => (pe_and (pe_c G_is_key hr (by decide) rfl (pa_cons (pv 5) pa_nil)) (pe_one (pe_c G_is_value hr (by decide) rfl (pa_cons (pe_dget (hu_of hr) (pv 1) (pv 5) (fun _ _ => rfl)) pa_nil))))))) pa_nil)))) (pss_one (ps_raiseO rfl (takes_of rfl rfl rfl rfl) T.x_BadSheet T.mg_BadSheet rfl)) pss_nil)
      (pss_cut (ps_if (PW.pt (pw_or (pt_not (pt_val (pe_callB (cr_all rfl) (by rfl) T.b_all (by decide +kernel) (pa_cons (pe_lc (own := [("key", 5)]) (g := gName 5) (tt := tYes) rfl sc_Sheet_init.nd (pi_alt (pi_list (pv 2)) (pi_tup (pv 2))) (blkOk_by (own := [("key", 5)]) (N := N_Sheet_init) (sc := fnScope s_Sheet_init) (by decide +kernel)) (fun _ _ _ _ _ => (pg_n 5 sc_Sheet_init.nd)) (fun _ _ _ _ _ => pts_nil) (fun _ _ _ _ _ => (pe_and (pe_c G_is_key hr (by decide) rfl (pa_cons (pv 5) pa_nil)) (pe_one (pe_cmp (pc_dnotin (hu_of hr) (pv 5) (pv 1))))))) pa_nil)))) (pw_or1 (pt_not (pt_val (pe_callB (cr_all rfl) (by rfl) T.b_all (by decide +kernel) (pa_cons (pe_lc (own := [("one", 4)]) (g := gName 4) (tt := tYes) rfl sc_Sheet_init.nd (pi_alt (pi_list (pv 3)) (pi_tup (pv 3))) (blkOk_by (own := [("one", 4)]) (N := N_Sheet_init) (sc := fnScope s_Sheet_init) (by decide +kernel)) (fun _ _ _ _ _ => (pg_n 4 sc_Sheet_init.nd)) (fun _ _ _ _ _ => pts_nil) (fun _ _ _ _ _ => (pe_c G_is_range hr (by decide) rfl (pa_cons (pv 4) pa_nil)))) pa_nil))))))) (pss_one (ps_raiseO rfl (takes_of rfl rfl rfl rfl) T.x_BadSheet T.mg_BadSheet rfl)) pss_nil)
      (pss_cons (ps_asg (pe_dc (own := [("key", 5)]) (g := gName 5) (tt := tYes) rfl sc_Sheet_init.nd (pi_list (pe_callB (cr_sortDI rfl) (by rfl) T.b_sorted (by decide +kernel) (pa_cons (pv 1) pa_nil))) (blkOk_by (own := [("key", 5)]) (N := N_Sheet_init) (sc := fnScope s_Sheet_init) (by decide +kernel)) (fun _ _ _ _ _ => (pg_n 5 sc_Sheet_init.nd)) (fun _ _ _ _ _ => pts_nil) (fun _ _ _ _ _ => (pv 5)) (fun _ _ _ _ _ => (pe_dget (hu_of hr) (pv 1) (pv 5) (fun _ _ => rfl)))) (pg_attr (pv 0)))
      (pss_cons (ps_s 6 sc_Sheet_init.nd (pe_c G_joined_ranges hr (by decide) rfl (pa_cons (pe_lst (pa_star (pe_lc (own := [("key", 5)]) (g := gName 5) (tt := tYes) rfl sc_Sheet_init.nd (pi_alt (pi_list (pv 2)) (pi_tup (pv 2))) (blkOk_by (own := [("key", 5)]) (N := N_Sheet_init) (sc := fnScope s_Sheet_init) (by decide +kernel)) (fun _ _ _ _ _ => (pg_n 5 sc_Sheet_init.nd)) (fun _ _ _ _ _ => pts_nil) (fun _ _ _ _ _ => (pe_tup (pa_cons (pv 5) (pa_cons (pv 5) pa_nil))))) (pa_star (pv 3) pa_nil))) pa_nil)))
      (pss_cons (ps_asg (pe_callTy cr_tupOf (by rfl) T.b_tuple (by decide +kernel) (pa_cons (pe_c G_without_keys hr (by decide) rfl (pa_cons (pv 6) (pa_cons (pe_fld (pv 0) rfl) pa_nil))) pa_nil)) (pg_attr (pv 0)))
      (pss_one (ps_if (pt_cmpR op_gt (pe_op op_add (pe_callB cr_lenDk (by rfl) T.b_len (by decide +kernel) (pa_cons (pe_fld (pv 0) rfl) pa_nil)) (pe_callB cr_lenS (by rfl) T.b_len (by decide +kernel) (pa_cons (pe_fld (pv 0) rfl) pa_nil))) (pe_gc rfl T.g_MOST_ITEMS) (nomark _)) (pss_one (ps_raiseO rfl (takes_of rfl rfl rfl rfl) T.x_BadSheet T.mg_BadSheet rfl)) pss_nil))))))))), ?_⟩
  have nd2 := nd
  walk_at "rd"
  refine ⟨fun σ H' => Same H H' ∧ σ = [some (.ref self), some (.ref D), some (.ref M), some (.ref R), none, none, none], ?_, ?_⟩
  · walk_at "rd"
    refine rd_isiD eD (r := true) (by decide +kernel) ?_
    walk_at "rd"
    refine rd_newT (by simp) fun u H1 _ s1 eu _ => ?_
    walk_at "rd"
    refine rd_tpR (SqT.of eu) ?_
    refine lcR_tup (xs := [.ref M, .ref R]) (fun W i H' => Same H1 H' ∧ H' W = some (.lst ((List.replicate i true).map V.bl))) (fun W i H' _ ⟨s, _⟩ => SqT.of (s _ _ eu)) (fun W H' _ s e _ => ⟨s, e⟩) ?_ ?_
    · rintro W i x H2 hW hx ⟨s2, eW⟩
      have hi : i < 2 := (List.getElem?_eq_some_iff.mp hx).1
      obtain ⟨a, ys, rfl, sa⟩ : ∃ a ys, x = .ref a ∧ SqQ K H a ys := by
        have := List.mem_of_getElem? hx
        simp only [List.mem_cons, List.not_mem_nil, or_false] at this
        rcases this with rfl | rfl
        · exact ⟨_, _, rfl, sM⟩
        · exact ⟨_, _, rfl, sR⟩
      walk_at "rd"
      refine ⟨rfl, ?_⟩
      walk_at "rd"
      refine rd_newT (by simp) fun w H3 _ s3 ew _ => ?_
      walk_at "rd"
      refine rd_isiTQ (sa.mono ((s1.trans s2).trans s3)) ew ?_
      refine rd_lcE (s3 _ _ eW) (by simp; omega) fun H4 eH4 eW4 => ?_
      refine ⟨by rw [eH4]; exact Same.mut (s2.trans s3) hW, ?_⟩
      rw [eW4, List.replicate_succ', List.map_append]
      rfl
    · rintro W H2 hW ⟨s2, eW⟩
      walk_at "rd"
      refine all_true eW ?_
      walk_at "rd"
      exact ⟨s1.trans s2, rfl⟩
  rintro σ H1 ⟨s1, rfl⟩
  walk_at "rd"
  refine ⟨fun σ H' => Same H H' ∧ σ = [some (.ref self), some (.ref D), some (.ref M), some (.ref R), none, none, none], ?_, ?_⟩
  · walk_at "rd"
    refine rd_lenDk (s1 _ _ eD) ?_
    walk_at "rd"
    refine ⟨M, _, rfl, sM.mono s1, ?_⟩
    walk_at "rd"
    refine ⟨R, _, rfl, sR.mono s1, ?_⟩
    walk_at "rd"
    refine rd_iteF (by rw [dV_len, List.length_map, iv.1]; omega) ?_
    walk_at "rd"
    exact ⟨s1, rfl⟩
  clear s1
  rintro σ H1 ⟨s1, rfl⟩
  walk_at "rd"
  refine ⟨fun σ H' => Same H H' ∧ σ = [some (.ref self), some (.ref D), some (.ref M), some (.ref R), none, none, none], ?_, ?_⟩
  · walk_at "rd"
    have eD1 := s1 _ _ eD
    refine rd_lock eD1 trivial fun od => ?_
    obtain ⟨HL, eHL⟩ : ∃ HL, HL = upd H1 D (.frz od (.dK (dV ls))) := ⟨_, rfl⟩
    rw [← eHL]
    have eLL : HL D = some (.frz od (.dK (dV ls))) := by rw [eHL]; exact upd_same
    walk_at "rd"
    refine rd_keysR eLL ?_
    refine lcR_keys (fun W j H' => Same HL H' ∧ H' W = some (.lst ((List.replicate j true).map V.bl))) (fun W j H' _ ⟨s, _⟩ => s _ _ eLL) (fun W H' _ s e _ => ⟨s, e⟩) ?_ ?_
    · rintro W j kx z H2 hW hj ⟨s2, eW⟩
      obtain ⟨y, hy, rfl⟩ := dV_get hj
      have hm := List.mem_of_getElem? hy
      have hj2 := (List.getElem?_eq_some_iff.mp hy).1
      obtain ⟨o1, o2⟩ := okl _ hm
      obtain ⟨zs, rfl, zl⟩ := valB_str o2
      have ekv : kV (Sum.inl y) = V.int y := rfl
      rw [ekv]
      walk_at "rd"
      refine ⟨rfl, ?_⟩
      walk_at "rd"
      refine ⟨_, rfl, rfl, ?_⟩
      refine ⟨true, by rw [o1], ?_⟩
      walk_at "rd"
      refine rd_dgetV (.inr ⟨od, s2 _ _ eLL⟩) (dV_val nd hm) ?_
      walk_at "rd"
      refine ⟨_, rfl, rfl, fun z e => by cases e; omega, fun H3 s3 => ?_⟩
      rw [o2]
      refine rd_lcE (s3 _ _ eW) (by simp; omega) fun H4 eH4 eW4 => ?_
      refine ⟨by rw [eH4]; exact Same.mut (s2.trans s3) hW, ?_⟩
      rw [eW4, List.replicate_succ', List.map_append]
      rfl
    · rintro W H2 hW ⟨s2, eW⟩
      have hWD : W ≠ D := fun z => by rw [z, eLL] at hW; cases hW
      refine ⟨s2 _ _ eLL, ?_⟩
      obtain ⟨H3, eH3⟩ : ∃ H3, H3 = upd H2 D (.dK (dV ls)) := ⟨_, rfl⟩
      rw [← eH3]
      have s13 : Same H1 H3 := by
        rw [eH3]
        refine Same.unlock eD1 (o := .frz od (.dK (dV ls))) ?_
        rw [← eHL]
        exact s2
      have eW3 : H3 W = some (.lst ((List.replicate (dV ls).length true).map V.bl)) := by rw [eH3, upd_ne hWD]; exact eW
      walk_at "rd"
      refine all_true eW3 ?_
      walk_at "rd"
      exact ⟨s1.trans s13, rfl⟩
  clear s1
  rintro σ H1 ⟨s1, rfl⟩
  walk_at "rd"
  refine ⟨fun σ H' => Same H H' ∧ σ = [some (.ref self), some (.ref D), some (.ref M), some (.ref R), none, none, none], ?_, ?_⟩
  · walk_at "rd"
    refine altQ rfl (sM.mono s1) fun J hJ => ?_
    refine lcR_Q hJ (fun W j H' => Same H1 H' ∧ H' W = some (.lst ((List.replicate j true).map V.bl))) (fun W j H' _ ⟨s, _⟩ => s) (fun W H' _ s e _ => ⟨s, e⟩) ?_ ?_
    · rintro W j x H2 hW hx ⟨s2, eW⟩
      have hj := (List.getElem?_eq_some_iff.mp hx).1
      rw [List.length_map] at hj
      obtain ⟨m, hm, rfl⟩ : ∃ m, ms[j]? = some m ∧ x = V.int m := by
        rw [List.getElem?_map] at hx
        cases q : ms[j]? with
        | none => rw [q] at hx; cases hx
        | some m => rw [q] at hx; exact ⟨m, rfl, (Option.some.inj hx).symm⟩
      obtain ⟨o1, o2⟩ := okm m (List.mem_of_getElem? hm)
      walk_at "rd"
      refine ⟨rfl, ?_⟩
      walk_at "rd"
      refine ⟨_, rfl, rfl, ?_⟩
      refine ⟨true, by rw [o1], ?_⟩
      walk_at "rd"
      refine ⟨D, _, rfl, DGet.k (k := Sum.inl m) ((s1.trans s2) _ _ eD), ?_⟩
      rw [dV_no o2]
      refine rd_lcE eW (by simp; omega) fun H4 eH4 eW4 => ?_
      refine ⟨by rw [eH4]; exact Same.mut s2 hW, ?_⟩
      rw [eW4, List.replicate_succ', List.map_append]
      rfl
    · rintro W H2 hW ⟨s2, eW⟩
      walk_at "rd"
      refine all_true eW ?_
      walk_at "rd"
      have s02 := s1.trans s2
      refine altQ rfl (sR.mono s02) fun J hJ => ?_
      refine lcR_Q hJ (fun W j H' => Same H2 H' ∧ H' W = some (.lst ((List.replicate j true).map V.bl))) (fun W j H' _ ⟨s, _⟩ => s) (fun W H' _ s e _ => ⟨s, e⟩) ?_ ?_
      · rintro W2 j x H3 hW2 hx ⟨s3, eW2⟩
        have hj := (List.getElem?_eq_some_iff.mp hx).1
        obtain ⟨r, t, hr, rfl, et⟩ := (iv.mono (s02.trans s3)).getV hx
        obtain ⟨o1, o2, o3⟩ := okr r (List.mem_of_getElem? hr)
        have lx := iv.1
        walk_at "rd"
        refine ⟨rfl, ?_⟩
        walk_at "rd"
        refine ⟨t, rfl, .inl ⟨_, et, by simp, fun w hw => ?_, fun H4 s4 => ?_⟩⟩
        · simp only [List.mem_cons, List.not_mem_nil, or_false] at hw
          rcases hw with rfl | rfl <;> rfl
        have : rgB [V.int r.1, V.int r.2] = true := decide_eq_true ⟨o1, o2, o3⟩
        rw [this]
        refine rd_lcE (s4 _ _ eW2) (by simp; omega) fun H5 eH5 eW5 => ?_
        refine ⟨by rw [eH5]; exact Same.mut (s3.trans s4) hW2, ?_⟩
        rw [eW5, List.replicate_succ', List.map_append]
        rfl
      · rintro W2 H3 hW2 ⟨s3, eW2⟩
        walk_at "rd"
        refine all_true eW2 ?_
        walk_at "rd"
        exact ⟨s02.trans s3, rfl⟩
  clear s1
  rintro σ H1 ⟨s1, rfl⟩
  walk_at "rd"
  have eD1 := s1 _ _ eD
  have sM1 := sM.mono s1
  have sR1 := sR.mono s1
  have iv1 := iv.mono s1
  refine ⟨D, dV ls, keysL ls, rfl, .inl eD1, dV_keys ls, by unfold keysL; rw [List.length_map]; omega, fun zs p pm sr hp => ?_⟩
  obtain ⟨H2, eH2⟩ : ∃ H2, H2 = upd H1 p (.lst (zs.map V.int)) := ⟨_, rfl⟩
  rw [← eH2]
  have s2 : Same H1 H2 := by rw [eH2]; exact Same.new (Same.refl H1) hp
  have ep2 : H2 p = some (.lst (zs.map V.int)) := by rw [eH2]; exact upd_same
  have ndz : zs.Nodup := pm.nodup_iff.mpr nd
  have srt : zs.Pairwise (· < ·) := (sr.and ndz).imp fun h => by have h1 := h.1; have h2 := h.2; omega
  have lz : zs.length = ls.length := by rw [pm.length_eq]; unfold keysL; rw [List.length_map]
  walk_at "rd"
  refine rd_lsR (SqL.of ep2) ?_
  refine dcR_lst (xs := zs.map V.int) (fun W j H' => Same H2 H' ∧ H' W = some (.dK (dV ((zs.take j).map fun k => (k, valO ls k))))) (fun W j H' _ ⟨s, _⟩ => SqL.of (s _ _ ep2)) (fun W H' _ s e _ => ⟨s, e⟩) ?_ ?_
  · rintro W j x H3 hW hx ⟨s3, eW⟩
    obtain ⟨y, hy, rfl⟩ : ∃ y, zs[j]? = some y ∧ x = V.int y := by
      rw [List.getElem?_map] at hx
      cases q : zs[j]? with
      | none => rw [q] at hx; cases hx
      | some y => rw [q] at hx; exact ⟨y, rfl, (Option.some.inj hx).symm⟩
    have hj := (List.getElem?_eq_some_iff.mp hy).1
    have hym := pm.mem_iff.mp (List.mem_of_getElem? hy)
    obtain ⟨q, hq, rfl⟩ := List.mem_map.mp hym
    have hv : valV (dV ls) (Sum.inl q.1) = some q.2 := dV_val nd hq
    have tz : zs.take (j + 1) = zs.take j ++ [q.1] := by rw [List.take_add_one, hy]; rfl
    have hn : q.1 ∉ keysL ((zs.take j).map fun k => (k, valO ls k)) := by
      rw [keysL_map]
      intro z
      have : (zs.take (j + 1)).Nodup := ndz.sublist (List.take_sublist _ _)
      rw [tz, List.nodup_append] at this
      exact this.2.2 _ z _ (List.mem_singleton.mpr rfl) rfl
    walk_at "rd"
    refine ⟨rfl, ?_⟩
    walk_at "rd"
    refine rd_dgetV (.inl ((s2.trans s3) _ _ eD1)) hv ?_
    refine rd_dcEV eW (by rw [List.length_map, List.length_take]; omega) hn fun H4 eH4 eW4 => ?_
    refine ⟨by rw [eH4]; exact Same.mut s3 hW, ?_⟩
    rw [eW4, tz, List.map_append]
    show some (HO.dK (dV (_ ++ [(q.1, q.2)]))) = some (HO.dK (dV (_ ++ [(q.1, valO ls q.1)])))
    unfold valO
    rw [hv]
    rfl
  · rintro W H3 hW ⟨s3, eW⟩
    rw [List.length_map, List.take_length] at eW
    obtain ⟨ls', els⟩ : ∃ ls', ls' = zs.map fun k => (k, valO ls k) := ⟨_, rfl⟩
    rw [← els] at eW
    have kls : keysL ls' = zs := by rw [els, keysL_map]
    have pls : ls'.Perm ls := by
      rw [els]
      have := pm.map fun k => (k, valO ls k)
      rw [map_valO nd] at this
      exact this
    have s13 := s2.trans s3
    have s03 : Same H H3 := s1.trans s13
    have eS3 := s03 _ _ eS
    have hW0 : H0 W = none := none_back ((s0.trans s1).trans s2) hW
    refine rd_gfld0 ?_
    walk_at "rd"
    refine rd_gfld eS3 T.cl_Sheet T.na_Sheet_leaves (by decide) fun H4 eH4 eS4 => ?_
    have sM4 : SqQ K H4 M (ms.map V.int) := by rw [eH4]; exact (sM1.mono s13).updI eS3
    have sR4 : SqQ K H4 R xs := by rw [eH4]; exact (sR1.mono s13).updI eS3
    have iv4 : IvP H4 xs rs := by rw [eH4]; exact (iv1.mono s13).updI eS3
    have eW4 : H4 W = some (.dK (dV ls')) := by rw [eH4, upd_ne (fun z => by rw [z, eS3] at eW; cases eW)]; exact eW
    have s04 : Same H0 H4 := by rw [eH4]; exact Same.mut (s0.trans s03) h0
    walk_at "rd"
    refine altQ rfl sM4 fun J hJ => ?_
    refine lcR_Q hJ (fun W2 j H' => Same H4 H' ∧ ∃ zs2, H' W2 = some (.lst zs2) ∧ IvP H' zs2 ((ms.take j).map fun m => (m, m))) (fun W2 j H' _ ⟨s, _⟩ => s) (fun W2 H' _ s e _ => ⟨s, [], e, IvP.nil⟩) ?_ ?_
    · rintro W2 j x H5 hW2 hx ⟨s5, zs2, eZ, ivz⟩
      obtain ⟨m, hm, rfl⟩ : ∃ m, ms[j]? = some m ∧ x = V.int m := by
        rw [List.getElem?_map] at hx
        cases q : ms[j]? with
        | none => rw [q] at hx; cases hx
        | some m => rw [q] at hx; exact ⟨m, rfl, (Option.some.inj hx).symm⟩
      have hj := (List.getElem?_eq_some_iff.mp hm).1
      have lz2 : zs2.length ≤ j := by rw [ivz.1, List.length_map, List.length_take]; omega
      walk_at "rd"
      refine ⟨rfl, ?_⟩
      walk_at "rd"
      refine rd_newT (by simp) fun t6 H6 _ s6 e6 _ => ?_
      refine rd_lcE (s6 _ _ eZ) (by omega) fun H7 eH7 eZ7 => ?_
      refine ⟨by rw [eH7]; exact Same.mut (s5.trans s6) hW2, zs2 ++ [.ref t6], eZ7, ?_⟩
      rw [List.take_add_one, hm, List.map_append, eH7]
      exact ((ivz.mono s6).snoc (r := (m, m)) e6).updL (s6 _ _ eZ)
    · rintro W2 H5 hW2 ⟨s5, zs2, eZ, ivz⟩
      rw [List.length_map, List.take_length] at ivz
      refine ⟨W2, zs2, rfl, .inr (SqL.of eZ), ?_⟩
      walk_at "rd"
      refine ⟨R, xs, rfl, (sR4.mono s5).symm, ?_⟩
      walk_at "rd"
      have ivA := ivz.app (iv4.mono s5)
      have lA : (zs2 ++ xs).length ≤ 60 := by rw [ivA.1, List.length_append, List.length_map]; omega
      refine rd_newL (by rw [List.append_nil]; omega) fun A H6 _ s6 eA _ => ?_
      rw [List.append_nil] at eA
      walk_at "rd"
      refine ⟨A, _, _, rfl, eA, ivA.mono s6, fun r hr => ?_, by rw [List.length_append, List.length_map]; omega, fun H7 Jn ys out s7 hJ7 eJ ivj canj memj lenj => ?_⟩
      · rcases List.mem_append.mp hr with z | z
        · obtain ⟨m, _, rfl⟩ := List.mem_map.mp z
          exact Int.le_refl _
        · exact (okr r z).2.1
      rw [List.length_append, List.length_map] at lenj
      have s47 := (s5.trans s6).trans s7
      have eS7 := s47 _ _ eS4
      have eW7 := s47 _ _ eW4
      have ll' : ls'.length = ls.length := pls.length_eq
      walk_at "rd"
      refine rd_fld eS7 T.cl_Sheet T.na_Sheet_leaves rfl ?_
      walk_at "rd"
      refine ⟨Jn, W, ys, out, ls', rfl, eJ, ivj, canj, eW7, by rw [kls]; exact ndz, by omega, by omega, fun H8 G0 ys8 gs s8 hG0 eG8 ivg cang memg leng => ?_⟩
      walk_at "rd"
      refine rd_tupOfL eG8 fun G H9 _ s9 eG _ => ?_
      have s79 := s8.trans s9
      have eS9 := s79 _ _ eS7
      have eW9 := s79 _ _ eW7
      refine rd_gfld0 ?_
      walk_at "rd"
      refine rd_gfld eS9 T.cl_Sheet T.na_Sheet_gone (by show 1 < 1000; decide) fun H10 eH10 eS10 => ?_
      have eW10 : H10 W = some (.dK (dV ls')) := by rw [eH10, upd_ne (fun z => by rw [z, eS9] at eW9; cases eW9)]; exact eW9
      have eG10 : H10 G = some (.tup ys8) := by rw [eH10, upd_ne (fun z => by rw [z, eS9] at eG; cases eG)]; exact eG
      have ivg10 : IvP H10 ys8 gs := by rw [eH10]; exact (ivg.mono s9).updI eS9
      have eSF : putF "gone" (.ref G) (putF "leaves" (.ref W) []) = ShF W G := put_sh W G
      rw [eSF] at eS10
      have lg := ivg10.1
      walk_at "rd"
      refine rd_fld eS10 T.cl_Sheet T.na_Sheet_leaves rfl ?_
      walk_at "rd"
      refine rd_lenDk eW10 ?_
      walk_at "rd"
      refine rd_fld eS10 T.cl_Sheet T.na_Sheet_gone (sh_gone W G) ?_
      walk_at "rd"
      refine rd_lenT eG10 ?_
      walk_at "rd"
      have lm := k.1 gs cang fun q => by rw [memg q, memj q, inR_app, inR_pts, kls, pm.mem_iff]
      refine rd_iteT (by rw [dV_len]; omega) ?_
      walk_at "rd"
      exact rd_raise (k.2 H10 (by rw [eH10]; exact Same.mut (s04.trans (s47.trans s79)) h0))
end
end Sl

set_option Elab.async false
set_option linter.all false
set_option maxRecDepth 100000
set_option maxHeartbeats 8000000
set_option exponentiation.threshold 9000
namespace Sl
open PySem L2 C8 StX Silt
local macro_rules | `(tactic| walk_at "side") => `(tactic| first
  | exact cdivw (by omega) (by omega)
  | exact cmulw (by omega) (by omega) (by omega) (by omega)
  | exact Or.inr ⟨by omega, by omega⟩
  | exact Or.inl ⟨by omega, by omega⟩
  | omega
  | exact ⟨by omega, by omega, by decide⟩
  | decide)
local macro_rules | `(tactic| walk_at "rd1") => `(tactic| first
  | with_reducible refine rd_seq ?_
  | with_reducible refine rd_asg ?_
  | with_reducible refine rd_drop ?_
  | with_reducible refine rd_ret ?_
  | with_reducible refine rd_retN ?_
  | with_reducible refine rd_ifS ?_
  | ((with_reducible refine rd_var0 ?_); refine ⟨_, rfl, ?_⟩)
  | with_reducible refine rd_c ?_
  | with_reducible refine rd_op ?_
  | with_reducible refine rd_un ?_
  | with_reducible refine rd_I0 ?_
  | with_reducible refine rd_U ?_
  | ((with_reducible refine rd_I ?c ?_); (case c => walk_at "side"))
  | with_reducible refine rd_ipI ?_
  | with_reducible refine rd_eqI ?_
  | with_reducible refine rd_neI ?_
  | with_reducible refine rd_test ?_
  | with_reducible refine rd_tB ?_
  | with_reducible refine rd_bl ?_
  | with_reducible refine rd_not ?_
  | with_reducible refine rd_and ?_
  | with_reducible refine rd_or ?_
  | with_reducible refine rd_andV ?_
  | with_reducible refine rd_orV ?_
  | with_reducible refine rd_notV ?_
  | with_reducible refine rd_ifE ?_
  | with_reducible refine rd_chain ?_
  | with_reducible refine rd_chain3 ?_
  | with_reducible refine rd_nil ?_
  | with_reducible refine rd_cons ?_
  | with_reducible refine rd_call ?_
  | with_reducible refine rd_CB ?_
  | with_reducible refine rd_par ?_
  | with_reducible refine rd_par2 ?_
  | with_reducible refine rd_par3 ?_
  | with_reducible refine rd_par4 ?_
  | ((with_reducible refine rd_aug0 ?_); refine ⟨_, rfl, ?_⟩)
  | with_reducible refine rd_gname ?_
  | with_reducible refine rd_gcons ?_
  | with_reducible refine rd_gnil ?_
  | with_reducible refine rd_max ?_
  | with_reducible refine rd_min ?_
  | with_reducible refine rd_int1 ?_
  | with_reducible refine rd_abs ?_
  | with_reducible refine rd_lst ?_
  | with_reducible refine rd_tup ?_
  | with_reducible refine rd_bm ?_
  | with_reducible refine rd_fld0 ?_
  | with_reducible refine rd_sl0 ?_
  | with_reducible refine rd_noP ?_
  | with_reducible refine rd_part ?_
  | with_reducible refine rd_part2 ?_
  | with_reducible refine rd_meth0 ?_
  | with_reducible refine rd_star ?_
  | with_reducible refine rd_for ?_
  | with_reducible refine rd_rng1 ?_
  | with_reducible refine rd_rng2 ?_
  | with_reducible refine rd_rng3 ?_
  | with_reducible refine rd_iList ?_
  | with_reducible refine rd_iTup ?_
  | with_reducible refine rd_iEnum ?_
  | with_reducible refine rd_lc ?_
  | with_reducible refine rd_yes ?_
  | with_reducible refine rd_augS ?_
  | with_reducible refine rd_drawNew ?_
  | with_reducible refine rd_make0 ?_
  | with_reducible refine rd_next ?_
  | with_reducible refine rd_break ?_
  | with_reducible refine rd_cont ?_
  | with_reducible refine rd_iteTT ?_
  | with_reducible refine rd_iteFF ?_
  | with_reducible refine rd_iteNTT ?_
  | with_reducible refine rd_iteNFF ?_
  | with_reducible refine rd_con0 ?_
  | with_reducible refine rd_truO0 ?_
  | with_reducible refine rd_gfld0 ?_
  | with_reducible refine rd_dc ?_
  | with_reducible refine rd_iKeys ?_
  | with_reducible refine rd_dget0 ?_
  | with_reducible refine rd_dput0 ?_
  | with_reducible refine rd_dnot0 ?_
  | with_reducible refine rd_iEnumT ?_
  | with_reducible refine rd_raP0 ?_
  | with_reducible refine rd_xf0 ?_
  | with_reducible refine rd_cKw ?_
  | with_reducible refine rd_iStr ?_
  | with_reducible refine rd_gSub ?_
  | with_reducible refine rd_asgG ?_)
local macro_rules | `(tactic| walk_at "rd") => `(tactic| repeat walk_at "rd1")
local macro_rules | `(tactic| walk_at "len") => `(tactic| first
  | (intro vs H Q E h; obtain ⟨h2, _⟩ := h; rw [h2]; rfl)
  | (intro vs H Q E h; obtain ⟨_, h2, _⟩ := h; rw [h2]; rfl)
  | (intro vs H Q E h; obtain ⟨_, _, h2, _⟩ := h; rw [h2]; rfl)
  | (intro vs H Q E h; obtain ⟨_, _, _, h2, _⟩ := h; rw [h2]; rfl)
  | (intro vs H Q E h; obtain ⟨_, _, _, _, h2, _⟩ := h; rw [h2]; rfl)
  | (intro vs H Q E h; obtain ⟨_, _, _, _, _, h2, _⟩ := h; rw [h2]; rfl)
  | (intro vs H Q E h; obtain ⟨_, _, _, _, _, _, h2, _⟩ := h; rw [h2]; rfl)
  | (intro vs H Q E h; obtain ⟨_, _, _, _, _, _, _, h2, _⟩ := h; rw [h2]; rfl)
  | (intro vs H Q E h; obtain ⟨_, _, _, _, _, _, _, _, h2, _⟩ := h; rw [h2]; rfl)
  | (intro vs H Q E h; obtain ⟨_, _, _, _, _, _, _, _, _, h2, _⟩ := h; rw [h2]; rfl)
  | (intro vs H Q E h; obtain ⟨_, _, _, _, _, _, _, _, _, _, h2, _⟩ := h; rw [h2]; rfl)
  | (intro vs H Q E h; obtain ⟨_, _, _, _, _, _, _, _, _, _, _, h2, _⟩ := h; rw [h2]; rfl)
  | (intro vs H Q E h; obtain ⟨_, _, _, _, _, _, _, _, _, _, _, _, h2, _⟩ := h; rw [h2]; rfl))
/-- the leaves are {True: ..} -/
def spSheetB (P : Program) (w : World) (C : Addr) : Sp := fun vs H Q E => ∃ (self D M R : Addr) (o : Obj), vs = [.ref self, .ref D, .ref M, .ref R] ∧ H D = some (BkO D o) ∧ BkOk P w D o true ∧ H M = some (.lst []) ∧ H R = some (.lst []) ∧ ∀ H', Same H H' → E (.ref C) none H'
section
variable {σ : L2.St} {H : Hp} {Q : VK} {g : TG} {tt : TT} {te : TE} {vs : List Nat}
theorem lcR_keysB {d : Addr} {o : Obj} {b : Bool} (Pv : Addr → Nat → Hp → Prop) (hl : ∀ D i H', H D = none → Pv D i H' → H' d = some (BkO d o)) (h0 : ∀ D H', H D = none → Same H H' → H' D = some (.lst []) → H' = upd H D (.lst []) → Pv D 0 H')
    (hs : ∀ D H', H D = none → Pv D 0 H' → g (.bl b) (wipe σ vs) H' fun σ2 H2 => wipe σ2 vs = wipe σ vs ∧ tt σ2 H2 fun b H3 => if b = true then te σ2 H3 fun y H4 => LcE D (Pv D 1) y H4 else Pv D 1 H3)
    (hd : ∀ D H', H D = none → Pv D 1 H' → Q (.ref D) H') : LcR (Itb d o b) g tt te vs σ H Q :=
  lcR_gen _ 1 Pv h0 (fun D i H' hD hi p => ⟨hl D i H' hD p, hi⟩) (fun D H' hD p => ⟨hl D _ H' hD p, Nat.le_refl _⟩)
    (fun D i H' x H2 hD hi p ⟨e1, e2⟩ => by
      obtain rfl : i = 0 := by omega
      subst e1 e2
      exact hs D _ hD p) hd
end
section
variable {P : Program} {w : World} {K : PySem.W.Frag} {mg : Str → Option Value} {base : Heap} {C_Sheet C_BadSheet C_BadKey D_Sheet_0 D_Sheet_1 : Addr}
theorem xak2_Sheet_init_bk (T : TX K mg C_Sheet C_BadSheet C_BadKey D_Sheet_0 D_Sheet_1) : ∃ f fd, C8.Fun K "__init__" "Sheet.__init__" s_Sheet_init f fd ∧ ((∃ ds, Vals [] ds ∧ Binds K fd P_Sheet_init ds) ∧ ∃ ds, Vals [.ref D_Sheet_0, .ref D_Sheet_1] ds ∧ Binds K fd P_Sheet_init ds) ∧ Mk K C_Sheet f ∧ FnOk P w K mg base (L2.CX P w) 4 f fd P_Sheet_init (spSheetB P w C_BadSheet) := by
  obtain ⟨f0, fd, D, bb, mk⟩ := T.m_Sheet_init
  have G_is_value := cal_is_value (P := P) (w := w) (base := base) T
  have G_is_key := cal_is_key (P := P) (w := w) (base := base) T
  refine ⟨f0, fd, D, bb, mk, fnX D sc_Sheet_init (by walk_at "len") (fun cdv A outer s H vs Q E hr h => ?_)⟩
  obtain ⟨self, D, M, R, o, rfl, eD, ok, eM, eR, k⟩ := h
  refine ⟨_, (pss_cut (ps_if (PW.pt (pw_or (pt_not (pt_val (pe_callB cr_isiB (by rfl) T.b_isinstance (by decide +kernel) (pa_cons (pv 1) (pa_cons (pe_bltn (v := .ty "dict") (u := .type "dict") rfl T.b_dict (by decide +kernel) rfl) pa_nil))))) (pw_or1 (pt_not (pt_val (pe_callB (cr_all rfl) (by rfl) T.b_all (by decide +kernel) (pa_cons (pe_lc (own := [("one", 4)]) (g := gName 4) (tt := tYes) rfl sc_Sheet_init.nd (pi_tup (pe_tup (pa_cons (pv 2) (pa_cons (pv 3) pa_nil)))) (blkOk_by (own := [("one", 4)]) (N := N_Sheet_init) (sc := fnScope s_Sheet_init) (by decide +kernel)) (fun _ _ _ _ _ => (pg_n 4 sc_Sheet_init.nd)) (fun _ _ _ _ _ => pts_nil) (fun _ _ _ _ _ => (pe_callB (callK rIsiT K call_isiT) (by rfl) T.b_isinstance (by decide +kernel) (pa_cons (pv 4) (pa_cons (pe_tup (pa_cons (pe_bltn (v := .ty "list") (u := .type "list") rfl T.b_list (by decide +kernel) rfl) (pa_cons (pe_bltn (v := .ty "tuple") (u := .type "tuple") rfl T.b_tuple (by decide +kernel) rfl) pa_nil))) pa_nil))))) pa_nil))))))) (pss_one (ps_raiseO rfl (takes_of rfl rfl rfl rfl) T.x_BadSheet T.mg_BadSheet rfl)) pss_nil)
      (pss_cut (ps_if (pt_cmpR op_gt (pe_op op_add (pe_op op_add (pe_callB cr_lenB (by rfl) T.b_len (by decide +kernel) (pa_cons (pv 1) pa_nil)) (pe_callB cr_lenS (by rfl) T.b_len (by decide +kernel) (pa_cons (pv 2) pa_nil))) (pe_callB cr_lenS (by rfl) T.b_len (by decide +kernel) (pa_cons (pv 3) pa_nil))) (pe_gc rfl T.g_MOST_ITEMS) (nomark _)) (pss_one (ps_raiseO rfl (takes_of rfl rfl rfl rfl) T.x_BadSheet T.mg_BadSheet rfl)) pss_nil)
      (pss_cons (ps_if (pt_not (pt_val (pe_callB (cr_all rfl) (by rfl) T.b_all (by decide +kernel) (pa_cons (pe_lc (own := [("key", 5)]) (g := gName 5) (tt := tYes) rfl sc_Sheet_init.nd (pi_keysB (pv 1)) (blkOk_by (own := [("key", 5)]) (N := N_Sheet_init) (sc := fnScope s_Sheet_init) (by decide +kernel)) (fun _ _ _ _ _ => (pg_n 5 sc_Sheet_init.nd)) (fun _ _ _ _ _ => pts_nil) (fun _ _ _ _ _ => (pe_and (pe_c G_is_key hr (by decide) rfl (pa_cons (pv 5) pa_nil)) (pe_one (pe_c G_is_value hr (by decide) rfl (pa_cons (pe_dget (hu_of hr) (pv 1) (pv 5) (fun _ _ => rfl)) pa_nil)))))) pa_nil)))) (pss_one (ps_raiseO rfl (takes_of rfl rfl rfl rfl) T.x_BadSheet T.mg_BadSheet rfl)) pss_nil)
      (pss_cons ps_never
      (pss_cons ps_never
      (pss_cons ps_never
      (pss_cons ps_never
      (pss_one ps_never)))))))), ?_⟩
  walk_at "rd"
  refine ⟨fun σ H' => Same H H' ∧ σ = [some (.ref self), some (.ref D), some (.ref M), some (.ref R), none, none, none], ?_, ?_⟩
  · walk_at "rd"
    refine rd_isiB eD ok ?_
    walk_at "rd"
    refine rd_newT (by simp) fun u H1 _ s1 eu _ => ?_
    walk_at "rd"
    refine rd_tpR (SqT.of eu) ?_
    refine lcR_tup (xs := [.ref M, .ref R]) (fun W i H' => Same H1 H' ∧ H' W = some (.lst ((List.replicate i true).map V.bl))) (fun W i H' _ ⟨s, _⟩ => SqT.of (s _ _ eu)) (fun W H' _ s e _ => ⟨s, e⟩) ?_ ?_
    · rintro W i x H2 hW hx ⟨s2, eW⟩
      have hi : i < 2 := (List.getElem?_eq_some_iff.mp hx).1
      obtain ⟨a, rfl, sa⟩ : ∃ a, x = .ref a ∧ H a = some (.lst []) := by
        have := List.mem_of_getElem? hx
        simp only [List.mem_cons, List.not_mem_nil, or_false] at this
        rcases this with rfl | rfl
        · exact ⟨_, rfl, eM⟩
        · exact ⟨_, rfl, eR⟩
      walk_at "rd"
      refine ⟨rfl, ?_⟩
      walk_at "rd"
      refine rd_newT (by simp) fun w H3 _ s3 ew _ => ?_
      walk_at "rd"
      refine rd_isiTL (((s1.trans s2).trans s3) _ _ sa) ew ?_
      refine rd_lcE (s3 _ _ eW) (by simp; omega) fun H4 eH4 eW4 => ?_
      refine ⟨by rw [eH4]; exact Same.mut (s2.trans s3) hW, ?_⟩
      rw [eW4, List.replicate_succ', List.map_append]
      rfl
    · rintro W H2 hW ⟨s2, eW⟩
      walk_at "rd"
      refine all_true eW ?_
      walk_at "rd"
      exact ⟨s1.trans s2, rfl⟩
  rintro σ H1 ⟨s1, rfl⟩
  walk_at "rd"
  refine ⟨fun σ H' => Same H H' ∧ σ = [some (.ref self), some (.ref D), some (.ref M), some (.ref R), none, none, none], ?_, ?_⟩
  · walk_at "rd"
    refine rd_lenB (s1 _ _ eD) ok ?_
    walk_at "rd"
    refine ⟨M, [], rfl, .inl (SqL.of (s1 _ _ eM)), ?_⟩
    walk_at "rd"
    refine ⟨R, [], rfl, .inl (SqL.of (s1 _ _ eR)), ?_⟩
    walk_at "rd"
    refine rd_iteF (by simp) ?_
    walk_at "rd"
    exact ⟨s1, rfl⟩
  clear s1
  rintro σ H1 ⟨s1, rfl⟩
  walk_at "rd"
  refine rd_iKeysB ?_
  walk_at "rd"
  refine rd_keysB (s1 _ _ eD) ok ?_
  refine lcR_keysB (fun W j H' => Same H1 H' ∧ H' W = some (.lst ((List.replicate j false).map V.bl))) (fun W j H' _ ⟨s, _⟩ => s _ _ (s1 _ _ eD)) (fun W H' _ s e _ => ⟨s, e⟩) ?_ ?_
  · rintro W H2 hW ⟨s2, eW⟩
    walk_at "rd"
    refine ⟨rfl, ?_⟩
    walk_at "rd"
    refine ⟨_, rfl, rfl, ?_⟩
    refine ⟨false, rfl, ?_⟩
    rw [if_neg Bool.false_ne_true]
    refine rd_lcE eW (by simp) fun H4 eH4 eW4 => ?_
    exact ⟨by rw [eH4]; exact Same.mut s2 hW, eW4⟩
  · rintro W H2 hW ⟨s2, eW⟩
    walk_at "rd"
    refine all_bs (bs := [false]) eW ?_
    rw [show ([false] : List Bool).all id = false from rfl]
    walk_at "rd"
    exact rd_raise (k H2 (s1.trans s2))
end
end Sl

set_option Elab.async false
set_option linter.all false
set_option maxRecDepth 100000
set_option maxHeartbeats 8000000
set_option exponentiation.threshold 9000
namespace Sl
open PySem L2 C8 StX Silt
theorem fn_or {P : Program} {w : World} {K : PySem.W.Frag} {mg : Str → Option Value} {base : Heap} {CX : CXT} {k : Nat} {f : Addr} {fd : FuncData} {ps : List Str} {sp1 sp2 : Sp} (F1 : FnOk P w K mg base CX k f fd ps sp1) (F2 : FnOk P w K mg base CX k f fd ps sp2) :
    FnOk P w K mg base CX k f fd ps fun vs H Q E => sp1 vs H Q E ∨ sp2 vs H Q E :=
  ⟨fun vs H Q E h => h.elim (F1.len vs H Q E) (F2.len vs H Q E), fun A outer s H args us vs Q E hr he hb hv h => h.elim (F1.run A outer s H args us vs Q E hr he hb hv) (F2.run A outer s H args us vs Q E hr he hb hv)⟩
theorem fun_fd {K : PySem.W.Frag} {x q : Str} {st : Stmt} {f : Addr} {fd fd' : FuncData} (F : C8.Fun K x q st f fd) (F' : C8.Fun K x q st f fd') : fd = fd' := by
  obtain ⟨oc, od, dV, kV, doc, pm, an, cdv, ct, osl, e, lk, hcd⟩ := F.ex
  obtain ⟨oc', od', dV', kV', doc', pm', an', cdv', ct', osl', e', lk', hcd'⟩ := F'.ex
  have z := lk.symm.trans lk'
  cases z
  rfl
theorem mk_f {K : PySem.W.Frag} {C f f' : Addr} (M : Mk K C f) (M' : Mk K C f') : f = f' := by
  have z := M.init.symm.trans M'.init
  cases z
  rfl
/-- what Sheet(..) refuses -/
def spSheetR (P : Program) (w : World) (K : PySem.W.Frag) (C CX : Addr) : Sp := fun vs H Q E => spSheetX K CX vs H Q E ∨ (spSheetM K C CX vs H Q E ∨ spSheetB P w CX vs H Q E)
section
variable {P : Program} {w : World} {K : PySem.W.Frag} {mg : Str → Option Value} {base : Heap} {C_Sheet C_BadSheet C_BadKey D_Sheet_0 D_Sheet_1 : Addr}
theorem mak_Sheet_init (T : TX K mg C_Sheet C_BadSheet C_BadKey D_Sheet_0 D_Sheet_1) : Mak P w K mg base 4 "Sheet" C_Sheet (spSheet K C_Sheet) [] := by
  obtain ⟨f, fd, D, ⟨⟨ds, vd, b⟩, _⟩, mk, F⟩ := mak2_Sheet_init (P := P) (w := w) (base := base) T
  exact ⟨f, fd, _, ds, mk, F, T.mg_Sheet, b, vd⟩
theorem mak_Sheet_init_1 (T : TX K mg C_Sheet C_BadSheet C_BadKey D_Sheet_0 D_Sheet_1) : Mak P w K mg base 4 "Sheet" C_Sheet (spSheet K C_Sheet) [.ref D_Sheet_0, .ref D_Sheet_1] := by
  obtain ⟨f, fd, D, ⟨_, ds, vd, b⟩, mk, F⟩ := mak2_Sheet_init (P := P) (w := w) (base := base) T
  exact ⟨f, fd, _, ds, mk, F, T.mg_Sheet, b, vd⟩
theorem xak_Sheet_init (T : TX K mg C_Sheet C_BadSheet C_BadKey D_Sheet_0 D_Sheet_1) : MakX P w K mg base 4 "Sheet" C_Sheet (spSheetR P w K C_Sheet C_BadSheet) [] := by
  obtain ⟨f1, fd1, D1, ⟨⟨ds, vd, b⟩, _⟩, mk1, F1⟩ := xak2_Sheet_init (P := P) (w := w) (base := base) T
  obtain ⟨f2, fd2, D2, _, mk2, F2⟩ := xak2_Sheet_init_many (P := P) (w := w) (base := base) T
  obtain ⟨f3, fd3, D3, _, mk3, F3⟩ := xak2_Sheet_init_bk (P := P) (w := w) (base := base) T
  obtain rfl := mk_f mk1 mk2
  obtain rfl := mk_f mk1 mk3
  obtain rfl := fun_fd D1 D2
  obtain rfl := fun_fd D1 D3
  exact ⟨f1, fd1, _, ds, mk1, fn_or F1 (fn_or F2 F3), T.mg_Sheet, b, vd⟩
end
end Sl

set_option Elab.async false
set_option linter.all false
set_option maxRecDepth 100000
set_option maxHeartbeats 8000000
set_option exponentiation.threshold 9000
namespace Sl
open PySem L2 C8 StX Silt
section
variable {P : Program} {w : World} {K : PySem.W.Frag} {C CX : Addr} {H H' : Hp}
/-- what Sheet(..) refuses, as a triple at t -/
def BadAt (P : Program) (w : World) (K : PySem.W.Frag) (C CX : Addr) (H : Hp) (t : Addr) : Prop := ∃ L M R : V, H t = some (.tup [L, M, R]) ∧
  ∀ (H1 H2 : Hp) (x dx : Addr) (Q : VK) (E : XK), Same H H1 → Same H1 H2 → H1 x = none → H2 x = some (.ins C dx []) → (∀ H', Same H1 H' → E (.ref CX) none H') → spSheetR P w K C CX [.ref x, L, M, R] H2 Q E
theorem BadAt.mono {t : Addr} (s : Same H H') (h : BadAt P w K C CX H t) : BadAt P w K C CX H' t := by
  obtain ⟨L, M, R, e, k⟩ := h
  exact ⟨L, M, R, s _ _ e, fun H1 H2 x dx Q E s1 => k H1 H2 x dx Q E (s.trans s1)⟩
theorem ItsR.mono {xs : List V} {bs : List Bool} (s : Same H H') (h : ItsR H xs bs) : ItsR H' xs bs := ⟨h.1, fun i x hx => by
  obtain ⟨t, b, h1, h2, h3⟩ := h.2 i x hx
  refine ⟨t, b, h1, h2, ?_⟩
  rcases h3 with ⟨ws, e, r⟩ | ⟨ys, e, r⟩
  · exact .inl ⟨ws, s _ _ e, r⟩
  · exact .inr ⟨ys, s _ _ e, r⟩⟩
theorem ItsR.nil : ItsR H [] [] := ⟨rfl, fun i x hx => by simp at hx⟩
theorem ItsR.one {t : Addr} {b : Bool} (h : (∃ ws, H t = some (.tup ws) ∧ ws.length ≤ 9 ∧ (∀ w ∈ ws, Sc w) ∧ b = rgB ws) ∨ ∃ ys, H t = some (.lst ys) ∧ b = false) : ItsR H [.ref t] [b] := ⟨rfl, fun i x hx => by
  match i, hx with
  | 0, hx => exact ⟨t, b, rfl, (Option.some.inj hx).symm, h⟩⟩
theorem bad_items {t D m r : Addr} {ls : List (Int × V)} {mv xs : List V} {bs : List Bool} (et : H t = some (.tup [.ref D, .ref m, .ref r])) (eD : H D = some (.dK (dV ls))) (eM : H m = some (.lst mv)) (eR : H r = some (.lst xs)) (nd : (keysL ls).Nodup)
    (okl : ∀ q ∈ ls, Sc q.2 ∧ ∀ z, q.2 = .str z → z.length ≤ 1000) (okm : ∀ v ∈ mv, Sc v) (its : ItsR H xs bs) (l1 : ls.length ≤ 1000) (l2 : mv.length ≤ 1000) (l3 : xs.length ≤ 1000)
    (f : 60 < ls.length + mv.length + xs.length ∨ (ls.all fun q => keyB (.int q.1) && valB q.2) = false ∨ (mv.all fun v => keyB v && !inKeys ls v) = false ∨ bs.all id = false) : BadAt P w K C CX H t :=
  ⟨_, _, _, et, fun H1 H2 x dx Q E s1 s2 hx ex k => by
    have s := s1.trans s2
    exact .inl ⟨x, _, _, _, rfl, fun H' s' => k H' (s2.trans s'), .inr ⟨D, ls, rfl, s _ _ eD, .inr ⟨m, r, mv, xs, bs, rfl, rfl, .inl (SqL.of (s _ _ eM)), .inl (SqL.of (s _ _ eR)), nd, okl, okm, its.mono s, l1, l2, l3, f⟩⟩⟩⟩
theorem bad_list {t a m r : Addr} {ys : List V} (et : H t = some (.tup [.ref a, .ref m, .ref r])) (ea : H a = some (.lst ys)) : BadAt P w K C CX H t :=
  ⟨_, _, _, et, fun H1 H2 x dx Q E s1 s2 hx ex k => .inl ⟨x, _, _, _, rfl, fun H' s' => k H' (s2.trans s'), .inl ⟨a, ys, rfl, (s1.trans s2) _ _ ea⟩⟩⟩
theorem bad_seq {t D : Addr} {M R : V} {ls : List (Int × V)} {bM bR : Bool} (et : H t = some (.tup [.ref D, M, R])) (eD : H D = some (.dK (dV ls))) (sM : SqO K H M bM) (sR : SqO K H R bR) (f : (bM && bR) = false) : BadAt P w K C CX H t :=
  ⟨_, _, _, et, fun H1 H2 x dx Q E s1 s2 hx ex k => .inl ⟨x, _, _, _, rfl, fun H' s' => k H' (s2.trans s'), .inr ⟨D, ls, rfl, (s1.trans s2) _ _ eD, .inl ⟨bM, bR, sM.mono (s1.trans s2), sR.mono (s1.trans s2), f⟩⟩⟩⟩
theorem bad_bool {t D m r : Addr} {o : Obj} (et : H t = some (.tup [.ref D, .ref m, .ref r])) (eD : H D = some (BkO D o)) (ok : BkOk P w D o true) (eM : H m = some (.lst [])) (eR : H r = some (.lst [])) : BadAt P w K C CX H t :=
  ⟨_, _, _, et, fun H1 H2 x dx Q E s1 s2 hx ex k => .inr (.inr ⟨x, _, _, _, o, rfl, (s1.trans s2) _ _ eD, ok, (s1.trans s2) _ _ eM, (s1.trans s2) _ _ eR, fun H' s' => k H' (s2.trans s')⟩)⟩
theorem bad_many {t D m r : Addr} {ls : List (Int × V)} {ms : List Int} {xs : List V} {rs : List Iv} (et : H t = some (.tup [.ref D, .ref m, .ref r])) (eD : H D = some (.dK (dV ls))) (nd : (keysL ls).Nodup) (okl : ∀ q ∈ ls, keyB (.int q.1) = true ∧ valB q.2 = true)
    (eM : H m = some (.lst (ms.map V.int))) (okm : ∀ m ∈ ms, keyB (.int m) = true ∧ m ∉ keysL ls) (eR : H r = some (.lst xs)) (iv : IvP H xs rs) (okr : ∀ r ∈ rs, 0 ≤ r.1 ∧ r.1 ≤ r.2 ∧ r.2 ≤ 999999) (ll : ls.length + ms.length + rs.length ≤ 60)
    (f : ∀ gs, Canon gs → (∀ k, inR gs k ↔ (k ∈ ms ∨ inR rs k) ∧ k ∉ keysL ls) → 60 < ls.length + gs.length) : BadAt P w K C CX H t :=
  ⟨_, _, _, et, fun H1 H2 x dx Q E s1 s2 hx ex k => by
    have s := s1.trans s2
    exact .inr (.inl ⟨x, dx, _, _, _, H1, ls, ms, xs, rs, rfl, s2, hx, ex, s _ _ eD, nd, okl, .inl (SqL.of (s _ _ eM)), okm, .inl (SqL.of (s _ _ eR)), iv.mono s, okr, ll, f, k⟩)⟩
def BadAll (P : Program) (w : World) (K : PySem.W.Frag) (C CX : Addr) (H : Hp) (ts : List Addr) : Prop := ∀ t ∈ ts, BadAt P w K C CX H t
theorem BadAll.nil : BadAll P w K C CX H [] := fun t h => by cases h
theorem BadAll.mono {ts : List Addr} (s : Same H H') (h : BadAll P w K C CX H ts) : BadAll P w K C CX H' ts := fun t ht => (h t ht).mono s
theorem BadAll.snoc {ts : List Addr} {t : Addr} (s : Same H H') (h : BadAll P w K C CX H ts) (b : BadAt P w K C CX H' t) : BadAll P w K C CX H' (ts ++ [t]) := fun x hx => by
  rcases List.mem_append.mp hx with z | z
  · exact (h x z).mono s
  · rw [List.mem_singleton.mp z]; exact b
end
theorem IvP.take {H : Hp} {xs : List V} {rs : List Iv} (n : Nat) (h : IvP H xs rs) : IvP H (xs.take n) (rs.take n) := ⟨by rw [List.length_take, List.length_take, h.1], fun i r hr => by
  rw [List.getElem?_take] at hr ⊢
  split at hr
  · rename_i c
    rw [if_pos c]
    exact h.2 i r hr
  · cases hr⟩
theorem IvP.drop {H : Hp} {xs : List V} {rs : List Iv} (n : Nat) (h : IvP H xs rs) : IvP H (xs.drop n) (rs.drop n) := ⟨by rw [List.length_drop, List.length_drop, h.1], fun i r hr => by
  rw [List.getElem?_drop] at hr ⊢
  exact h.2 _ r hr⟩
/-- every second key of n, a range up to top: what is gone -/
def oddG (n : Nat) (top : Int) : List Iv := ((List.range (n - 1)).map fun (i : Nat) => (2 * (i : Int) + 1, 2 * (i : Int) + 1)) ++ [(2 * (n : Int) - 1, top)]
def evL (n : Nat) : List (Int × V) := (List.range n).map fun (i : Nat) => (2 * (i : Int), V.str "a")
theorem evL_keys (n : Nat) : keysL (evL n) = (List.range n).map fun (i : Nat) => 2 * (i : Int) := by
  unfold keysL evL
  rw [List.map_map]
  rfl
theorem evL_nodup (n : Nat) : (keysL (evL n)).Nodup := by
  rw [evL_keys]
  exact List.pairwise_map.mpr (List.nodup_range.imp fun {a b} h z => h (by omega))
theorem oddG_canon {n : Nat} {top : Int} (h : 2 * (n : Int) - 1 ≤ top) (hn : 1 ≤ n) : Canon (oddG n top) := by
  unfold oddG
  constructor
  · intro r hr
    rcases List.mem_append.mp hr with z | z
    · obtain ⟨i, _, rfl⟩ := List.mem_map.mp z
      exact Int.le_refl _
    · rw [List.mem_singleton.mp z]
      exact h
  · rw [List.pairwise_append]
    refine ⟨List.pairwise_map.mpr (List.pairwise_lt_range.imp fun {a b} h => ?_), List.pairwise_singleton _ _, fun x hx y hy => ?_⟩
    · show 2 * (a : Int) + 1 + 1 < 2 * (b : Int) + 1
      omega
    · obtain ⟨i, hi, rfl⟩ := List.mem_map.mp hx
      rw [List.mem_singleton.mp hy]
      have := List.mem_range.mp hi
      show 2 * (i : Int) + 1 + 1 < 2 * (n : Int) - 1
      omega
theorem oddG_in {n : Nat} {top : Int} (h : 2 * (n : Int) - 1 ≤ top) (hn : 1 ≤ n) (k : Int) : inR (oddG n top) k ↔ (k ∈ ([] : List Int) ∨ inR [(0, top)] k) ∧ k ∉ keysL (evL n) := by
  rw [evL_keys]
  unfold oddG
  constructor
  · rintro ⟨r, hr, h1, h2⟩
    rcases List.mem_append.mp hr with z | z
    · obtain ⟨i, hi, rfl⟩ := List.mem_map.mp z
      have hi := List.mem_range.mp hi
      have h1 : 2 * (i : Int) + 1 ≤ k := h1
      have h2 : k ≤ 2 * (i : Int) + 1 := h2
      refine ⟨.inr ⟨(0, top), List.mem_singleton.mpr rfl, by show 0 ≤ k; omega, by show k ≤ top; omega⟩, fun y => ?_⟩
      obtain ⟨j, _, e⟩ := List.mem_map.mp y
      omega
    · rw [List.mem_singleton.mp z] at h1 h2
      have h1 : 2 * (n : Int) - 1 ≤ k := h1
      have h2 : k ≤ top := h2
      refine ⟨.inr ⟨(0, top), List.mem_singleton.mpr rfl, by show 0 ≤ k; omega, by show k ≤ top; omega⟩, fun y => ?_⟩
      obtain ⟨j, hj, e⟩ := List.mem_map.mp y
      have := List.mem_range.mp hj
      omega
  · rintro ⟨h1 | ⟨r, hr, h1, h2⟩, h3⟩
    · cases h1
    · rw [List.mem_singleton.mp hr] at h1 h2
      have h1 : 0 ≤ k := h1
      have h2 : k ≤ top := h2
      by_cases c : 2 * (n : Int) - 1 ≤ k
      · exact ⟨_, List.mem_append.mpr (.inr (List.mem_singleton.mpr rfl)), c, h2⟩
      · have hodd : k % 2 = 1 := by
          rcases (by omega : k % 2 = 0 ∨ k % 2 = 1) with z | z
          · exact absurd (List.mem_map.mpr ⟨(k / 2).toNat, List.mem_range.mpr (by omega), by show 2 * (((k / 2).toNat : Nat) : Int) = k; omega⟩) h3
          · exact z
        refine ⟨(2 * (((k / 2).toNat : Nat) : Int) + 1, 2 * (((k / 2).toNat : Nat) : Int) + 1), List.mem_append.mpr (.inl (List.mem_map.mpr ⟨(k / 2).toNat, List.mem_range.mpr (by omega), rfl⟩)), ?_, ?_⟩
        · show 2 * (((k / 2).toNat : Nat) : Int) + 1 ≤ k; omega
        · show k ≤ 2 * (((k / 2).toNat : Nat) : Int) + 1; omega
theorem evL_succ (n : Nat) : evL (n + 1) = evL n ++ [(2 * (n : Int), V.str "a")] := by
  unfold evL
  rw [List.range_succ, List.map_append]
  rfl
theorem evL_ok {n : Nat} (h : n ≤ 31) : ∀ q ∈ evL n, keyB (.int q.1) = true ∧ valB q.2 = true := by
  intro q hq
  obtain ⟨i, hi, rfl⟩ := List.mem_map.mp hq
  have := List.mem_range.mp hi
  exact ⟨decide_eq_true ⟨by show 0 ≤ 2 * (i : Int); omega, by show 2 * (i : Int) ≤ 999999; omega⟩, by show valB (.str "a") = true; decide +kernel⟩
theorem badV {k : Int} {v : V} (h : valB v = false) : (([(k, v)] : List (Int × V)).all fun q => keyB (.int q.1) && valB q.2) = false := by
  show (keyB (.int k) && valB v && true) = false
  rw [h, Bool.and_false]
  rfl
theorem oddG_len (n : Nat) (top : Int) (hn : 1 ≤ n) : (oddG n top).length = n := by
  unfold oddG
  rw [List.length_append, List.length_map, List.length_range]
  show n - 1 + 1 = n
  omega
end Sl

set_option Elab.async false
set_option linter.all false
set_option maxRecDepth 100000
set_option maxHeartbeats 8000000
set_option exponentiation.threshold 9000
namespace Sl
open PySem L2 C8 StX Silt LiI RT
local macro_rules | `(tactic| walk_at "side") => `(tactic| first
  | exact cdivw (by omega) (by omega)
  | exact cmulw (by omega) (by omega) (by omega) (by omega)
  | exact Or.inr ⟨by omega, by omega⟩
  | exact Or.inl ⟨by omega, by omega⟩
  | omega
  | exact ⟨by omega, by omega, by decide⟩
  | decide)
local macro_rules | `(tactic| walk_at "rd1") => `(tactic| first
  | with_reducible refine rd_seq ?_
  | with_reducible refine rd_asg ?_
  | with_reducible refine rd_drop ?_
  | with_reducible refine rd_ret ?_
  | with_reducible refine rd_retN ?_
  | with_reducible refine rd_ifS ?_
  | ((with_reducible refine rd_var0 ?_); refine ⟨_, rfl, ?_⟩)
  | with_reducible refine rd_c ?_
  | with_reducible refine rd_op ?_
  | with_reducible refine rd_un ?_
  | with_reducible refine rd_I0 ?_
  | with_reducible refine rd_U ?_
  | ((with_reducible refine rd_I ?c ?_); (case c => walk_at "side"))
  | with_reducible refine rd_ipI ?_
  | with_reducible refine rd_eqI ?_
  | with_reducible refine rd_neI ?_
  | with_reducible refine rd_test ?_
  | with_reducible refine rd_tB ?_
  | with_reducible refine rd_bl ?_
  | with_reducible refine rd_not ?_
  | with_reducible refine rd_and ?_
  | with_reducible refine rd_or ?_
  | with_reducible refine rd_andV ?_
  | with_reducible refine rd_orV ?_
  | with_reducible refine rd_notV ?_
  | with_reducible refine rd_ifE ?_
  | with_reducible refine rd_chain ?_
  | with_reducible refine rd_chain3 ?_
  | with_reducible refine rd_nil ?_
  | with_reducible refine rd_cons ?_
  | with_reducible refine rd_call ?_
  | with_reducible refine rd_CB ?_
  | with_reducible refine rd_par ?_
  | with_reducible refine rd_par2 ?_
  | with_reducible refine rd_par3 ?_
  | with_reducible refine rd_par4 ?_
  | ((with_reducible refine rd_aug0 ?_); refine ⟨_, rfl, ?_⟩)
  | with_reducible refine rd_gname ?_
  | with_reducible refine rd_gcons ?_
  | with_reducible refine rd_gnil ?_
  | with_reducible refine rd_max ?_
  | with_reducible refine rd_min ?_
  | with_reducible refine rd_int1 ?_
  | with_reducible refine rd_abs ?_
  | with_reducible refine rd_lst ?_
  | with_reducible refine rd_tup ?_
  | with_reducible refine rd_bm ?_
  | with_reducible refine rd_fld0 ?_
  | with_reducible refine rd_sl0 ?_
  | with_reducible refine rd_noP ?_
  | with_reducible refine rd_part ?_
  | with_reducible refine rd_part2 ?_
  | with_reducible refine rd_meth0 ?_
  | with_reducible refine rd_star ?_
  | with_reducible refine rd_for ?_
  | with_reducible refine rd_rng1 ?_
  | with_reducible refine rd_rng2 ?_
  | with_reducible refine rd_rng3 ?_
  | with_reducible refine rd_iList ?_
  | with_reducible refine rd_iTup ?_
  | with_reducible refine rd_iEnum ?_
  | with_reducible refine rd_lc ?_
  | with_reducible refine rd_yes ?_
  | with_reducible refine rd_augS ?_
  | with_reducible refine rd_drawNew ?_
  | with_reducible refine rd_make0 ?_
  | with_reducible refine rd_next ?_
  | with_reducible refine rd_break ?_
  | with_reducible refine rd_cont ?_
  | with_reducible refine rd_iteTT ?_
  | with_reducible refine rd_iteFF ?_
  | with_reducible refine rd_iteNTT ?_
  | with_reducible refine rd_iteNFF ?_
  | with_reducible refine rd_con0 ?_
  | with_reducible refine rd_truO0 ?_
  | with_reducible refine rd_gfld0 ?_
  | with_reducible refine rd_dc ?_
  | with_reducible refine rd_iKeys ?_
  | with_reducible refine rd_dget0 ?_
  | with_reducible refine rd_dput0 ?_
  | with_reducible refine rd_dnot0 ?_
  | with_reducible refine rd_iEnumT ?_
  | with_reducible refine rd_raP0 ?_
  | with_reducible refine rd_xf0 ?_
  | with_reducible refine rd_cKw ?_
  | with_reducible refine rd_iStr ?_
  | with_reducible refine rd_gSub ?_
  | with_reducible refine rd_asgG ?_)
local macro_rules | `(tactic| walk_at "rd") => `(tactic| repeat walk_at "rd1")
local macro_rules | `(tactic| walk_at "len") => `(tactic| first
  | (intro vs H Q E h; obtain ⟨h2, _⟩ := h; rw [h2]; rfl)
  | (intro vs H Q E h; obtain ⟨_, h2, _⟩ := h; rw [h2]; rfl)
  | (intro vs H Q E h; obtain ⟨_, _, h2, _⟩ := h; rw [h2]; rfl)
  | (intro vs H Q E h; obtain ⟨_, _, _, h2, _⟩ := h; rw [h2]; rfl)
  | (intro vs H Q E h; obtain ⟨_, _, _, _, h2, _⟩ := h; rw [h2]; rfl)
  | (intro vs H Q E h; obtain ⟨_, _, _, _, _, h2, _⟩ := h; rw [h2]; rfl)
  | (intro vs H Q E h; obtain ⟨_, _, _, _, _, _, h2, _⟩ := h; rw [h2]; rfl)
  | (intro vs H Q E h; obtain ⟨_, _, _, _, _, _, _, h2, _⟩ := h; rw [h2]; rfl)
  | (intro vs H Q E h; obtain ⟨_, _, _, _, _, _, _, _, h2, _⟩ := h; rw [h2]; rfl)
  | (intro vs H Q E h; obtain ⟨_, _, _, _, _, _, _, _, _, h2, _⟩ := h; rw [h2]; rfl)
  | (intro vs H Q E h; obtain ⟨_, _, _, _, _, _, _, _, _, _, h2, _⟩ := h; rw [h2]; rfl)
  | (intro vs H Q E h; obtain ⟨_, _, _, _, _, _, _, _, _, _, _, h2, _⟩ := h; rw [h2]; rfl)
  | (intro vs H Q E h; obtain ⟨_, _, _, _, _, _, _, _, _, _, _, _, h2, _⟩ := h; rw [h2]; rfl))
local macro_rules | `(tactic| walk_at "rd1") => `(tactic| first
  | with_reducible refine rd_iItems ?_
  | with_reducible refine rd_listIt0 ?_
  | with_reducible refine rd_dictRev0 ?_
  | with_reducible refine rd_tupRev0 ?_
  | with_reducible refine rd_dget10 ?_
  | with_reducible refine rd_makeX ?_
  | with_reducible refine rd_methX0 ?_)
def spLaw (K : PySem.W.Frag) : Sp := fun vs H Q _ => ∃ (a : Addr) (ns : List Int), vs = [.ref a] ∧ SqL K H a (ns.map V.int) ∧ ns.length ≤ 63 ∧ ∀ H', Q (.bl true) H'
theorem cut_first (xs : List V) : cutV xs none (some 1) = xs.take 1 := by
  unfold cutV
  cases xs with
  | nil => rfl
  | cons x xs => rfl
theorem cut_rest (xs : List V) : cutV xs (some 1) none = xs.drop 1 := by
  unfold cutV
  cases xs with
  | nil => rfl
  | cons x xs =>
    show List.take (xs.length + 1 - HT.sIx (xs.length + 1) 0 (some 1)) (List.drop (HT.sIx (xs.length + 1) 0 (some 1)) (x :: xs)) = xs
    have : HT.sIx (xs.length + 1) 0 (some 1) = 1 := by
      show min 1 (xs.length + 1) = 1
      omega
    rw [this]
    show List.take (xs.length + 1 - 1) xs = xs
    rw [Nat.add_sub_cancel, List.take_length]
theorem rd_lstOfL {K : PySem.W.Frag} {H : Hp} {Q : VK} {a : Addr} {xs : List V} (e : H a = some (.lst xs)) (h : ∀ p H', H p = none → Same H H' → H' p = some (.lst xs) → H' = upd H p (.lst xs) → Q (.ref p) H') : rLstOf K [.ref a] H Q :=
  ⟨a, xs, rfl, .inl (SqL.of e), fun p hp => h p _ hp (Same.new (Same.refl H) hp) upd_same rfl⟩
theorem seq_updD {K : PySem.W.Frag} {H : Hp} {D a : Addr} {kvs : List (Key × V)} {o : HO} {xs : List V} (e : H D = some (.dK kvs)) (h : SqL K H a xs) : SqL K (upd H D o) a xs := by
  have ne : ∀ u, H a = some u → (∀ k, u ≠ .dK k) → upd H D o a = some u := fun u hu n => by
    rw [upd_ne (fun z => by rw [z, e] at hu; cases hu; exact n _ rfl)]
    exact hu
  rcases h with h | h
  · rcases h with h | ⟨o, h⟩
    · exact .inl (.inl (ne _ h (fun _ z => by cases z)))
    · exact .inl (.inr ⟨o, ne _ h (fun _ z => by cases z)⟩)
  · exact .inr h
theorem not_changed {v : V} {ch : Nat} (e : v = .str ((⟨#[ch]⟩ : Str) ++ (toString (10 : Int) : Str))) : v ≠ .str "changed" := fun z => by
  have z2 := e.symm.trans z
  have z3 : ((⟨#[ch]⟩ : Str) ++ (toString (10 : Int) : Str)) = ("changed" : Str) := V.str.inj z2
  have z4 : (#[ch] ++ (toString (10 : Int) : Str).cps).size = ("changed" : Str).cps.size := congrArg (fun s : Str => s.cps.size) z3
  rw [Array.size_append] at z4
  have h1 : (toString (10 : Int) : Str).cps.size = 2 := by decide +kernel
  have h2 : ("changed" : Str).cps.size = 7 := by decide +kernel
  rw [h1, h2, show (#[ch] : Array Nat).size = 1 from rfl] at z4
  exact absurd z4 (by decide)
/-- a dict that ascends is told by its pairs -/
theorem dict_uniq : ∀ {a b : List (Int × V)}, a.Perm b → (keysL a).Pairwise (· < ·) → (keysL b).Pairwise (· < ·) → a = b
  | [], [], _, _, _ => rfl
  | [], y :: b, p, _, _ => by have := p.length_eq; simp at this
  | x :: a, [], p, _, _ => by have := p.length_eq; simp at this
  | x :: a, y :: b, p, ha, hb => by
    have ha2 := List.pairwise_cons.mp ha
    have hb2 := List.pairwise_cons.mp hb
    have exy : x = y := by
      rcases List.mem_cons.mp (p.mem_iff.mp (List.mem_cons_self (a := x) (l := a))) with h | h
      · exact h
      · rcases List.mem_cons.mp (p.mem_iff.mpr (List.mem_cons_self (a := y) (l := b))) with g | g
        · exact g.symm
        · have h1 : x.1 < y.1 := ha2.1 y.1 (List.mem_map.mpr ⟨y, g, rfl⟩)
          have h2 : y.1 < x.1 := hb2.1 x.1 (List.mem_map.mpr ⟨x, h, rfl⟩)
          omega
    subst exy
    rw [dict_uniq (List.Perm.cons_inv p) ha2.2 hb2.2]
/-- what is told of a sheet, moved by s -/
structure Told (H : Hp) (t D M R : Addr) (s : Int) (ls : List (Int × V)) (ms : List Int) (xs : List V) (rs : List Iv) : Prop where
  et : H t = some (.tup [.ref D, .ref M, .ref R])
  eD : H D = some (.dK (dV ls))
  nd : (keysL ls).Nodup
  ll : ls.length ≤ 3
  okl : ∀ q ∈ ls, s ≤ q.1 ∧ q.1 < s + 10 ∧ valB q.2 = true
  eM : H M = some (.lst (ms.map V.int))
  lm : ms.length ≤ 2
  okm : ∀ m ∈ ms, s ≤ m ∧ m < s + 10 ∧ m ∉ keysL ls
  eR : H R = some (.lst xs)
  iv : IvP H xs rs
  lr : rs.length ≤ 2
  okr : ∀ r ∈ rs, s ≤ r.1 ∧ r.1 < s + 10 ∧ r.1 ≤ r.2 ∧ r.2 ≤ r.1 + 3 ∧ r.2 ≤ 999999
  nc : ∀ q ∈ ls, q.2 ≠ .str "changed"
theorem Told.mono {H H' : Hp} {t D M R : Addr} {s : Int} {ls : List (Int × V)} {ms : List Int} {xs : List V} {rs : List Iv} (S : Same H H') (h : Told H t D M R s ls ms xs rs) : Told H' t D M R s ls ms xs rs :=
  ⟨S _ _ h.et, S _ _ h.eD, h.nd, h.ll, h.okl, S _ _ h.eM, h.lm, h.okm, S _ _ h.eR, h.iv.mono S, h.lr, h.okr, h.nc⟩
theorem dV_mergeA : ∀ (ms ls : List (Int × V)), (keysL (ls ++ ms)).Nodup → mergeK (dV ls) (dV ms) = dV (ls ++ ms)
  | [], ls, _ => by rw [List.append_nil]; rfl
  | q :: ms, ls, h => by
    have hq : q.1 ∉ keysL ls := fun z => by
      unfold keysL at h z
      rw [List.map_append, List.nodup_append] at h
      exact h.2.2 _ z _ (List.mem_map.mpr ⟨q, List.mem_cons_self, rfl⟩) rfl
    show mergeK (putK (dV ls) (Sum.inl q.1) q.2) (dV ms) = _
    rw [dV_putNew hq, dV_mergeA ms (ls ++ [(q.1, q.2)]) (by rw [List.append_assoc]; exact h), List.append_assoc]
    rfl
theorem dV_merge {ls : List (Int × V)} (h : (keysL ls).Nodup) : mergeK [] (dV ls) = dV ls := dV_mergeA ls [] h
/-- a sheet with all its objects told -/
structure ShX (C : Addr) (H : Hp) (x dx D G : Addr) (ys : List V) (ls : List (Int × V)) (gs : List Iv) : Prop where
  ex : H x = some (.ins C dx (ShF D G))
  eD : H D = some (.dK (dV ls))
  srt : (keysL ls).Pairwise (· < ·)
  okv : ∀ q ∈ ls, valB q.2 = true
  eG : H G = some (.tup ys)
  iv : IvP H ys gs
  can : Canon gs
theorem ShX.p {C : Addr} {H : Hp} {x dx D G : Addr} {ys : List V} {ls : List (Int × V)} {gs : List Iv} (h : ShX C H x dx D G ys ls gs) : ShP C H x ls gs := ⟨dx, D, G, ys, h.ex, h.eD, h.srt, h.okv, h.eG, h.iv, h.can⟩
theorem ShX.mono {C : Addr} {H H' : Hp} {x dx D G : Addr} {ys : List V} {ls : List (Int × V)} {gs : List Iv} (s : Same H H') (h : ShX C H x dx D G ys ls gs) : ShX C H' x dx D G ys ls gs := ⟨s _ _ h.ex, s _ _ h.eD, h.srt, h.okv, s _ _ h.eG, h.iv.mono s, h.can⟩
/-- the leaves moved by s -/
def mvL (s : Int) (ls : List (Int × V)) : List (Int × V) := ls.map fun q => (q.1 + s, q.2)
theorem mvL_keys (s : Int) (ls : List (Int × V)) : keysL (mvL s ls) = (keysL ls).map (· + s) := by
  unfold keysL mvL
  rw [List.map_map, List.map_map]
  rfl
theorem mvL_nodup {s : Int} {ls : List (Int × V)} (h : (keysL ls).Nodup) : (keysL (mvL s ls)).Nodup := by
  rw [mvL_keys]
  exact List.Pairwise.map _ (fun a b hab z => hab (by have z : a + s = b + s := z; omega)) h
theorem mvL_mem {s : Int} {ls : List (Int × V)} {q : Int × V} (h : q ∈ mvL s ls) : ∃ p ∈ ls, q = (p.1 + s, p.2) := by
  obtain ⟨p, hp, rfl⟩ := List.mem_map.mp h
  exact ⟨p, hp, rfl⟩
theorem tellB_iff {ms : List Int} {rs : List Iv} {k : Int} : tellB ms rs k = true ↔ k ∈ ms ∨ inR rs k := by
  unfold tellB
  rw [Bool.or_eq_true, decide_eq_true_iff, inRB_iff]
theorem valB_ok {z : Str} (h : valB (.str z) = true) : PyData.strOk z = true := by
  have h : (decide (1 ≤ z.length ∧ z.length ≤ 12) && z.cps.toList.all sgB) = true := h
  rw [Bool.and_eq_true] at h
  show z.cps.all (· < 0x110000) = true
  rw [← Array.all_toList, List.all_eq_true]
  intro c hc
  have hs := List.all_eq_true.mp h.2 c hc
  unfold sgB at hs
  rw [Bool.or_eq_true, decide_eq_true_iff, decide_eq_true_iff] at hs
  rw [decide_eq_true_iff]
  omega
theorem dV_in {ls : List (Int × V)} {k : Int} (nd : (keysL ls).Nodup) : (valV (dV ls) (Sum.inl k)).isSome = decide (k ∈ keysL ls) := by
  by_cases c : k ∈ keysL ls
  · rw [decide_eq_true c]
    obtain ⟨q, hq, rfl⟩ := List.mem_map.mp c
    rw [dV_val nd (k := q.1) (v := q.2) hq]
    rfl
  · rw [decide_eq_false c, dV_no c]
    rfl
theorem keys_perm {ls ms : List (Int × V)} (p : ls.Perm ms) (k : Int) : k ∈ keysL ls ↔ k ∈ keysL ms := (p.map (·.1)).mem_iff
theorem rd_listV {H : Hp} {Q : VK} {a : Addr} {ls : List (Int × V)} (e : H a = some (.dK (dV ls))) (h : ∀ p H', H p = none → Same H H' → H' p = some (.lst ((keysL ls).map V.int)) → Q (.ref p) H') : rListD [.ref a] H Q := by
  refine ⟨a, dV ls, rfl, e, fun q hq => ?_⟩
  have e2 : (dV ls).map (fun kv => kV kv.1) = (keysL ls).map V.int := by
    unfold dV keysL
    rw [List.map_map, List.map_map]
    rfl
  rw [e2]
  exact h q _ hq (Same.new (Same.refl H) hq) upd_same
/-- the first n keys from s on that are gone -/
def goneK (s : Int) (gs : List Iv) (n : Nat) : List Int := ((List.range n).map fun (j : Nat) => s + (j : Int)).filter fun k => inRB gs k
theorem goneK_succ (s : Int) (gs : List Iv) (n : Nat) : goneK s gs (n + 1) = goneK s gs n ++ (if inRB gs (s + (n : Int)) = true then [s + (n : Int)] else []) := by
  unfold goneK
  rw [List.range_succ, List.map_append, List.filter_append]
  congr 1
  show List.filter _ [s + (n : Int)] = _
  by_cases h : inRB gs (s + (n : Int)) = true
  · rw [if_pos h, List.filter_cons_of_pos h]; rfl
  · rw [if_neg h, List.filter_cons_of_neg h]; rfl
theorem goneK_len (s : Int) (gs : List Iv) (n : Nat) : (goneK s gs n).length ≤ n := by
  unfold goneK
  refine Nat.le_trans (List.length_filter_le _ _) ?_
  rw [List.length_map, List.length_range]
  exact Nat.le_refl n
theorem goneK_asc (s : Int) (gs : List Iv) (n : Nat) : (goneK s gs n).Pairwise (· < ·) := by
  unfold goneK
  refine List.Pairwise.filter _ ?_
  refine List.pairwise_map.mpr (List.pairwise_lt_range.imp fun {a b} h => ?_)
  omega
theorem take_lt {ks : List Int} (h : ks.Pairwise (· < ·)) {j : Nat} {k : Int} (hj : ks[j]? = some k) : ∀ x ∈ ks.take j, x < k := by
  intro x hx
  obtain ⟨m, hm⟩ := List.getElem?_of_mem hx
  rw [List.getElem?_take] at hm
  split at hm
  · rename_i hlt
    obtain ⟨h1, h2⟩ := List.getElem?_eq_some_iff.mp hm
    obtain ⟨h3, h4⟩ := List.getElem?_eq_some_iff.mp hj
    have := List.pairwise_iff_getElem.mp h m j h1 h3 hlt
    rw [h2, h4] at this
    exact this
  · cases hm
/-- what is told, as data, and whether it is that the key is gone -/
theorem tell_data {H : Hp} {ls : List (Int × V)} {ms : List Int} {rs : List Iv} {k : Int} (nd : (keysL ls).Nodup) (okl : ∀ q ∈ ls, valB q.2 = true) :
    ∃ ds, DtAll H (tellL ls ms rs k) ds ∧ SeqAt.shaped (.list ds) = true ∧ PyData.eqv (.list ds) (.list [.none]) = decide (k ∉ keysL ls ∧ tellB ms rs k = true) := by
  unfold tellL
  by_cases c : k ∈ keysL ls
  · rw [if_pos c]
    obtain ⟨q, hq, rfl⟩ := List.mem_map.mp c
    obtain ⟨z, hz, _⟩ := valB_str (okl q hq)
    have hv : valO ls q.1 = .str z := by
      unfold valO
      rw [dV_val nd (k := q.1) (v := q.2) hq, ← hz]
      rfl
    rw [hv]
    refine ⟨[.str z], .cons (.str z) .nil, by simp [SeqAt.shaped, PyData.canLay0, PyData.canLayAll0, PyData.depth, PyData.depthAll, valB_ok (hz ▸ okl q hq)], ?_⟩
    rw [decide_eq_false (fun y => y.1 c)]
    simp [PyData.eqv, PyData.eqvAll]
  · rw [if_neg c]
    by_cases b : tellB ms rs k = true
    · rw [if_pos b, decide_eq_true (show _ ∧ _ from ⟨c, b⟩)]
      exact ⟨[.none], .cons .non .nil, by decide, by simp [PyData.eqv, PyData.eqvAll]⟩
    · rw [if_neg b, decide_eq_false (fun y => b y.2)]
      exact ⟨[], .nil, by decide, by simp [PyData.eqv, PyData.eqvAll]⟩
section
variable {P : Program} {w : World} {K : PySem.W.Frag} {mg : Str → Option Value} {base : Heap} {C_Sheet C_BadSheet C_BadKey D_Sheet_0 D_Sheet_1 : Addr}
theorem fn_law (T : TX K mg C_Sheet C_BadSheet C_BadKey D_Sheet_0 D_Sheet_1) {f0 : Addr} {fd : FuncData} (D : C8.Def K mg "law" s_law f0 fd) : FnOk P w K mg base C8.CX0 6 f0 fd P_law (spLaw K) := by
  have G__law_draw := cal__law_draw (P := P) (w := w) (base := base) T
  have G__law_sheet := cal__law_sheet (P := P) (w := w) (base := base) T
  have G_Sheet_init := mak_Sheet_init (P := P) (w := w) (base := base) T
  have G__law_tells := cal__law_tells (P := P) (w := w) (base := base) T
  have G_Sheet_contains := met_Sheet_contains (P := P) (w := w) (base := base) T
  have G_Sheet_is_gone := met_Sheet_is_gone (P := P) (w := w) (base := base) T
  have G_Sheet_len := met_Sheet_len (P := P) (w := w) (base := base) T
  have G_Sheet_eq := met_Sheet_eq (P := P) (w := w) (base := base) T
  have G_Sheet_init_1 := mak_Sheet_init_1 (P := P) (w := w) (base := base) T
  have X_Sheet_init := xak_Sheet_init (P := P) (w := w) (base := base) T
  have X_Sheet_is_gone := xet_Sheet_is_gone (P := P) (w := w) (base := base) T
  refine fn0 D.fn sc_law (by walk_at "len") (fun cdv A outer s H vs Q E hr h => ?_)
  obtain ⟨sc, ns, rfl, hS, h63, k⟩ := h
  refine ⟨_, (pss_cons (ps_s 1 sc_law.nd (pe_ix ix_tup (pe_tup (pa_cons pe_int (pa_cons pe_int (pa_cons pe_int pa_nil)))) (pe_c G__law_draw hr (by decide) rfl (pa_cons (pv 0) (pa_cons pe_int (pa_cons pe_int pa_nil)))) (fun _ _ => rfl)))
      (pss_cut (ps_asg (pe_c G__law_sheet hr (by decide) rfl (pa_cons (pv 0) (pa_cons pe_int (pa_cons pe_int pa_nil)))) (pg_tup rfl (pgs_cons (pg_n 2 sc_law.nd) (pgs_cons (pg_n 3 sc_law.nd) (pgs_cons (pg_n 4 sc_law.nd) pgs_nil)))))
      (pss_cut (ps_s 5 sc_law.nd (pe_tup (pa_cons (pe_callTy (cr_dictP rfl) (by rfl) T.b_dict (by decide +kernel) (pa_cons (pe_lock (pe_lc (own := [("_law_key", 6), ("_law_value", 7)]) (g := gTup _ 2 (gCons (gName 6) (gCons (gName 7) gNil))) (tt := tYes) rfl sc_law.nd (pi_items (pv 2)) (blkOk_by (own := [("_law_key", 6), ("_law_value", 7)]) (N := N_law) (sc := fnScope s_law) (by decide +kernel)) (fun _ _ _ _ _ => (pg_tup rfl (pgs_cons (pg_n 6 sc_law.nd) (pgs_cons (pg_n 7 sc_law.nd) pgs_nil)))) (fun _ _ _ _ _ => pts_nil) (fun _ _ _ _ _ => (pe_tup (pa_cons (pe_op op_add (pv 6) (pv 1)) (pa_cons (pv 7) pa_nil)))))) pa_nil)) (pa_cons (pe_lc (own := [("_law_key", 6)]) (g := gName 6) (tt := tYes) rfl sc_law.nd (pi_list (pv 3)) (blkOk_by (own := [("_law_key", 6)]) (N := N_law) (sc := fnScope s_law) (by decide +kernel)) (fun _ _ _ _ _ => (pg_n 6 sc_law.nd)) (fun _ _ _ _ _ => pts_nil) (fun _ _ _ _ _ => (pe_op op_add (pv 6) (pv 1)))) (pa_cons (pe_lc (own := [("_law_low", 8), ("_law_high", 9)]) (g := gTup _ 2 (gCons (gName 8) (gCons (gName 9) gNil))) (tt := tYes) rfl sc_law.nd (pi_list (pv 4)) (blkOk_by (own := [("_law_low", 8), ("_law_high", 9)]) (N := N_law) (sc := fnScope s_law) (by decide +kernel)) (fun _ _ _ _ _ => (pg_tup rfl (pgs_cons (pg_n 8 sc_law.nd) (pgs_cons (pg_n 9 sc_law.nd) pgs_nil)))) (fun _ _ _ _ _ => pts_nil) (fun _ _ _ _ _ => (pe_tup (pa_cons (pe_op op_add (pv 8) (pv 1)) (pa_cons (pe_callB (cr_min2 rfl) (by rfl) T.b_min (by decide +kernel) (pa_cons (pe_op op_add (pv 9) (pv 1)) (pa_cons pe_int pa_nil))) pa_nil))))) pa_nil)))))
      (pss_cut (ps_s 10 sc_law.nd (pe_mk G_Sheet_init hr (by decide) rfl (pa_cons (pe_ix ix_tup (pv 5) pe_int (fun _ _ => rfl)) (pa_cons (pe_ix ix_tup (pv 5) pe_int (fun _ _ => rfl)) (pa_cons (pe_ix ix_tup (pv 5) pe_int (fun _ _ => rfl)) pa_nil)))))
      (pss_cut (ps_for PassesOwn.never rfl (pi_range2 rfl T.b_range (pa_cons (pv 1) (pa_cons (pe_callB (cr_min2 rfl) (by rfl) T.b_min (by decide +kernel) (pa_cons (pe_op op_add (pv 1) pe_int) (pa_cons pe_int pa_nil))) pa_nil))) (pg_n 6 sc_law.nd) (pss_cons (ps_s 7 sc_law.nd (pe_c G__law_tells hr (by decide) rfl (pa_cons (pv 5) (pa_cons (pv 6) pa_nil))))
      (pss_one (ps_if (PW.pt (pw_or (pt_cmpR op_ne (pe_mt G_Sheet_is_gone hr (by decide) (pv 10) (pa_cons (pv 6) pa_nil)) (pe_cmpR (op_eqD hr.units) (pv 7) (pe_lst (pa_cons pe_non pa_nil)) (nomark _)) (nomark _)) (pw_or1 (pt_cmpR op_ne (pe_cmpR (op_inO G_Sheet_contains hr (by decide)) (pv 6) (pv 10) (by with_unfolding_all rfl)) (pe_cmp (pc_din (hu_of hr) (pv 6) (pe_ix ix_tup (pv 5) pe_int (fun _ _ => rfl)))) (nomark _))))) (pss_one (ps_ret pe_bl)) pss_nil))))
      (pss_cut (ps_if (PW.pt (pw_or (pt_cmpR (op_ne_dictA hr.units0) (pe_fld (pv 10) rfl) (pe_ix ix_tup (pv 5) pe_int (fun _ _ => rfl)) (nomark _)) (pw_or (pt_cmpR (op_neD hr.units) (pe_callTy (call_list_dK rfl) (by rfl) T.b_list (by decide +kernel) (pa_cons (pe_fld (pv 10) rfl) pa_nil)) (pe_callB cr_sorted (by rfl) T.b_sorted (by decide +kernel) (pa_cons (pe_callTy (call_list_dK rfl) (by rfl) T.b_list (by decide +kernel) (pa_cons (pe_ix ix_tup (pv 5) pe_int (fun _ _ => rfl)) pa_nil)) pa_nil)) (nomark _)) (pw_or1 (pt_cmpR op_ne (pe_callB (cr_lenO G_Sheet_len hr (by decide)) (by rfl) T.b_len (by decide +kernel) (pa_cons (pv 10) pa_nil)) (pe_callB cr_lenDk (by rfl) T.b_len (by decide +kernel) (pa_cons (pe_ix ix_tup (pv 5) pe_int (fun _ _ => rfl)) pa_nil)) (nomark _)))))) (pss_one (ps_ret pe_bl)) pss_nil)
      (pss_cut (ps_setLc (i := 11) (own := [("_law_key", 6)]) (g := gName 6) (tt := _) rfl sc_law.nd rfl rfl (sw_true rfl rfl rfl (by decide +kernel)) (pi_range2 rfl T.b_range (pa_cons (pv 1) (pa_cons (pe_callB (cr_min2 rfl) (by rfl) T.b_min (by decide +kernel) (pa_cons (pe_op op_add (pv 1) pe_int) (pa_cons pe_int pa_nil))) pa_nil))) (blkOk_by (own := [("_law_key", 6)]) (N := N_law) (sc := fnScope s_law) (by decide +kernel)) (fun _ _ _ _ _ => (pg_n 6 sc_law.nd)) (fun _ _ _ _ _ => (pts_one (pt_cmpR (opK rEqD K (op_eqD hr.units)) (pe_c G__law_tells hr (by decide) rfl (pa_cons (pv 5) (pa_cons (pv 6) pa_nil))) (pe_lst (pa_cons pe_non pa_nil)) (nomark _)))) (fun _ _ _ _ _ => (pv 6)))
      (pss_cons (ps_s 12 sc_law.nd (pe_lst pa_nil))
      (pss_cut (ps_for PassesOwn.never rfl (pi_list (pv 11)) (pg_n 6 sc_law.nd) (pss_one (ps_if (PW.pt (pw_and (pt_cmpR (op_neD hr.units) (pv 12) (pe_lst pa_nil) (nomark _)) (pw_and1 (pt_cmpR op_eq (pe_ix ix_tup (pe_ix ix_list (pv 12) (pe_un un_neg pe_int) (fun _ _ => rfl)) pe_int (fun _ _ => rfl)) (pe_op op_sub (pv 6) pe_int) (nomark _))))) (pss_one (ps_asg (pe_tup (pa_cons (pe_ix ix_tup (pe_ix ix_list (pv 12) (pe_un un_neg pe_int) (fun _ _ => rfl)) pe_int (fun _ _ => rfl)) (pa_cons (pv 6) pa_nil))) (pg_sub (pv 12) (pe_un un_neg pe_int) set_list))) (pss_one (ps_expr (pe_bm PySem.F.plainAttrs_list PySem.F.slot_list_append PySem.F.type_list_append mt_append (pv 12) (pa_cons (pe_tup (pa_cons (pv 6) (pa_cons (pv 6) pa_nil))) pa_nil)))))))
      (pss_cut (ps_if (pt_cmpR (op_neD hr.units) (pe_fld (pv 10) rfl) (pe_callTy cr_tupOf (by rfl) T.b_tuple (by decide +kernel) (pa_cons (pv 12) pa_nil)) (nomark _)) (pss_one (ps_ret pe_bl)) pss_nil)
      (pss_cut (ps_s 13 sc_law.nd (pe_mk G_Sheet_init hr (by decide) rfl (pa_cons (pe_dictRev rfl rfl T.b_dict rfl T.b_reversed (pe_listItems rfl (pe_ix ix_tup (pv 5) pe_int (fun _ _ => rfl)) rfl T.b_list (by decide +kernel))) (pa_cons (pe_callTy cr_tupOf (by rfl) T.b_tuple (by decide +kernel) (pa_cons (pe_lc (own := [("_law_key", 6)]) (g := gName 6) (tt := _) rfl sc_law.nd (pi_list (pv 11)) (blkOk_by (own := [("_law_key", 6)]) (N := N_law) (sc := fnScope s_law) (by decide +kernel)) (fun _ _ _ _ _ => (pg_n 6 sc_law.nd)) (fun _ _ _ _ _ => (pts_one (pt_cmpR op_eq (pe_c G__law_draw hr (by decide) rfl (pa_cons (pv 0) (pa_cons (pe_op op_sub (pe_op op_add pe_int (pv 6)) (pv 1)) (pa_cons pe_int pa_nil)))) pe_int (nomark _)))) (fun _ _ _ _ _ => (pv 6))) pa_nil)) (pa_cons (pe_op op_catA (pe_tupRev rfl rfl T.b_tuple rfl T.b_reversed (pe_callTy cr_lstOf (by rfl) T.b_list (by decide +kernel) (pa_cons (pv 12) pa_nil))) (pe_callTy cr_tupOf (by rfl) T.b_tuple (by decide +kernel) (pa_cons (pe_slice sl_list (pv 12) po_none (po_some pe_int)) pa_nil))) pa_nil)))))
      (pss_cut (ps_if (PW.pt (pw_or (pt_cmpR (op_neO G_Sheet_eq hr (by decide) T.ic_Sheet.hm T.ne_Sheet) (pv 13) (pv 10) (nomark _)) (pw_or (pt_cmpR (op_neO G_Sheet_eq hr (by decide) T.ic_Sheet.hm T.ne_Sheet) (pe_mk G_Sheet_init hr (by decide) rfl (pa_cons (pe_ix ix_tup (pv 5) pe_int (fun _ _ => rfl)) (pa_cons (pe_callTy cr_tupOf (by rfl) T.b_tuple (by decide +kernel) (pa_cons (pe_ix ix_tup (pv 5) pe_int (fun _ _ => rfl)) pa_nil)) (pa_cons (pe_callTy cr_tupOf (by rfl) T.b_tuple (by decide +kernel) (pa_cons (pe_ix ix_tup (pv 5) pe_int (fun _ _ => rfl)) pa_nil)) pa_nil)))) (pv 10) (nomark _)) (pw_or1 (pt_cmpR (op_eqOI G_Sheet_eq hr (by decide) sub_int) (pv 10) pe_int (nomark _)))))) (pss_one (ps_ret pe_bl)) pss_nil)
      (pss_cut (ps_if (PW.pt (pw_and (pt_cmpR (op_neD hr.units) (pv 11) (pe_lst pa_nil) (nomark _)) (pw_and1 (pt_cmpR (op_eqO G_Sheet_eq hr (by decide)) (pe_mk G_Sheet_init hr (by decide) rfl (pa_cons (pe_ix ix_tup (pv 5) pe_int (fun _ _ => rfl)) (pa_cons (pe_lst pa_nil) (pa_cons (pe_slice sl_list (pv 12) (po_some pe_int) po_none) pa_nil)))) (pv 10) (nomark _))))) (pss_one (ps_ret pe_bl)) pss_nil)
      (pss_cons (ps_dput (hu_of hr) (pe_ix ix_tup (pv 5) pe_int (fun _ _ => rfl)) (pv 1) pe_str rfl)
      (pss_cut (ps_if (pt_cmpR op_eq (pe_dget1 (hu_of hr) (pe_fld (pv 10) rfl) (pv 1) ⟨rfl, rfl, rfl, rfl⟩) pe_str (nomark _)) (pss_one (ps_ret pe_bl)) pss_nil)
      (pss_cons (ps_s 6 sc_law.nd (pe_c G__law_draw hr (by decide) rfl (pa_cons (pv 0) (pa_cons pe_int (pa_cons pe_int pa_nil)))))
      (pss_cut (ps_for PassesOwn.never rfl (pi_tup (pe_tup (pa_cons (pe_tup (pa_cons (pe_disp (pps_cons (pe_un un_neg pe_int) pe_str pps_nil) rfl rfl (by simp) (by decide)) (pa_cons (pe_lst pa_nil) (pa_cons (pe_lst pa_nil) pa_nil)))) (pa_cons (pe_tup (pa_cons (pe_disp (pps_cons (pv 6) pe_str pps_nil) rfl rfl (by simp) (by decide)) (pa_cons (pe_lst pa_nil) (pa_cons (pe_lst pa_nil) pa_nil)))) (pa_cons (pe_tup (pa_cons (pe_disp (pps_cons (pv 6) pe_str pps_nil) rfl rfl (by simp) (by decide)) (pa_cons (pe_lst pa_nil) (pa_cons (pe_lst pa_nil) pa_nil)))) (pa_cons (pe_tup (pa_cons (pe_disp (pps_cons (pv 6) (pe_op op_mulS pe_str pe_int) pps_nil) rfl rfl (by simp) (by decide)) (pa_cons (pe_lst pa_nil) (pa_cons (pe_lst pa_nil) pa_nil)))) (pa_cons (pe_tup (pa_cons (pe_disp (pps_cons (pv 6) pe_int pps_nil) rfl rfl (by simp) (by decide)) (pa_cons (pe_lst pa_nil) (pa_cons (pe_lst pa_nil) pa_nil)))) (pa_cons (pe_tup (pa_cons (pe_disp (pps_cons (pv 6) pe_str pps_nil) rfl rfl (by simp) (by decide)) (pa_cons (pe_lst (pa_cons (pv 6) pa_nil)) (pa_cons (pe_lst pa_nil) pa_nil)))) (pa_cons (pe_tup (pa_cons pe_dnewK (pa_cons (pe_lst (pa_cons pe_int pa_nil)) (pa_cons (pe_lst pa_nil) pa_nil)))) (pa_cons (pe_tup (pa_cons pe_dnewK (pa_cons (pe_lst pa_nil) (pa_cons (pe_lst (pa_cons (pe_tup (pa_cons pe_int (pa_cons pe_int pa_nil))) pa_nil)) pa_nil)))) (pa_cons (pe_tup (pa_cons pe_dnewK (pa_cons (pe_lst pa_nil) (pa_cons (pe_lst (pa_cons (pe_tup (pa_cons pe_int (pa_cons pe_int pa_nil))) pa_nil)) pa_nil)))) (pa_cons (pe_tup (pa_cons pe_dnewK (pa_cons (pe_lst pa_nil) (pa_cons (pe_lst (pa_cons (pe_lst (pa_cons pe_int (pa_cons pe_int pa_nil))) pa_nil)) pa_nil)))) (pa_cons (pe_tup (pa_cons pe_dnewK (pa_cons (pe_lst pa_nil) (pa_cons (pe_lst (pa_cons (pe_tup (pa_cons pe_int pa_nil)) pa_nil)) pa_nil)))) (pa_cons (pe_tup (pa_cons (pe_lst pa_nil) (pa_cons (pe_lst pa_nil) (pa_cons (pe_lst pa_nil) pa_nil)))) (pa_cons (pe_tup (pa_cons pe_dnewK (pa_cons pe_non (pa_cons (pe_lst pa_nil) pa_nil)))) (pa_cons (pe_tup (pa_cons pe_dnewK (pa_cons (pe_lst pa_nil) (pa_cons pe_str pa_nil)))) (pa_cons (pe_tup (pa_cons (pe_dispB pe_str pe_bl) (pa_cons (pe_lst pa_nil) (pa_cons (pe_lst pa_nil) pa_nil)))) (pa_cons (pe_tup (pa_cons pe_dnewK (pa_cons (pe_listRg rfl rfl T.b_list (prg_1 rfl T.b_range pe_int)) (pa_cons (pe_lst pa_nil) pa_nil)))) (pa_cons (pe_tup (pa_cons (pe_callTy (cr_dictP rfl) (by rfl) T.b_dict (by decide +kernel) (pa_cons (pe_lc (own := [("_law_at", 15)]) (g := gName 15) (tt := tYes) rfl sc_law.nd (pi_range1 rfl T.b_range (pa_cons pe_int pa_nil)) (blkOk_by (own := [("_law_at", 15)]) (N := N_law) (sc := fnScope s_law) (by decide +kernel)) (fun _ _ _ _ _ => (pg_n 15 sc_law.nd)) (fun _ _ _ _ _ => pts_nil) (fun _ _ _ _ _ => (pe_tup (pa_cons (pe_op op_mul pe_int (pv 15)) (pa_cons pe_str pa_nil))))) pa_nil)) (pa_cons (pe_lst pa_nil) (pa_cons (pe_lst (pa_cons (pe_tup (pa_cons pe_int (pa_cons pe_int pa_nil))) pa_nil)) pa_nil)))) pa_nil))))))))))))))))))) (pg_n 14 sc_law.nd) (pss_one (ps_tryO rfl rfl ⟨rfl, by decide, .inl T.mg_BadSheet⟩ takesN (fun W pn xe tk => (pss_cons (ps_expr (pe_mkX X_Sheet_init hr (by decide) rfl (fun σ => passAt tk σ) (pa_cons (pe_ix (ixK rIxT K ix_tup) (pv 14) pe_int (fun _ _ => rfl)) (pa_cons (pe_ix (ixK rIxT K ix_tup) (pv 14) pe_int (fun _ _ => rfl)) (pa_cons (pe_ix (ixK rIxT K ix_tup) (pv 14) pe_int (fun _ _ => rfl)) pa_nil)))))
      (pss_one (ps_ret pe_bl)))) (fun a oe cls d pn => (pss_one ps_pass)))))
      (pss_cut (ps_for PassesOwn.never rfl (pi_tup (pe_tup (pa_cons (pe_un un_neg pe_int) (pa_cons pe_int (pa_cons pe_str (pa_cons pe_non (pa_cons pe_bl pa_nil))))))) (pg_n 14 sc_law.nd) (pss_one (ps_tryO rfl rfl ⟨rfl, by decide, .inl T.mg_BadKey⟩ takesN (fun W pn xe tk => (pss_cons (ps_expr (pe_mtX (pl := _) X_Sheet_is_gone hr (by decide) (fun σ => passAt tk σ) (pv 10) (pa_cons (pv 14) pa_nil)))
      (pss_one (ps_ret pe_bl)))) (fun a oe cls d pn => (pss_one ps_pass)))))
      (pss_one (ps_ret (pe_and (pe_cmpR op_eq (pe_callB cr_lenS (by rfl) T.b_len (by decide +kernel) (pa_cons (pe_fld (pe_mk G_Sheet_init hr (by decide) rfl (pa_cons (pe_callTy (cr_dictP rfl) (by rfl) T.b_dict (by decide +kernel) (pa_cons (pe_lc (own := [("_law_at", 15)]) (g := gName 15) (tt := tYes) rfl sc_law.nd (pi_range1 rfl T.b_range (pa_cons pe_int pa_nil)) (blkOk_by (own := [("_law_at", 15)]) (N := N_law) (sc := fnScope s_law) (by decide +kernel)) (fun _ _ _ _ _ => (pg_n 15 sc_law.nd)) (fun _ _ _ _ _ => pts_nil) (fun _ _ _ _ _ => (pe_tup (pa_cons (pe_op op_mul pe_int (pv 15)) (pa_cons pe_str pa_nil))))) pa_nil)) (pa_cons (pe_lst pa_nil) (pa_cons (pe_lst (pa_cons (pe_tup (pa_cons pe_int (pa_cons pe_int pa_nil))) pa_nil)) pa_nil)))) rfl) pa_nil)) pe_int (nomark _)) (pe_one (pe_cmpR (op_eqO G_Sheet_eq hr (by decide)) (pe_mk G_Sheet_init_1 hr (by decide) rfl (pa_cons pe_dnewK pa_nil)) (pe_mk G_Sheet_init hr (by decide) rfl (pa_cons pe_dnewK (pa_cons (pe_tup pa_nil) (pa_cons (pe_tup pa_nil) pa_nil)))) (nomark _)))))))))))))))))))))))), ?_⟩
  have seq : ∀ {H'}, Same H H' → SqL K H' sc (ns.map V.int) := fun s => L2.Same.seq s hS
  walk_at "rd"
  refine rd_newT (by simp) fun t0 H1 _ s1 et0 _ => ?_
  walk_at "rd"
  refine ⟨sc, ns, _, _, rfl, seq s1, h63, by omega, by decide, fun H2 n s2 n0 n1 => ?_⟩
  obtain ⟨sh, hsh, sh2⟩ : ∃ sh : Int, atI [V.int 0, .int 0, .int 999990] n = some (.int sh) ∧ (sh = 0 ∨ sh = 999990) := by
    have : n = 0 ∨ n = 1 ∨ n = 2 := by omega
    rcases this with rfl | rfl | rfl
    · exact ⟨0, rfl, .inl rfl⟩
    · exact ⟨0, rfl, .inl rfl⟩
    · exact ⟨999990, rfl, .inr rfl⟩
  refine rd_ixT (s2 _ _ et0) hsh ?_
  have s02 := s1.trans s2
  clear et0 hsh n0 n1
  walk_at "rd"
  refine ⟨fun σ H' => ∃ (D M R : Addr) (ls : List (Int × V)) (ms : List Int) (xs : List V) (rs : List Iv), Same H H' ∧ Drawn K H' D M R 10 10 ls ms xs rs ∧ σ = [some (.ref sc), some (.int sh), some (.ref D), some (.ref M), some (.ref R), none, none, none, none, none, none, none, none, none, none, none], ?_, ?_⟩
  · walk_at "rd"
    refine ⟨sc, ns, _, _, rfl, seq s02, h63, by omega, by omega, ⟨by decide +kernel, by decide +kernel⟩, fun H3 t D M R ls ms xs rs s3 et dr _ _ _ => ?_⟩
    refine rd_gtup et rfl ?_
    walk_at "rd"
    exact ⟨D, M, R, ls, ms, xs, rs, s02.trans s3, dr, rfl⟩
  rintro σ H3 ⟨D, M, R, ls, ms, xs, rs, s3, dr, rfl⟩
  walk_at "rd"
  refine ⟨fun σ H' => ∃ (t D M R : Addr) (ls : List (Int × V)) (ms : List Int) (xs : List V) (rs : List Iv) (v2 v3 v4 v6 v7 v8 v9 : Option V), Same H H' ∧ Told H' t D M R sh ls ms xs rs ∧ σ = [some (.ref sc), some (.int sh), v2, v3, v4, some (.ref t), v6, v7, v8, v9, none, none, none, none, none, none], ?_, ?_⟩
  · walk_at "rd"
    refine rd_lock dr.eD trivial fun od => ?_
    obtain ⟨HL, eHL⟩ : ∃ HL, HL = upd H3 D (.frz od (.dK (dV ls))) := ⟨_, rfl⟩
    rw [← eHL]
    have eLL : HL D = some (.frz od (.dK (dV ls))) := by rw [eHL]; exact upd_same
    walk_at "rd"
    refine rd_itR eLL ?_
    refine lcR_items (fun W i H' => Same HL H' ∧ ∃ ts : List Addr, H' W = some (.lst (ts.map V.ref)) ∧ Paired (fun (p : Addr) (kv : Key × V) => H' p = some (.tup [kV kv.1, kv.2])) ts (dV (mvL sh (ls.take i)))) (fun W i H' _ ⟨s, _⟩ => s _ _ eLL) (fun W H' _ s e _ => ⟨s, [], e, .nil⟩) ?_ ?_
    · rintro W i kx z tp H4 H5 hW hj ⟨s4, ts, eW, pr⟩ s45 etp
      obtain ⟨y, hy, rfl⟩ := dV_get hj
      have ekv : kV (Sum.inl y) = V.int y := rfl
      rw [ekv] at etp
      have lts : ts.length = (ls.take i).length := by rw [Paired.length pr, dV_len]; unfold mvL; rw [List.length_map]
      refine rd_gtup etp rfl ?_
      walk_at "rd"
      refine ⟨rfl, ?_⟩
      walk_at "rd"
      refine rd_newT (by simp) fun t6 H6 _ s6 e6 _ => ?_
      refine rd_lcE ((s45.trans s6) _ _ eW) (by rw [List.length_map, lts, List.length_take]; have := dr.ll; omega) fun H7 eH7 eW7 => ?_
      have s67 : Same HL H7 := by rw [eH7]; exact Same.mut ((s4.trans s45).trans s6) hW
      refine ⟨s67, ts ++ [t6], by rw [eW7, List.map_append]; rfl, ?_⟩
      rw [List.take_add_one, hy]
      have e8 : dV (mvL sh (ls.take i ++ [(y, z)])) = dV (mvL sh (ls.take i)) ++ [(Sum.inl (y + sh), z)] := by
        unfold mvL dV
        rw [List.map_append, List.map_append]
        rfl
      show Paired _ (ts ++ [t6]) (dV (mvL sh (ls.take i ++ [(y, z)])))
      rw [e8]
      have k67 : ∀ p xs, H6 p = some (.tup xs) → H7 p = some (.tup xs) := fun p xs e => by
        rw [eH7]
        exact keep_lst ((s45.trans s6) _ _ eW) _ _ e
      exact (L2.Paired.mapP pr fun p kv e => k67 _ _ ((s45.trans s6) _ _ e)).snoc (k67 _ _ e6)
    rintro W H4 hW ⟨s4, ts, eW, pr⟩
    rw [dV_len, List.take_length] at pr
    have hWD : W ≠ D := fun z => by rw [z, eLL] at hW; cases hW
    refine ⟨s4 _ _ eLL, ?_⟩
    obtain ⟨H5, eH5⟩ : ∃ H5, H5 = upd H4 D (.dK (dV ls)) := ⟨_, rfl⟩
    rw [← eH5]
    have s35 : Same H3 H5 := by
      rw [eH5]
      refine Same.unlock dr.eD (o := .frz od (.dK (dV ls))) ?_
      rw [← eHL]
      exact s4
    have eW5 : H5 W = some (.lst (ts.map V.ref)) := by rw [eH5, upd_ne hWD]; exact eW
    have pr5 : Paired (fun (p : Addr) (kv : Key × V) => H5 p = some (.tup [kV kv.1, kv.2])) ts (dV (mvL sh ls)) := L2.Paired.mapP pr fun p kv e => by
      rw [eH5, upd_ne (fun z => by rw [z, s4 _ _ eLL] at e; cases e)]
      exact e
    walk_at "rd"
    refine ⟨W, ts, _, rfl, SqL.of eW5, L2.Paired.mapP pr5 fun p kv e => SqT.of e, fun D2 hD2 => ?_⟩
    rw [dV_merge (mvL_nodup dr.nd)]
    obtain ⟨H6, eH6⟩ : ∃ H6, H6 = upd H5 D2 (.dK (dV (mvL sh ls))) := ⟨_, rfl⟩
    rw [← eH6]
    have eD6 : H6 D2 = some (.dK (dV (mvL sh ls))) := by rw [eH6]; exact upd_same
    have s56 : Same H5 H6 := by rw [eH6]; exact Same.new (Same.refl H5) hD2
    have s36 := s35.trans s56
    clear eW5 pr5 eW pr
    walk_at "rd"
    refine rd_lsR (SqL.of (s36 _ _ dr.eM)) ?_
    refine lcR_lst (xs := ms.map V.int) (fun W i H' => Same H6 H' ∧ H' W = some (.lst (((ms.take i).map (· + sh)).map V.int))) (fun W i H' _ ⟨s, _⟩ => SqL.of (s _ _ (s36 _ _ dr.eM))) (fun W H' _ s e _ => ⟨s, e⟩) ?_ ?_
    · rintro W i x H7 hW hx ⟨s7, eW⟩
      obtain ⟨m, hm, rfl⟩ : ∃ m, ms[i]? = some m ∧ x = V.int m := by
        rw [List.getElem?_map] at hx
        cases q : ms[i]? with
        | none => rw [q] at hx; cases hx
        | some m => rw [q] at hx; exact ⟨m, rfl, (Option.some.inj hx).symm⟩
      walk_at "rd"
      refine ⟨rfl, ?_⟩
      walk_at "rd"
      refine rd_lcE eW (by rw [List.length_map, List.length_map, List.length_take]; have := dr.lm; omega) fun H8 eH8 eW8 => ?_
      refine ⟨by rw [eH8]; exact Same.mut s7 hW, ?_⟩
      rw [eW8, List.take_add_one, hm, List.map_append, List.map_append]
      rfl
    rintro M2 H7 hM2 ⟨s7, eM7⟩
    rw [List.length_map, List.take_length] at eM7
    have s37 := s36.trans s7
    walk_at "rd"
    refine rd_lsR (SqL.of (s37 _ _ dr.eR)) ?_
    refine lcR_lst (xs := xs) (fun W i H' => Same H7 H' ∧ ∃ zs, H' W = some (.lst zs) ∧ IvP H' zs ((rs.take i).map fun r => (r.1 + sh, min (r.2 + sh) 999999))) (fun W i H' _ ⟨s, _⟩ => SqL.of (s _ _ (s37 _ _ dr.eR))) (fun W H' _ s e _ => ⟨s, [], e, IvP.nil⟩) ?_ ?_
    · rintro W i x H8 hW hx ⟨s8, zs, eW, ivz⟩
      obtain ⟨r, tr, hr, rfl, etr⟩ := (dr.iv.mono (s37.trans s8)).getV hx
      have lz : zs.length ≤ 2 := by rw [ivz.1, List.length_map, List.length_take]; have := dr.lr; omega
      refine rd_gtup etr rfl ?_
      walk_at "rd"
      refine ⟨rfl, ?_⟩
      walk_at "rd"
      refine rd_newT (by simp) fun t6 H9 _ s9 e9 _ => ?_
      refine rd_lcE (s9 _ _ eW) (by omega) fun H10 eH10 eW10 => ?_
      refine ⟨by rw [eH10]; exact Same.mut (s8.trans s9) hW, zs ++ [.ref t6], eW10, ?_⟩
      rw [List.take_add_one, hr, List.map_append, eH10]
      exact ((ivz.mono s9).snoc (r := (r.1 + sh, min (r.2 + sh) 999999)) e9).updL (s9 _ _ eW)
    rintro R2 H8 hR2 ⟨s8, zs, eR8, ivz⟩
    rw [dr.iv.1, List.take_length] at ivz
    walk_at "rd"
    refine rd_newT (by simp) fun t H9 _ s9 et _ => ?_
    have s89 := s8.trans s9
    have s69 := s7.trans s89
    refine ⟨t, D2, M2, R2, mvL sh ls, ms.map (· + sh), zs, rs.map fun r => (r.1 + sh, min (r.2 + sh) 999999), _, _, _, _, _, _, _, s3.trans (s36.trans s69), ⟨et, s69 _ _ eD6, mvL_nodup dr.nd, by unfold mvL; rw [List.length_map]; exact dr.ll, fun q hq => ?_, s89 _ _ eM7, by rw [List.length_map]; exact dr.lm, fun m hm => ?_, s9 _ _ eR8, ivz.mono s9, by rw [List.length_map]; exact dr.lr, fun r hr => ?_, fun q hq => ?_⟩, rfl⟩
    · obtain ⟨p, hp, rfl⟩ := mvL_mem hq
      obtain ⟨o1, o2, o3⟩ := dr.okl p hp
      exact ⟨by show sh ≤ p.1 + sh; omega, by show p.1 + sh < sh + 10; omega, o3.1⟩
    · obtain ⟨m0, hm0, rfl⟩ := List.mem_map.mp hm
      obtain ⟨o1, o2, o3⟩ := dr.okm m0 hm0
      refine ⟨by omega, by omega, fun z => ?_⟩
      rw [mvL_keys] at z
      obtain ⟨k0, hk0, e0⟩ := List.mem_map.mp z
      exact o3 (by rw [show m0 = k0 by omega]; exact hk0)
    · obtain ⟨r0, hr0, rfl⟩ := List.mem_map.mp hr
      obtain ⟨o1, o2, o3, o4⟩ := dr.okr r0 hr0
      refine ⟨?_, ?_, ?_, ?_, ?_⟩
      · show sh ≤ r0.1 + sh; omega
      · show r0.1 + sh < sh + 10; omega
      · show r0.1 + sh ≤ min (r0.2 + sh) 999999; omega
      · show min (r0.2 + sh) 999999 ≤ r0.1 + sh + 3; omega
      · show min (r0.2 + sh) 999999 ≤ 999999; omega
    · obtain ⟨p, hp, rfl⟩ := mvL_mem hq
      obtain ⟨ch, e⟩ := (dr.okl p hp).2.2.2
      exact not_changed e
  clear dr
  rintro σ H4 ⟨t, D, M, R, ls, ms, xs, rs, v2, v3, v4, v6, v7, v8, v9, s4, td, rfl⟩
  walk_at "rd"
  have sb : 0 ≤ sh ∧ sh ≤ 999990 := by omega
  refine ⟨fun σ H' => ∃ (x dx D' G : Addr) (ys : List V) (ls' : List (Int × V)) (gs : List Iv), Same H4 H' ∧ D' ≠ D ∧ ShX C_Sheet H' x dx D' G ys ls' gs ∧ ls'.Perm ls ∧ (∀ k, inR gs k ↔ (k ∈ ms ∨ inR rs k) ∧ k ∉ keysL ls) ∧ gs.length ≤ 60 ∧ σ = [some (.ref sc), some (.int sh), v2, v3, v4, some (.ref t), v6, v7, v8, v9, some (.ref x), none, none, none, none, none], ?_, ?_⟩
  · walk_at "rd"
    refine rd_ixT td.et rfl ?_
    walk_at "rd"
    refine rd_ixT td.et rfl ?_
    walk_at "rd"
    refine rd_ixT td.et rfl ?_
    walk_at "rd"
    refine rd_make fun x dx H5 s5 hx ex => ?_
    refine ⟨x, dx, D, M, R, H4, ls, ms, xs, rs, rfl, s5, hx, ex, s5 _ _ td.eD, td.nd, fun q hq => ?_, .inl (SqL.of (s5 _ _ td.eM)), fun m hm => ?_, .inl (SqL.of (s5 _ _ td.eR)), td.iv.mono s5, fun r hr => ?_, by have := td.ll; have := td.lm; have := td.lr; omega, fun H6 D' G ls' ys gs s6 e1 e2 pm srt eG iv can mem le h0 => ⟨rfl, ?_⟩⟩
    · obtain ⟨o1, o2, o3⟩ := td.okl q hq
      exact ⟨decide_eq_true ⟨by omega, by omega⟩, o3⟩
    · obtain ⟨o1, o2, o3⟩ := td.okm m hm
      exact ⟨decide_eq_true ⟨by omega, by omega⟩, o3⟩
    · obtain ⟨o1, o2, o3, o4, o5⟩ := td.okr r hr
      exact ⟨by omega, o3, o5⟩
    · walk_at "rd"
      exact ⟨x, dx, D', G, ys, ls', gs, s6, (fun z => by rw [z, td.eD] at h0; cases h0), ⟨e1, e2, srt, fun q hq => (td.okl q (pm.mem_iff.mp hq)).2.2, eG, iv, can⟩, pm, mem, by omega, rfl⟩
  rintro σ H5 ⟨x, dx, D', G, ys, ls', gs, s5, hDD, sx, pm, mem, lg, rfl⟩
  have td := td.mono s5
  have s05 := s4.trans s5
  clear s4 s5
  have hw : ∀ k, inRB gs k = decide (k ∉ keysL ls ∧ tellB ms rs k = true) := fun k => by
    rw [Bool.eq_iff_iff, inRB_iff, mem, decide_eq_true_iff, tellB_iff]
    exact And.comm
  walk_at "rd"
  refine ⟨fun σ H' => ∃ (v6 v7 : Option V), Same H5 H' ∧ σ = [some (.ref sc), some (.int sh), v2, v3, v4, some (.ref t), v6, v7, v8, v9, some (.ref x), none, none, none, none, none], ?_, ?_⟩
  · walk_at "rd"
    refine rd_rgR2 (by omega) ?_
    refine forR_rng (fun j σ H' => ∃ (v6 v7 : Option V), Same H5 H' ∧ σ = [some (.ref sc), some (.int sh), v2, v3, v4, some (.ref t), v6, v7, v8, v9, some (.ref x), none, none, none, none, none]) ⟨_, _, Same.refl H5, rfl⟩ ?_ ?_
    · rintro j σ H6 hj ⟨v6, v7, s6, rfl⟩
      walk_at "rd"
      have td6 := td.mono s6
      refine ⟨t, D, M, R, _, ls, ms, xs, rs, rfl, td6.et, td6.eD, td6.nd, td6.eM, td6.eR, td6.iv, by have := td.lr; omega, fun H7 p s7 ep => ?_⟩
      walk_at "rd"
      obtain ⟨ds, ddt, dsh, dev⟩ := tell_data (H := H7) (ls := ls) (ms := ms) (rs := rs) (k := sh + (j : Nat)) td.nd fun q hq => (td.okl q hq).2.2
      have sx7 := sx.mono (s6.trans s7)
      refine ⟨x, dx, _, rfl, sx7.ex, rfl, ?_⟩
      walk_at "rd"
      refine ⟨x, sh + (j : Nat), ls', gs, rfl, sx7.p, decide_eq_true ⟨by omega, by omega⟩, by omega, fun H8 s8 => ?_⟩
      walk_at "rd"
      refine rd_newL (by simp) fun u H9 _ s9 eu _ => ?_
      walk_at "rd"
      refine rd_eqD (.lst ((s8.trans s9) _ _ ep) (ddt.mono (s8.trans s9))) (.lst eu (.cons .non .nil)) dsh (by decide) ?_
      rw [dev, ← hw]
      refine rd_ne rfl ?_
      refine ⟨_, rfl, ?_⟩
      rw [if_neg (by simp)]
      walk_at "rd"
      have s79 := s8.trans s9
      have sx9 := sx7.mono s79
      have td9 := td.mono (s6.trans (s7.trans s79))
      refine rd_inO sx9.ex ⟨x, _, ls', gs, rfl, sx9.p, _, rfl, ?_⟩
      walk_at "rd"
      refine rd_din0 ?_
      walk_at "rd"
      refine rd_ixT td9.et rfl ?_
      refine ⟨D, _, rfl, DGet.k (k := Sum.inl (sh + (j : Nat))) td9.eD, ?_⟩
      have hk : decide (sh + (j : Nat) ∈ keysL ls') = decide (sh + (j : Nat) ∈ keysL ls) := decide_eq_decide.mpr (keys_perm pm _)
      rw [dV_in td.nd, hk]
      refine rd_ne rfl ?_
      refine ⟨_, rfl, ?_⟩
      rw [if_neg (by simp)]
      walk_at "rd"
      exact ⟨_, _, s6.trans (s7.trans s79), rfl⟩
    · rintro σ H6 ⟨v6, v7, s6, rfl⟩
      exact ⟨_, _, s6, rfl⟩
  rintro σ H6 ⟨v6, v7, s6, rfl⟩
  have td := td.mono s6
  have sx := sx.mono s6
  have s06 := s05.trans s6
  clear s6 s05
  walk_at "rd"
  refine ⟨fun σ H' => Same H6 H' ∧ σ = [some (.ref sc), some (.int sh), v2, v3, v4, some (.ref t), v6, v7, v8, v9, some (.ref x), none, none, none, none, none], ?_, ?_⟩
  · walk_at "rd"
    refine rd_fld sx.ex T.cl_Sheet T.na_Sheet_leaves rfl ?_
    walk_at "rd"
    refine rd_ixT td.et rfl ?_
    walk_at "rd"
    refine ⟨D', D, dV ls', dV ls, rfl, rfl, sx.eD, td.eD, by rw [dV_len, dV_len]; exact pm.length_eq, fun p hp => ?_, ?_⟩
    · obtain ⟨q, hq, rfl⟩ := List.mem_map.mp hp
      have hq2 := pm.mem_iff.mp hq
      obtain ⟨z, hz, _⟩ := valB_str (td.okl q hq2).2.2
      exact ⟨dV_val td.nd (k := q.1) (v := q.2) hq2, by show flatB q.2 = true; rw [hz]; rfl⟩
    refine ⟨_, rfl, ?_⟩
    rw [if_neg Bool.false_ne_true]
    walk_at "rd"
    refine rd_fld sx.ex T.cl_Sheet T.na_Sheet_leaves rfl ?_
    walk_at "rd"
    refine rd_listV sx.eD fun a1 H7 _ s7 ea1 => ?_
    walk_at "rd"
    refine rd_ixT (s7 _ _ td.et) rfl ?_
    walk_at "rd"
    refine rd_listV (s7 _ _ td.eD) fun a2 H8 _ s8 ea2 => ?_
    walk_at "rd"
    refine rd_sortG (SqL.of ea2) (by unfold keysL; rw [List.length_map]; have := td.ll; omega) fun zs a3 H9 pz sz _ s9 ea3 => ?_
    have ez : zs = keysL ls' := perm_sorted (pz.trans (show (keysL ls').Perm (keysL ls) by unfold keysL; exact pm.map _).symm) sz sx.srt
    rw [ez] at ea3
    refine rd_neD (.lst ((s8.trans s9) _ _ ea1) (DtAll.intsD _)) (.lst ea3 (DtAll.intsD _)) (shaped_ints _) (shaped_ints _) ?_
    rw [eqv_self (shaped_ints _)]
    refine ⟨_, rfl, ?_⟩
    rw [if_neg (by decide)]
    walk_at "rd"
    have s79 := s7.trans (s8.trans s9)
    have sx9 := sx.mono s79
    have td9 := td.mono s79
    refine rd_lenO sx9.ex ⟨x, ls', gs, rfl, sx9.p, ls'.length, rfl, ?_, ?_⟩
    · have := pm.length_eq
      have := td.ll
      omega
    walk_at "rd"
    refine rd_ixT td9.et rfl ?_
    walk_at "rd"
    refine rd_lenDk td9.eD ?_
    walk_at "rd"
    rw [if_neg (by rw [dV_len, pm.length_eq]; simp)]
    walk_at "rd"
    exact ⟨s79, rfl⟩
  rintro σ H7 ⟨s7, rfl⟩
  have td := td.mono s7
  have sx := sx.mono s7
  have s07 := s06.trans s7
  clear s7 s06
  obtain ⟨n, hn⟩ : ∃ n : Nat, n = (min (sh + 16) 1000000 - sh).toNat := ⟨_, rfl⟩
  have hn16 : n ≤ 16 ∧ sh + (n : Int) ≤ 1000000 := by omega
  walk_at "rd"
  refine ⟨fun σ H' => ∃ (Gl : Addr), Same H7 H' ∧ H' Gl = some (.lst ((goneK sh gs n).map V.int)) ∧ H7 Gl = none ∧ σ = [some (.ref sc), some (.int sh), v2, v3, v4, some (.ref t), v6, v7, v8, v9, some (.ref x), some (.ref Gl), none, none, none, none], ?_, ?_⟩
  · walk_at "rd"
    refine rd_rgR2 (by omega) ?_
    rw [← hn]
    refine lcR_rng (fun W j H' => Same H7 H' ∧ H' W = some (.lst ((goneK sh gs j).map V.int))) (fun W H' _ s e _ => ⟨s, e⟩) ?_ ?_
    · rintro W j H8 hW hj ⟨s8, eW⟩
      walk_at "rd"
      refine ⟨rfl, ?_⟩
      walk_at "rd"
      have td8 := td.mono s8
      refine ⟨t, D, M, R, _, ls, ms, xs, rs, rfl, td8.et, td8.eD, td8.nd, td8.eM, td8.eR, td8.iv, by have := td.lr; omega, fun H9 p s9 ep => ?_⟩
      walk_at "rd"
      refine rd_newL (by simp) fun u H10 _ s10 eu _ => ?_
      obtain ⟨ds, ddt, dsh, dev⟩ := tell_data (H := H10) (ls := ls) (ms := ms) (rs := rs) (k := sh + (j : Nat)) td.nd fun q hq => (td.okl q hq).2.2
      refine rd_eqD (.lst (s10 _ _ ep) ddt) (.lst eu (.cons .non .nil)) dsh (by decide) ?_
      rw [dev, ← hw]
      have eW10 := (s9.trans s10) _ _ eW
      have s710 := s8.trans (s9.trans s10)
      refine ⟨_, rfl, ?_⟩
      rw [goneK_succ]
      cases hb : inRB gs (sh + (j : Nat))
      · rw [if_neg Bool.false_ne_true, if_neg Bool.false_ne_true, List.append_nil]
        exact ⟨s710, eW10⟩
      · rw [if_pos rfl, if_pos rfl]
        walk_at "rd"
        refine rd_lcE eW10 (by rw [List.length_map]; have := goneK_len sh gs j; omega) fun H11 eH11 eW11 => ?_
        refine ⟨by rw [eH11]; exact Same.mut s710 hW, ?_⟩
        rw [eW11, List.map_append]
        rfl
    · rintro W H8 hW ⟨s8, eW⟩
      walk_at "rd"
      exact ⟨W, s8, eW, hW, rfl⟩
  rintro σ H8 ⟨Gl, s8, eGl, hGl, rfl⟩
  have td := td.mono s8
  have sx := sx.mono s8
  have s08 := s07.trans s8
  clear s07 s8
  obtain ⟨ks, hks⟩ : ∃ ks, ks = goneK sh gs n := ⟨_, rfl⟩
  have kasc : ks.Pairwise (· < ·) := by rw [hks]; exact goneK_asc _ _ _
  have klen : ks.length ≤ 16 := by rw [hks]; have := goneK_len sh gs n; omega
  rw [← hks] at eGl
  walk_at "rd"
  refine rd_newL (by simp) fun Dl H9 hDl s9 eDl _ => ?_
  walk_at "rd"
  refine ⟨fun σ H' => ∃ (v6 : Option V) (zs : List V) (due : List Iv), Same H8 H' ∧ H' Dl = some (.lst zs) ∧ IvP H' zs due ∧ Canon due ∧ (∀ y, inR due y ↔ y ∈ ks) ∧ due.length ≤ 16 ∧ σ = [some (.ref sc), some (.int sh), v2, v3, v4, some (.ref t), v6, v7, v8, v9, some (.ref x), some (.ref Gl), some (.ref Dl), none, none, none], ?_, ?_⟩
  · walk_at "rd"
    refine rd_lsR (SqL.of (s9 _ _ eGl)) ?_
    refine forR_lst (xs := ks.map V.int) (fun j σ H' => ∃ (v6 : Option V) (zs : List V) (due : List Iv), Same H8 H' ∧ H' Dl = some (.lst zs) ∧ IvP H' zs due ∧ Canon due ∧ (∀ y, inR due y ↔ y ∈ ks.take j) ∧ due.length ≤ j ∧ σ = [some (.ref sc), some (.int sh), v2, v3, v4, some (.ref t), v6, v7, v8, v9, some (.ref x), some (.ref Gl), some (.ref Dl), none, none, none]) (fun j σ H' ⟨_, _, _, s, _⟩ => SqL.of (s _ _ eGl)) ⟨_, [], [], s9, eDl, IvP.nil, Canon.nil, (fun y => ⟨fun z => absurd z (inR_nil y), fun z => by cases z⟩), Nat.le_refl _, rfl⟩ ?_ ?_
    · rintro j y σ H10 hy ⟨v6, zs, due, s10, eZ, ivz, can, memd, ld, rfl⟩
      obtain ⟨k0, hk0, rfl⟩ : ∃ m, ks[j]? = some m ∧ y = V.int m := by
        rw [List.getElem?_map] at hy
        cases q : ks[j]? with
        | none => rw [q] at hy; cases hy
        | some m => rw [q] at hy; exact ⟨m, rfl, (Option.some.inj hy).symm⟩
      have hj := (List.getElem?_eq_some_iff.mp hk0).1
      have tk : ∀ y, y ∈ ks.take (j + 1) ↔ y ∈ ks.take j ∨ y = k0 := fun y => by
        rw [List.take_add_one, hk0]
        simp
      have below : ∀ y, inR due y → y < k0 := fun y hy => take_lt kasc hk0 y ((memd y).mp hy)
      walk_at "rd"
      refine rd_newL (by simp) fun u H11 _ s11 eu _ => ?_
      have ivz1 := ivz.mono s11
      have eZ1 := s11 _ _ eZ
      refine rd_neD (.lst eZ1 ivz1.all.dt) (.lst eu .nil) (shaped_pairsLs _) (by rfl) ?_
      rw [eqv_nil]
      have lz : zs.length = due.length := ivz.1
      have addNew : ∀ H12 t5, Same H11 H12 → H12 t5 = some (.tup [.int k0, .int k0]) → (∀ f t, due = f ++ [t] → t.2 ≠ k0 - 1) → ∀ H13, H13 = upd H12 Dl (.lst (zs ++ [.ref t5])) → H13 Dl = some (.lst (zs ++ [.ref t5])) → ∃ (zs : List V) (due : List Iv), Same H8 H13 ∧ H13 Dl = some (.lst zs) ∧ IvP H13 zs due ∧ Canon due ∧ (∀ y, inR due y ↔ y ∈ ks.take (j + 1)) ∧ due.length ≤ j + 1 := by
        rintro H12 t5 s12 e5 gap H13 eH13 eZ13
        obtain ⟨c1, c2⟩ := due_new can below gap
        have eZ2 := s12 _ _ eZ1
        refine ⟨zs ++ [.ref t5], due ++ [(k0, k0)], by rw [eH13]; exact Same.mut ((s10.trans s11).trans s12) hDl, eZ13, by rw [eH13]; exact ((ivz1.mono s12).snoc (r := (k0, k0)) e5).updL eZ2, c1, fun y => ?_, by simp; omega⟩
        rw [c2 y, memd y, tk y]
      rcases List.eq_nil_or_concat due with z | ⟨o', q, z⟩
      · subst z
        refine ⟨_, rfl, rd_iteNF rfl ?_⟩
        walk_at "rd"
        refine rd_tyL eZ1 ?_
        walk_at "rd"
        refine rd_newT (by simp) fun t5 H12 _ s12 e5 _ => ?_
        walk_at "rd"
        refine rd_app (s12 _ _ eZ1) (by rw [lz]; simp) fun H13 eH13 eZ13 => ?_
        obtain ⟨zs2, due2, hh⟩ := addNew H12 t5 s12 e5 (fun f t z => by simp at z) H13 eH13 eZ13
        exact ⟨_, zs2, due2, hh.1, hh.2.1, hh.2.2.1, hh.2.2.2.1, hh.2.2.2.2.1, hh.2.2.2.2.2, rfl⟩
      · have z : due = o' ++ [q] := by rw [z]; simp
        subst z
        obtain ⟨zs', y, rfl⟩ : ∃ zs' y, zs = zs' ++ [y] := by
          rcases List.eq_nil_or_concat zs with u | ⟨u, v, w⟩
          · rw [u] at lz; simp at lz
          · exact ⟨u, v, by rw [w]; simp⟩
        obtain ⟨ivi, t0, rfl, e0⟩ := ivz1.init
        refine ⟨_, rfl, rd_iteNT (by simp) ?_⟩
        walk_at "rd"
        refine rd_ixL eZ1 (atI_last _ _) ?_
        walk_at "rd"
        refine rd_ixT e0 (atI_nat' (i := 1) rfl) ?_
        walk_at "rd"
        refine rd_ite (fun c => ?_) (fun c => ?_)
        · obtain ⟨c1, c2⟩ := due_last can c
          walk_at "rd"
          refine rd_ixL eZ1 (atI_last _ _) ?_
          walk_at "rd"
          refine rd_ixT e0 (atI_nat' (i := 0) rfl) ?_
          walk_at "rd"
          refine rd_newT (by simp) fun t5 H12 _ s12 e5 _ => ?_
          walk_at "rd"
          have eZ2 := s12 _ _ eZ1
          refine rd_setL (j := zs'.length) eZ2 (by rw [List.length_append]; exact ixN_end) fun H13 eH13 eZ13 => ?_
          have eset : (zs' ++ [V.ref t0]).set zs'.length (.ref t5) = zs' ++ [.ref t5] := by simp
          rw [eset] at eH13 eZ13
          refine ⟨_, zs' ++ [.ref t5], o' ++ [(q.1, k0)], by rw [eH13]; exact Same.mut ((s10.trans s11).trans s12) hDl, eZ13, by rw [eH13]; exact ((ivi.mono s12).snoc (r := (q.1, k0)) e5).updL eZ2, c1, fun y => ?_, by simp at ld ⊢; omega, rfl⟩
          rw [c2 y, memd y, tk y]
        · walk_at "rd"
          refine rd_tyL eZ1 ?_
          walk_at "rd"
          refine rd_newT (by simp) fun t5 H12 _ s12 e5 _ => ?_
          walk_at "rd"
          refine rd_app (s12 _ _ eZ1) (by rw [lz]; omega) fun H13 eH13 eZ13 => ?_
          obtain ⟨zs2, due2, hh⟩ := addNew H12 t5 s12 e5 (fun f t z => by
            have z2 := List.append_inj_right' z rfl
            cases z2
            exact c) H13 eH13 eZ13
          exact ⟨_, zs2, due2, hh.1, hh.2.1, hh.2.2.1, hh.2.2.2.1, hh.2.2.2.2.1, hh.2.2.2.2.2, rfl⟩
    · rintro σ H10 ⟨v6, zs, due, s10, eZ, ivz, can, memd, ld, rfl⟩
      rw [List.length_map, List.take_length] at memd
      rw [List.length_map] at ld
      exact ⟨_, zs, due, s10, eZ, ivz, can, memd, by omega, rfl⟩
  rintro σ H10 ⟨v6, zs, due, s10, eZ, ivz, can, memd, ld, rfl⟩
  have td := td.mono s10
  have sx := sx.mono s10
  have s010 := s08.trans s10
  have eGl := s10 _ _ eGl
  clear s08 s10 eDl hDl s9
  have gin : ∀ y, inR gs y → sh ≤ y ∧ y < sh + (n : Int) := fun y hy => by
    rcases ((mem y).mp hy).1 with h | ⟨r, hr, h1, h2⟩
    · have := td.okm y h
      omega
    · have := td.okr r hr
      omega
  have edue : due = gs := canon_uniq can sx.can fun y => by
    rw [memd y, hks]
    unfold goneK
    rw [List.mem_filter, List.mem_map, inRB_iff]
    refine ⟨fun h => h.2, fun h => ⟨⟨(y - sh).toNat, List.mem_range.mpr ?_, ?_⟩, h⟩⟩
    · have := gin y h
      omega
    · have := gin y h
      show sh + ((y - sh).toNat : Int) = y
      omega
  subst edue
  walk_at "rd"
  refine ⟨fun σ H' => Same H10 H' ∧ σ = [some (.ref sc), some (.int sh), v2, v3, v4, some (.ref t), v6, v7, v8, v9, some (.ref x), some (.ref Gl), some (.ref Dl), none, none, none], ?_, ?_⟩
  · walk_at "rd"
    refine rd_fld sx.ex T.cl_Sheet T.na_Sheet_gone (sh_gone D' G) ?_
    walk_at "rd"
    refine rd_tupOfL eZ fun t1 H11 _ s11 et1 _ => ?_
    refine rd_neD (.tup (s11 _ _ sx.eG) (sx.iv.mono s11).all.dt) (.tup et1 (ivz.mono s11).all.dt) (shaped_pairsT _) (shaped_pairsT _) ?_
    rw [eqv_self (shaped_pairsT _)]
    refine ⟨_, rfl, ?_⟩
    rw [if_neg (by decide)]
    walk_at "rd"
    exact ⟨s11, rfl⟩
  rintro σ H11 ⟨s11, rfl⟩
  have td := td.mono s11
  have sx := sx.mono s11
  have s011 := s010.trans s11
  have eGl := s11 _ _ eGl
  have eZ := s11 _ _ eZ
  have ivz := ivz.mono s11
  clear s010 s11
  walk_at "rd"
  have ndr : (keysL ls.reverse).Nodup := by
    unfold keysL
    rw [List.map_reverse]
    exact (List.reverse_perm _).nodup_iff.mpr td.nd
  have kin : ∀ m ∈ ks, sh ≤ m ∧ m < sh + (n : Int) := fun m hm => gin m ((memd m).mpr hm)
  have can0 : ∀ r ∈ due, r.1 ≤ r.2 := sx.can.1
  have uniq : ∀ {ls2 : List (Int × V)}, ls2.Perm ls → (keysL ls2).Pairwise (· < ·) → ls2 = ls' := fun p1 s1 => dict_uniq (p1.trans pm.symm) s1 sx.srt
  refine ⟨fun σ H' => ∃ (y dy D2 G2 : Addr) (zs2 : List V), Same H11 H' ∧ ShX C_Sheet H' y dy D2 G2 zs2 ls' due ∧ σ = [some (.ref sc), some (.int sh), v2, v3, v4, some (.ref t), v6, v7, v8, v9, some (.ref x), some (.ref Gl), some (.ref Dl), some (.ref y), none, none], ?_, ?_⟩
  · walk_at "rd"
    refine rd_ixT td.et rfl ?_
    walk_at "rd"
    refine rd_listIt td.eD fun H12 p ts s12 hp ep pr => ?_
    walk_at "rd"
    refine ⟨p, ts, dV ls, rfl, SqL.of ep, L2.Paired.mapP pr fun p kv e => SqT.of e, fun D2 hD2 => ?_⟩
    rw [show (dV ls).reverse = dV ls.reverse from (List.map_reverse ..).symm, dV_merge ndr]
    obtain ⟨H13, eH13⟩ : ∃ H13, H13 = upd H12 D2 (.dK (dV ls.reverse)) := ⟨_, rfl⟩
    rw [← eH13]
    have eD2 : H13 D2 = some (.dK (dV ls.reverse)) := by rw [eH13]; exact upd_same
    have s13 : Same H11 H13 := by rw [eH13]; exact Same.new s12 hD2
    walk_at "rd"
    refine rd_lsR (SqL.of (s13 _ _ eGl)) ?_
    refine lcR_lst (xs := ks.map V.int) (fun W i H' => Same H13 H' ∧ ∃ ms2 : List Int, H' W = some (.lst (ms2.map V.int)) ∧ (∀ m ∈ ms2, m ∈ ks) ∧ ms2.length ≤ i) (fun W i H' _ ⟨s, _⟩ => SqL.of (s _ _ (s13 _ _ eGl))) (fun W H' _ s e _ => ⟨s, [], e, (fun m h => by cases h), Nat.le_refl _⟩) ?_ ?_
    · rintro W i x H14 hW hx ⟨s14, ms2, eW, sub, l2⟩
      obtain ⟨m, hm, rfl⟩ : ∃ m, ks[i]? = some m ∧ x = V.int m := by
        rw [List.getElem?_map] at hx
        cases q : ks[i]? with
        | none => rw [q] at hx; cases hx
        | some m => rw [q] at hx; exact ⟨m, rfl, (Option.some.inj hx).symm⟩
      have hi := (List.getElem?_eq_some_iff.mp hm).1
      have mk := kin m (List.mem_of_getElem? hm)
      walk_at "rd"
      refine ⟨rfl, ?_⟩
      walk_at "rd"
      refine ⟨sc, ns, _, _, rfl, seq ((s011.trans s13).trans s14), h63, by omega, by decide, fun H15 d s15 d0 d1 => ?_⟩
      walk_at "rd"
      refine rd_ite (fun c => ?_) (fun c => ?_)
      · walk_at "rd"
        refine rd_lcE (s15 _ _ eW) (by rw [List.length_map]; omega) fun H16 eH16 eW16 => ?_
        refine ⟨by rw [eH16]; exact Same.mut (s14.trans s15) hW, ms2 ++ [m], by rw [eW16, List.map_append]; rfl, fun z hz => ?_, by simp; omega⟩
        rcases List.mem_append.mp hz with y | y
        · exact sub z y
        · rw [List.mem_singleton.mp y]; exact List.mem_of_getElem? hm
      · exact ⟨s14.trans s15, ms2, s15 _ _ eW, sub, by omega⟩
    rintro W H14 hW ⟨s14, ms2, eW, sub, l2⟩
    rw [List.length_map] at l2
    walk_at "rd"
    refine rd_tupOfL eW fun M2 H15 _ s15 eM2 _ => ?_
    walk_at "rd"
    have s1115 := s13.trans (s14.trans s15)
    refine rd_lstOfL (s1115 _ _ eZ) fun Z1 H16 _ s16 eZ1 _ => ?_
    walk_at "rd"
    refine rd_tupRev (SqL.of eZ1) fun Z2 H17 _ s17 eZ2 => ?_
    walk_at "rd"
    have s1117 := s1115.trans (s16.trans s17)
    refine rd_slL (SqL.of (s1117 _ _ eZ)) fun Z3 H18 _ s18 eZ3 _ => ?_
    rw [show cutV zs none (some 1) = zs.take 1 from cut_first zs] at eZ3
    walk_at "rd"
    refine rd_tupOfL eZ3 fun Z4 H19 _ s19 eZ4 _ => ?_
    walk_at "rd"
    have lz : zs.length = due.length := ivz.1
    refine rd_catA ((s18.trans s19) _ _ eZ2) eZ4 (by rw [List.length_reverse, List.length_take]; omega) fun R2 H20 s20 eR2 => ?_
    walk_at "rd"
    refine rd_make fun y dy H21 s21 hy ey => ?_
    have s1321 : Same H13 H21 := s14.trans (s15.trans (s16.trans (s17.trans (s18.trans (s19.trans (s20.trans s21))))))
    have s1121 := s13.trans s1321
    have iv1 := ivz.mono s1121
    obtain ⟨iv2, pm2⟩ := iv1.perm (List.reverse_perm zs)
    have iv3 := iv2.app (iv1.take 1)
    have inr3 : ∀ k, inR ((zs.reverse.map (kOf H21)) ++ due.take 1) k ↔ inR due k := fun k => by
      rw [inR_app, inR_perm pm2]
      exact ⟨fun h => h.elim id fun ⟨r, hr, h⟩ => ⟨r, List.mem_of_mem_take hr, h⟩, .inl⟩
    have len3 : ((zs.reverse.map (kOf H21)) ++ due.take 1).length ≤ 17 := by
      rw [List.length_append, List.length_map, List.length_reverse, List.length_take]
      omega
    have in3 : ∀ r ∈ (zs.reverse.map (kOf H21)) ++ due.take 1, r ∈ due := fun r hr => by
      rcases List.mem_append.mp hr with h | h
      · exact pm2.mem_iff.mp h
      · exact List.mem_of_mem_take h
    refine ⟨y, dy, D2, M2, R2, H20, ls.reverse, ms2, _, _, rfl, s21, hy, ey, s1321 _ _ eD2, ndr, fun q hq => ?_, .inr (SqT.of ((s16.trans (s17.trans (s18.trans (s19.trans (s20.trans s21))))) _ _ eM2)), fun m hm => ?_, .inr (SqT.of (s21 _ _ eR2)), iv3, fun r hr => ?_, by have := td.ll; rw [List.length_reverse]; omega, fun H22 D' G ls2 ys2 gs s22 e1 e2 pm3 srt eG iv can mem2 le h0 => ⟨rfl, ?_⟩⟩
    · have hq := List.mem_reverse.mp hq
      obtain ⟨o1, o2, o3⟩ := td.okl q hq
      exact ⟨decide_eq_true ⟨by omega, by omega⟩, o3⟩
    · have h1 := (memd m).mpr (sub m hm)
      have h2 := (mem m).mp h1
      have h3 := kin m (sub m hm)
      refine ⟨decide_eq_true ⟨by omega, by omega⟩, fun z => h2.2 ?_⟩
      unfold keysL at z
      rw [List.map_reverse] at z
      exact List.mem_reverse.mp z
    · have hr := in3 r hr
      have c1 := can0 r hr
      have h1 := kin r.1 ((memd r.1).mp ⟨r, hr, Int.le_refl _, c1⟩)
      have h2 := kin r.2 ((memd r.2).mp ⟨r, hr, c1, Int.le_refl _⟩)
      exact ⟨by omega, c1, by omega⟩
    · have e3 : ls2 = ls' := uniq (pm3.trans (List.reverse_perm ls)) srt
      have e4 : gs = due := canon_uniq can sx.can fun k => by
        rw [mem2, inr3]
        constructor
        · rintro ⟨h | h, _⟩
          · exact (memd k).mpr (sub k h)
          · exact h
        · intro h
          refine ⟨.inr h, fun z => ((mem k).mp h).2 ?_⟩
          unfold keysL at z
          rw [List.map_reverse] at z
          exact List.mem_reverse.mp z
      subst e3 e4
      walk_at "rd"
      have s2022 : Same H20 H22 := s22
      exact ⟨y, dy, D', G, ys2, (s13.trans (s14.trans (s15.trans (s16.trans (s17.trans (s18.trans (s19.trans s20))))))).trans s22, ⟨e1, e2, srt, fun q hq => (td.okl q (pm.mem_iff.mp hq)).2.2, eG, iv, can⟩, rfl⟩
  rintro σ H12 ⟨y, dy, D2, G2, zs2, s12, sy, rfl⟩
  have td := td.mono s12
  have sx := sx.mono s12
  have s012 := s011.trans s12
  have eGl := s12 _ _ eGl
  have eZ := s12 _ _ eZ
  have ivz := ivz.mono s12
  clear s011 s12
  walk_at "rd"
  refine ⟨fun σ H' => Same H12 H' ∧ σ = [some (.ref sc), some (.int sh), v2, v3, v4, some (.ref t), v6, v7, v8, v9, some (.ref x), some (.ref Gl), some (.ref Dl), some (.ref y), none, none], ?_, ?_⟩
  · walk_at "rd"
    refine rd_neO sy.ex sx.ex ?_
    refine ⟨y, _, ls', due, rfl, sy.p, .inl ⟨x, due, rfl, sx.p, fun H13 s13 => ⟨_, rfl, ?_⟩⟩⟩
    rw [decide_eq_true (show due = due from rfl)]
    walk_at "rd"
    have td13 := td.mono s13
    refine rd_ixT td13.et rfl ?_
    walk_at "rd"
    refine rd_ixT td13.et rfl ?_
    walk_at "rd"
    refine rd_tupOfL td13.eM fun M2 H14 _ s14 eM2 _ => ?_
    walk_at "rd"
    refine rd_ixT (s14 _ _ td13.et) rfl ?_
    walk_at "rd"
    refine rd_tupOfL (s14 _ _ td13.eR) fun R2 H15 _ s15 eR2 _ => ?_
    walk_at "rd"
    refine rd_make fun z dz H16 s16 hz ez => ?_
    have s1316 := s14.trans (s15.trans s16)
    have td16 := td13.mono s1316
    refine ⟨z, dz, D, M2, R2, H15, ls, ms, xs, rs, rfl, s16, hz, ez, td16.eD, td16.nd, fun q hq => ?_, .inr (SqT.of ((s15.trans s16) _ _ eM2)), fun m hm => ?_, .inr (SqT.of (s16 _ _ eR2)), td16.iv, fun r hr => ?_, by have := td.ll; have := td.lm; have := td.lr; omega, fun H17 D3 G3 ls3 ys3 gs3 s17 e1 e2 pm3 srt eG iv can mem3 le h0 => ⟨rfl, ?_⟩⟩
    · obtain ⟨o1, o2, o3⟩ := td.okl q hq
      exact ⟨decide_eq_true ⟨by omega, by omega⟩, o3⟩
    · obtain ⟨o1, o2, o3⟩ := td.okm m hm
      exact ⟨decide_eq_true ⟨by omega, by omega⟩, o3⟩
    · obtain ⟨o1, o2, o3, o4, o5⟩ := td.okr r hr
      exact ⟨by omega, o3, o5⟩
    · walk_at "rd"
      have e3 : ls3 = ls' := uniq pm3 srt
      have e4 : gs3 = due := canon_uniq can sx.can fun k => (mem3 k).trans (mem k).symm
      subst e3 e4
      have s1217 := s13.trans ((s14.trans s15).trans s17)
      have sx17 := sx.mono s1217
      refine rd_neO e1 sx17.ex ?_
      refine ⟨z, _, _, _, rfl, ⟨dz, D3, G3, ys3, e1, e2, srt, fun q hq => (td.okl q (pm3.mem_iff.mp hq)).2.2, eG, iv, can⟩, .inl ⟨x, _, rfl, sx17.p, fun H18 s18 => ⟨_, rfl, ?_⟩⟩⟩
      rw [decide_eq_true (show gs3 = gs3 from rfl)]
      walk_at "rd"
      have sx18 := sx17.mono s18
      refine rd_eqOI sx18.ex ⟨x, _, _, _, rfl, sx18.p, .inr ⟨3, rfl, ⟨_, rfl, ?_⟩⟩⟩
      walk_at "rd"
      exact ⟨s1217.trans s18, rfl⟩
  rintro σ H13 ⟨s13, rfl⟩
  have td := td.mono s13
  have sx := sx.mono s13
  have s013 := s012.trans s13
  have eGl := s13 _ _ eGl
  have eZ := s13 _ _ eZ
  have ivz := ivz.mono s13
  clear s012 s13
  walk_at "rd"
  refine ⟨fun σ H' => Same H13 H' ∧ σ = [some (.ref sc), some (.int sh), v2, v3, v4, some (.ref t), v6, v7, v8, v9, some (.ref x), some (.ref Gl), some (.ref Dl), some (.ref y), none, none], ?_, ?_⟩
  · walk_at "rd"
    refine rd_newL (by simp) fun u H14 _ s14 eu _ => ?_
    refine rd_neD (.lst (s14 _ _ eGl) (DtAll.intsD _)) (.lst eu .nil) (shaped_ints _) (by rfl) ?_
    rw [eqv_nil]
    refine ⟨_, rfl, ?_⟩
    by_cases ck : ks = []
    · rw [show intsD ks = [] from by rw [ck]; rfl]
      walk_at "rd"
      exact ⟨s14, rfl⟩
    · refine rd_iteNT (fun z => ck (by cases ks with | nil => rfl | cons a b => cases z)) ?_
      walk_at "rd"
      have td14 := td.mono s14
      have iv14 := ivz.mono s14
      refine rd_ixT td14.et rfl ?_
      walk_at "rd"
      refine rd_newL (by simp) fun m0 H15 _ s15 em0 _ => ?_
      walk_at "rd"
      refine rd_slL (SqL.of ((s14.trans s15) _ _ eZ)) fun Z1 H16 _ s16 eZ1 _ => ?_
      rw [cut_rest] at eZ1
      walk_at "rd"
      refine rd_make fun z dz H17 s17 hz ez => ?_
      have s1417 := s15.trans (s16.trans s17)
      have td17 := td14.mono s1417
      obtain ⟨r0, dr0, edr⟩ : ∃ r0 dr0, due = r0 :: dr0 := by
        cases hd : due with
        | nil =>
          exfalso
          apply ck
          cases hks2 : ks with
          | nil => rfl
          | cons a b =>
            have := (memd a).mpr (by rw [hks2]; exact List.mem_cons_self)
            rw [hd] at this
            exact absurd this (inR_nil a)
        | cons a b => exact ⟨a, b, rfl⟩
      have iv3 := (iv14.mono s1417).drop 1
      have sub3 : ∀ r ∈ due.drop 1, r ∈ due := fun r hr => List.mem_of_mem_drop hr
      refine ⟨z, dz, D, m0, Z1, H16, ls, [], _, _, rfl, s17, hz, ez, td17.eD, td17.nd, fun q hq => ?_, .inl (SqL.of ((s16.trans s17) _ _ em0)), (fun m hm => by cases hm), .inl (SqL.of (s17 _ _ eZ1)), iv3, fun r hr => ?_, by have := td.ll; rw [List.length_drop]; show 2 * ls.length + 0 + _ ≤ 60; omega, fun H18 D3 G3 ls3 ys3 gs3 s18 e1 e2 pm3 srt eG iv can mem3 le h0 => ⟨rfl, ?_⟩⟩
      · obtain ⟨o1, o2, o3⟩ := td.okl q hq
        exact ⟨decide_eq_true ⟨by omega, by omega⟩, o3⟩
      · have hr := sub3 r hr
        have c1 := can0 r hr
        have h1 := kin r.1 ((memd r.1).mp ⟨r, hr, Int.le_refl _, c1⟩)
        have h2 := kin r.2 ((memd r.2).mp ⟨r, hr, c1, Int.le_refl _⟩)
        exact ⟨by omega, c1, by omega⟩
      · walk_at "rd"
        have e3 : ls3 = ls' := uniq pm3 srt
        have e4 : gs3 ≠ due := fun z => by
          have h1 : inR due r0.1 := by
            rw [edr]
            exact inR_cons.mpr (.inl ⟨Int.le_refl _, can0 r0 (by rw [edr]; exact List.mem_cons_self)⟩)
          rw [← z] at h1
          rcases ((mem3 r0.1).mp h1).1 with h2 | h2
          · cases h2
          · rw [edr] at h2
            have c := sx.can
            rw [edr] at c
            have := c.above h2
            have := can0 r0 (by rw [edr]; exact List.mem_cons_self)
            omega
        subst e3
        have s1318 := s14.trans ((s15.trans s16).trans s18)
        have sx18 := sx.mono s1318
        refine rd_eqO e1 sx18.ex ?_
        refine ⟨z, _, _, _, rfl, ⟨dz, D3, G3, ys3, e1, e2, srt, fun q hq => (td.okl q (pm3.mem_iff.mp hq)).2.2, eG, iv, can⟩, .inl ⟨x, _, rfl, sx18.p, fun H19 s19 => ⟨_, rfl, ?_⟩⟩⟩
        rw [decide_eq_false e4]
        walk_at "rd"
        exact ⟨s1318.trans s19, rfl⟩
  rintro σ H14 ⟨s14, rfl⟩
  have td := td.mono s14
  have sx := sx.mono s14
  have s014 := s013.trans s14
  have hS14 := seq s014
  clear s013 s14 eGl eZ ivz
  walk_at "rd"
  refine rd_ixT td.et rfl ?_
  walk_at "rd"
  refine ⟨D, _, rfl, DPut.k (k := Sum.inl sh) td.eD (by rw [dV_len]; exact Nat.lt_of_le_of_lt (show ls.length ≤ 100 by have := td.ll; omega) (by decide)), ?_⟩
  obtain ⟨H15, eH15⟩ : ∃ H15, H15 = upd H14 D (.dK (putK (dV ls) (Sum.inl sh) (.str "changed"))) := ⟨_, rfl⟩
  rw [← eH15]
  have sx15 : ShX C_Sheet H15 x dx D' G ys ls' due := by
    have k1 : ∀ a u, H14 a = some u → a ≠ D → H15 a = some u := fun a u e n => by rw [eH15, upd_ne n]; exact e
    exact ⟨k1 _ _ sx.ex (fun z => by have := sx.ex; rw [z, td.eD] at this; cases this), k1 _ _ sx.eD hDD, sx.srt, sx.okv, k1 _ _ sx.eG (fun z => by have := sx.eG; rw [z, td.eD] at this; cases this), sx.iv.keep fun a ys e => k1 _ _ e (fun z => by rw [z, td.eD] at e; cases e), sx.can⟩
  have hS15 : SqL K H15 sc (ns.map V.int) := by
    rw [eH15]
    exact seq_updD td.eD hS14
  clear eH15
  walk_at "rd"
  refine ⟨fun σ H' => Same H15 H' ∧ σ = [some (.ref sc), some (.int sh), v2, v3, v4, some (.ref t), v6, v7, v8, v9, some (.ref x), some (.ref Gl), some (.ref Dl), some (.ref y), none, none], ?_, ?_⟩
  · walk_at "rd"
    refine rd_fld sx15.ex T.cl_Sheet T.na_Sheet_leaves rfl ?_
    refine ⟨D', rfl, .inl ⟨_, .inl sx15.eD⟩, ?_⟩
    walk_at "rd"
    refine ⟨_, DGet.k (k := Sum.inl sh) sx15.eD, ?_⟩
    by_cases c : sh ∈ keysL ls'
    · obtain ⟨q, hq, eq⟩ := List.mem_map.mp c
      obtain ⟨z, hz, _⟩ := valB_str (sx15.okv q hq)
      have hv : valV (dV ls') (Sum.inl sh) = some (.str z) := by
        rw [← eq, dV_val (asc_nd sx15.srt) (k := q.1) (v := q.2) hq, hz]
      rw [hv]
      walk_at "rd"
      refine rd_eq rfl ?_
      have ne : ¬ ((V.str z) = V.str "changed") := fun e => td.nc q (pm.mem_iff.mp hq) (hz.trans e)
      show ∃ k, V.bl (decide ((V.str z) = V.str "changed")) = .bl k ∧ _
      rw [decide_eq_false ne]
      walk_at "rd"
      exact ⟨Same.refl _, rfl⟩
    · rw [dV_no c]
      walk_at "rd"
      refine rd_eq rfl ?_
      walk_at "rd"
      refine rd_iteF (fun z => by cases z) ?_
      walk_at "rd"
      exact ⟨Same.refl _, rfl⟩
  rintro σ H16 ⟨s16, rfl⟩
  walk_at "rd"
  refine ⟨sc, ns, _, _, rfl, L2.Same.seq s16 hS15, h63, by omega, by decide, fun TS ky s17 k0 k1 => ?_⟩
  have sx := sx15.mono (s16.trans s17)
  have hST := L2.Same.seq (s16.trans s17) hS15
  clear sx15 hS14 hS15 s16 s17 td s014
  walk_at "rd"
  refine ⟨fun σ H' => ∃ v14 v15, Same TS H' ∧ σ = [some (.ref sc), some (.int sh), v2, v3, v4, some (.ref t), some (.int ky), v7, v8, v9, some (.ref x), some (.ref Gl), some (.ref Dl), some (.ref y), v14, v15], ?_, ?_⟩
  · walk_at "rd"
    refine rd_disp1 fun D0 A0 p0 a0 ea0 => ?_
    walk_at "rd"
    refine rd_d1 ea0 fun B0 eB0 eb0 => ?_
    have sb0 : Same TS B0 := by rw [eB0]; exact Same.mut a0 p0
    walk_at "rd"
    refine rd_newL (by simp) fun m0 C0 _ sc0 em0 _ => ?_
    walk_at "rd"
    refine rd_newL (by simp) fun r0 E0 _ se0 er0 _ => ?_
    walk_at "rd"
    refine rd_newT (by simp) fun t0 T0 _ st0 et0 _ => ?_
    have S0 : Same TS T0 := (sb0.trans (sc0.trans (se0.trans st0)))
    have b0 : BadAt P w K C_Sheet C_BadSheet T0 t0 := bad_items (ls := [(-1, V.str "a")]) (mv := []) (xs := []) (bs := []) et0 ((sc0.trans (se0.trans st0)) _ _ eb0) ((se0.trans st0) _ _ em0) (st0 _ _ er0) (by simp [keysL]) (fun q hq => by rw [List.mem_singleton.mp hq]; exact ⟨rfl, fun z hz => by cases hz; decide +kernel⟩) (fun v hv => by cases hv) ItsR.nil (by simp) (by simp) (by simp) (.inr (.inl (by decide +kernel)))
    have q0 := (BadAll.nil (P := P) (w := w) (K := K) (C := C_Sheet) (CX := C_BadSheet) (H := TS)).snoc S0 b0
    have Z0 : Same TS T0 := S0
    clear S0 b0 sb0 sc0 se0 st0
    walk_at "rd"
    refine rd_disp1 fun D1 A1 p1 a1 ea1 => ?_
    walk_at "rd"
    refine rd_d1 ea1 fun B1 eB1 eb1 => ?_
    have sb1 : Same T0 B1 := by rw [eB1]; exact Same.mut a1 p1
    walk_at "rd"
    refine rd_newL (by simp) fun m1 C1 _ sc1 em1 _ => ?_
    walk_at "rd"
    refine rd_newL (by simp) fun r1 E1 _ se1 er1 _ => ?_
    walk_at "rd"
    refine rd_newT (by simp) fun t1 T1 _ st1 et1 _ => ?_
    have S1 : Same T0 T1 := (sb1.trans (sc1.trans (se1.trans st1)))
    have b1 : BadAt P w K C_Sheet C_BadSheet T1 t1 := bad_items (ls := [(ky, V.str "")]) (mv := []) (xs := []) (bs := []) et1 ((sc1.trans (se1.trans st1)) _ _ eb1) ((se1.trans st1) _ _ em1) (st1 _ _ er1) (by simp [keysL]) (fun q hq => by rw [List.mem_singleton.mp hq]; exact ⟨rfl, fun z hz => by cases hz; decide +kernel⟩) (fun v hv => by cases hv) ItsR.nil (by simp) (by simp) (by simp) (.inr (.inl (badV (by decide +kernel))))
    have q1 := (q0).snoc S1 b1
    have Z1 : Same TS T1 := Z0.trans S1
    clear S1 b1 sb1 sc1 se1 st1
    walk_at "rd"
    refine rd_disp1 fun D2 A2 p2 a2 ea2 => ?_
    walk_at "rd"
    refine rd_d1 ea2 fun B2 eB2 eb2 => ?_
    have sb2 : Same T1 B2 := by rw [eB2]; exact Same.mut a2 p2
    walk_at "rd"
    refine rd_newL (by simp) fun m2 C2 _ sc2 em2 _ => ?_
    walk_at "rd"
    refine rd_newL (by simp) fun r2 E2 _ se2 er2 _ => ?_
    walk_at "rd"
    refine rd_newT (by simp) fun t2 T2 _ st2 et2 _ => ?_
    have S2 : Same T1 T2 := (sb2.trans (sc2.trans (se2.trans st2)))
    have b2 : BadAt P w K C_Sheet C_BadSheet T2 t2 := bad_items (ls := [(ky, V.str "A")]) (mv := []) (xs := []) (bs := []) et2 ((sc2.trans (se2.trans st2)) _ _ eb2) ((se2.trans st2) _ _ em2) (st2 _ _ er2) (by simp [keysL]) (fun q hq => by rw [List.mem_singleton.mp hq]; exact ⟨rfl, fun z hz => by cases hz; decide +kernel⟩) (fun v hv => by cases hv) ItsR.nil (by simp) (by simp) (by simp) (.inr (.inl (badV (by decide +kernel))))
    have q2 := (q1).snoc S2 b2
    have Z2 : Same TS T2 := Z1.trans S2
    clear S2 b2 sb2 sc2 se2 st2
    walk_at "rd"
    refine rd_disp1 fun D3 A3 p3 a3 ea3 => ?_
    walk_at "rd"
    refine ⟨_, 13, rfl, rfl, by decide, by decide, by decide +kernel, by decide +kernel, by decide +kernel, ?_⟩
    walk_at "rd"
    refine rd_d1 ea3 fun B3 eB3 eb3 => ?_
    have sb3 : Same T2 B3 := by rw [eB3]; exact Same.mut a3 p3
    walk_at "rd"
    refine rd_newL (by simp) fun m3 C3 _ sc3 em3 _ => ?_
    walk_at "rd"
    refine rd_newL (by simp) fun r3 E3 _ se3 er3 _ => ?_
    walk_at "rd"
    refine rd_newT (by simp) fun t3 T3 _ st3 et3 _ => ?_
    have S3 : Same T2 T3 := (sb3.trans (sc3.trans (se3.trans st3)))
    have b3 : BadAt P w K C_Sheet C_BadSheet T3 t3 := bad_items (ls := [(ky, _)]) (mv := []) (xs := []) (bs := []) et3 ((sc3.trans (se3.trans st3)) _ _ eb3) ((se3.trans st3) _ _ em3) (st3 _ _ er3) (by simp [keysL]) (fun q hq => by rw [List.mem_singleton.mp hq]; exact ⟨rfl, fun z hz => by cases hz; decide +kernel⟩) (fun v hv => by cases hv) ItsR.nil (by simp) (by simp) (by simp) (.inr (.inl (badV (by decide +kernel))))
    have q3 := (q2).snoc S3 b3
    have Z3 : Same TS T3 := Z2.trans S3
    clear S3 b3 sb3 sc3 se3 st3
    walk_at "rd"
    refine rd_disp1 fun D4 A4 p4 a4 ea4 => ?_
    walk_at "rd"
    refine rd_d1 ea4 fun B4 eB4 eb4 => ?_
    have sb4 : Same T3 B4 := by rw [eB4]; exact Same.mut a4 p4
    walk_at "rd"
    refine rd_newL (by simp) fun m4 C4 _ sc4 em4 _ => ?_
    walk_at "rd"
    refine rd_newL (by simp) fun r4 E4 _ se4 er4 _ => ?_
    walk_at "rd"
    refine rd_newT (by simp) fun t4 T4 _ st4 et4 _ => ?_
    have S4 : Same T3 T4 := (sb4.trans (sc4.trans (se4.trans st4)))
    have b4 : BadAt P w K C_Sheet C_BadSheet T4 t4 := bad_items (ls := [(ky, V.int 3)]) (mv := []) (xs := []) (bs := []) et4 ((sc4.trans (se4.trans st4)) _ _ eb4) ((se4.trans st4) _ _ em4) (st4 _ _ er4) (by simp [keysL]) (fun q hq => by rw [List.mem_singleton.mp hq]; exact ⟨rfl, fun z hz => by cases hz⟩) (fun v hv => by cases hv) ItsR.nil (by simp) (by simp) (by simp) (.inr (.inl (badV (by decide +kernel))))
    have q4 := (q3).snoc S4 b4
    have Z4 : Same TS T4 := Z3.trans S4
    clear S4 b4 sb4 sc4 se4 st4
    walk_at "rd"
    refine rd_disp1 fun D5 A5 p5 a5 ea5 => ?_
    walk_at "rd"
    refine rd_d1 ea5 fun B5 eB5 eb5 => ?_
    have sb5 : Same T4 B5 := by rw [eB5]; exact Same.mut a5 p5
    walk_at "rd"
    refine rd_newL (by simp) fun m5 C5 _ sc5 em5 _ => ?_
    walk_at "rd"
    refine rd_newL (by simp) fun r5 E5 _ se5 er5 _ => ?_
    walk_at "rd"
    refine rd_newT (by simp) fun t5 T5 _ st5 et5 _ => ?_
    have S5 : Same T4 T5 := (sb5.trans (sc5.trans (se5.trans st5)))
    have b5 : BadAt P w K C_Sheet C_BadSheet T5 t5 := bad_items (ls := [(ky, V.str "a")]) (mv := [.int ky]) (xs := []) (bs := []) et5 ((sc5.trans (se5.trans st5)) _ _ eb5) ((se5.trans st5) _ _ em5) (st5 _ _ er5) (by simp [keysL]) (fun q hq => by rw [List.mem_singleton.mp hq]; exact ⟨rfl, fun z hz => by cases hz; decide +kernel⟩) (fun v hv => by rw [List.mem_singleton.mp hv]; rfl) ItsR.nil (by simp) (by simp) (by simp) (.inr (.inr (.inl (by simp [inKeys, keysL]))))
    have q5 := (q4).snoc S5 b5
    have Z5 : Same TS T5 := Z4.trans S5
    clear S5 b5 sb5 sc5 se5 st5
    walk_at "rd"
    refine rd_dnew fun D6 B6 _ sb6 eb6 _ => ?_
    walk_at "rd"
    refine rd_newL (by simp) fun m6 C6 _ sc6 em6 _ => ?_
    walk_at "rd"
    refine rd_newL (by simp) fun r6 E6 _ se6 er6 _ => ?_
    walk_at "rd"
    refine rd_newT (by simp) fun t6 T6 _ st6 et6 _ => ?_
    have S6 : Same T5 T6 := (sb6.trans (sc6.trans (se6.trans st6)))
    have b6 : BadAt P w K C_Sheet C_BadSheet T6 t6 := bad_items (ls := []) (mv := [.int 1000000]) (xs := []) (bs := []) et6 ((sc6.trans (se6.trans st6)) _ _ eb6) ((se6.trans st6) _ _ em6) (st6 _ _ er6) (by simp [keysL]) (fun q hq => by cases hq) (fun v hv => by rw [List.mem_singleton.mp hv]; rfl) (ItsR.nil) (by simp) (by simp) (by simp) (.inr (.inr (.inl (by decide +kernel))))
    have q6 := (q5).snoc S6 b6
    have Z6 : Same TS T6 := Z5.trans S6
    clear S6 b6 sb6 sc6 se6 st6
    walk_at "rd"
    refine rd_dnew fun D7 B7 _ sb7 eb7 _ => ?_
    walk_at "rd"
    refine rd_newL (by simp) fun m7 C7 _ sc7 em7 _ => ?_
    walk_at "rd"
    refine rd_newT (by simp) fun u7 F7 _ sf7 eu7 _ => ?_
    walk_at "rd"
    refine rd_newL (by simp) fun r7 E7 _ se7 er7 _ => ?_
    walk_at "rd"
    refine rd_newT (by simp) fun t7 T7 _ st7 et7 _ => ?_
    have S7 : Same T6 T7 := (sb7.trans (sc7.trans (sf7.trans (se7.trans st7))))
    have b7 : BadAt P w K C_Sheet C_BadSheet T7 t7 := bad_items (ls := []) (mv := []) (xs := [.ref u7]) (bs := [_]) et7 ((sc7.trans (sf7.trans (se7.trans st7))) _ _ eb7) ((sf7.trans (se7.trans st7)) _ _ em7) (st7 _ _ er7) (by simp [keysL]) (fun q hq => by cases hq) (fun v hv => by cases hv) (ItsR.one (.inl ⟨_, ((se7.trans st7) _ _ eu7), by simp, by simp [Sc, tyS], rfl⟩)) (by simp) (by simp) (by simp) (.inr (.inr (.inr (by decide +kernel))))
    have q7 := (q6).snoc S7 b7
    have Z7 : Same TS T7 := Z6.trans S7
    clear S7 b7 sb7 sc7 sf7 se7 st7
    walk_at "rd"
    refine rd_dnew fun D8 B8 _ sb8 eb8 _ => ?_
    walk_at "rd"
    refine rd_newL (by simp) fun m8 C8 _ sc8 em8 _ => ?_
    walk_at "rd"
    refine rd_newT (by simp) fun u8 F8 _ sf8 eu8 _ => ?_
    walk_at "rd"
    refine rd_newL (by simp) fun r8 E8 _ se8 er8 _ => ?_
    walk_at "rd"
    refine rd_newT (by simp) fun t8 T8 _ st8 et8 _ => ?_
    have S8 : Same T7 T8 := (sb8.trans (sc8.trans (sf8.trans (se8.trans st8))))
    have b8 : BadAt P w K C_Sheet C_BadSheet T8 t8 := bad_items (ls := []) (mv := []) (xs := [.ref u8]) (bs := [_]) et8 ((sc8.trans (sf8.trans (se8.trans st8))) _ _ eb8) ((sf8.trans (se8.trans st8)) _ _ em8) (st8 _ _ er8) (by simp [keysL]) (fun q hq => by cases hq) (fun v hv => by cases hv) (ItsR.one (.inl ⟨_, ((se8.trans st8) _ _ eu8), by simp, by simp [Sc, tyS], rfl⟩)) (by simp) (by simp) (by simp) (.inr (.inr (.inr (by decide +kernel))))
    have q8 := (q7).snoc S8 b8
    have Z8 : Same TS T8 := Z7.trans S8
    clear S8 b8 sb8 sc8 sf8 se8 st8
    walk_at "rd"
    refine rd_dnew fun D9 B9 _ sb9 eb9 _ => ?_
    walk_at "rd"
    refine rd_newL (by simp) fun m9 C9 _ sc9 em9 _ => ?_
    walk_at "rd"
    refine rd_newL (by simp) fun u9 F9 _ sf9 eu9 _ => ?_
    walk_at "rd"
    refine rd_newL (by simp) fun r9 E9 _ se9 er9 _ => ?_
    walk_at "rd"
    refine rd_newT (by simp) fun t9 T9 _ st9 et9 _ => ?_
    have S9 : Same T8 T9 := (sb9.trans (sc9.trans (sf9.trans (se9.trans st9))))
    have b9 : BadAt P w K C_Sheet C_BadSheet T9 t9 := bad_items (ls := []) (mv := []) (xs := [.ref u9]) (bs := [false]) et9 ((sc9.trans (sf9.trans (se9.trans st9))) _ _ eb9) ((sf9.trans (se9.trans st9)) _ _ em9) (st9 _ _ er9) (by simp [keysL]) (fun q hq => by cases hq) (fun v hv => by cases hv) (ItsR.one (.inr ⟨_, ((se9.trans st9) _ _ eu9), rfl⟩)) (by simp) (by simp) (by simp) (.inr (.inr (.inr rfl)))
    have q9 := (q8).snoc S9 b9
    have Z9 : Same TS T9 := Z8.trans S9
    clear S9 b9 sb9 sc9 sf9 se9 st9
    walk_at "rd"
    refine rd_dnew fun D10 B10 _ sb10 eb10 _ => ?_
    walk_at "rd"
    refine rd_newL (by simp) fun m10 C10 _ sc10 em10 _ => ?_
    walk_at "rd"
    refine rd_newT (by simp) fun u10 F10 _ sf10 eu10 _ => ?_
    walk_at "rd"
    refine rd_newL (by simp) fun r10 E10 _ se10 er10 _ => ?_
    walk_at "rd"
    refine rd_newT (by simp) fun t10 T10 _ st10 et10 _ => ?_
    have S10 : Same T9 T10 := (sb10.trans (sc10.trans (sf10.trans (se10.trans st10))))
    have b10 : BadAt P w K C_Sheet C_BadSheet T10 t10 := bad_items (ls := []) (mv := []) (xs := [.ref u10]) (bs := [_]) et10 ((sc10.trans (sf10.trans (se10.trans st10))) _ _ eb10) ((sf10.trans (se10.trans st10)) _ _ em10) (st10 _ _ er10) (by simp [keysL]) (fun q hq => by cases hq) (fun v hv => by cases hv) (ItsR.one (.inl ⟨_, ((se10.trans st10) _ _ eu10), by simp, by simp [Sc, tyS], rfl⟩)) (by simp) (by simp) (by simp) (.inr (.inr (.inr (by decide +kernel))))
    have q10 := (q9).snoc S10 b10
    have Z10 : Same TS T10 := Z9.trans S10
    clear S10 b10 sb10 sc10 sf10 se10 st10
    walk_at "rd"
    refine rd_newL (by simp) fun D11 B11 _ sb11 eb11 _ => ?_
    walk_at "rd"
    refine rd_newL (by simp) fun m11 C11 _ sc11 em11 _ => ?_
    walk_at "rd"
    refine rd_newL (by simp) fun r11 E11 _ se11 er11 _ => ?_
    walk_at "rd"
    refine rd_newT (by simp) fun t11 T11 _ st11 et11 _ => ?_
    have S11 : Same T10 T11 := (sb11.trans (sc11.trans (se11.trans st11)))
    have b11 : BadAt P w K C_Sheet C_BadSheet T11 t11 := bad_list et11 ((sc11.trans (se11.trans st11)) _ _ eb11)
    have q11 := (q10).snoc S11 b11
    have Z11 : Same TS T11 := Z10.trans S11
    clear S11 b11 sb11 sc11 se11 st11
    walk_at "rd"
    refine rd_dnew fun D12 B12 _ sb12 eb12 _ => ?_
    walk_at "rd"
    refine rd_newL (by simp) fun r12 E12 _ se12 er12 _ => ?_
    walk_at "rd"
    refine rd_newT (by simp) fun t12 T12 _ st12 et12 _ => ?_
    have S12 : Same T11 T12 := (sb12.trans (se12.trans st12))
    have b12 : BadAt P w K C_Sheet C_BadSheet T12 t12 := bad_seq (ls := []) et12 ((se12.trans st12) _ _ eb12) (bM := false) (.inr ⟨rfl, rfl⟩) (bR := true) (.inl ⟨_, _, rfl, .inl (SqL.of (st12 _ _ er12)), rfl⟩) rfl
    have q12 := (q11).snoc S12 b12
    have Z12 : Same TS T12 := Z11.trans S12
    clear S12 b12 sb12 se12 st12
    walk_at "rd"
    refine rd_dnew fun D13 B13 _ sb13 eb13 _ => ?_
    walk_at "rd"
    refine rd_newL (by simp) fun m13 C13 _ sc13 em13 _ => ?_
    walk_at "rd"
    refine rd_newT (by simp) fun t13 T13 _ st13 et13 _ => ?_
    have S13 : Same T12 T13 := (sb13.trans (sc13.trans st13))
    have b13 : BadAt P w K C_Sheet C_BadSheet T13 t13 := bad_seq (ls := []) et13 ((sc13.trans st13) _ _ eb13) (bM := true) (.inl ⟨_, _, rfl, .inl (SqL.of (st13 _ _ em13)), rfl⟩) (bR := false) (.inr ⟨rfl, rfl⟩) rfl
    have q13 := (q12).snoc S13 b13
    have Z13 : Same TS T13 := Z12.trans S13
    clear S13 b13 sb13 sc13 st13
    walk_at "rd"
    refine rd_dispB fun D14 A14 p14 a14 ea14 => ?_
    walk_at "rd"
    refine rd_dB ea14 fun o14 B14 ok14 eB14 eb14 => ?_
    have sb14 : Same T13 B14 := by rw [eB14]; exact Same.mut a14 p14
    walk_at "rd"
    refine rd_newL (by simp) fun m14 C14 _ sc14 em14 _ => ?_
    walk_at "rd"
    refine rd_newL (by simp) fun r14 E14 _ se14 er14 _ => ?_
    walk_at "rd"
    refine rd_newT (by simp) fun t14 T14 _ st14 et14 _ => ?_
    have S14 : Same T13 T14 := (sb14.trans (sc14.trans (se14.trans st14)))
    have b14 : BadAt P w K C_Sheet C_BadSheet T14 t14 := bad_bool et14 ((sc14.trans (se14.trans st14)) _ _ eb14) ok14 ((se14.trans st14) _ _ em14) (st14 _ _ er14)
    have q14 := (q13).snoc S14 b14
    have Z14 : Same TS T14 := Z13.trans S14
    clear S14 b14 sb14 sc14 se14 st14
    walk_at "rd"
    refine rd_dnew fun D15 B15 _ sb15 eb15 _ => ?_
    walk_at "rd"
    refine rd_listRg0 ?_
    walk_at "rd"
    refine ⟨61, rfl, ⟨by decide, by decide, by decide, by decide, by decide⟩, fun m15 hm15 => ?_⟩
    obtain ⟨C15, eC15⟩ : ∃ C, C = upd B15 m15 (.lst (rgV 0 61)) := ⟨_, rfl⟩
    rw [← eC15]
    have em15 : C15 m15 = some (.lst (rgV 0 61)) := by rw [eC15]; exact upd_same
    have sc15 : Same B15 C15 := by rw [eC15]; exact Same.new (Same.refl _) hm15
    walk_at "rd"
    refine rd_newL (by simp) fun r15 E15 _ se15 er15 _ => ?_
    walk_at "rd"
    refine rd_newT (by simp) fun t15 T15 _ st15 et15 _ => ?_
    have S15 : Same T14 T15 := (sb15.trans (sc15.trans (se15.trans st15)))
    have b15 : BadAt P w K C_Sheet C_BadSheet T15 t15 := bad_items (ls := []) (mv := rgV 0 61) (xs := []) (bs := []) et15 ((sc15.trans (se15.trans st15)) _ _ eb15) ((se15.trans st15) _ _ em15) (st15 _ _ er15) (by simp [keysL]) (fun q hq => by cases hq) (fun v hv => by obtain ⟨n, _, rfl⟩ := List.mem_map.mp hv; rfl) ItsR.nil (by simp) (by decide +kernel) (by simp) (.inl (by decide +kernel))
    have q15 := (q14).snoc S15 b15
    have Z15 : Same TS T15 := Z14.trans S15
    clear S15 b15 sb15 sc15 se15 st15
    walk_at "rd"
    refine rd_rgR1 (by decide) (by decide) ?_
    refine lcR_rng (fun W j H' => Same T15 H' ∧ ∃ ts : List Addr, H' W = some (.lst (ts.map V.ref)) ∧ Paired (fun (p : Addr) (kv : Key × V) => H' p = some (.tup [kV kv.1, kv.2])) ts (dV (evL j))) (fun W H' _ s e _ => ⟨s, [], e, .nil⟩) ?_ ?_
    · rintro W j Ha hW hj ⟨s, ts, eW, pr⟩
      have hj : j < 31 := hj
      have lts : ts.length = j := by rw [Paired.length pr, dV_len]; unfold evL; rw [List.length_map, List.length_range]
      walk_at "rd"
      refine ⟨rfl, ?_⟩
      walk_at "rd"
      refine rd_newT (by simp) fun u Hb _ sb eu _ => ?_
      refine rd_lcE (sb _ _ eW) (by rw [List.length_map]; omega) fun Hc eHc eWc => ?_
      have kc : ∀ p xs, Hb p = some (.tup xs) → Hc p = some (.tup xs) := fun p xs e => by
        rw [eHc]
        exact keep_lst (sb _ _ eW) _ _ e
      refine ⟨by rw [eHc]; exact Same.mut (s.trans sb) hW, ts ++ [u], by rw [eWc, List.map_append]; rfl, ?_⟩
      rw [evL_succ, show dV (evL j ++ [(2 * (j : Int), V.str "a")]) = dV (evL j) ++ [(Sum.inl (2 * (j : Int)), V.str "a")] from List.map_append ..]
      refine Paired.snoc (L2.Paired.mapP pr fun p kv e => kc _ _ (sb _ _ e)) (kc _ _ ?_)
      rw [eu]
      show some (HO.tup [V.int (2 * (0 + (j : Int))), _]) = some (HO.tup [V.int (2 * (j : Int)), _])
      rw [Int.zero_add]
    rintro W16 A16 hW16 ⟨sA16, ts16, eW16, pr16⟩
    walk_at "rd"
    refine ⟨W16, ts16, _, rfl, SqL.of eW16, L2.Paired.mapP pr16 fun p kv e => SqT.of e, fun D16 hD16 => ?_⟩
    rw [show mergeK [] (dV (evL (((31 : Int)).toNat))) = dV (evL 31) from dV_merge (evL_nodup 31)]
    obtain ⟨B16, eB16⟩ : ∃ B, B = upd A16 D16 (.dK (dV (evL 31))) := ⟨_, rfl⟩
    rw [← eB16]
    have eb16 : B16 D16 = some (.dK (dV (evL 31))) := by rw [eB16]; exact upd_same
    have sb16 : Same T15 B16 := by rw [eB16]; exact Same.new sA16 hD16
    clear eB16 eW16 pr16 sA16
    walk_at "rd"
    refine rd_newL (by simp) fun m16 C16 _ sc16 em16 _ => ?_
    walk_at "rd"
    refine rd_newT (by simp) fun u16 F16 _ sf16 eu16 _ => ?_
    walk_at "rd"
    refine rd_newL (by simp) fun r16 E16 _ se16 er16 _ => ?_
    walk_at "rd"
    refine rd_newT (by simp) fun t16 T16 _ st16 et16 _ => ?_
    have S16 : Same T15 T16 := (sb16.trans (sc16.trans (sf16.trans (se16.trans st16))))
    have b16 : BadAt P w K C_Sheet C_BadSheet T16 t16 := bad_many (ls := evL 31) (ms := []) (rs := [(0, 70)]) et16 ((sc16.trans (sf16.trans (se16.trans st16))) _ _ eb16) (evL_nodup 31) (evL_ok (by decide)) ((sf16.trans (se16.trans st16)) _ _ em16) (fun m hm => by cases hm) (st16 _ _ er16) (IvP.nil.snoc (r := (0, 70)) ((se16.trans st16) _ _ eu16)) (fun r hr => by rw [List.mem_singleton.mp hr]; decide) (by decide) (fun gs c1 c2 => by rw [canon_uniq c1 (oddG_canon (n := 31) (top := 70) (by decide) (by decide)) (fun k => (c2 k).trans (oddG_in (by decide) (by decide) k).symm)]; decide)
    have q16 := (q15).snoc S16 b16
    have Z16 : Same TS T16 := Z15.trans S16
    clear S16 b16 sb16 sc16 sf16 se16 st16
    walk_at "rd"
    refine rd_newT (by simp) fun tt TT _ sTT eTT _ => ?_
    have qT := q16.mono sTT
    have ZT := Z16.trans sTT
    refine rd_tpR (SqT.of eTT) ?_
    refine forR_tup (xs := [V.ref t0, V.ref t1, V.ref t2, V.ref t3, V.ref t4, V.ref t5, V.ref t6, V.ref t7, V.ref t8, V.ref t9, V.ref t10, V.ref t11, V.ref t12, V.ref t13, V.ref t14, V.ref t15, V.ref t16]) (fun j σ H' => ∃ v14 v15, Same TT H' ∧ σ = [some (.ref sc), some (.int sh), v2, v3, v4, some (.ref t), some (.int ky), v7, v8, v9, some (.ref x), some (.ref Gl), some (.ref Dl), some (.ref y), v14, v15]) (fun j σ H' ⟨_, _, s, _⟩ => SqT.of (s _ _ eTT)) ⟨_, _, Same.refl _, rfl⟩ ?_ ?_
    · rintro j y2 σ HA hy ⟨v14, v15, sA, rfl⟩
      obtain ⟨t, ht, rfl⟩ : ∃ t, t ∈ [t0, t1, t2, t3, t4, t5, t6, t7, t8, t9, t10, t11, t12, t13, t14, t15, t16] ∧ y2 = V.ref t := by
        have hm := List.mem_of_getElem? hy
        obtain ⟨t, ht, e⟩ := List.mem_map.mp (show y2 ∈ [t0, t1, t2, t3, t4, t5, t6, t7, t8, t9, t10, t11, t12, t13, t14, t15, t16].map V.ref from hm)
        exact ⟨t, ht, e.symm⟩
      obtain ⟨L, M9, R9, e9, k9⟩ := (qT t ht).mono sA
      walk_at "rd"
      refine rd_try ?_
      walk_at "rd"
      refine rd_ixT e9 rfl ?_
      walk_at "rd"
      refine rd_ixT e9 rfl ?_
      walk_at "rd"
      refine rd_ixT e9 rfl ?_
      walk_at "rd"
      refine rd_make fun z dz HB sB hz ez => ?_
      refine k9 HA HB z dz _ _ (Same.refl _) sB hz ez fun HC sC => ?_
      refine rd_caught T.x_BadSheet.e fun a ha => ?_
      walk_at "rd"
      exact ⟨_, _, sA.trans sC, rfl⟩
    · rintro σ HA ⟨v14, v15, sA, rfl⟩
      exact ⟨_, _, ZT.trans sA, rfl⟩
  rintro σ HD ⟨v14, v15, sD, rfl⟩
  have sx := sx.mono sD
  walk_at "rd"
  refine ⟨fun σ H' => ∃ v14 v15, Same HD H' ∧ σ = [some (.ref sc), some (.int sh), v2, v3, v4, some (.ref t), some (.int ky), v7, v8, v9, some (.ref x), some (.ref Gl), some (.ref Dl), some (.ref y), v14, v15], ?_, ?_⟩
  · walk_at "rd"
    refine rd_newT (by simp) fun tt TT _ sTT eTT _ => ?_
    refine rd_tpR (SqT.of eTT) ?_
    refine forR_tup (xs := [V.int (-1), .int 1000000, .str "a", .non, .bl true]) (fun j σ H' => ∃ v14 v15, Same TT H' ∧ σ = [some (.ref sc), some (.int sh), v2, v3, v4, some (.ref t), some (.int ky), v7, v8, v9, some (.ref x), some (.ref Gl), some (.ref Dl), some (.ref y), v14, v15]) (fun j σ H' ⟨_, _, s, _⟩ => SqT.of (s _ _ eTT)) ⟨_, _, Same.refl _, rfl⟩ ?_ ?_
    · rintro j y2 σ HA hy ⟨v14, v15, sA, rfl⟩
      have hb : Sc y2 ∧ keyB y2 = false := by
        have hm := List.mem_of_getElem? hy
        simp only [List.mem_cons, List.not_mem_nil, or_false] at hm
        rcases hm with rfl | rfl | rfl | rfl | rfl <;> exact ⟨rfl, by decide⟩
      have sxA := sx.mono (sTT.trans sA)
      walk_at "rd"
      refine rd_try ?_
      walk_at "rd"
      refine ⟨x, dx, _, rfl, sxA.ex, rfl, ?_⟩
      walk_at "rd"
      refine ⟨x, _, rfl, hb.1, hb.2, ?_⟩
      refine rd_caught T.x_BadKey.e fun a ha => ?_
      walk_at "rd"
      exact ⟨_, _, sA, rfl⟩
    · rintro σ HA ⟨v14, v15, sA, rfl⟩
      exact ⟨_, _, sTT.trans sA, rfl⟩
  rintro σ HE ⟨v14, v15, sE, rfl⟩
  walk_at "rd"
  refine rd_rgR1 (by decide) (by decide) ?_
  refine lcR_rng (fun W j H' => Same HE H' ∧ ∃ ts : List Addr, H' W = some (.lst (ts.map V.ref)) ∧ Paired (fun (p : Addr) (kv : Key × V) => H' p = some (.tup [kV kv.1, kv.2])) ts (dV (evL j))) (fun W H' _ s e _ => ⟨s, [], e, .nil⟩) ?_ ?_
  · rintro W j Ha hW hj ⟨s, ts, eW, pr⟩
    have hj : j < 29 := hj
    have lts : ts.length = j := by rw [Paired.length pr, dV_len]; unfold evL; rw [List.length_map, List.length_range]
    walk_at "rd"
    refine ⟨rfl, ?_⟩
    walk_at "rd"
    refine rd_newT (by simp) fun u Hb _ sb eu _ => ?_
    refine rd_lcE (sb _ _ eW) (by rw [List.length_map]; omega) fun Hc eHc eWc => ?_
    have kc : ∀ p xs, Hb p = some (.tup xs) → Hc p = some (.tup xs) := fun p xs e => by
      rw [eHc]
      exact keep_lst (sb _ _ eW) _ _ e
    refine ⟨by rw [eHc]; exact Same.mut (s.trans sb) hW, ts ++ [u], by rw [eWc, List.map_append]; rfl, ?_⟩
    rw [evL_succ, show dV (evL j ++ [(2 * (j : Int), V.str "a")]) = dV (evL j) ++ [(Sum.inl (2 * (j : Int)), V.str "a")] from List.map_append ..]
    refine Paired.snoc (L2.Paired.mapP pr fun p kv e => kc _ _ (sb _ _ e)) (kc _ _ ?_)
    rw [eu]
    show some (HO.tup [V.int (2 * (0 + (j : Int))), _]) = some (HO.tup [V.int (2 * (j : Int)), _])
    rw [Int.zero_add]
  rintro W29 A29 hW29 ⟨sA29, ts29, eW29, pr29⟩
  walk_at "rd"
  refine ⟨W29, ts29, _, rfl, SqL.of eW29, L2.Paired.mapP pr29 fun p kv e => SqT.of e, fun D29 hD29 => ?_⟩
  rw [show mergeK [] (dV (evL (((29 : Int)).toNat))) = dV (evL 29) from dV_merge (evL_nodup 29)]
  obtain ⟨B29, eB29⟩ : ∃ B, B = upd A29 D29 (.dK (dV (evL 29))) := ⟨_, rfl⟩
  rw [← eB29]
  have eb29 : B29 D29 = some (.dK (dV (evL 29))) := by rw [eB29]; exact upd_same
  have sb29 : Same HE B29 := by rw [eB29]; exact Same.new sA29 hD29
  clear eB29 eW29 pr29 sA29
  walk_at "rd"
  refine rd_newL (by simp) fun m0 C1 _ sc1 em1 _ => ?_
  walk_at "rd"
  refine rd_newT (by simp) fun u1 F1 _ sf1 eu1 _ => ?_
  walk_at "rd"
  refine rd_newL (by simp) fun r1 E1 _ se1 er1 _ => ?_
  walk_at "rd"
  refine rd_make fun z dz HF sF hz ez => ?_
  have sBF := sc1.trans (sf1.trans (se1.trans sF))
  refine ⟨z, dz, D29, m0, r1, E1, evL 29, [], _, [(0, 60)], rfl, sF, hz, ez, sBF _ _ eb29, evL_nodup 29, evL_ok (by decide), .inl (SqL.of ((sf1.trans (se1.trans sF)) _ _ em1)), (fun m hm => by cases hm), .inl (SqL.of (sF _ _ er1)), IvP.nil.snoc (r := (0, 60)) ((se1.trans sF) _ _ eu1), (fun r hr => by rw [List.mem_singleton.mp hr]; decide), by decide, fun HG D3 G3 ls3 ys3 gs3 sG e1 e2 pm3 srt eG iv can mem3 le h0 => ⟨rfl, ?_⟩⟩
  have eg : gs3 = oddG 29 60 := canon_uniq can (oddG_canon (by decide) (by decide)) fun k => (mem3 k).trans (oddG_in (n := 29) (top := 60) (by decide) (by decide) k).symm
  subst eg
  walk_at "rd"
  refine rd_fld e1 T.cl_Sheet T.na_Sheet_gone (sh_gone D3 G3) ?_
  walk_at "rd"
  refine rd_lenT eG ?_
  rw [iv.1, oddG_len 29 60 (by decide)]
  walk_at "rd"
  refine rd_iteT rfl ?_
  walk_at "rd"
  refine rd_dnew fun Da HH hDa sHH eDa _ => ?_
  walk_at "rd"
  refine rd_make fun za dza HI sI hza eza => ?_
  refine ⟨za, dza, Da, D_Sheet_0, D_Sheet_1, HH, [], [], [], [], rfl, sI, hza, eza, sI _ _ eDa, by simp [keysL], (fun q hq => by cases hq), .inr (emT_sq T.e_D_Sheet_0 _), (fun m hm => by cases hm), .inr (emT_sq T.e_D_Sheet_1 _), IvP.nil, (fun r hr => by cases hr), by decide, fun HJ D4 G4 ls4 ys4 gs4 sJ f1 f2 pm4 srt4 fG iv4 can4 mem4 le4 h04 => ⟨rfl, ?_⟩⟩
  walk_at "rd"
  refine rd_dnew fun Db HK hDb sK eDb _ => ?_
  walk_at "rd"
  refine rd_newT (by simp) fun ta HL _ sL eta _ => ?_
  walk_at "rd"
  refine rd_newT (by simp) fun tb HM _ sM etb _ => ?_
  walk_at "rd"
  refine rd_make fun zb dzb HN sN hzb ezb => ?_
  have sKN := sL.trans (sM.trans sN)
  refine ⟨zb, dzb, Db, ta, tb, HM, [], [], [], [], rfl, sN, hzb, ezb, sKN _ _ eDb, by simp [keysL], (fun q hq => by cases hq), .inr (SqT.of ((sM.trans sN) _ _ eta)), (fun m hm => by cases hm), .inr (SqT.of (sN _ _ etb)), IvP.nil, (fun r hr => by cases hr), by decide, fun HO D5 G5 ls5 ys5 gs5 sO g1 g2 pm5 srt5 gG iv5 can5 mem5 le5 h05 => ⟨rfl, ?_⟩⟩
  obtain rfl : ls4 = [] := List.Perm.eq_nil pm4
  obtain rfl : ls5 = [] := List.Perm.eq_nil pm5
  have g45 : gs4 = gs5 := canon_uniq can4 can5 fun k => (mem4 k).trans (mem5 k).symm
  subst g45
  have sJO := sK.trans ((sL.trans sM).trans sO)
  refine rd_eqO (sJO _ _ f1) g1 ?_
  refine ⟨za, _, [], gs4, rfl, ⟨dza, D4, G4, ys4, sJO _ _ f1, sJO _ _ f2, srt4, (fun q hq => by cases hq), sJO _ _ fG, iv4.mono sJO, can4⟩, .inl ⟨zb, gs4, rfl, ⟨dzb, D5, G5, ys5, g1, g2, srt5, (fun q hq => by cases hq), gG, iv5, can5⟩, fun HP sP => ⟨_, rfl, ?_⟩⟩⟩
  rw [decide_eq_true (show gs4 = gs4 from rfl)]
  exact k HP
end
end Sl
namespace Sl
open PySem L2 C8 StX
section
variable {K : PySem.W.Frag} {h : Heap} {mg : Str → Option Value} {x qual : Str} {st : Stmt} {f C : Addr} {oc dV kV doc pm cdv ct : Value} {od an : Option Addr} {osl : Array (Option Value)}
theorem dmk (X : K.In h) (G : h.Ns mainGlobals mg) (a : PySem.W.nsIn K mainGlobals x = some (some (.ref f))) (l : K.lookup f = some ⟨oc, od, .func (PySem.W.fnOf x x (fnArgs st) (fnBody st) (fnScope st) .none kV doc pm an cdv ct), osl⟩)
    (c : PySem.W.codeIn K cdv x = true) (k : PySem.W.keepIn K (.ref f) = true) : ∃ f fd, C8.Def K mg x st f fd ∧ fd.defaults = .none :=
  ⟨f, _, ⟨⟨_, _, _, _, _, _, _, _, _, _, rfl, l, c⟩, PySem.W.mg_of X G a, k⟩, rfl⟩
theorem mmk (a : PySem.W.findIn K (.ref C) x = some (some (.ref f))) (i : PySem.W.isFn K (.ref f) = true) (l : K.lookup f = some ⟨oc, od, .func (PySem.W.fnOf x qual (fnArgs st) (fnBody st) (fnScope st) .none kV doc pm an cdv ct), osl⟩)
    (c : PySem.W.codeIn K cdv qual = true) (k : PySem.W.keepIn K (.ref f) = true) (n : PySem.W.fnIn K f = true) : ∃ f fd, C8.Fun K x qual st f fd ∧ fd.defaults = .none ∧ Meth K C x f ∧ PySem.W.fnIn K f = true :=
  ⟨f, _, ⟨_, _, _, _, _, _, _, _, _, _, rfl, l, c⟩, rfl, ⟨a, i, k⟩, n⟩
theorem mkmk (m : PySem.W.makesIn K C = true) (a : PySem.W.findIn K (.ref C) "__init__" = some (some (.ref f))) (i : PySem.W.isFn K (.ref f) = true) (l : K.lookup f = some ⟨oc, od, .func (PySem.W.fnOf "__init__" qual (fnArgs st) (fnBody st) (fnScope st) .none kV doc pm an cdv ct), osl⟩)
    (c : PySem.W.codeIn K cdv qual = true) (k : PySem.W.keepIn K (.ref C) = true) : ∃ f fd, C8.Fun K "__init__" qual st f fd ∧ fd.defaults = .none ∧ Mk K C f :=
  ⟨f, _, ⟨_, _, _, _, _, _, _, _, _, _, rfl, l, c⟩, rfl, ⟨m, a, i, k⟩⟩
theorem kit_up {D : Addr} (h1 : PySem.W.isClsIn K D = true) (h2 : PySem.W.typeIn K (.ref D) = some (.type "type")) (h3 : PySem.W.subIn K (.ref C) (.ref D) = some true) : PySem.W.kitOne K (.ref C) (.ref D) = some true := by
  have e2 : ((PySem.W.clsIn K D).isSome && PySem.W.typeIn K (.ref D) == some (.type "type")) = true := by
    have h1' : (PySem.W.clsIn K D).isSome = true := h1
    rw [h1', h2] <;> rfl
  unfold PySem.W.kitOne
  by_cases c : ((Value.ref C) == (Value.ref D)) = true
  · rw [if_pos c]
  · rw [if_neg c]
    show (if ((PySem.W.clsIn K D).isSome && PySem.W.typeIn K (.ref D) == some (.type "type")) = true then PySem.W.subIn K (.ref C) (.ref D) else none) = some true
    rw [if_pos e2]
    exact h3
theorem conk {z : Str} {t : Tok} (a : PySem.W.findIn K (.ref C) x = some (some (.str z t))) (g : PySem.W.specialIn K (.str z t) "__get__" = some none) (c : PySem.W.copiedNames.contains x = false) : ∃ u, Con K C x (.str z) u := ⟨_, a, ⟨t, rfl⟩, g, c⟩
theorem nak (a : PySem.W.findIn K (.ref C) x = some none) : NoAttr K C x := a
theorem gmk {n : Int} {t : Tok} (X : K.In h) (G : h.Ns mainGlobals mg) (a : PySem.W.nsIn K mainGlobals x = some (some (.int n t))) : ∃ u, mg x = some u ∧ RelV (.int n) u := ⟨_, PySem.W.mg_of X G a, t, rfl⟩
end
theorem mkmk_Sheet_init {K : PySem.W.Frag} {C f T e0 e1 : Addr} {oc kV doc pm cdv ct tc : Value} {od an td : Option Addr} {osl tsl : Array (Option Value)} {n : Nat} (m : PySem.W.makesIn K C = true) (a : PySem.W.findIn K (.ref C) "__init__" = some (some (.ref f))) (i : PySem.W.isFn K (.ref f) = true)
    (l : K.lookup f = some ⟨oc, od, .func (PySem.W.fnOf "__init__" "Sheet.__init__" (fnArgs s_Sheet_init) (fnBody s_Sheet_init) (fnScope s_Sheet_init) (.ref T) kV doc pm an cdv ct), osl⟩) (c : PySem.W.codeIn K cdv "Sheet.__init__" = true) (kc : PySem.W.keepIn K (.ref C) = true) (k : PySem.W.keepIn K (.ref f) = true) (lT : K.lookup T = some ⟨tc, td, .seq #[.ref e0, .ref e1] n, tsl⟩) :
    ∃ f fd, C8.Fun K "__init__" "Sheet.__init__" s_Sheet_init f fd ∧ ((∃ ds, Vals [] ds ∧ Binds K fd P_Sheet_init ds) ∧ ∃ ds, Vals [.ref e0, .ref e1] ds ∧ Binds K fd P_Sheet_init ds) ∧ Mk K C f := by
  have F : FunD K "__init__" "Sheet.__init__" (fnArgs s_Sheet_init) (fnBody s_Sheet_init) (fnScope s_Sheet_init) [.ref e0, .ref e1] [] f (PySem.W.fnOf "__init__" "Sheet.__init__" (fnArgs s_Sheet_init) (fnBody s_Sheet_init) (fnScope s_Sheet_init) (.ref T) kV doc pm an cdv ct) :=
    ⟨⟨oc, od, .ref T, kV, doc, pm, an, cdv, ct, osl, rfl, l, c, .inr ⟨by simp, T, _, [.ref e0, .ref e1], n, rfl, lT, rfl, (.cons rfl (.cons rfl .nil))⟩, .inl rfl⟩, k⟩
  refine ⟨f, _, ⟨_, _, _, _, _, _, _, _, _, _, rfl, l, c⟩, ⟨?_, ?_⟩, ⟨m, a, i, kc⟩⟩
  · exact F.binds1 4 2 (by simp) rfl fun T kV doc pm an cdv ct us its h1 h2 => match us, its, h1, h2 with | [_, _, _, _], [_, _], _, _ => ⟨_, rfl, rfl⟩
  · exact F.binds1 2 0 (by simp) rfl fun T kV doc pm an cdv ct us its h1 h2 => match us, its, h1, h2 with | [_, _], [_, _], _, _ => ⟨_, rfl, rfl⟩
end Sl
namespace Sl
open PySem L2 C8 StX
theorem fin {P : Program} {w : World} {K : PySem.W.Frag} {h : Heap} {mg : Str → Option Value} {fa C_Sheet C_BadSheet C_BadKey D_Sheet_0 D_Sheet_1 : Addr} (T : TX K mg C_Sheet C_BadSheet C_BadKey D_Sheet_0 D_Sheet_1) (X : K.In h) (G : h.Ns mainGlobals mg) (hfa : mg "law" = some (.ref fa)) :
    ∃ fd : FuncData, (∀ (s : Shared) (v : Value), BindsTo s fd ⟨[v], []⟩ [("_law_script", v)]) ∧ ∀ base : Heap, K.In base → base.Ns mainGlobals mg → FnOk P w K mg base C8.CX0 6 fa fd ["_law_script"] (spLaw K) := by
  obtain ⟨f, fd, D, dn⟩ := T.d_law
  have e := hfa.symm.trans D.mgf
  cases e
  refine ⟨fd, fun s v => ?_, fun base _ _ => fn_law T D⟩
  obtain ⟨oc, od, dV, kV, doc, pm, an, cdv, ct, osl, rfl, lk, hcd⟩ := D.fn.ex
  have e : dV = .none := dn
  subst e
  exact .of_eq rfl
end Sl
open PySem PySem.W PyProof.Rows
set_option maxRecDepth 100000 in
set_option maxHeartbeats 0 in
theorem PySem.Challenge.cw_siltstore_k01_whole_sheets_holds : PySem.Challenge.rw_siltstore_k01_whole_sheets.Holds := by
  refine headQ ?_
  k_fill
  refine L2.walk_ofK (sp := Sl.spLaw) (CX := C8.CX0) (n := 63) (k := 6) (x := "_law_script") rfl (by decide) rfl ⟨rfl, by decide, by decide⟩ (fun w h Y => PySem.W.kIn_of Y) ?F (fun _ _ a ns hl _ hS => ⟨a, ns, rfl, hS, hl, fun _ => rfl⟩) fun _ _ _ _ z => z
  case F =>
    intro w mg fa h KX G hmg
    refine' Sl.fin ?T KX G hmg
    case T =>
      refine' Sl.TX.mk (PySem.W.mg_of KX G ?q1) (PySem.W.mg_of KX G ?q2) (PySem.W.mg_of KX G ?q3) (Sl.dmk KX G ?q4 ?q5 ?q6 ?q7) (Sl.dmk KX G ?q8 ?q9 ?q10 ?q11) (Sl.dmk KX G ?q12 ?q13 ?q14 ?q15) (Sl.dmk KX G ?q16 ?q17 ?q18 ?q19) (Sl.dmk KX G ?q20 ?q21 ?q22 ?q23) (Sl.dmk KX G ?q24 ?q25 ?q26 ?q27) (Sl.dmk KX G ?q28 ?q29 ?q30 ?q31) (Sl.mkmk_Sheet_init ?q32 ?q33 ?q34 ?q35 ?q36 ?q37 ?q38 ?q39) (?q40) (?q41) (Sl.mmk ?q42 ?q43 ?q44 ?q45 ?q46 ?q47) (Sl.mmk ?q48 ?q49 ?q50 ?q51 ?q52 ?q53) (Sl.mmk ?q54 ?q55 ?q56 ?q57 ?q58 ?q59) (Sl.mmk ?q60 ?q61 ?q62 ?q63 ?q64 ?q65) (Sl.dmk KX G ?q66 ?q67 ?q68 ?q69) (Sl.dmk KX G ?q70 ?q71 ?q72 ?q73) (Sl.dmk KX G ?q74 ?q75 ?q76 ?q77) (Sl.dmk KX G ?q78 ?q79 ?q80 ?q81) (⟨?q82, ?q83, ?q84, ?q85⟩) (⟨?q86, ?q87, ?q88, ?q89⟩) (Sl.nak ?q90) (Sl.nak ?q91) (?q92) (fun n => Sl.kit_not ?q93 ?q94) (⟨?q95, ?q96, ?q97, ?q98, ?q99, ?q100⟩) (⟨?q101, ?q102, ?q103, ?q104, ?q105, ?q106⟩) (Sl.gmk KX G ?q107) (Sl.gmk KX G ?q108) (Sl.gmk KX G ?q109) (PySem.W.mg_none_of KX G ?q110) (PySem.W.mg_none_of KX G ?q111) (PySem.W.mg_none_of KX G ?q112) (PySem.W.mg_none_of KX G ?q113) (PySem.W.mg_none_of KX G ?q114) (PySem.W.mg_none_of KX G ?q115) (PySem.W.mg_none_of KX G ?q116) (PySem.W.mg_none_of KX G ?q117) (PySem.W.mg_none_of KX G ?q118) (PySem.W.mg_none_of KX G ?q119) (PySem.W.mg_none_of KX G ?q120) (PySem.W.mg_none_of KX G ?q121) (PySem.W.mg_none_of KX G ?q122) (PySem.W.mg_none_of KX G ?q123) (PySem.W.mg_none_of KX G ?q124) (PySem.W.mg_none_of KX G ?q125) (PySem.W.mg_none_of KX G ?q126) (PySem.W.mg_none_of KX G ?q127) (PySem.W.mg_none_of KX G ?q128) (PySem.W.mg_none_of KX G ?q129)
      (case q1 => k_is)
      (case q2 => k_is)
      (case q3 => k_is)
      (case q4 => k_is)
      (case q5 => k_is)
      (case q6 => k_is)
      (case q7 => k_is)
      (case q8 => k_is)
      (case q9 => k_is)
      (case q10 => k_is)
      (case q11 => k_is)
      (case q12 => k_is)
      (case q13 => k_is)
      (case q14 => k_is)
      (case q15 => k_is)
      (case q16 => k_is)
      (case q17 => k_is)
      (case q18 => k_is)
      (case q19 => k_is)
      (case q20 => k_is)
      (case q21 => k_is)
      (case q22 => k_is)
      (case q23 => k_is)
      (case q24 => k_is)
      (case q25 => k_is)
      (case q26 => k_is)
      (case q27 => k_is)
      (case q28 => k_is)
      (case q29 => k_is)
      (case q30 => k_is)
      (case q31 => k_is)
      (case q32 => k_is)
      (case q33 => k_is)
      (case q34 => k_is)
      (case q35 => k_is)
      (case q36 => k_is)
      (case q37 => k_is)
      (case q38 => k_is)
      (case q39 => k_is)
      (case q40 => first | k_is | kernel_rfl)
      (case q41 => first | k_is | kernel_rfl)
      (case q42 => k_is)
      (case q43 => k_is)
      (case q44 => k_is)
      (case q45 => k_is)
      (case q46 => k_is)
      (case q47 => k_is)
      (case q48 => k_is)
      (case q49 => k_is)
      (case q50 => k_is)
      (case q51 => k_is)
      (case q52 => k_is)
      (case q53 => k_is)
      (case q54 => k_is)
      (case q55 => k_is)
      (case q56 => k_is)
      (case q57 => k_is)
      (case q58 => k_is)
      (case q59 => k_is)
      (case q60 => k_is)
      (case q61 => k_is)
      (case q62 => k_is)
      (case q63 => k_is)
      (case q64 => k_is)
      (case q65 => k_is)
      (case q66 => k_is)
      (case q67 => k_is)
      (case q68 => k_is)
      (case q69 => k_is)
      (case q70 => k_is)
      (case q71 => k_is)
      (case q72 => k_is)
      (case q73 => k_is)
      (case q74 => k_is)
      (case q75 => k_is)
      (case q76 => k_is)
      (case q77 => k_is)
      (case q78 => k_is)
      (case q79 => k_is)
      (case q80 => k_is)
      (case q81 => k_is)
      (case q82 => k_is)
      (case q83 => k_is)
      (case q84 => k_is)
      (case q85 => k_is)
      (case q86 => k_is)
      (case q87 => k_is)
      (case q88 => k_is)
      (case q89 => k_is)
      (case q90 => k_is)
      (case q91 => k_is)
      (case q92 => k_is)
      (case q93 => k_is)
      (case q94 => k_is)
      (case q95 => k_exc)
      (case q96 => k_is)
      (case q97 => k_is)
      (case q98 => k_is)
      (case q99 => k_is)
      (case q100 => first | rfl | k_is)
      (case q101 => k_exc)
      (case q102 => k_is)
      (case q103 => k_is)
      (case q104 => k_is)
      (case q105 => k_is)
      (case q106 => first | rfl | k_is)
      (case q107 => k_is)
      (case q108 => k_is)
      (case q109 => k_is)
      (case q110 => k_is)
      (case q111 => k_is)
      (case q112 => k_is)
      (case q113 => k_is)
      (case q114 => k_is)
      (case q115 => k_is)
      (case q116 => k_is)
      (case q117 => k_is)
      (case q118 => k_is)
      (case q119 => k_is)
      (case q120 => k_is)
      (case q121 => k_is)
      (case q122 => k_is)
      (case q123 => k_is)
      (case q124 => k_is)
      (case q125 => k_is)
      (case q126 => k_is)
      (case q127 => k_is)
      (case q128 => k_is)
      (case q129 => k_is)
#print axioms PySem.Challenge.cw_siltstore_k01_whole_sheets_holds
