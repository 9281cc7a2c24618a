import PyProof.Rows.All
import Wide.All
import OpenK.AllK
import Wide.FinOn
import HandS.ForMost
import HandS.Codes
import HandS.Star
import HandS.Wide
import HandS.IsInst
import HandS.TupAny
import HandS.TupMul
import HandS.Style
import HandS.Defaults
import HandS.TryOnly
import HandS.ExcOwn
import PySem.Challenge.RW_siltstore_k07_whole_policies
import HandS.DictComp
import HandS.OwnEq
import HandS.Conv
import HandS.More
import HandS.Sort
import HandS.Nested
import HandS.EndTab
import HandS.SortKw
import HandS.NoneIn
import KE.SortKeyHeap
import KE.SortData
import HandS.Small
import PyProof.Conv_bool
import KE.GoesMore
import HandS.Iter
import HandS.Text
import HandS.SortRule
import HandS.ListItems
import HandS.Rev
import KE.KEqNest
import HandS.WordsDict
import KE.KDictZip
import KE.KRevIter
import PyProof.StrOps2
import HandS.SetBool
import HandS.RevTup
import PyProof.ListStr
import HandS.DictSubView
import PyProof.ListRange
import PyProof.CollectIter
import PyProof.CollectWalk
import KE.SortUse
import KE.SortKeyed
import HandS.Zip
set_option Elab.async false
set_option linter.all false
set_option maxRecDepth 100000
set_option maxHeartbeats 4000000
set_option exponentiation.threshold 9000
section
open PySem PySem.W PyProof.Rows
set_option maxHeartbeats 0
open_top headQ for PySem.Challenge.rw_siltstore_k07_whole_policies
end
set_option linter.all false
namespace Silt
/-! ### stretches of keys -/
abbrev Iv := Int × Int
def inR (rs : List Iv) (k : Int) : Prop := ∃ r ∈ rs, r.1 ≤ k ∧ k ≤ r.2
def Canon (rs : List Iv) : Prop := (∀ r ∈ rs, r.1 ≤ r.2) ∧ rs.Pairwise (fun a b => a.2 + 1 < b.1)
theorem inR_nil (k : Int) : ¬ inR [] k := fun ⟨_, h, _⟩ => by cases h
theorem inR_cons {r : Iv} {rs : List Iv} {k : Int} : inR (r :: rs) k ↔ (r.1 ≤ k ∧ k ≤ r.2) ∨ inR rs k := by
  constructor
  · rintro ⟨x, hx, h⟩
    rcases List.mem_cons.mp hx with rfl | y
    · exact .inl h
    · exact .inr ⟨x, y, h⟩
  · rintro (h | ⟨x, hx, h⟩)
    · exact ⟨r, List.mem_cons_self, h⟩
    · exact ⟨x, List.mem_cons_of_mem _ hx, h⟩
theorem inR_app {rs ts : List Iv} {k : Int} : inR (rs ++ ts) k ↔ inR rs k ∨ inR ts k := by
  constructor
  · rintro ⟨x, hx, h⟩
    rcases List.mem_append.mp hx with y | y
    · exact .inl ⟨x, y, h⟩
    · exact .inr ⟨x, y, h⟩
  · rintro (⟨x, hx, h⟩ | ⟨x, hx, h⟩)
    · exact ⟨x, List.mem_append_left _ hx, h⟩
    · exact ⟨x, List.mem_append_right _ hx, h⟩
theorem inR_perm {rs ts : List Iv} (p : rs.Perm ts) (k : Int) : inR rs k ↔ inR ts k :=
  ⟨fun ⟨x, hx, h⟩ => ⟨x, p.mem_iff.mp hx, h⟩, fun ⟨x, hx, h⟩ => ⟨x, p.mem_iff.mpr hx, h⟩⟩
theorem Canon.nil : Canon [] := ⟨(fun r h => by cases h), List.Pairwise.nil⟩
theorem Canon.tail {r : Iv} {rs : List Iv} (h : Canon (r :: rs)) : Canon rs := ⟨fun x hx => h.1 x (List.mem_cons_of_mem _ hx), (List.pairwise_cons.mp h.2).2⟩
theorem Canon.head {r : Iv} {rs : List Iv} (h : Canon (r :: rs)) : r.1 ≤ r.2 ∧ ∀ x ∈ rs, r.2 + 1 < x.1 := ⟨h.1 r List.mem_cons_self, (List.pairwise_cons.mp h.2).1⟩
theorem Canon.above {r : Iv} {rs : List Iv} (h : Canon (r :: rs)) {k : Int} (hk : inR rs k) : r.2 + 1 < k := by
  obtain ⟨x, hx, h1, _⟩ := hk
  have := h.head.2 x hx
  omega
theorem canon_uniq : ∀ {a b : List Iv}, Canon a → Canon b → (∀ k, inR a k ↔ inR b k) → a = b
  | [], [], _, _, _ => rfl
  | [], r :: b, _, hb, h => by
    have := (h r.1).mpr ⟨r, List.mem_cons_self, Int.le_refl _, hb.head.1⟩
    exact absurd this (inR_nil _)
  | r :: a, [], ha, _, h => by
    have := (h r.1).mp ⟨r, List.mem_cons_self, Int.le_refl _, ha.head.1⟩
    exact absurd this (inR_nil _)
  | r :: a, t :: b, ha, hb, h => by
    have h1 := ha.head.1
    have h2 := hb.head.1
    have e1 : r.1 = t.1 := by
      have x := (h r.1).mp (inR_cons.mpr (.inl ⟨Int.le_refl _, h1⟩))
      have y := (h t.1).mpr (inR_cons.mpr (.inl ⟨Int.le_refl _, h2⟩))
      rcases inR_cons.mp x with x | x
      · rcases inR_cons.mp y with y | y
        · omega
        · have := ha.above y; omega
      · have := hb.above x
        rcases inR_cons.mp y with y | y
        · omega
        · have := ha.above y; omega
    have e2 : r.2 = t.2 := by
      rcases Int.lt_trichotomy r.2 t.2 with c | c | c
      · have x := (h (r.2 + 1)).mpr (inR_cons.mpr (.inl ⟨by omega, by omega⟩))
        rcases inR_cons.mp x with x | x
        · omega
        · have := ha.above x; omega
      · exact c
      · have x := (h (t.2 + 1)).mp (inR_cons.mpr (.inl ⟨by omega, by omega⟩))
        rcases inR_cons.mp x with x | x
        · omega
        · have := hb.above x; omega
    have e : r = t := Prod.ext e1 e2
    subst e
    rw [canon_uniq ha.tail hb.tail fun k => ?_]
    constructor
    · intro x
      have := ha.above x
      rcases inR_cons.mp ((h k).mp (inR_cons.mpr (.inr x))) with y | y
      · omega
      · exact y
    · intro x
      have := hb.above x
      rcases inR_cons.mp ((h k).mpr (inR_cons.mpr (.inr x))) with y | y
      · omega
      · exact y
theorem Canon.snoc {rs : List Iv} {r : Iv} (h : Canon rs) (h1 : r.1 ≤ r.2) (h2 : ∀ x ∈ rs, x.2 + 1 < r.1) : Canon (rs ++ [r]) := by
  refine ⟨fun x hx => ?_, ?_⟩
  · rcases List.mem_append.mp hx with y | y
    · exact h.1 x y
    · rw [List.mem_singleton.mp y]; exact h1
  · rw [List.pairwise_append]
    refine ⟨h.2, List.pairwise_singleton _ _, fun x hx y hy => ?_⟩
    rw [List.mem_singleton.mp hy]
    exact h2 x hx
theorem Canon.init {rs : List Iv} {r : Iv} (h : Canon (rs ++ [r])) : Canon rs ∧ r.1 ≤ r.2 ∧ ∀ x ∈ rs, x.2 + 1 < r.1 := by
  have h2 := List.pairwise_append.mp h.2
  exact ⟨⟨fun x hx => h.1 x (List.mem_append_left _ hx), h2.1⟩, h.1 r (by simp), fun x hx => h2.2.2 x hx r (by simp)⟩
/-- what is known when the next stretch does not touch -/
theorem join_new {f : List Iv} {r : Iv} (h : Canon f) (hr : r.1 ≤ r.2) (hl : ∀ t ∈ f, t.1 ≤ r.1) (hn : ∀ t ∈ f, t.2 + 1 < r.1) : Canon (f ++ [r]) ∧ (∀ k, inR (f ++ [r]) k ↔ inR f k ∨ (r.1 ≤ k ∧ k ≤ r.2)) ∧ ∀ t ∈ f ++ [r], t.1 ≤ r.1 := by
  refine ⟨h.snoc hr hn, fun k => ?_, fun t ht => ?_⟩
  · rw [inR_app, inR_cons]
    exact ⟨fun x => x.elim .inl fun y => y.elim .inr fun z => absurd z (inR_nil k), fun x => x.elim .inl fun y => .inr (.inl y)⟩
  · rcases List.mem_append.mp ht with y | y
    · exact hl t y
    · rw [List.mem_singleton.mp y]; exact Int.le_refl _
/-- .. and when it touches the last one -/
theorem join_last {f : List Iv} {t r : Iv} (h : Canon (f ++ [t])) (hr : r.1 ≤ r.2) (hl : ∀ x ∈ f ++ [t], x.1 ≤ r.1) (c : r.1 ≤ t.2 + 1) : Canon (f ++ [(t.1, max t.2 r.2)]) ∧ (∀ k, inR (f ++ [(t.1, max t.2 r.2)]) k ↔ inR (f ++ [t]) k ∨ (r.1 ≤ k ∧ k ≤ r.2)) ∧ ∀ x ∈ f ++ [(t.1, max t.2 r.2)], x.1 ≤ r.1 := by
  obtain ⟨h1, h2, h3⟩ := h.init
  have ht := hl t (by simp)
  refine ⟨h1.snoc (by show t.1 ≤ max t.2 r.2; omega) (fun x hx => h3 x hx), fun k => ?_, fun x hx => ?_⟩
  · rw [inR_app, inR_app, inR_cons, inR_cons]
    have := inR_nil k
    constructor
    · rintro (x | x | x)
      · exact .inl (.inl x)
      · have x : t.1 ≤ k ∧ k ≤ max t.2 r.2 := x
        by_cases z : k ≤ t.2
        · exact .inl (.inr (.inl ⟨x.1, z⟩))
        · exact .inr ⟨by omega, by omega⟩
      · exact absurd x this
    · rintro ((x | x | x) | x)
      · exact .inl x
      · exact .inr (.inl ⟨x.1, by show k ≤ max t.2 r.2; omega⟩)
      · exact absurd x this
      · exact .inr (.inl ⟨by show t.1 ≤ k; omega, by show k ≤ max t.2 r.2; omega⟩)
  · rcases List.mem_append.mp hx with y | y
    · exact hl x (List.mem_append_left _ y)
    · rw [List.mem_singleton.mp y]; exact ht
/-- within a stretch: what stands ahead of first, without the keys -/
structure Cut (base : List Iv) (keys : Int → Prop) (lo first : Int) (f : List Iv) : Prop where
  can : Canon f
  gap : ∀ t ∈ f, t.2 + 1 < first
  mem : ∀ k, inR f k ↔ inR base k ∨ (lo ≤ k ∧ k < first ∧ ¬ keys k)
theorem Cut.start {base : List Iv} {keys : Int → Prop} {lo : Int} (h : Canon base) (g : ∀ t ∈ base, t.2 + 1 < lo) : Cut base keys lo lo base :=
  ⟨h, g, fun k => ⟨.inl, fun x => x.elim id fun ⟨a, b, _⟩ => by omega⟩⟩
/-- the next key lies right there -/
theorem Cut.skip {base f : List Iv} {keys : Int → Prop} {lo first : Int} (h : Cut base keys lo first f) (hk : keys first) : Cut base keys lo (first + 1) f := by
  refine ⟨h.can, fun t ht => by have := h.gap t ht; omega, fun k => (h.mem k).trans ⟨fun x => x.elim .inl fun ⟨a, b, c⟩ => .inr ⟨a, by omega, c⟩, fun x => x.elim .inl fun ⟨a, b, c⟩ => ?_⟩⟩
  by_cases z : k = first
  · rw [z] at c; exact absurd hk c
  · exact .inr ⟨a, by omega, c⟩
/-- .. or further up -/
theorem Cut.piece {base f : List Iv} {keys : Int → Prop} {lo first key : Int} (h : Cut base keys lo first f) (hl : lo ≤ first) (c : first < key) (hn : ∀ k, first ≤ k → k < key → ¬ keys k) (hk : keys key) : Cut base keys lo (key + 1) (f ++ [(first, key - 1)]) := by
  refine ⟨h.can.snoc (by show first ≤ key - 1; omega) (fun x hx => h.gap x hx), fun t ht => ?_, fun k => ?_⟩
  · rcases List.mem_append.mp ht with y | y
    · have := h.gap t y; omega
    · rw [List.mem_singleton.mp y]; show key - 1 + 1 < key + 1; omega
  · rw [inR_app, inR_cons, h.mem k]
    have := inR_nil k
    constructor
    · rintro ((x | ⟨a, b, d⟩) | x | x)
      · exact .inl x
      · exact .inr ⟨a, by omega, d⟩
      · have x : first ≤ k ∧ k ≤ key - 1 := x
        exact .inr ⟨by omega, by omega, hn k x.1 (by omega)⟩
      · exact absurd x this
    · rintro (x | ⟨a, b, d⟩)
      · exact .inl (.inl x)
      · by_cases z : k < first
        · exact .inl (.inr ⟨a, z, d⟩)
        · by_cases y : k = key
          · rw [y] at d; exact absurd hk d
          · exact .inr (.inl ⟨by show first ≤ k; omega, by show k ≤ key - 1; omega⟩)
/-- behind the last key -/
theorem Cut.done {base f : List Iv} {keys : Int → Prop} {lo first hi : Int} (h : Cut base keys lo first f) (hl : lo ≤ first) (hf : first ≤ hi + 1) (hn : ∀ k, first ≤ k → k ≤ hi → ¬ keys k) :
    ∃ f', f' = (if first ≤ hi then f ++ [(first, hi)] else f) ∧ Canon f' ∧ (∀ t ∈ f', t.2 ≤ hi) ∧ ∀ k, inR f' k ↔ inR base k ∨ (lo ≤ k ∧ k ≤ hi ∧ ¬ keys k) := by
  refine ⟨_, rfl, ?_⟩
  by_cases c : first ≤ hi
  · rw [if_pos c]
    refine ⟨h.can.snoc c (fun x hx => h.gap x hx), fun t ht => ?_, fun k => ?_⟩
    · rcases List.mem_append.mp ht with y | y
      · have := h.gap t y; omega
      · rw [List.mem_singleton.mp y]; exact Int.le_refl _
    · rw [inR_app, inR_cons, h.mem k]
      have := inR_nil k
      constructor
      · rintro ((x | ⟨a, b, d⟩) | x | x)
        · exact .inl x
        · exact .inr ⟨a, by omega, d⟩
        · have x : first ≤ k ∧ k ≤ hi := x
          exact .inr ⟨by omega, x.2, hn k x.1 x.2⟩
        · exact absurd x this
      · rintro (x | ⟨a, b, d⟩)
        · exact .inl (.inl x)
        · by_cases z : k < first
          · exact .inl (.inr ⟨a, z, d⟩)
          · exact .inr (.inl ⟨by show first ≤ k; omega, b⟩)
  · rw [if_neg c]
    refine ⟨h.can, fun t ht => by have := h.gap t ht; omega, fun k => (h.mem k).trans ⟨fun x => x.elim .inl fun ⟨a, b, d⟩ => .inr ⟨a, by omega, d⟩, fun x => x.elim .inl fun ⟨a, b, d⟩ => .inr ⟨a, by omega, d⟩⟩⟩
/-- keys within stretches that do not touch: not more than there are keys -/
def within (keys : List Int) (r : Iv) : List Int := keys.filter fun k => decide (r.1 ≤ k ∧ k ≤ r.2)
theorem within_sum : ∀ {rs : List Iv}, Canon rs → ∀ keys : List Int, (rs.map fun r => (within keys r).length).sum ≤ (keys.filter fun k => rs.any fun r => decide (r.1 ≤ k ∧ k ≤ r.2)).length
  | [], _, keys => by simp
  | r :: rs, h, keys => by
    have ih := within_sum h.tail keys
    rw [List.map_cons, List.sum_cons]
    have : (within keys r).length + (keys.filter fun k => rs.any fun r => decide (r.1 ≤ k ∧ k ≤ r.2)).length ≤ (keys.filter fun k => (r :: rs).any fun r => decide (r.1 ≤ k ∧ k ≤ r.2)).length := by
      clear ih
      unfold within
      induction keys with
      | nil => simp
      | cons k ks ih2 =>
        by_cases c : r.1 ≤ k ∧ k ≤ r.2
        · have hn : (rs.any fun r => decide (r.1 ≤ k ∧ k ≤ r.2)) = false := by
            rw [List.any_eq_false]
            intro x hx
            have := h.head.2 x hx
            rw [decide_eq_true_iff]
            omega
          rw [List.filter_cons, List.filter_cons, List.filter_cons, if_pos (decide_eq_true c), if_neg (by rw [hn]; decide), if_pos (by rw [List.any_cons, decide_eq_true c]; rfl), List.length_cons, List.length_cons]
          omega
        · have e : ((r :: rs).any fun r => decide (r.1 ≤ k ∧ k ≤ r.2)) = (rs.any fun r => decide (r.1 ≤ k ∧ k ≤ r.2)) := by rw [List.any_cons, decide_eq_false c]; rfl
          rw [List.filter_cons, List.filter_cons, List.filter_cons, if_neg (by rw [decide_eq_false c]; decide), e]
          cases (rs.any fun r => decide (r.1 ≤ k ∧ k ≤ r.2))
          · exact ih2
          · rw [if_pos rfl, if_pos rfl, List.length_cons, List.length_cons]
            omega
    omega
theorem within_le {rs : List Iv} (h : Canon rs) (keys : List Int) : (rs.map fun r => (within keys r).length).sum ≤ keys.length := Nat.le_trans (within_sum h keys) (List.length_filter_le _ _)
end Silt
set_option Elab.async false
set_option linter.all false
/-! the stretches of an ascending row of keys, one key after the other -/
namespace Silt
theorem due_new {due : List Iv} {k : Int} (h : Canon due) (hk : ∀ x, inR due x → x < k) (hl : ∀ f t, due = f ++ [t] → t.2 ≠ k - 1) : Canon (due ++ [(k, k)]) ∧ ∀ x, inR (due ++ [(k, k)]) x ↔ inR due x ∨ x = k := by
  have hn : ∀ t ∈ due, t.2 + 1 < k := by
    rcases List.eq_nil_or_concat due with rfl | ⟨f, t, rfl⟩
    · intro t ht; cases ht
    · rw [List.concat_eq_append] at h hk hl ⊢
      have h0 := h.init
      have ht : t.2 < k := hk _ ⟨t, by simp, h0.2.1, Int.le_refl _⟩
      have hne := hl f t rfl
      intro y hy
      rcases List.mem_append.mp hy with hy | hy
      · have := h0.2.2 y hy
        have := h0.2.1
        omega
      · rw [List.mem_singleton.mp hy]
        omega
  have a := join_new (r := (k, k)) h (Int.le_refl _) (fun t ht => by have := h.1 t ht; have := hn t ht; show t.1 ≤ k; omega) hn
  refine ⟨a.1, fun x => (a.2.1 x).trans (or_congr_right ⟨fun z => ?_, fun z => ?_⟩)⟩
  · have z1 : k ≤ x := z.1
    have z2 : x ≤ k := z.2
    omega
  · show k ≤ x ∧ x ≤ k
    omega
theorem due_last {f : List Iv} {t : Iv} {k : Int} (h : Canon (f ++ [t])) (e : t.2 = k - 1) : Canon (f ++ [(t.1, k)]) ∧ ∀ x, inR (f ++ [(t.1, k)]) x ↔ inR (f ++ [t]) x ∨ x = k := by
  have h0 := h.init
  have a := join_last (r := (k, k)) h (Int.le_refl _) (fun x hx => by
    show x.1 ≤ k
    rcases List.mem_append.mp hx with hx | hx
    · have := h0.2.2 x hx
      have := (h0.1).1 x hx
      have := h0.2.1
      omega
    · rw [List.mem_singleton.mp hx]
      have := h0.2.1
      omega) (by show k ≤ t.2 + 1; omega)
  have em : max t.2 k = k := by omega
  have a1 := a.1
  have a2 := a.2.1
  have em2 : max t.2 (((k, k) : Iv).2) = k := em
  rw [em2] at a1 a2
  refine ⟨a1, fun x => (a2 x).trans (or_congr_right ⟨fun z => ?_, fun z => ?_⟩)⟩
  · have z1 : k ≤ x := z.1
    have z2 : x ≤ k := z.2
    omega
  · show k ≤ x ∧ x ≤ k
    omega
end Silt
set_option Elab.async false
set_option linter.all false
set_option maxRecDepth 100000
set_option maxHeartbeats 4000000
namespace L2
open PySem PySem.Spec PyProof.Rows
section
variable {X : Cx} {CX : CXT} {k j : Nat} {f C : Addr} {fd : FuncData} {ps : List Str} {sp : Sp} {dvs : List V} {ds : List Value} {E : XK} {pos : Pos} {a b : Expr} {ta tb : TE}
/-- the callee runs one level within a built-in's body -/
theorem run_fn1 {pins : List (Addr × Obj)} {σ : St} {H : Hp} {s : Shared} {Q : VK} {us : List Value} {vs : List V} (F : FnOk X.prog X.w X.K X.mg X.base CX k f fd ps sp) (hr : Room (k + 1) X.A) (hb : Binds X.K fd ps ds) (hd : Vals dvs ds) (hx : Passes CX X E)
    (I : Inv X pins σ H s) (r : Vals vs us) (h : sp (vs ++ dvs) H Q E) : wpAny (model X.prog X.w) X.A.in1 (call (.ref f) us) (EP X pins σ Q) X.xe s := by
  have r2 : Vals (vs ++ dvs) (us ++ ds) := r.append hd
  have hl : (us ++ ds).length = ps.length := by rw [← r2.length]; exact F.len _ _ _ _ h
  refine wpAny_call (codeAny_mono (F.run X.A.in1 X.stack s H ⟨us, []⟩ (us ++ ds) (vs ++ dvs) Q E hr.in1 I.env0.in1 (hb s us I.kIn hl) r2 h) fun r s' hq => ?_)
  cases r with
  | error e => exact hx pins σ H s e s' I hq
  | ok fl =>
    cases fl with
    | ret u => exact I.after hq
    | next => exact False.elim hq
    | brk => exact False.elim hq
    | cont => exact False.elim hq
/-- o[i] of an own class with its own __getitem__ -/
def rOwnI (C : Addr) (sp : Sp) (dvs : List V) : R2 := fun x y H Q => ∃ a dx fs, x = .ref a ∧ H a = some (.ins C dx fs) ∧ sp (x :: ([y] ++ dvs)) H Q C8.E0
theorem pe_ixO (c : C8.Met X.prog X.w X.K X.mg X.base k C "__getitem__" sp dvs) (hr : Room j X.A) (hk : k + 1 ≤ j) (ha : PE X a ta) (hb : PE X b tb) (hfn : ∀ f, PySem.W.findIn X.K (.ref C) "__getitem__" = some (some (.ref f)) → PySem.W.fnIn X.K f = true)
    (hs : ∀ o i, subscripted b true o i = runValue (.builtin "lifetime.subscript" ⟨[o, i], []⟩) := by intro _ _; first | rfl | with_unfolding_all rfl) :
    PE X (.Subscript a b pos) (tOp (rOwnI C sp dvs) ta tb) := by
  obtain ⟨f, fd, ps, ds, cl, hm, F, bd, d⟩ := c.ex
  refine ⟨fun pins s σ H Q I h => ?_⟩
  refine Subscript_ (binT ha hb I h fun v u s2 x y H2 I2 rx ry q => ?_)
  obtain ⟨p, dx, fs, rfl, e, q⟩ := q
  obtain rfl : v = Value.ref p := rx
  obtain ⟨mA, O, _, _, _, _⟩ := ins_get I2.hok e
  obtain ⟨od, J, _⟩ := O.look
  obtain ⟨m, F0⟩ := I2.fr
  refine PySem.W.sub_K F0 I2.ok.mod.kin J hm.at_ (hfn _ hm.at_) hm.fn ?_ (hs _ _)
  exact run_fn1 (us := [.ref p, u]) (vs := [.ref p, y]) F (hr.mono hk) bd d C8.pass0 I2 (.cons rfl (.cons ry .nil)) q

/-! ### names as slots -/
theorem pg_n (i : Nat) {x : Str} {pos : Pos} (hN : X.N.Nodup) (hi : X.N[i]? = some x := by rfl) (hx : Loc X.env.scope x := by first | exact .inl rfl | exact .inr rfl) (hf : X.fn x = true ∨ X.env.scope.names.lookup x = some .local := by first | exact .inl rfl | exact .inr rfl) : PG X (.Name x pos) (gName i) := pg_name hN hi hx hf
theorem ps_s (i : Nat) {x : Str} {e : Expr} {te : TE} {pos' : Pos} (hN : X.N.Nodup) (he : PE X e te) (hi : X.N[i]? = some x := by rfl) (hx : Loc X.env.scope x := by first | exact .inl rfl | exact .inr rfl) (hs : swapsWith e (some (.Name x pos')) pos.line X.env = pure false := by rfl) (hf : X.fn x = true ∨ X.env.scope.names.lookup x = some .local := by first | exact .inl rfl | exact .inr rfl) :
    PS X (.Assign [.Name x pos'] e pos) (tAsg te (gName i)) := ps_set hN hi hx he hs hf
theorem ps_au (i : Nat) {x : Str} {e : Expr} {te : TE} {op : Operator} {ti : TIp} {pos' : Pos} (hN : X.N.Nodup) (he : PE X e te) (ho : PIp X op ti) (hi : X.N[i]? = some x := by rfl) (hx : Loc X.env.scope x := by first | exact .inl rfl | exact .inr rfl) (hf : X.fn x = true ∨ X.env.scope.names.lookup x = some .local := by first | exact .inl rfl | exact .inr rfl) :
    PS X (.AugAssign (.Name x pos') op e pos) (tAug i te ti) := ps_aug hN hi hx he ho hf
/-! ### a drawing list: item 0 is the script, item 1 some int (which one is not told) -/
def DrawO (a sc : Addr) : HO := .ext fun h => ∃ (i : Int) (t : Tok) (n : Nat), h.get? a = some { cls := .type "list", data := .seq #[.ref sc, .int i t] n }
theorem drawO_new {P : Program} {w : World} {H : Hp} {h : Heap} {a sc : Addr} {i : Int} {t : Tok} {n : Nat} (e : h.get? a = some { cls := .type "list", data := .seq #[.ref sc, .int i t] n }) : ObjOk P w H h a (DrawO a sc) :=
  ⟨⟨i, t, n, e⟩, ⟨_, e⟩, fun h1 h2 ⟨i, t, n, e⟩ k => ⟨i, t, n, k _ e⟩⟩
/-- [script, 0] -/
def tDraw (t : TA) : TE := fun σ H Q => t σ H fun xs H1 => ∃ sc i, xs = [.ref sc, .int i] ∧ ∀ p, H1 p = none → Q (.ref p) (upd H1 p (DrawO p sc))
theorem pe_draw {es : List Expr} {t : TA} (h : PA X es t) : PE X (.List es pos) (tDraw t) := by
  refine ⟨fun pins s σ H Q I hq => ?_⟩
  refine wpAny_List_spliced (thn (h.run pos pins s σ H _ I hq) fun us s1 ⟨xs, H1, I1, r, sc, i, e, q⟩ => ?_)
  subst e
  obtain ⟨u1, u2, rfl, r1, r2⟩ := vals2 r
  obtain rfl : u1 = Value.ref sc := r1
  obtain ⟨t, rfl⟩ := r2
  refine ⟨by show 2 ≤ sizeLine; decide, ?_⟩
  have hf : H1 s1.heap.objs.size = none := I1.hok.fresh (Nat.le_refl _)
  refine ⟨.ref s1.heap.objs.size, upd H1 s1.heap.objs.size (DrawO s1.heap.objs.size sc), I1.laid (t' := s1.toks) (fun b u e => Heap.get?_push_of_some _ e) (Nat.le_refl _) ?_, rfl, q _ hf⟩
  exact drawO_new (i := i) (t := t) (n := 0) (Heap.get?_push_size _ rfl)
theorem draw_get {pins : List (Addr × Obj)} {σ : St} {H : Hp} {s : Shared} {a sc : Addr} (I : Inv X pins σ H s) (e : H a = some (DrawO a sc)) : ∃ (i : Int) (t : Tok) (n : Nat), s.heap.get? a = some { cls := .type "list", data := .seq #[.ref sc, .int i t] n } := (I.hok a _ e).1
def rDraw0 : R2 := fun x y H Q => ∃ a sc, x = .ref a ∧ y = .int 0 ∧ H a = some (DrawO a sc) ∧ Q (.ref sc) H
def rDraw1 : R2 := fun x y H Q => ∃ a sc, x = .ref a ∧ y = .int 1 ∧ H a = some (DrawO a sc) ∧ ∀ i : Int, Q (.int i) H
theorem ix_draw0 : IxR X rDraw0 := by
  intro value slice pins s σ H x y v u Q I rx ry h hs
  obtain ⟨a, sc, rfl, rfl, e, q⟩ := h
  cases rx
  obtain ⟨t, rfl⟩ := ry
  obtain ⟨i, ti, n, ho⟩ := draw_get I e
  exact item_listR (items := #[.ref sc, .int i ti]) (x := .ref sc) ⟨_, ho, rfl, n, rfl⟩ (by decide) (by decide) (by rfl) ⟨.ref sc, H, I, rfl, q⟩ hs
theorem ix_draw1 : IxR X rDraw1 := by
  intro value slice pins s σ H x y v u Q I rx ry h hs
  obtain ⟨a, sc, rfl, rfl, e, q⟩ := h
  cases rx
  obtain ⟨t, rfl⟩ := ry
  obtain ⟨i, ti, n, ho⟩ := draw_get I e
  exact item_listR (items := #[.ref sc, .int i ti]) (x := .int i ti) ⟨_, ho, rfl, n, rfl⟩ (by decide) (by decide) (by rfl) ⟨.int i, H, I, ⟨ti, rfl⟩, q i⟩ hs
theorem get_draw1 : PGet X rDraw1 := by
  intro pins s σ H x y v u Q I rx ry h
  obtain ⟨a, sc, rfl, rfl, e, q⟩ := h
  cases rx
  obtain ⟨t, rfl⟩ := ry
  obtain ⟨i, ti, n, ho⟩ := draw_get I e
  exact wpAny_getItem_list (items := #[.ref sc, .int i ti]) (x := .int i ti) ⟨_, ho, rfl, n, rfl⟩ (by decide) (by decide) (by rfl) ⟨.int i, H, I, ⟨ti, rfl⟩, q i⟩
def sDraw1 : TSet := fun o i v H Q => ∃ (a sc : Addr) (j : Int), o = .ref a ∧ i = .int 1 ∧ v = .int j ∧ H a = some (DrawO a sc) ∧ Q H
theorem upd_self {H : Hp} {a : Addr} {o : HO} (e : H a = some o) : upd H a o = H := by
  funext b
  unfold upd
  by_cases h : b = a
  · rw [if_pos h, h, e]
  · rw [if_neg h]
theorem set_draw1 : PSet X sDraw1 := by
  intro pins s σ H o i v ov iv u Q I ro ri rv h
  obtain ⟨a, sc, j, rfl, rfl, rfl, e, q⟩ := h
  cases ro
  obtain ⟨t, rfl⟩ := ri
  obtain ⟨t2, rfl⟩ := rv
  obtain ⟨i0, ti, n, ho⟩ := draw_get I e
  have hm : Obj.mapSeq (·.setIfInBounds 1 (.int j t2)) { cls := .type "list", data := .seq #[.ref sc, .int i0 ti] n } = { cls := .type "list", data := .seq #[.ref sc, .int j t2] n } := by rfl
  have g1 : (s.heap.update a (Obj.mapSeq (·.setIfInBounds 1 (.int j t2)))).get? a = some { cls := .type "list", data := .seq #[.ref sc, .int j t2] n } := by
    rw [Heap.get?_update_self _ ho (by rw [hm]; rfl), hm]
  have I' := I.write (x := a) (e := a) (o := DrawO a sc) (h' := s.heap.update a (Obj.mapSeq (·.setIfInBounds 1 (.int j t2)))) (t' := s.toks) (by rw [e]; exact True.intro) (.inl rfl)
    (fun b u hb z => by rw [Heap.get?_update_ne _ _ _ _ hb]; exact z) ⟨_, g1⟩ (drawO_new g1)
  rw [upd_self e] at I'
  exact PySem.W.ki_setAt (items := #[.ref sc, .int i0 ti]) ho (by decide) (by decide) (by show (1 : Int) < 2; decide) ⟨H, I', q⟩
end
end L2
set_option Elab.async false
set_option linter.all false
set_option maxRecDepth 100000
set_option maxHeartbeats 4000000
namespace L2
open PySem PySem.Spec PyProof.Rows
section
variable {X : Cx} {a b c d : Expr} {ta tb tc td : TE} {pos : Pos}
/-- a op1 b op2 c op3 d -/
def tChain3 (r r' r'' : R2) (ta tb tc td : TE) : TE := fun σ H Q => ta σ H fun x H1 => tb σ H1 fun y H2 => r x y H2 fun z H3 => ∃ k, z = .bl k ∧
  (if k = true then tc σ H3 fun w' H4 => r' y w' H4 fun z' H5 => ∃ k', z' = .bl k' ∧ (if k' = true then td σ H5 fun v' H6 => r'' w' v' H6 Q else Q (.bl false) H5) else Q (.bl false) H3)
theorem pe_chain3 {op op' op'' : CmpOp} {r r' r'' : R2} (ho : OpR X (compareOp op) r) (ho' : OpR X (compareOp op') r') (ho'' : OpR X (compareOp op'') r'') (ha : PE X a ta) (hb : PE X b tb) (hc : PE X c tc) (hd : PE X d td)
    (hm : lastMarks [op, op', op''] [b, c, d] = false := by with_unfolding_all rfl) : PE X (.Compare a [op, op', op''] [b, c, d] pos) (tChain3 r r' r'' ta tb tc td) := by
  refine ⟨fun pins s σ H Q I h => ?_⟩
  refine Compare_chain (thn (ha.run pins s σ H _ I h) fun v s1 ⟨x, H1, I1, r1, q1⟩ => chain_link (thn (hb.run pins s1 σ H1 _ I1 q1) fun u s2 ⟨y, H2, I2, r2, q2⟩ =>
    thn (ho pins s2 σ H2 x y v u _ I2 r1 r2 q2) fun d s3 ⟨z, H3, I3, r3, k, e, q3⟩ => ?_)) hm
  subst e
  cases r3
  refine wpAny_truthy_bool ?_
  cases k with
  | false => exact ite_ff ⟨.bl false, H3, I3, rfl, q3⟩
  | true =>
    refine ite_tt (chain_link (thn (hc.run pins s3 σ H3 _ I3 q3) fun w' s4 ⟨z', H4, I4, r4, q4⟩ => thn (ho' pins s4 σ H4 y z' u w' _ I4 r2 r4 q4) fun d s5 ⟨z5, H5, I5, r5, k5, e5, q5⟩ => ?_))
    subst e5
    cases r5
    refine wpAny_truthy_bool ?_
    cases k5 with
    | false => exact ite_ff ⟨.bl false, H5, I5, rfl, q5⟩
    | true => exact ite_tt (chain_last (thn (hd.run pins s5 σ H5 _ I5 q5) fun w6 s6 ⟨z6, H6, I6, r6, q6⟩ => ho'' pins s6 σ H6 z' z6 w' w6 Q I6 r4 r6 q6))
/-- o.f as a target -/
def gFld (K : PySem.W.Frag) (to : TE) (f : Str) : TG := fun v σ H Q => to σ H fun x H1 => ∃ a C dx fs, x = .ref a ∧ H1 a = some (.ins C dx fs) ∧ Cls K C ∧ NoAttr K C f ∧ fs.length < 1000 ∧ Q σ (upd H1 a (.ins C dx (putF f v fs)))
theorem pg_attr {o : Expr} {f : Str} {to : TE} (ho : PE X o to)
    (ha : ∀ v, assign (.Attribute o f pos) X.env v = (do
      let ov ← holding [v] (eval o X.env)
      standAt pos.atName
      holding [v, ov] (setAttr ov f v)
      release [v, ov] []) := by intro _; rfl) : PG X (.Attribute o f pos) (gFld X.K to f) := by
  refine ⟨fun pins s σ H v u Q I r h => ?_⟩
  rw [ha]
  refine wpAny_bind (wpAny_holding (thn (ho.run pins s σ H _ I h) fun ov s1 ⟨x, H1, I1, r1, p, C, dx, fs, ex, e, c, n, hl, q1⟩ => ?_))
  subst ex
  obtain rfl : ov = Value.ref p := r1
  refine wpAny_bind (wpAny_standAt (wpAny_bind (wpAny_holding (setattr_ok I1 e c n hl r fun s2 I2 => ?_))))
  exact wpAny_release ⟨σ, _, I2, q1⟩
/-! ### tuple * 1 is the tuple itself -/
theorem tuple_mul1 (l : Addr) (items : Array Value) (n : Nat) (dd : Option Addr) (sl : Array (Option Value)) (u : Tok) :
    Meets (Builtin.«tuple.__mul__» ⟨[.ref l, .int 1 u], []⟩) (fun _ R s => s.heap.get? l = some { cls := .type "tuple", dict := dd, data := .seq items n, slots := sl } ∧
      R (.ok (.ret (Value.ref l))) s) :=
  .of_wp fun prog w A R s h => by
    obtain ⟨hp, g, d, tk, os⟩ := s
    obtain ⟨hl, h⟩ := h
    have f1 := AutoSeq1.idx_int
    have c1 : (items.isEmpty || (1 : Int) == 1) = true := by simp
    wp_walk using wpAny_loadPart' hl
    exact ⟨_, rfl, h⟩
def rRepT1 (K : PySem.W.Frag) : R2 := fun x y H Q => ∃ l xs, x = .ref l ∧ y = .int 1 ∧ SqT K H l xs ∧ Q (.ref l) H
theorem op_repT1 : OpR X (binaryOp .Mult) (rRepT1 X.K) := by
  intro pins s σ H x y v u Q I rx ry h
  obtain ⟨l, xs, rfl, rfl, hT, q⟩ := h
  cases rx
  obtain ⟨t, rfl⟩ := ry
  obtain ⟨its, r, ⟨⟨cls, dd, data, sl⟩, ho, hc, n, hd⟩, hs⟩ := I.tuple hT
  simp only at hc hd
  subst hc hd
  exact wpAny_binaryOp_repeat_ref (T := "tuple") (U := "int") (by decide) ⟨_, ho, rfl⟩ (fun s' => typeIs_int s' 1 t) noFill_tuple_mul F.fills_int_mul F.slot_int_rmul repeat_tuple F.slot_int_index.lookup
    (call_meets F.slot_int_rmul (typeIs_int s 1 t) F.entry_int_rmul (F.args_int_rmul_2 _ _) (int_rmul_tuple 1 t l its.toArray n dd sl)
      ⟨ho, rfl, ⟨_, ho, rfl⟩, call_meets F.slot_tuple_mul ⟨_, ho, rfl⟩ F.entry_tuple_mul (F.args_tuple_mul_2 _ _) (tuple_mul1 l its.toArray n dd sl t) ⟨ho, ⟨.ref l, H, I, rfl, q⟩⟩⟩)
def rOr (r r' : R2) : R2 := fun x y H Q => r x y H Q ∨ r' x y H Q
theorem opR_or {f : Value → Value → Sem Value} {r r' : R2} (h : OpR X f r) (h' : OpR X f r') : OpR X f (rOr r r') := by
  intro pins s σ H x y v u Q I rx ry q
  rcases q with q | q
  · exact h pins s σ H x y v u Q I rx ry q
  · exact h' pins s σ H x y v u Q I rx ry q
theorem op_repTA : OpR X (binaryOp .Mult) (rOr (rRepT1 X.K) (rRepT X.K)) := opR_or op_repT1 op_repT
/-- x is None, x is not None -/
def rIsNn : R2 := fun x y H Q => y = .non ∧ Q (.bl (decide (x = .non))) H
def rNotNn : R2 := fun x y H Q => y = .non ∧ Q (.bl (!decide (x = .non))) H
theorem op_isNn : OpR X (compareOp .Is) rIsNn := op_isN
theorem op_notNn : OpR X (compareOp .IsNot) rNotNn := op_notN
/-! ### within a comprehension the frag must be told by its name -/
theorem ixK (R : PySem.W.Frag → R2) (K : PySem.W.Frag) (h : IxR X (R X.K)) (e : X.K = K := by rfl) : IxR X (R K) := e ▸ h
theorem opK {f : Value → Value → Sem Value} (R : PySem.W.Frag → R2) (K : PySem.W.Frag) (h : OpR X f (R X.K)) (e : X.K = K := by rfl) : OpR X f (R K) := e ▸ h
theorem callK {f : Value} (R : PySem.W.Frag → List V → Hp → VK → Prop) (K : PySem.W.Frag) (h : CallR X f (R X.K)) (e : X.K = K := by rfl) : CallR X f (R K) := e ▸ h
theorem pe_fldK {f : Str} (K : PySem.W.Frag) (h : PE X (.Attribute a f pos) (tFld X.K ta f)) (e : X.K = K := by rfl) : PE X (.Attribute a f pos) (tFld K ta f) := e ▸ h
end
end L2
set_option Elab.async false
set_option linter.all false
set_option maxRecDepth 100000
set_option maxHeartbeats 4000000
set_option exponentiation.threshold 9000
namespace Sl
open PySem L2 C8 StX
/-! ### great numbers -/
def BBn : Nat := 2 ^ 8900
theorem bbn_pos : 1000000 ≤ BBn := by
  unfold BBn
  have e : (2 : Nat) ^ 8900 = 2 ^ 20 * 2 ^ 8880 := (Nat.pow_add 2 20 8880)
  have : (1 : Nat) ≤ 2 ^ 8880 := Nat.pow_pos (by decide)
  rw [e]
  omega
theorem bbn_lt : BBn < 2 ^ 8901 := by
  unfold BBn
  exact Nat.pow_lt_pow_right (by decide) (by decide)
def BB : Int := (BBn : Nat)
theorem bb_nat {i : Int} (h0 : -BB ≤ i) (h : i ≤ BB) : i.natAbs < 2 ^ 8901 := by
  have := bbn_lt
  unfold BB at h0 h
  generalize (2 : Nat) ^ 8001 = b at *
  omega
theorem bb_pos : 1000000 ≤ BB := by have := bbn_pos; unfold BB; omega
def DDn : Nat := 2 ^ 2000
/-- days are below this -/
def DD : Int := (DDn : Nat)
theorem dd_pos : 1000000 ≤ DD := by
  have : 1000000 ≤ DDn := by
    unfold DDn
    have e : (2 : Nat) ^ 2000 = 2 ^ 20 * 2 ^ 1980 := (Nat.pow_add 2 20 1980)
    have : (1 : Nat) ≤ 2 ^ 1980 := Nat.pow_pos (by decide)
    rw [e]
    omega
  unfold DD; omega
theorem dd_bb : DD * 1000 ≤ BB := by
  have h : DDn * 1000 ≤ BBn := by
    unfold DDn BBn
    have e : (2 : Nat) ^ 8900 = 2 ^ 2000 * 2 ^ 6900 := (Nat.pow_add 2 2000 6900)
    have e2 : (2 : Nat) ^ 6900 = 2 ^ 10 * 2 ^ 6890 := (Nat.pow_add 2 10 6890)
    have : (1 : Nat) ≤ 2 ^ 6890 := Nat.pow_pos (by decide)
    rw [e]
    exact Nat.mul_le_mul_left _ (by omega)
  unfold DD BB
  omega
theorem cmulw {i j : Int} (h0 : -BB ≤ i) (h : i ≤ BB) (g0 : -BB ≤ j) (g : j ≤ BB) : CMulW i j := wide_mul (bb_nat h0 h) (bb_nat g0 g) (by decide) (by decide) (by decide)
theorem cdivw {i j : Int} (h0 : 0 < j) (h : j ≤ BB) : CDivW i j := wide_div h0 (bb_nat (by have := bb_pos; omega) h) (by decide) (by decide)
/-! ### heaps -/
theorem Same.new {H H' : Hp} {p : Addr} {o : HO} (e : Same H H') (h : H' p = none) : Same H (upd H' p o) := fun a u ha => by
  rw [upd_ne (ne_of_none (e a u ha) h)]
  exact e a u ha
theorem Same.mut {H H' : Hp} {p : Addr} {o : HO} (e : Same H H') (h : H p = none) : Same H (upd H' p o) := fun a u ha => by
  rw [upd_ne (ne_of_none ha h)]
  exact e a u ha
mutual
/-- a value that holds data, all of it tracked -/
inductive Dt (H : Hp) : V → PyData → Prop
  | non : Dt H .non .none
  | bl (b : Bool) : Dt H (.bl b) (.bool b)
  | int (i : Int) : Dt H (.int i) (.int i)
  | str (x : Str) : Dt H (.str x) (.str x)
  | lst {a : Addr} {xs : List V} {ds : List PyData} : H a = some (.lst xs) → DtAll H xs ds → Dt H (.ref a) (.list ds)
  | tup {a : Addr} {xs : List V} {ds : List PyData} : H a = some (.tup xs) → DtAll H xs ds → Dt H (.ref a) (.tuple ds)
inductive DtAll (H : Hp) : List V → List PyData → Prop
  | nil : DtAll H [] []
  | cons {v : V} {vs : List V} {d : PyData} {ds : List PyData} : Dt H v d → DtAll H vs ds → DtAll H (v :: vs) (d :: ds)
end
mutual
theorem Dt.mono {H H' : Hp} (s : Same H H') : ∀ {v : V} {d : PyData}, Dt H v d → Dt H' v d
  | _, _, .non => .non
  | _, _, .bl b => .bl b
  | _, _, .int i => .int i
  | _, _, .str x => .str x
  | _, _, .lst e h => .lst (s _ _ e) (DtAll.mono s h)
  | _, _, .tup e h => .tup (s _ _ e) (DtAll.mono s h)
theorem DtAll.mono {H H' : Hp} (s : Same H H') : ∀ {vs : List V} {ds : List PyData}, DtAll H vs ds → DtAll H' vs ds
  | _, _, .nil => .nil
  | _, _, .cons h t => .cons (Dt.mono s h) (DtAll.mono s t)
end
mutual
theorem Dt.dp {K : PySem.W.Frag} {H : Hp} : ∀ {v : V} {d : PyData}, Dt H v d → Dp K H v d
  | _, _, .non => .non
  | _, _, .bl b => .bl b
  | _, _, .int i => .int i
  | _, _, .str x => .str x
  | _, _, .lst e h => .lst (SqL.of e) (DtAll.dp h)
  | _, _, .tup e h => .tup (SqT.of e) (DtAll.dp h)
theorem DtAll.dp {K : PySem.W.Frag} {H : Hp} : ∀ {vs : List V} {ds : List PyData}, DtAll H vs ds → DpAll K H vs ds
  | _, _, .nil => .nil
  | _, _, .cons h t => .cons (Dt.dp h) (DtAll.dp t)
end
theorem DtAll.length {H : Hp} : ∀ {vs : List V} {ds : List PyData}, DtAll H vs ds → vs.length = ds.length
  | _, _, .nil => rfl
  | _, _, .cons _ t => by rw [List.length_cons, List.length_cons, DtAll.length t]
theorem DtAll.get {H : Hp} : ∀ {vs : List V} {ds : List PyData} {i : Nat} {d : PyData}, DtAll H vs ds → ds[i]? = some d → ∃ v, vs[i]? = some v ∧ Dt H v d
  | _, _, _, _, .nil, h => by simp at h
  | _, _, 0, _, .cons h _, e => by simp at e; subst e; exact ⟨_, rfl, h⟩
  | _, _, i + 1, _, .cons _ t, e => by
    obtain ⟨v, h1, h2⟩ := DtAll.get (i := i) t (by simpa using e)
    exact ⟨v, by simpa using h1, h2⟩
theorem DtAll.getV {H : Hp} : ∀ {vs : List V} {ds : List PyData} {i : Nat} {v : V}, DtAll H vs ds → vs[i]? = some v → ∃ d, ds[i]? = some d ∧ Dt H v d
  | _, _, _, _, .nil, h => by simp at h
  | _, _, 0, _, .cons h _, e => by simp at e; subst e; exact ⟨_, rfl, h⟩
  | _, _, i + 1, _, .cons _ t, e => by
    obtain ⟨v, h1, h2⟩ := DtAll.getV (i := i) t (by simpa using e)
    exact ⟨v, by simpa using h1, h2⟩
theorem DtAll.append {H : Hp} : ∀ {vs ws : List V} {ds es : List PyData}, DtAll H vs ds → DtAll H ws es → DtAll H (vs ++ ws) (ds ++ es)
  | _, _, _, _, .nil, s => s
  | _, _, _, _, .cons h t, s => .cons h (DtAll.append t s)
theorem DtAll.take {H : Hp} : ∀ {vs : List V} {ds : List PyData} (n : Nat), DtAll H vs ds → DtAll H (vs.take n) (ds.take n)
  | _, _, 0, _ => .nil
  | _, _, _ + 1, .nil => .nil
  | _, _, n + 1, .cons h t => .cons h (DtAll.take n t)
theorem DtAll.drop {H : Hp} : ∀ {vs : List V} {ds : List PyData} (n : Nat), DtAll H vs ds → DtAll H (vs.drop n) (ds.drop n)
  | _, _, 0, r => r
  | _, _, _ + 1, .nil => .nil
  | _, _, n + 1, .cons _ t => DtAll.drop n t
/-- ints -/
def intsD (ns : List Int) : List PyData := ns.map PyData.int
theorem DtAll.intsD {H : Hp} : ∀ (ns : List Int), DtAll H (ns.map V.int) (intsD ns)
  | [] => .nil
  | n :: ns => .cons (.int n) (DtAll.intsD ns)
theorem DtAll.intsD_inv {H : Hp} : ∀ {ns : List Int} {vs : List V}, DtAll H vs (Sl.intsD ns) → vs = ns.map V.int
  | [], _, .nil => rfl
  | n :: ns, _, .cons (.int _) t => by rw [DtAll.intsD_inv t]; rfl
/-! ### readings by names -/
def rNewL (Q : VK) (xs : List V) (H1 : Hp) : Prop := xs.length ≤ sizeLine ∧ ∀ p, H1 p = none → Q (.ref p) (upd H1 p (.lst xs))
def rNewT (Q : VK) (xs : List V) (H1 : Hp) : Prop := xs.length ≤ sizeLine ∧ ∀ p, H1 p = none → Q (.ref p) (upd H1 p (.tup xs))
def rMax2 : List V → Hp → VK → Prop := fun xs H Q => ∃ i j, xs = [.int i, .int j] ∧ Q (.int (if j > i then j else i)) H
def rMin2 : List V → Hp → VK → Prop := fun xs H Q => ∃ i j, xs = [.int i, .int j] ∧ Q (.int (if j < i then j else i)) H
def rAbs : List V → Hp → VK → Prop := fun xs H Q => ∃ i, xs = [.int i] ∧ Q (.int (if i < 0 then -i else i)) H
def rInt1 : List V → Hp → VK → Prop := fun xs H Q => (∃ i, xs = [.int i] ∧ Q (.int i) H) ∨ ∃ k, xs = [.bl k] ∧ Q (.int (if k then 1 else 0)) H
def rLenS (K : PySem.W.Frag) : List V → Hp → VK → Prop := fun xs H Q => ∃ p ys, xs = [.ref p] ∧ (SqL K H p ys ∨ SqT K H p ys) ∧ Q (.int ys.length) H
def rIsC (C : Addr) : List V → Hp → VK → Prop := fun xs H Q => ∃ a dx fs, xs = [.ref a, .ref C] ∧ H a = some (.ins C dx fs) ∧ Q (.bl true) H
def rTupOf (K : PySem.W.Frag) : List V → Hp → VK → Prop := fun xs H Q => ∃ p ys, xs = [.ref p] ∧ ((SqL K H p ys ∧ ∀ l, H l = none → Q (.ref l) (upd H l (.tup ys))) ∨ (SqT K H p ys ∧ Q (.ref p) H))
def rLstOf (K : PySem.W.Frag) : List V → Hp → VK → Prop := fun xs H Q => ∃ p ys, xs = [.ref p] ∧ (SqL K H p ys ∨ SqT K H p ys) ∧ ∀ l, H l = none → Q (.ref l) (upd H l (.lst ys))
def rFld (K : PySem.W.Frag) (f : Str) : V → Hp → VK → Prop := fun x H1 Q => ∃ a C dx fs v, x = .ref a ∧ H1 a = some (.ins C dx fs) ∧ Cls K C ∧ NoAttr K C f ∧ fs.lookup f = some v ∧ Q v H1
section
variable {X : Cx}
theorem cr_max2 (hc : X.calm = true) : CallR X (.builtin "max") rMax2 := call_max2 hc
theorem cr_min2 (hc : X.calm = true) : CallR X (.builtin "min") rMin2 := call_min2 hc
theorem cr_abs : CallR X (.builtin "abs") rAbs := call_abs
theorem cr_int1 : CallR X (.type "int") rInt1 := call_int1
theorem cr_lenS : CallR X (.builtin "len") (rLenS X.K) := call_len_seq
theorem cr_isC {C : Addr} (c : InsC X.K C) : CallR X (.builtin "isinstance") (rIsC C) := call_isC c
theorem cr_tupOf : CallR X (.type "tuple") (rTupOf X.K) := call_tuple_of
theorem cr_lstOf : CallR X (.type "list") (rLstOf X.K) := call_list_of
end
/-! ### readings, backwards -/
section
variable {σ : L2.St} {H H' : Hp} {Q : VK} {E : XK} {te ta tb tc : TE} {t u : TS} {g : TG} {i : Nat} {v x y : V} {K : PySem.W.Frag} {nx bk ct : L2.St → Hp → Prop} {rt : VK} {QB : Bool → Hp → Prop} {QL : List V → Hp → Prop} {QS : L2.St → Hp → Prop}
theorem rd_seq (h : t ⟨u ⟨nx, rt, bk, ct⟩, rt, bk, ct⟩ σ H) : tSeq t u ⟨nx, rt, bk, ct⟩ σ H := h
theorem rd_asg (h : te σ H fun x H1 => nx (σ.set i (some x)) H1) : tAsg te (gName i) ⟨nx, rt, bk, ct⟩ σ H := h
theorem rd_asgG (h : te σ H fun x H1 => g x σ H1 nx) : tAsg te g ⟨nx, rt, bk, ct⟩ σ H := h
theorem rd_drop (h : te σ H fun _ H1 => nx σ H1) : tDrop te ⟨nx, rt, bk, ct⟩ σ H := h
theorem rd_ret (h : te σ H rt) : tRet te ⟨nx, rt, bk, ct⟩ σ H := h
theorem rd_retN (h : rt .non H) : tRetN ⟨nx, rt, bk, ct⟩ σ H := h
theorem rd_next (h : nx σ H) : tNext ⟨nx, rt, bk, ct⟩ σ H := h
theorem rd_break (h : bk σ H) : tBreak ⟨nx, rt, bk, ct⟩ σ H := h
theorem rd_cont (h : ct σ H) : tCont ⟨nx, rt, bk, ct⟩ σ H := h
theorem rd_ifS {c : TT} (h : c σ H fun b H1 => if b = true then t ⟨nx, rt, bk, ct⟩ σ H1 else u ⟨nx, rt, bk, ct⟩ σ H1) : tIfS c t u ⟨nx, rt, bk, ct⟩ σ H := h
theorem rd_par {j : Nat} {ta : TA} (h : ta σ H fun vs H1 => ∃ v w, vs = [v, w] ∧ nx ((σ.set i (some v)).set j (some w)) H1) : tPar i j ta ⟨nx, rt, bk, ct⟩ σ H := h
theorem rd_par2 {w : V} {R : V → V → Prop} (h : R v w) : ∃ v' w', [v, w] = [v', w'] ∧ R v' w' := ⟨v, w, rfl, h⟩
theorem rd_par3 {j l : Nat} {ta : TA} (h : ta σ H fun vs H1 => ∃ u v w, vs = [u, v, w] ∧ nx (((σ.set i (some u)).set j (some v)).set l (some w)) H1) : tPar3 i j l ta ⟨nx, rt, bk, ct⟩ σ H := h
theorem rd_par4 {u v w : V} {R : V → V → V → Prop} (h : R u v w) : ∃ u' v' w', [u, v, w] = [u', v', w'] ∧ R u' v' w' := ⟨u, v, w, rfl, h⟩
theorem rd_aug {ti : TIp} (e : σ[i]? = some (some x)) (h : te σ H fun y H1 => ti x y H1 fun z H2 => nx (σ.set i (some z)) H2) : tAug i te ti ⟨nx, rt, bk, ct⟩ σ H := ⟨x, e, h⟩
theorem rd_var (e : σ[i]? = some (some v)) (h : Q v H) : tVar i σ H Q := ⟨v, e, h⟩
theorem rd_var0 (h : ∃ v, σ[i]? = some (some v) ∧ Q v H) : tVar i σ H Q := h
theorem rd_aug0 {ti : TIp} (h : ∃ x, σ[i]? = some (some x) ∧ te σ H fun y H1 => ti x y H1 fun z H2 => nx (σ.set i (some z)) H2) : tAug i te ti ⟨nx, rt, bk, ct⟩ σ H := h
theorem rd_c (h : Q v H) : tC v σ H Q := h
theorem rd_op {r : R2} (h : ta σ H fun x H1 => tb σ H1 fun y H2 => r x y H2 Q) : tOp r ta tb σ H Q := h
theorem rd_un {r : V → Hp → VK → Prop} (h : ta σ H fun x H1 => r x H1 Q) : tUn r ta σ H Q := h
theorem rd_I0 {f : Int → Int → V} {a b : Int} (h : Q (f a b) H) : rI0 f (.int a) (.int b) H Q := ⟨a, b, rfl, rfl, h⟩
theorem rd_I {C : Int → Int → Prop} {f : Int → Int → V} {a b : Int} (c : C a b) (h : Q (f a b) H) : rI C f (.int a) (.int b) H Q := ⟨a, b, rfl, rfl, c, h⟩
theorem rd_U {f : Int → V} {a : Int} (h : Q (f a) H) : rU f (.int a) H Q := ⟨a, rfl, h⟩
theorem rd_ipI {f : Int → Int → Int} {a b : Int} (h : Q (.int (f a b)) H) : ipI f (.int a) (.int b) H Q := ⟨a, b, rfl, rfl, h⟩
theorem rd_eq (s : scal x y = true) (h : Q (.bl (decide (x = y))) H) : rEq x y H Q := ⟨s, h⟩
theorem rd_ne (s : scal x y = true) (h : Q (.bl (!decide (x = y))) H) : rNe x y H Q := ⟨s, h⟩
theorem rd_eqI {a b : Int} (h : Q (.bl (decide (a = b))) H) : rEq (.int a) (.int b) H Q := ⟨rfl, by
  have e : decide (V.int a = V.int b) = decide (a = b) := by
    by_cases c : a = b
    · rw [decide_eq_true c, decide_eq_true (by rw [c])]
    · rw [decide_eq_false c, decide_eq_false (by intro z; exact c (V.int.inj z))]
  rw [e]; exact h⟩
theorem rd_neI {a b : Int} (h : Q (.bl (!decide (a = b))) H) : rNe (.int a) (.int b) H Q := ⟨rfl, by
  have e : decide (V.int a = V.int b) = decide (a = b) := by
    by_cases c : a = b
    · rw [decide_eq_true c, decide_eq_true (by rw [c])]
    · rw [decide_eq_false c, decide_eq_false (by intro z; exact c (V.int.inj z))]
  rw [e]; exact h⟩
theorem rd_test (h : te σ H fun x H' => ∃ k, x = .bl k ∧ QB k H') : tTest te σ H QB := h
theorem rd_tB (h : te σ H fun x H' => ∃ k, x = .bl k ∧ QB k H') : tB te σ H QB := h
theorem rd_bl {b : Bool} {R : Bool → Prop} (h : R b) : ∃ k, V.bl b = .bl k ∧ R k := ⟨b, rfl, h⟩
theorem rd_not {c : TT} (h : c σ H fun b H1 => QB (!b) H1) : tNot c σ H QB := h
theorem rd_and {c d : TT} (h : c σ H fun b H1 => if b = true then d σ H1 QB else QB false H1) : tAnd c d σ H QB := h
theorem rd_or {c d : TT} (h : c σ H fun b H1 => if b = true then QB true H1 else d σ H1 QB) : tOr c d σ H QB := h
theorem rd_andV (h : ta σ H fun x H1 => ∃ c, x = .bl c ∧ if c = true then tb σ H1 Q else Q (.bl false) H1) : tAndV ta tb σ H Q := h
theorem rd_orV (h : ta σ H fun x H1 => ∃ c, x = .bl c ∧ if c = true then Q (.bl true) H1 else tb σ H1 Q) : tOrV ta tb σ H Q := h
theorem rd_notV (h : ta σ H fun x H1 => ∃ c, x = .bl c ∧ Q (.bl (!c)) H1) : tNotV ta σ H Q := h
theorem rd_ifE {c : TT} (h : c σ H fun b H1 => if b = true then ta σ H1 Q else tb σ H1 Q) : tIf c ta tb σ H Q := h
theorem rd_chain {r r' : R2} (h : ta σ H fun x H1 => tb σ H1 fun y H2 => r x y H2 fun z H3 => ∃ k, z = .bl k ∧ (if k = true then tc σ H3 fun w' H4 => r' y w' H4 Q else Q (.bl false) H3)) : tChain r r' ta tb tc σ H Q := h
theorem rd_chain3 {r r' r'' : R2} {td : TE} (h : ta σ H fun x H1 => tb σ H1 fun y H2 => r x y H2 fun z H3 => ∃ k, z = .bl k ∧
  (if k = true then tc σ H3 fun w' H4 => r' y w' H4 fun z' H5 => ∃ k', z' = .bl k' ∧ (if k' = true then td σ H5 fun v' H6 => r'' w' v' H6 Q else Q (.bl false) H5) else Q (.bl false) H3)) : tChain3 r r' r'' ta tb tc td σ H Q := h
theorem rd_nil (h : QL [] H) : tNil σ H QL := h
theorem rd_cons {tr : TA} (h : ta σ H fun x H1 => tr σ H1 fun xs H2 => QL (x :: xs) H2) : tCons ta tr σ H QL := h
theorem rd_call {sp : Sp} {dvs : List V} {t : TA} (h : t σ H fun vs H1 => sp (vs ++ dvs) H1 Q E) : tCall sp dvs E t σ H Q := h
theorem rd_CB {r : List V → Hp → VK → Prop} {t : TA} (h : t σ H fun vs H1 => r vs H1 Q) : tCB r t σ H Q := h
theorem rd_gname {j : Nat} (h : QS (σ.set j (some v)) H) : gName j v σ H QS := h
theorem rd_gcons {tg : TG} {ug : TGs} {r : List V} (h : tg v σ H fun σ' H' => ug r σ' H' QS) : gCons tg ug (v :: r) σ H QS := ⟨v, r, rfl, h⟩
theorem rd_gnil (h : QS σ H) : gNil [] σ H QS := ⟨rfl, h⟩
theorem rd_gtup {n : Nat} {tg : TGs} {a : Addr} {xs : List V} (e : H a = some (.tup xs)) (l : xs.length = n) (h : tg xs σ H QS) : gTup K n tg (.ref a) σ H QS := ⟨a, xs, rfl, SqT.of e, l, h⟩
theorem rd_max {a b : Int} (h : Q (.int (max a b)) H) : rMax2 [.int a, .int b] H Q := ⟨a, b, rfl, by
  have e : (if b > a then b else a) = max a b := by split <;> omega
  rw [e]; exact h⟩
theorem rd_min {a b : Int} (h : Q (.int (min a b)) H) : rMin2 [.int a, .int b] H Q := ⟨a, b, rfl, by
  have e : (if b < a then b else a) = min a b := by split <;> omega
  rw [e]; exact h⟩
theorem rd_lenL {a : Addr} {xs : List V} (e : H a = some (.lst xs)) (h : Q (.int xs.length) H) : rLenS K [.ref a] H Q := ⟨a, xs, rfl, .inl (SqL.of e), h⟩
theorem rd_lenT {a : Addr} {xs : List V} (e : H a = some (.tup xs)) (h : Q (.int xs.length) H) : rLenS K [.ref a] H Q := ⟨a, xs, rfl, .inr (SqT.of e), h⟩
theorem rd_lenSq {a : Addr} {xs : List V} (e : SqL K H a xs) (h : Q (.int xs.length) H) : rLenS K [.ref a] H Q := ⟨a, xs, rfl, .inl e, h⟩
theorem rd_int1 {a : Int} (h : Q (.int a) H) : rInt1 [.int a] H Q := .inl ⟨a, rfl, h⟩
theorem rd_abs {a : Int} (h : Q (.int a.natAbs) H) : rAbs [.int a] H Q := ⟨a, rfl, by
  have e : (if a < 0 then -a else a) = (a.natAbs : Int) := by split <;> omega
  rw [e]; exact h⟩
theorem rd_isC {C a dx : Addr} {fs : List (Str × V)} (e : H a = some (.ins C dx fs)) (h : Q (.bl true) H) : rIsC C [.ref a, .ref C] H Q := ⟨a, dx, fs, rfl, e, h⟩
theorem rd_tupOfL {a : Addr} {xs : List V} (e : H a = some (.lst xs)) (h : ∀ p H', H p = none → Same H H' → H' p = some (.tup xs) → H' = upd H p (.tup xs) → Q (.ref p) H') : rTupOf K [.ref a] H Q :=
  ⟨a, xs, rfl, .inl ⟨SqL.of e, fun p hp => h p _ hp (Same.new (Same.refl H) hp) upd_same rfl⟩⟩
theorem rd_tupOfT {a : Addr} {xs : List V} (e : H a = some (.tup xs)) (h : Q (.ref a) H) : rTupOf K [.ref a] H Q := ⟨a, xs, rfl, .inr ⟨SqT.of e, h⟩⟩
theorem rd_fld0 {f : Str} (h : te σ H fun x H1 => rFld K f x H1 Q) : tFld K te f σ H Q := h
theorem rd_fld {a C dx : Addr} {fs : List (Str × V)} {f : Str} (e : H a = some (.ins C dx fs)) (c : Cls K C) (n : NoAttr K C f) (l : fs.lookup f = some v) (h : Q v H) : rFld K f (.ref a) H Q :=
  ⟨a, C, dx, fs, v, rfl, e, c, n, l, h⟩
theorem rd_sum {a : Addr} {ns : List Int} (e : SqL K H a (ns.map V.int)) (h : Q (.int ns.sum) H) : rSum K [.ref a] H Q := ⟨a, ns, rfl, e, h⟩
theorem rd_sl0 {r : V → Option Int → Option Int → Hp → VK → Prop} {tl th : TO} (h : te σ H fun x H1 => tl σ H1 fun l H2 => th σ H2 fun u H3 => r x l u H3 Q) : tSl r te tl th σ H Q := h
theorem rd_noP {QO : Option Int → Hp → Prop} (h : QO none H) : tNoPart σ H QO := h
theorem rd_part {QO : Option Int → Hp → Prop} (h : te σ H fun x H1 => ∃ i, x = .int i ∧ QO (some i) H1) : tPart te σ H QO := h
theorem rd_part2 {R : Int → Prop} {j : Int} (h : R j) : ∃ i, V.int j = .int i ∧ R i := ⟨j, rfl, h⟩
theorem rd_slL {a : Addr} {xs : List V} {lo hi : Option Int} (e : SqL K H a xs) (h : ∀ p H', H p = none → Same H H' → H' p = some (.lst (cutV xs lo hi)) → H' = upd H p (.lst (cutV xs lo hi)) → Q (.ref p) H') : rSlL K (.ref a) lo hi H Q :=
  ⟨a, xs, rfl, e, fun p hp => h p _ hp (Same.new (Same.refl H) hp) upd_same rfl⟩
theorem cut_whole {xs : List V} {lo hi : Option Int} (h : HT.sIx xs.length 0 lo = 0 ∧ HT.sIx xs.length xs.length hi = xs.length) : cutV xs lo hi = xs := by
  unfold cutV
  rw [h.1, h.2]
  simp
theorem rd_slA {a : Addr} {xs : List V} {lo hi : Option Int} (e : H a = some (.tup xs)) (h : ∀ p H', Same H H' → H' p = some (.tup (cutV xs lo hi)) → Q (.ref p) H') : rSlA K (.ref a) lo hi H Q :=
  ⟨a, xs, rfl, SqT.of e, fun c => h a H (Same.refl H) (by rw [cut_whole c]; exact e), fun _ p hp => h p _ (Same.new (Same.refl H) hp) upd_same⟩
theorem rd_cat {a b : Addr} {xs ys : List V} (e1 : H a = some (.lst xs)) (e2 : H b = some (.lst ys)) (l : xs.length + ys.length ≤ 100000) (h : ∀ p H', H p = none → Same H H' → H' p = some (.lst (xs ++ ys)) → H' = upd H p (.lst (xs ++ ys)) → Q (.ref p) H') : rCat (.ref a) (.ref b) H Q :=
  ⟨a, b, xs, ys, rfl, rfl, e1, e2, Nat.le_trans l (by decide), fun p hp => h p _ hp (Same.new (Same.refl H) hp) upd_same rfl⟩
theorem rd_eqD {d e : PyData} (h1 : Dt H x d) (h2 : Dt H y e) (s1 : SeqAt.shaped d = true) (s2 : SeqAt.shaped e = true) (h : Q (.bl (PyData.eqv d e)) H) : rEqD K x y H Q := ⟨d, e, h1.dp, h2.dp, s1, s2, h⟩
theorem rd_neD {d e : PyData} (h1 : Dt H x d) (h2 : Dt H y e) (s1 : SeqAt.shaped d = true) (s2 : SeqAt.shaped e = true) (h : Q (.bl (!PyData.eqv d e)) H) : rNeD K x y H Q := ⟨d, e, h1.dp, h2.dp, s1, s2, h⟩
theorem rd_ownI {C a dx : Addr} {fs : List (Str × V)} {sp : Sp} {dvs : List V} (e : H a = some (.ins C dx fs)) (h : sp (.ref a :: ([y] ++ dvs)) H Q C8.E0) : rOwnI C sp dvs (.ref a) y H Q := ⟨a, dx, fs, rfl, e, h⟩
theorem rd_meth0 {C : Addr} {m : Str} {sp : Sp} {dvs : List V} {t : TA} (h : ta σ H fun x H1 => ∃ a dx fs, x = .ref a ∧ H1 a = some (.ins C dx fs) ∧ fs.lookup m = none ∧ t σ H1 fun vs H2 => sp (x :: (vs ++ dvs)) H2 Q E) : tMeth C m sp dvs E ta t σ H Q := h
theorem rd_star {t : TA} (h : te σ H fun x H1 => ∃ p xs, x = V.ref p ∧ (SqT K H1 p xs ∨ SqL K H1 p xs) ∧ t σ H1 fun ys H2 => QL (xs ++ ys) H2) : tStar K te t σ H QL := h
theorem rd_ixL {a : Addr} {xs : List V} {j : Int} (e : H a = some (.lst xs)) (n : atI xs j = some v) (h : Q v H) : rIxL K (.ref a) (.int j) H Q := ⟨a, xs, j, v, rfl, rfl, SqL.of e, n, h⟩
theorem rd_ixT {a : Addr} {xs : List V} {j : Int} (e : H a = some (.tup xs)) (n : atI xs j = some v) (h : Q v H) : rIxT K (.ref a) (.int j) H Q := ⟨a, xs, j, v, rfl, rfl, SqT.of e, n, h⟩
theorem rd_lst {t : TA} (h : t σ H fun xs H1 => rNewL Q xs H1) : tLst t σ H Q := h
theorem rd_tup {t : TA} (h : t σ H fun xs H1 => rNewT Q xs H1) : tTup t σ H Q := h
/-- a new object: its heap by a name -/
theorem rd_newL {xs : List V} (l : xs.length ≤ 100000) (h : ∀ p H', H p = none → Same H H' → H' p = some (.lst xs) → H' = upd H p (.lst xs) → Q (.ref p) H') : rNewL Q xs H :=
  ⟨Nat.le_trans l (by decide), fun p hp => h p _ hp (Same.new (Same.refl H) hp) upd_same rfl⟩
theorem rd_newT {xs : List V} (l : xs.length ≤ 100000) (h : ∀ p H', H p = none → Same H H' → H' p = some (.tup xs) → H' = upd H p (.tup xs) → Q (.ref p) H') : rNewT Q xs H :=
  ⟨Nat.le_trans l (by decide), fun p hp => h p _ hp (Same.new (Same.refl H) hp) upd_same rfl⟩
theorem rd_app {a : Addr} {xs : List V} (e : H a = some (.lst xs)) (l : xs.length < 100000) (h : ∀ H', H' = upd H a (.lst (xs ++ [y])) → H' a = some (.lst (xs ++ [y])) → Q .non H') : rAppend (.ref a) [y] H Q :=
  ⟨a, xs, y, rfl, rfl, e, Nat.lt_trans l (by decide), h _ rfl upd_same⟩
theorem rd_bm {r : V → List V → Hp → VK → Prop} {t : TA} (h : ta σ H fun x H1 => tyV K "list" x H1 ∧ t σ H1 fun xs H2 => r x xs H2 Q) : tBM K "list" r ta t σ H Q := h
theorem rd_tyL {a : Addr} {xs : List V} {R : Prop} (e : H a = some (.lst xs)) (h : R) : tyV K "list" (.ref a) H ∧ R := ⟨.inl ⟨rfl, xs, SqL.of e⟩, h⟩
theorem rd_ite {p : Prop} [Decidable p] {A B : Prop} (h1 : p → A) (h2 : ¬ p → B) : if decide p = true then A else B := by
  by_cases c : p
  · rw [if_pos (decide_eq_true c)]; exact h1 c
  · rw [if_neg (by rw [decide_eq_false c]; exact Bool.false_ne_true)]; exact h2 c
theorem rd_iteT {p : Prop} [Decidable p] {A B : Prop} (c : p) (h1 : A) : if decide p = true then A else B := by rw [if_pos (decide_eq_true c)]; exact h1
theorem rd_iteF {p : Prop} [Decidable p] {A B : Prop} (c : ¬ p) (h1 : B) : if decide p = true then A else B := by rw [if_neg (by rw [decide_eq_false c]; exact Bool.false_ne_true)]; exact h1
theorem rd_iteN {p : Prop} [Decidable p] {A B : Prop} (h1 : ¬ p → A) (h2 : p → B) : if (!decide p) = true then A else B := by
  by_cases c : p
  · rw [if_neg (by rw [decide_eq_true c]; decide)]; exact h2 c
  · rw [if_pos (by rw [decide_eq_false c]; rfl)]; exact h1 c
theorem rd_iteNT {p : Prop} [Decidable p] {A B : Prop} (c : ¬ p) (h1 : A) : if (!decide p) = true then A else B := by rw [if_pos (by rw [decide_eq_false c]; rfl)]; exact h1
theorem rd_iteNF {p : Prop} [Decidable p] {A B : Prop} (c : p) (h1 : B) : if (!decide p) = true then A else B := by rw [if_neg (by rw [decide_eq_true c]; decide)]; exact h1
theorem rd_iteTT {A B : Prop} (h : A) : if true = true then A else B := by rw [if_pos rfl]; exact h
theorem rd_iteFF {A B : Prop} (h : B) : if false = true then A else B := by rw [if_neg Bool.false_ne_true]; exact h
theorem rd_iteNTT {A B : Prop} (h : B) : if (!true) = true then A else B := h
theorem rd_iteNFF {A B : Prop} (h : A) : if (!false) = true then A else B := h
end
end Sl
set_option Elab.async false
set_option linter.all false
set_option maxRecDepth 100000
set_option maxHeartbeats 4000000
namespace Sl
open PySem L2 C8 StX
def rMake (C : Addr) (sp : Sp) (dvs : List V) (E : XK) (Q : VK) (vs : List V) (H1 : Hp) : Prop := ∀ x dx, H1 x = none → H1 dx = none → dx ≠ x →
  sp (.ref x :: (vs ++ dvs)) (upd (upd H1 dx (.own x)) x (.ins C dx [])) (fun v H2 => v = .non ∧ Q (.ref x) H2) E
def rDrawN (Q : VK) (xs : List V) (H1 : Hp) : Prop := ∃ sc i, xs = [.ref sc, .int i] ∧ ∀ p, H1 p = none → Q (.ref p) (upd H1 p (DrawO p sc))
section
variable {σ : L2.St} {H H1 : Hp} {wi : TI} {g : TG} {tb : TS} {ta : TA} {te : TE} {tt : TT} {c : TT} {nx bk ct : L2.St → Hp → Prop} {rt : VK} {R : It → Hp → Prop} {K : PySem.W.Frag} {Q : VK} {vs : List Nat} {D : Ends}
def ForR (J : It) (g : TG) (tb : TS) (D : Ends) (σ : L2.St) (H1 : Hp) : Prop := ∃ W : Nat → Nat → L2.St → Hp → Prop, (∃ m, W 0 m σ H1) ∧ ∀ i m σ H, W i m σ H →
  (J.stop i H ∧ D.nx σ H) ∨ (J.go i H ∧ ∃ N : L2.St → Hp → Prop, (∀ σ' H', N σ' H' → ∃ m', m' < m ∧ W (i + 1) m' σ' H') ∧ ∀ x H', J.yld i H x H' → g x σ H' fun σ2 H2 => tb { D with nx := N, ct := N, bk := D.nx } σ2 H2)
theorem rd_for (h : wi σ H fun J H1 => ForR J g tb D σ H1) : tFor wi g tb D σ H := h
/-- n turns -/
theorem forR_gen (J : It) (n : Nat) (Pv : Nat → L2.St → Hp → Prop) (h0 : Pv 0 σ H) (hg : ∀ i σ H, i < n → Pv i σ H → J.go i H) (he : ∀ σ H, Pv n σ H → J.stop n H)
    (hs : ∀ i σ H x H', i < n → Pv i σ H → J.yld i H x H' → g x σ H' fun σ2 H2 => tb ⟨Pv (i + 1), rt, nx, Pv (i + 1)⟩ σ2 H2) (hd : ∀ σ H, Pv n σ H → nx σ H) : ForR J g tb ⟨nx, rt, bk, ct⟩ σ H := by
  refine ⟨fun i m σ H => m = n - i ∧ i ≤ n ∧ Pv i σ H, ⟨n, by simp, Nat.zero_le _, h0⟩, ?_⟩
  rintro i m σ H ⟨rfl, hi, p⟩
  by_cases hlt : i < n
  · exact .inr ⟨hg i σ H hlt p, Pv (i + 1), fun σ' H' p' => ⟨n - (i + 1), by omega, rfl, hlt, p'⟩, fun x H' y => hs i σ H x H' hlt p y⟩
  · obtain rfl : i = n := by omega
    exact .inl ⟨he σ H p, hd σ H p⟩
theorem forR_rng {lo : Int} {n : Nat} (Pv : Nat → L2.St → Hp → Prop) (h0 : Pv 0 σ H) (hs : ∀ i σ H, i < n → Pv i σ H → g (.int (lo + i)) σ H fun σ2 H2 => tb ⟨Pv (i + 1), rt, nx, Pv (i + 1)⟩ σ2 H2) (hd : ∀ σ H, Pv n σ H → nx σ H) :
    ForR (Itr lo n) g tb ⟨nx, rt, bk, ct⟩ σ H := forR_gen _ n Pv h0 (fun i _ _ h _ => h) (fun _ _ _ => Nat.le_refl _) (fun i σ H x H' hi p ⟨e1, e2⟩ => by subst e1; subst e2; exact hs i σ _ hi p) hd
theorem forR_rngC {lo c : Int} {n : Nat} (Pv : Nat → L2.St → Hp → Prop) (h0 : Pv 0 σ H) (hs : ∀ (i : Nat) σ H, i < n → Pv i σ H → g (.int (lo + (i : Nat) * c)) σ H fun σ2 H2 => tb ⟨Pv (i + 1), rt, nx, Pv (i + 1)⟩ σ2 H2) (hd : ∀ σ H, Pv n σ H → nx σ H) :
    ForR (Itc lo c n) g tb ⟨nx, rt, bk, ct⟩ σ H := forR_gen _ n Pv h0 (fun i _ _ h _ => h) (fun _ _ _ => Nat.le_refl _) (fun i σ H x H' hi p ⟨e1, e2⟩ => by subst e1; subst e2; exact hs i σ _ hi p) hd
theorem forR_lst {a : Addr} {xs : List V} (Pv : Nat → L2.St → Hp → Prop) (hl : ∀ i σ H, Pv i σ H → SqL K H a xs) (h0 : Pv 0 σ H) (hs : ∀ i x σ H, xs[i]? = some x → Pv i σ H → g x σ H fun σ2 H2 => tb ⟨Pv (i + 1), rt, nx, Pv (i + 1)⟩ σ2 H2) (hd : ∀ σ H, Pv xs.length σ H → nx σ H) :
    ForR (Itl K a) g tb ⟨nx, rt, bk, ct⟩ σ H := forR_gen _ xs.length Pv h0 (fun i σ H h p => ⟨xs, xs[i], hl i σ H p, by simp [h]⟩) (fun σ H p => ⟨xs, hl _ σ H p, Nat.le_refl _⟩)
      (fun i σ H x H' hi p ⟨e1, e2⟩ => by subst e1; exact hs i x σ _ (e2 xs (hl i σ _ p)) p) hd
theorem forR_tup {a : Addr} {xs : List V} (Pv : Nat → L2.St → Hp → Prop) (hl : ∀ i σ H, Pv i σ H → SqT K H a xs) (h0 : Pv 0 σ H) (hs : ∀ i x σ H, xs[i]? = some x → Pv i σ H → g x σ H fun σ2 H2 => tb ⟨Pv (i + 1), rt, nx, Pv (i + 1)⟩ σ2 H2) (hd : ∀ σ H, Pv xs.length σ H → nx σ H) :
    ForR (Itt K a) g tb ⟨nx, rt, bk, ct⟩ σ H := forR_gen _ xs.length Pv h0 (fun i σ H h p => ⟨xs, xs[i], hl i σ H p, by simp [h]⟩) (fun σ H p => ⟨xs, hl _ σ H p, Nat.le_refl _⟩)
      (fun i σ H x H' hi p ⟨e1, e2⟩ => by subst e1; exact hs i x σ _ (e2 xs (hl i σ _ p)) p) hd
/-- the pair is a new tuple at t -/
theorem forR_enum {a : Addr} {xs : List V} (Pv : Nat → L2.St → Hp → Prop) (hl : ∀ i σ H, Pv i σ H → SqL K H a xs) (h0 : Pv 0 σ H)
    (hs : ∀ (i : Nat) x σ H t H', xs[i]? = some x → Pv i σ H → H t = none → Same H H' → H' t = some (.tup [.int (i : Nat), x]) → H' = upd H t (.tup [.int (i : Nat), x]) → g (.ref t) σ H' fun σ2 H2 => tb ⟨Pv (i + 1), rt, nx, Pv (i + 1)⟩ σ2 H2) (hd : ∀ σ H, Pv xs.length σ H → nx σ H) :
    ForR (Ite K a) g tb ⟨nx, rt, bk, ct⟩ σ H := forR_gen _ xs.length Pv h0 (fun i σ H h p => ⟨xs, xs[i], hl i σ H p, by simp [h]⟩) (fun σ H p => ⟨xs, hl _ σ H p, Nat.le_refl _⟩)
      (fun i σ H x H' hi p ⟨t, y, e1, e2, e3, e4⟩ => by subst e1; subst e3; exact hs i y σ H t _ (e4 xs (hl i σ _ p)) p e2 (Same.new (Same.refl H) e2) upd_same rfl) hd
/-! ### what is walked -/
def rgR1 (R : It → Hp → Prop) (vs : List V) (H : Hp) : Prop := ∃ j : Int, vs = [.int j] ∧ -(2 ^ 62) ≤ j ∧ j < 2 ^ 62 ∧ R (Itr 0 j.toNat) H
theorem rd_rng1 (h : ta σ H fun vs H1 => rgR1 R vs H1) : iRng1 ta σ H R := h
theorem rd_rgR1 {j : Int} (h0 : -(2 ^ 62) ≤ j) (h1 : j < 2 ^ 62) (h : R (Itr 0 j.toNat) H) : rgR1 R [.int j] H := ⟨j, rfl, h0, h1, h⟩
def rgR2 (R : It → Hp → Prop) (vs : List V) (H : Hp) : Prop := ∃ i j : Int, vs = [.int i, .int j] ∧ (-(2 ^ 62) ≤ i ∧ i < 2 ^ 62 ∧ -(2 ^ 62) ≤ j ∧ j < 2 ^ 62) ∧ R (Itr i (j - i).toNat) H
theorem rd_rng2 (h : ta σ H fun vs H1 => rgR2 R vs H1) : iRng2 ta σ H R := h
theorem rd_rgR2 {i j : Int} (h0 : -(2 ^ 62) ≤ i ∧ i < 2 ^ 62 ∧ -(2 ^ 62) ≤ j ∧ j < 2 ^ 62) (h : R (Itr i (j - i).toNat) H) : rgR2 R [.int i, .int j] H := ⟨i, j, rfl, h0, h⟩
def rgR3 (R : It → Hp → Prop) (vs : List V) (H : Hp) : Prop := ∃ (i j c : Int) (n : Nat), vs = [.int i, .int j, .int c] ∧ RgC i j c n ∧ R (Itc i c n) H
theorem rd_rng3 (h : ta σ H fun vs H1 => rgR3 R vs H1) : iRng3 ta σ H R := h
theorem rd_rgDn {i j : Int} (h0 : -(2 ^ 62) ≤ i ∧ i < 2 ^ 62 ∧ -(2 ^ 62) ≤ j ∧ j < 2 ^ 62) (h : R (Itc i (-1) (i - j).toNat) H) : rgR3 R [.int i, .int j, .int (-1)] H := ⟨i, j, -1, _, rfl, RgC.neg h0.1 h0.2.1 h0.2.2.1 h0.2.2.2, h⟩
def lsR (K : PySem.W.Frag) (R : It → Hp → Prop) (x : V) (H : Hp) : Prop := ∃ a, x = .ref a ∧ (∃ xs, SqL K H a xs) ∧ R (Itl K a) H
theorem rd_iList (h : te σ H fun x H1 => lsR K R x H1) : iList K te σ H R := h
theorem rd_lsR {a : Addr} {xs : List V} (e : SqL K H a xs) (h : R (Itl K a) H) : lsR K R (.ref a) H := ⟨a, rfl, ⟨xs, e⟩, h⟩
def tpR (K : PySem.W.Frag) (R : It → Hp → Prop) (x : V) (H : Hp) : Prop := ∃ a, x = .ref a ∧ (∃ xs, SqT K H a xs) ∧ R (Itt K a) H
theorem rd_iTup (h : te σ H fun x H1 => tpR K R x H1) : iTup K te σ H R := h
theorem rd_tpR {a : Addr} {xs : List V} (e : SqT K H a xs) (h : R (Itt K a) H) : tpR K R (.ref a) H := ⟨a, rfl, ⟨xs, e⟩, h⟩
def enR (K : PySem.W.Frag) (R : It → Hp → Prop) (vs : List V) (H : Hp) : Prop := ∃ a xs, vs = [.ref a] ∧ SqL K H a xs ∧ R (Ite K a) H
theorem rd_iEnum (h : ta σ H fun vs H1 => enR K R vs H1) : iEnum K ta σ H R := h
theorem rd_enR {a : Addr} {xs : List V} (e : SqL K H a xs) (h : R (Ite K a) H) : enR K R [.ref a] H := ⟨a, xs, rfl, e, h⟩
/-! ### while -/
def WhN (m : Nat) (W : Nat → L2.St → Hp → Prop) (tb : TS) (rt : VK) (nx : L2.St → Hp → Prop) (σ : L2.St) (H1 : Hp) : Prop := ∃ N : L2.St → Hp → Prop, (∀ σ' H', N σ' H' → ∃ m', m' < m ∧ W m' σ' H') ∧ tb ⟨N, rt, nx, N⟩ σ H1
theorem rd_whN {m : Nat} {W : Nat → L2.St → Hp → Prop} (h : tb ⟨fun σ' H' => ∃ m', m' < m ∧ W m' σ' H', rt, nx, fun σ' H' => ∃ m', m' < m ∧ W m' σ' H'⟩ σ H) : WhN m W tb rt nx σ H := ⟨_, fun _ _ q => q, h⟩
theorem rd_while (W : Nat → L2.St → Hp → Prop) (m0 : Nat) (h0 : W m0 σ H) (hs : ∀ m σ H, W m σ H → c σ H fun b H1 => if b = true then WhN m W tb rt nx σ H1 else nx σ H1) :
    tWhile c tb ⟨nx, rt, bk, ct⟩ σ H := ⟨W, ⟨m0, h0⟩, hs⟩
/-! ### a new instance -/
theorem rd_make0 {C : Addr} {sp : Sp} {dvs : List V} {E : XK} {t : TA} (h : t σ H fun vs H1 => rMake C sp dvs E Q vs H1) : tMake C sp dvs E t σ H Q := h
theorem rd_make {C : Addr} {sp : Sp} {dvs : List V} {E : XK} {ws : List V} (h : ∀ x dx H2, Same H H2 → H x = none → H2 x = some (.ins C dx []) → sp (.ref x :: (ws ++ dvs)) H2 (fun v H3 => v = .non ∧ Q (.ref x) H3) E) : rMake C sp dvs E Q ws H :=
  fun x dx hx hdx hne => h x dx _ (fun b o e => by rw [upd_ne (ne_of_none e hx), upd_ne (ne_of_none e hdx)]; exact e) hx upd_same
/-! ### draws -/
theorem rd_augS {to ti te : TE} {tget : V → V → Hp → VK → Prop} {tip : TIp} {tset : TSet} (h : to σ H fun o H1 => ti σ H1 fun i H2 => tget o i H2 fun x H3 => te σ H3 fun y H4 => tip x y H4 fun z H5 => tset o i z H5 fun H6 => nx σ H6) : tAugS to ti te tget tip tset ⟨nx, rt, bk, ct⟩ σ H := h
theorem rd_draw0 {a sc : Addr} (e : H a = some (DrawO a sc)) (h : Q (.ref sc) H) : rDraw0 (.ref a) (.int 0) H Q := ⟨a, sc, rfl, rfl, e, h⟩
theorem rd_draw1 {a sc : Addr} (e : H a = some (DrawO a sc)) (h : ∀ i : Int, Q (.int i) H) : rDraw1 (.ref a) (.int 1) H Q := ⟨a, sc, rfl, rfl, e, h⟩
theorem rd_setDraw1 {a sc : Addr} {j : Int} {QH : Hp → Prop} (e : H a = some (DrawO a sc)) (h : QH H) : sDraw1 (.ref a) (.int 1) (.int j) H QH := ⟨a, sc, j, rfl, rfl, rfl, e, h⟩
theorem rd_drawNew {t : TA} (h : t σ H fun xs H1 => rDrawN Q xs H1) : tDraw t σ H Q := h
theorem rd_drawN {sc : Addr} {j : Int} (h : ∀ p H', H p = none → Same H H' → H' p = some (DrawO p sc) → Q (.ref p) H') : rDrawN Q [.ref sc, .int j] H := ⟨sc, j, rfl, fun p hp => h p _ hp (Same.new (Same.refl H) hp) upd_same⟩
/-! ### comprehensions -/
theorem rd_yes {QB : Bool → Hp → Prop} (h : QB true H) : tYes σ H QB := h
def LcR (J : It) (g : TG) (tt : TT) (te : TE) (vs : List Nat) (σ : L2.St) (H1 : Hp) (Q : VK) : Prop := ∀ D, H1 D = none → ∃ W : Nat → Nat → Hp → Prop, (∃ m, W 0 m (upd H1 D (.lst []))) ∧ ∀ i m H, W i m H →
  (J.stop i H ∧ Q (.ref D) H) ∨ (J.go i H ∧ ∃ Nx : Hp → Prop, (∀ H', Nx H' → ∃ m', m' < m ∧ W (i + 1) m' H') ∧ ∀ x H', J.yld i H x H' → g x (wipe σ vs) H' fun σ2 H2 => wipe σ2 vs = wipe σ vs ∧ tt σ2 H2 fun b H3 =>
    if b = true then te σ2 H3 fun y H4 => ∃ acc, H4 D = some (.lst acc) ∧ acc.length < sizeLine ∧ Nx (upd H4 D (.lst (acc ++ [y]))) else Nx H3)
theorem rd_lc (h : wi σ H fun J H1 => LcR J g tt te vs σ H1 Q) : tLc wi g tt te vs σ H Q := h
/-- what a comprehension does with an element -/
def LcE (D : Addr) (Nx : Hp → Prop) (y : V) (H4 : Hp) : Prop := ∃ acc, H4 D = some (.lst acc) ∧ acc.length < sizeLine ∧ Nx (upd H4 D (.lst (acc ++ [y])))
theorem rd_lcE {D : Addr} {Nx : Hp → Prop} {y : V} {acc : List V} (e : H D = some (.lst acc)) (l : acc.length < 100000) (h : ∀ H', H' = upd H D (.lst (acc ++ [y])) → H' D = some (.lst (acc ++ [y])) → Nx H') : LcE D Nx y H := ⟨acc, e, Nat.lt_trans l (by decide), h _ rfl upd_same⟩
theorem lcR_gen (J : It) (n : Nat) (Pv : Addr → Nat → Hp → Prop) (h0 : ∀ D H', H D = none → Same H H' → H' D = some (.lst []) → H' = upd H D (.lst []) → Pv D 0 H') (hg : ∀ D i H', H D = none → i < n → Pv D i H' → J.go i H') (he : ∀ D H', H D = none → Pv D n H' → J.stop n H')
    (hs : ∀ D i H' x H2, H D = none → i < n → Pv D i H' → J.yld i H' x H2 → g x (wipe σ vs) H2 fun σ2 H2 => wipe σ2 vs = wipe σ vs ∧ tt σ2 H2 fun b H3 => if b = true then te σ2 H3 fun y H4 => LcE D (Pv D (i + 1)) y H4 else Pv D (i + 1) H3)
    (hd : ∀ D H', H D = none → Pv D n H' → Q (.ref D) H') : LcR J g tt te vs σ H Q := by
  intro D hD
  refine ⟨fun i m H => m = n - i ∧ i ≤ n ∧ Pv D i H, ⟨n, by simp, Nat.zero_le _, h0 D _ hD (Same.new (Same.refl H) hD) upd_same rfl⟩, ?_⟩
  rintro i m H' ⟨rfl, hi, p⟩
  by_cases hlt : i < n
  · exact .inr ⟨hg D i H' hD hlt p, Pv D (i + 1), fun H2 p' => ⟨n - (i + 1), by omega, rfl, hlt, p'⟩, fun x H2 y => hs D i H' x H2 hD hlt p y⟩
  · obtain rfl : i = n := by omega
    exact .inl ⟨he D H' hD p, hd D H' hD p⟩
theorem lcR_rng {lo : Int} {n : Nat} (Pv : Addr → Nat → Hp → Prop) (h0 : ∀ D H', H D = none → Same H H' → H' D = some (.lst []) → H' = upd H D (.lst []) → Pv D 0 H')
    (hs : ∀ D i H', H D = none → i < n → Pv D i H' → g (.int (lo + i)) (wipe σ vs) H' fun σ2 H2 => wipe σ2 vs = wipe σ vs ∧ tt σ2 H2 fun b H3 => if b = true then te σ2 H3 fun y H4 => LcE D (Pv D (i + 1)) y H4 else Pv D (i + 1) H3)
    (hd : ∀ D H', H D = none → Pv D n H' → Q (.ref D) H') : LcR (Itr lo n) g tt te vs σ H Q :=
  lcR_gen _ n Pv h0 (fun _ i _ _ h _ => h) (fun _ _ _ _ => Nat.le_refl _) (fun D i H x H' hD hi p ⟨e1, e2⟩ => by subst e1; subst e2; exact hs D i _ hD hi p) hd
theorem lcR_lst {a : Addr} {xs : List V} (Pv : Addr → Nat → Hp → Prop) (hl : ∀ D i H', H D = none → Pv D i H' → SqL K H' a xs) (h0 : ∀ D H', H D = none → Same H H' → H' D = some (.lst []) → H' = upd H D (.lst []) → Pv D 0 H')
    (hs : ∀ D i x H', H D = none → xs[i]? = some x → Pv D i H' → g x (wipe σ vs) H' fun σ2 H2 => wipe σ2 vs = wipe σ vs ∧ tt σ2 H2 fun b H3 => if b = true then te σ2 H3 fun y H4 => LcE D (Pv D (i + 1)) y H4 else Pv D (i + 1) H3)
    (hd : ∀ D H', H D = none → Pv D xs.length H' → Q (.ref D) H') : LcR (Itl K a) g tt te vs σ H Q :=
  lcR_gen _ xs.length Pv h0 (fun D i H' hD h p => ⟨xs, xs[i], hl D i H' hD p, by simp [h]⟩) (fun D H' hD p => ⟨xs, hl D _ H' hD p, Nat.le_refl _⟩)
    (fun D i H' x H2 hD hi p ⟨e1, e2⟩ => by subst e1; exact hs D i x _ hD (e2 xs (hl D i _ hD p)) p) hd
theorem lcR_enum {a : Addr} {xs : List V} (Pv : Addr → Nat → Hp → Prop) (hl : ∀ D i H', H D = none → Pv D i H' → SqL K H' a xs) (h0 : ∀ D H', H D = none → Same H H' → H' D = some (.lst []) → H' = upd H D (.lst []) → Pv D 0 H')
    (hs : ∀ D (i : Nat) x H' t H2, H D = none → xs[i]? = some x → Pv D i H' → H' t = none → Same H' H2 → H2 t = some (.tup [.int (i : Nat), x]) → H2 = upd H' t (.tup [.int (i : Nat), x]) → g (.ref t) (wipe σ vs) H2 fun σ2 H2 => wipe σ2 vs = wipe σ vs ∧ tt σ2 H2 fun b H3 => if b = true then te σ2 H3 fun y H4 => LcE D (Pv D (i + 1)) y H4 else Pv D (i + 1) H3)
    (hd : ∀ D H', H D = none → Pv D xs.length H' → Q (.ref D) H') : LcR (Ite K a) g tt te vs σ H Q :=
  lcR_gen _ xs.length Pv h0 (fun D i H' hD h p => ⟨xs, xs[i], hl D i H' hD p, by simp [h]⟩) (fun D H' hD p => ⟨xs, hl D _ H' hD p, Nat.le_refl _⟩)
    (fun D i H' x H2 hD hi p ⟨t, y, e1, e2, e3, e4⟩ => by subst e1; subst e3; exact hs D i y H' t _ hD (e4 xs (hl D i _ hD p)) p e2 (Same.new (Same.refl H') e2) upd_same rfl) hd
end
end Sl
set_option Elab.async false
set_option linter.all false
set_option maxRecDepth 100000
set_option maxHeartbeats 4000000
namespace L2
open PySem PySem.Spec PyProof.Rows
/-! ### defs that raise: a promise for the refused arguments -/
section
variable {X : Cx} {CX : CXT} {k j : Nat} {f C : Addr} {fd : FuncData} {ps : List Str} {ds : List Value} {dvs : List V} {sp : Sp} {E : St → XK} {x m : Str} {p pos apos : Pos} {e o : Expr} {es : List Expr} {ta : TE} {t : TA}
theorem run_fnSd {pins : List (Addr × Obj)} {σ : St} {H : Hp} {s : Shared} {Q : VK} {us : List Value} {vs : List V} (F : FnOk X.prog X.w X.K X.mg X.base CX k f fd ps sp) (hr : Room k X.A) (hb : Binds X.K fd ps ds) (hd : Vals dvs ds) (hx : PassesAt CX X σ (E σ))
    (I : Inv X pins σ H s) (r : Vals vs us) (h : sp (vs ++ dvs) H Q (E σ)) : wpAny (model X.prog X.w) X.A (call (.ref f) us) (EP X pins σ Q) X.xe s := by
  have r2 : Vals (vs ++ dvs) (us ++ ds) := r.append hd
  have hl : (us ++ ds).length = ps.length := by rw [← r2.length]; exact F.len _ _ _ _ h
  refine wpAny_call (codeAny_mono (F.run X.A X.stack s H ⟨us, []⟩ (us ++ ds) (vs ++ dvs) Q (E σ) hr I.env0 (hb s us I.kIn hl) r2 h) fun r s' hq => ?_)
  cases r with
  | error e => exact hx pins H s e s' I hq
  | ok fl =>
    cases fl with
    | ret u => exact I.after hq
    | next => exact False.elim hq
    | brk => exact False.elim hq
    | cont => exact False.elim hq
def tCallSd (sp : Sp) (dvs : List V) (E : St → XK) (t : TA) : TE := fun σ H Q => t σ H fun vs H1 => sp (vs ++ dvs) H1 Q (E σ)
/-- a def called by its name that may raise -/
structure CalX (P : Program) (w : World) (K : PySem.W.Frag) (mg : Str → Option Value) (base : Heap) (k : Nat) (x : Str) (sp : Sp) (dvs : List V) : Prop where
  ex : ∃ (f : Addr) (fd : FuncData) (ps : List Str) (ds : List Value), FnOk P w K mg base (L2.CX P w) k f fd ps sp ∧ mg x = some (.ref f) ∧ PySem.W.keepIn K (.ref f) = true ∧ Binds K fd ps ds ∧ Vals dvs ds
theorem pe_cX (c : CalX X.prog X.w X.K X.mg X.base k x sp dvs) (hr : Room j X.A) (hk : k ≤ j) (hg : Gl X x) (hx : ∀ σ, PassesAt (L2.CX X.prog X.w) X σ (E σ)) (ha : PA X (e :: es) t)
    (hdb : (x == ("__debug__" : Str)) = false := by decide) (he : starEach (e :: es) X.env = (false, eval e X.env) :: starEach es X.env := by rfl) (hpl : (backTo pos (starEach es X.env)).any (·.1) = false := by rfl) :
    PE X (.Call (.Name x p) (e :: es) [] pos) (tCallSd sp dvs E t) := by
  obtain ⟨f, fd, ps, ds, F, hm, kp, b, d⟩ := c.ex
  refine ⟨fun pins s σ H Q I h => ?_⟩
  refine wpAny_Call_Name_kw (ld_glob I hg hm ?_ hdb)
  refine PySem.W.callWith_K (h₀ := X.base) I.ok.mod.kin kp (thn (ha.run pos pins s σ H _ I h) fun us s1 ⟨vs, H1, I1, r, q⟩ => ⟨I1.kIn, ?_⟩) he hpl
  exact run_fnSd F (hr.mono hk) b d (hx σ) I1 r q
/-- around a body nothing is let out -/
theorem takesN {X : Cx} : Takes X (fun _ _ _ _ => False) := fun _ _ x => by
  obtain ⟨_, _, _, _, _, _, _, _, _, _, _, _, _, _, _, _, z⟩ := x
  exact z.elim
/-- a try by its name -/
def tTry (K : PySem.W.Frag) (c : Value) (tb : WX → TS) (ts : Addr → Value → Option Addr → TS) (Wout : WX) : TS := fun D σ H => tb (wOnly K c ts Wout D) D σ H
theorem ps_tryO {x : Str} {c : Value} {body suite : List Stmt} {b₀ : Stmt} {np pos pos' : Pos} {tb : WX → TS} {ts : Addr → Value → Option Addr → TS} {Wout : WX} (hs : X.stack = X.env :: X.outer) (hf : X.env.frame = some X.env.locals) (hc : Names X x c) (tk : Takes X Wout)
    (hb : ∀ (W : WX) (pn : List (Addr × Obj)) (xe : Value → Shared → Prop), Takes (X.tr pn xe) W → PSs (X.tr pn xe) body (tb W))
    (hsu : ∀ (a : Addr) (oe : Obj) (cls : Value) (d : Option Addr) (pn : List (Addr × Obj)), PSs (X.suite a ((a, oe) :: pn)) (b₀ :: suite) (ts a cls d)) :
    PS X (.Try body [.ExceptHandler (some (.Name x np)) none (b₀ :: suite) pos'] [] [] pos) (tTry X.K c tb ts Wout) :=
  ps_try_only hs hf hc tk (fun W pn xe tk _ => hb W pn xe tk) (fun a oe cls d pn _ _ => hsu a oe cls d pn)
end
end L2
namespace C8
open PySem PySem.Spec PyProof.Rows L2
section
variable {P : Program} {w : World} {K : PySem.W.Frag} {mg : Str → Option Value} {base : Heap}
theorem fnX {x qual : Str} {st : Stmt} {f : Addr} {fd : FuncData} {N ps : List Str} {k : Nat} {sp : Sp} (F : Fun K x qual st f fd) (S : FnScope N ps (fnScope st)) (len : ∀ vs H Q E, sp vs H Q E → vs.length = ps.length)
    (hbody : ∀ (cdv : Value) (A : Around) (outer : List Env) (s : Shared) (H : Hp) (vs : List V) (Q : VK) (E : XK), Room k (A.deeper (envOfC qual (fnScope st) s.heap.objs.size f cdv)) → sp vs H Q E →
      ∃ t, PSs (cxOf (L2.CX P w) P w K mg base N qual (fnScope st) f cdv A outer s H E) (fnBody st) t ∧ t { nx := fun _ H' => Q .non H', rt := Q } (start N vs) H) : FnOk P w K mg base (L2.CX P w) (k + 1) f fd ps sp := by
  obtain ⟨oc, od, dV, kV, doc, pm, an, cdv, ct, osl, rfl, lk, hcd⟩ := F.ex
  exact fn_of lk hcd S len fun A outer s H vs Q E hr hsp => hbody cdv A outer s H vs Q E hr hsp
theorem calX0 {x : Str} {st : Stmt} {f : Addr} {fd : FuncData} {N ps : List Str} {ds : List Value} {dvs : List V} {k : Nat} {sp : Sp} (F : Def K mg x st f fd) (b : Binds K fd ps ds) (d : Vals dvs ds) (S : FnScope N ps (fnScope st)) (len : ∀ vs H Q E, sp vs H Q E → vs.length = ps.length)
    (hbody : ∀ (cdv : Value) (A : Around) (outer : List Env) (s : Shared) (H : Hp) (vs : List V) (Q : VK) (E : XK), Room k (A.deeper (envOfC x (fnScope st) s.heap.objs.size f cdv)) → sp vs H Q E →
      ∃ t, PSs (cxOf (L2.CX P w) P w K mg base N x (fnScope st) f cdv A outer s H E) (fnBody st) t ∧ t { nx := fun _ H' => Q .non H', rt := Q } (start N vs) H) : CalX P w K mg base (k + 1) x sp dvs :=
  ⟨f, fd, ps, ds, fnX F.fn S len hbody, F.mgf, F.kp, b, d⟩
end
end C8
namespace Sl
open PySem L2 C8 StX
/-- an error of the class at S is what «except S» names -/
theorem exm_own {K : PySem.W.Frag} {S : Addr} (h1 : PySem.W.subIn K (.ref S) (.type "BaseException") = some true) (h2 : PySem.W.isClsIn K S = true) (h3 : PySem.W.typeIn K (.ref S) = some (.type "type")) (h4 : PySem.W.subIn K (.ref S) (.ref S) = some true) :
    PySem.W.exmOne K (.ref S) (.ref S) = some true := by
  have e1 : (PySem.W.subIn K (.ref S) (.type "BaseException") == some true) = true := by rw [h1] <;> rfl
  have e2 : ((PySem.W.clsIn K S).isSome && PySem.W.typeIn K (.ref S) == some (.type "type")) = true := by
    have h2' : (PySem.W.clsIn K S).isSome = true := h2
    rw [h2', h3] <;> rfl
  show (if (PySem.W.subIn K (.ref S) (.type "BaseException") == some true) = true then (if ((PySem.W.clsIn K S).isSome && PySem.W.typeIn K (.ref S) == some (.type "type")) = true then PySem.W.subIn K (.ref S) (.ref S) else none) else none) = some true
  rw [if_pos e1, if_pos e2]
  exact h4
/-- what is known of an own class of errors without its own __init__ -/
structure XOwn (K : PySem.W.Frag) (C : Addr) : Prop where
  x : PySem.W.excIn K C [.type "ValueError", .type "Exception", .type "BaseException", .type "object"] "ValueError.__new__" = true
  k : PySem.W.keepIn K (.ref C) = true
  b : PySem.W.subIn K (.ref C) (.type "BaseException") = some true
  t : PySem.W.typeIn K (.ref C) = some (.type "type")
  i : PySem.W.isClsIn K C = true
  s : PySem.W.subIn K (.ref C) (.ref C) = some true
theorem XOwn.e {K : PySem.W.Frag} {C : Addr} (T : XOwn K C) : PySem.W.exmOne K (.ref C) (.ref C) = some true := exm_own T.b T.i T.t T.s
section
variable {X : Cx} {x : Str} {np pos : Pos} {C : Addr} {W : WX}
/-- X('m') -/
theorem pmk_x {m : Str} {j : Nat} {p p2 pos : Pos} (T : XOwn X.K C) (gC : X.mg x = some (.ref C)) (hg : Gl X x) (hdb : (x == ("__debug__" : Str)) = false := by decide) : PMk X (.Call (.Name x p) [.Constant (.str m) j p2] [] pos) (fun _ H Q => Q (.ref C) none H) :=
  pmk_own PySem.F.excBase_ValueError T.x gC T.k (raises_own T.b T.t) hg hdb
/-- raise X('m') -/
def tRaise (C : Addr) (W : WX) : TS := fun _ σ H => W (.ref C) none σ H
theorem ps_raiseO {m : Str} {j : Nat} {p p2 pos pos2 : Pos} (hc : X.calm = true) (tk : Takes X W) (T : XOwn X.K C) (gC : X.mg x = some (.ref C)) (hg : Gl X x) (hdb : (x == ("__debug__" : Str)) = false := by decide) :
    PS X (.Raise (some (.Call (.Name x p) [.Constant (.str m) j p2] [] pos)) none pos2) (tRaise C W) := ps_raise hc tk (pmk_x T gC hg hdb)
end
section
variable {σ : L2.St} {H : Hp} {Q : VK} {K : PySem.W.Frag} {C : Addr} {W Wout : WX} {nx bk ct : L2.St → Hp → Prop} {rt : VK} {sp : Sp} {dvs : List V} {E : L2.St → XK} {t : TA} {tb : WX → TS} {ts : Addr → Value → Option Addr → TS} {c cls : Value} {d : Option Addr} {D : Ends} {vs : List V}
theorem rd_raise {E : XK} (h : E (.ref C) none H) : tRaise C (fun cls d _ H => E cls d H) ⟨nx, rt, bk, ct⟩ σ H := h
def rCallSd (sp : Sp) (dvs : List V) (E : XK) (Q : VK) (vs : List V) (H : Hp) : Prop := sp (vs ++ dvs) H Q E
theorem rd_callSd (h : t σ H fun vs H1 => rCallSd sp dvs (E σ) Q vs H1) : tCallSd sp dvs E t σ H Q := h
theorem rd_callSd2 {E : XK} {ws : List V} (h : sp (ws ++ dvs) H Q E) : rCallSd sp dvs E Q ws H := h
theorem rd_try (h : tb (wOnly K c ts Wout D) D σ H) : tTry K c tb ts Wout D σ H := h
theorem rd_caught (he : PySem.W.exmOne K cls c = some true) (h : ∀ a, H a = none → ts a cls d D σ H) : WE (wOnly K c ts Wout D) σ cls d H := ⟨true, he, fun _ => h, fun q => nomatch q⟩
theorem rd_isN0 {x : V} (h : Q (.bl (decide (x = .non))) H) : rIsNn x .non H Q := ⟨rfl, h⟩
theorem rd_notN0 {x : V} (h : Q (.bl (!decide (x = .non))) H) : rNotNn x .non H Q := ⟨rfl, h⟩
theorem rd_maxL {a : Addr} {ns : List Int} {m : Int} (e : SqL K H a (ns.map V.int)) (l : 0 < ns.length) (h : ∀ m, m ∈ ns → (∀ y, y ∈ ns → y ≤ m) → Q (.int m) H) : rMax K [.ref a] H Q := ⟨a, ns, rfl, e, l, h⟩
theorem rd_indexI {a : Addr} {ns : List Int} {y : Int} {j : Nat} (e : SqL K H a (ns.map V.int)) (hj : ns[j]? = some y) (hn : ∀ m z, m < j → ns[m]? = some z → z ≠ y) (h : Q (.int (j : Nat)) H) : rIndex K (.ref a) [.int y] H Q := by
  refine ⟨a, ns.map V.int, .int y, j, .int y, rfl, rfl, e, rfl, ?_, by rw [List.getElem?_map, hj]; rfl, by simp [eqV], ?_, h⟩
  · rw [List.all_eq_true]
    intro x hx
    obtain ⟨n, _, rfl⟩ := List.mem_map.mp hx
    rfl
  · intro m z' hm hz
    rw [List.getElem?_map] at hz
    cases q : ns[m]? with
    | none => rw [q] at hz; cases hz
    | some z =>
      rw [q] at hz
      cases hz
      have := hn m z hm q
      simp [eqV, this]
theorem rd_tyLq {a : Addr} {xs : List V} {R : Prop} (e : SqL K H a xs) (h : R) : tyV K "list" (.ref a) H ∧ R := ⟨.inl ⟨rfl, xs, e⟩, h⟩
end
end Sl
set_option Elab.async false
set_option linter.all false
set_option maxRecDepth 100000
set_option maxHeartbeats 4000000
/-! classes that may raise when made, methods that may raise: promises and their calls within a try -/
namespace L2
open PySem PySem.Spec PyProof.Rows
section
variable {X : Cx} {CX : CXT} {k j : Nat} {f C : Addr} {fd : FuncData} {ps : List Str} {ds : List Value} {dvs : List V} {sp : Sp} {E : St → XK} {x m : Str} {p pos apos : Pos} {e o : Expr} {es : List Expr} {ta : TE} {t : TA}
theorem run_makeSd {pins : List (Addr × Obj)} {σ : St} {H : Hp} {s : Shared} {Q : VK} {us : List Value} {vs : List V} (M : Mk X.K C f) (F : FnOk X.prog X.w X.K X.mg X.base CX k f fd ps sp) (hr : Room (k + 1) X.A) (hb : Binds X.K fd ps ds) (hd : Vals dvs ds)
    (hx : PassesAt CX X σ (E σ)) (I : Inv X pins σ H s) (r : Vals vs us)
    (h : ∀ x dx, H x = none → H dx = none → dx ≠ x → sp (.ref x :: (vs ++ dvs)) (upd (upd H dx (.own x)) x (.ins C dx [])) (fun v H2 => v = .non ∧ Q (.ref x) H2) (E σ)) :
    wpAny (model X.prog X.w) X.A (call (.ref C) us) (EP X pins σ Q) X.xe s := by
  have hq := h (s.heap.objs.size + 1) s.heap.objs.size (I.hok.fresh (Nat.le_succ _)) (I.hok.fresh (Nat.le_refl _)) (Nat.ne_of_lt (Nat.lt_succ_self _))
  have I2 := Inv.made (C := C) I
  have r2 : Vals (V.ref (s.heap.objs.size + 1) :: (vs ++ dvs)) (Value.ref (s.heap.objs.size + 1) :: (us ++ ds)) := .cons rfl (r.append hd)
  have hl : (Value.ref (s.heap.objs.size + 1) :: us ++ ds).length = ps.length := by
    have e := r2.length
    rw [F.len _ _ _ _ hq] at e
    exact e.symm
  refine wpAny_call (make_map (f := f) I.kIn M.makes M.init (beq_iff_eq.mp M.fn) (codeAny_mono (F.run _ X.stack _ _ ⟨Value.ref (s.heap.objs.size + 1) :: us, []⟩ (Value.ref (s.heap.objs.size + 1) :: (us ++ ds)) _ _ (E σ) (hr.make C us [])
    (I2.env0.make C us []) (hb _ (Value.ref (s.heap.objs.size + 1) :: us) I2.kIn hl) r2 hq) fun r s' hq' => ?_))
  cases r with
  | error e => exact hx pins _ _ e s' I2 hq'
  | ok fl =>
    cases fl with
    | ret u =>
      obtain ⟨v, H', I3, rv, ev, q3⟩ := I2.after hq'
      subst ev
      exact ⟨rv, ⟨V.ref (s.heap.objs.size + 1), H', I3, rfl, q3⟩⟩
    | next => exact False.elim hq'
    | brk => exact False.elim hq'
    | cont => exact False.elim hq'
def tMakeX (C : Addr) (sp : Sp) (dvs : List V) (E : St → XK) (t : TA) : TE := fun σ H Q => tMake C sp dvs (E σ) t σ H Q
/-- a class that may be made by its name and may raise -/
structure MakX (P : Program) (w : World) (K : PySem.W.Frag) (mg : Str → Option Value) (base : Heap) (k : Nat) (x : Str) (C : Addr) (sp : Sp) (dvs : List V) : Prop where
  ex : ∃ (f : Addr) (fd : FuncData) (ps : List Str) (ds : List Value), Mk K C f ∧ FnOk P w K mg base (L2.CX P w) k f fd ps sp ∧ mg x = some (.ref C) ∧ Binds K fd ps ds ∧ Vals dvs ds
theorem pe_mkX (c : MakX X.prog X.w X.K X.mg X.base k x C sp dvs) (hr : Room j X.A) (hk : k + 1 ≤ j) (hg : Gl X x) (hx : ∀ σ, PassesAt (L2.CX X.prog X.w) X σ (E σ)) (ha : PA X (e :: es) t)
    (hdb : (x == ("__debug__" : Str)) = false := by decide) (he : starEach (e :: es) X.env = (false, eval e X.env) :: starEach es X.env := by rfl) (hpl : (backTo pos (starEach es X.env)).any (·.1) = false := by rfl) :
    PE X (.Call (.Name x p) (e :: es) [] pos) (tMakeX C sp dvs E t) := by
  obtain ⟨f, fd, ps, ds, M, F, hm, b, d⟩ := c.ex
  refine ⟨fun pins s σ H Q I h => ?_⟩
  refine wpAny_Call_Name_kw (ld_glob I hg hm ?_ hdb)
  refine PySem.W.callWith_K (h₀ := X.base) I.ok.mod.kin M.kp (thn (ha.run pos pins s σ H _ I h) fun us s1 ⟨vs, H1, I1, r, q⟩ => ⟨I1.kIn, ?_⟩) he hpl
  exact run_makeSd M F (hr.mono hk) b d (hx σ) I1 r q
def tMethX (C : Addr) (m : Str) (sp : Sp) (dvs : List V) (E : St → XK) (ta : TE) (t : TA) : TE := fun σ H Q => tMeth C m sp dvs (E σ) ta t σ H Q
/-- a method that may raise -/
structure MetX (P : Program) (w : World) (K : PySem.W.Frag) (mg : Str → Option Value) (base : Heap) (k : Nat) (C : Addr) (m : Str) (sp : Sp) (dvs : List V) : Prop where
  ex : ∃ (f : Addr) (fd : FuncData) (ps : List Str) (ds : List Value), Cls K C ∧ Meth K C m f ∧ FnOk P w K mg base (L2.CX P w) k f fd ps sp ∧ Binds K fd ps ds ∧ Vals dvs ds
theorem pe_mtX {pl : Sem Bool} (c : MetX X.prog X.w X.K X.mg X.base k C m sp dvs) (hr : Room j X.A) (hk : k ≤ j) (hx : ∀ σ, PassesAt (L2.CX X.prog X.w) X σ (E σ)) (he : PE X o ta) (ha : PA X (e :: es) t)
    (hst : starEach (e :: es) X.env = (false, eval e X.env) :: starEach es X.env := by rfl) (hpl : (backTo pos (starEach es X.env)).any (·.1) = false := by rfl)
    (ht : eval (.Call (.Attribute o m apos) (e :: es) [] pos) X.env = (do
      let ov ← eval o X.env
      standAt apos.atName
      let (f, first) ← holding [ov] (getMethod ov m pl)
      callWith pos f first (backTo pos (starEach (e :: es) X.env)) (backToKw pos (keywordEach [] X.env))) := by rfl) :
    PE X (.Call (.Attribute o m apos) (e :: es) [] pos) (tMethX C m sp dvs E ta t) := by
  obtain ⟨f, fd, ps, ds, hc, hm, F, b, d⟩ := c.ex
  refine ⟨fun pins s σ H Q I h => ?_⟩
  refine PySem.W.methodCall_KW (pl := pl) (thn (he.run pins s σ H _ I h) fun u s1 ⟨x, H1, I1, rx, a, dx, fs, ex, ea, l, q⟩ => ?_) ht
  subst ex
  obtain rfl : u = Value.ref a := rx
  refine getmeth_ok I1 ea hc hm l ?_
  refine PySem.W.callWith_K (first := [.ref a]) (h₀ := X.base) I.ok.mod.kin hm.kp (thn (ha.run pos pins s1 σ H1 _ I1 q) fun us s2 ⟨vs, H2, I2, r, q2⟩ => ⟨I2.kIn, ?_⟩) hst hpl
  exact run_fnSd (us := .ref a :: us) (vs := .ref a :: vs) F (hr.mono hk) b d (hx σ) I2 (.cons rfl r) q2
end
end L2
namespace C8
open PySem PySem.Spec PyProof.Rows L2
section
variable {P : Program} {w : World} {K : PySem.W.Frag} {mg : Str → Option Value} {base : Heap}
theorem metX0 {m qual : Str} {C : Addr} {st : Stmt} {f : Addr} {fd : FuncData} {N ps : List Str} {k : Nat} {sp : Sp} (c : Cls K C) (me : Meth K C m f) (F : Fun K m qual st f fd) (b : Binds K fd ps []) (S : FnScope N ps (fnScope st)) (len : ∀ vs H Q E, sp vs H Q E → vs.length = ps.length)
    (hbody : ∀ (cdv : Value) (A : Around) (outer : List Env) (s : Shared) (H : Hp) (vs : List V) (Q : VK) (E : XK), Room k (A.deeper (envOfC qual (fnScope st) s.heap.objs.size f cdv)) → sp vs H Q E →
      ∃ t, PSs (cxOf (L2.CX P w) P w K mg base N qual (fnScope st) f cdv A outer s H E) (fnBody st) t ∧ t { nx := fun _ H' => Q .non H', rt := Q } (start N vs) H) : MetX P w K mg base (k + 1) C m sp [] :=
  ⟨f, fd, ps, [], c, me, fnX F S len hbody, b, .nil⟩
end
end C8
namespace Sl
open PySem L2 C8 StX
section
variable {σ : L2.St} {H : Hp} {Q : VK} {C : Addr} {m : Str} {sp : Sp} {dvs : List V} {E : L2.St → XK} {ta : TE} {t : TA}
theorem rd_makeX (h : t σ H fun vs H1 => rMake C sp dvs (E σ) Q vs H1) : tMakeX C sp dvs E t σ H Q := h
def rMethX (C : Addr) (m : Str) (sp : Sp) (dvs : List V) (E : XK) (t : TA) (σ : L2.St) (Q : VK) (x : V) (H1 : Hp) : Prop := ∃ a dx fs, x = .ref a ∧ H1 a = some (.ins C dx fs) ∧ fs.lookup m = none ∧ t σ H1 fun vs H2 => sp (x :: (vs ++ dvs)) H2 Q E
theorem rd_methX0 (h : ta σ H fun x H1 => rMethX C m sp dvs (E σ) t σ Q x H1) : tMethX C m sp dvs E ta t σ H Q := h
end
end Sl
set_option Elab.async false
set_option linter.all false
set_option maxRecDepth 100000
set_option maxHeartbeats 4000000
namespace L2
open PySem PySem.Spec PyProof.Rows
/-! ### min of a list of pairs of ints: the loop of the built-in, the order told by what the heap keeps -/
section
variable {prog : Program} {w : World} {A : Around} {R : Result → Shared → Prop} {J l : Addr} {its : Array Value} {bt : Nat → Nat → Bool} {Kp : Heap → Prop}
/-- what is told of the order: while Kp stands -/
def Ord (prog : Program) (w : World) (A : Around) (its : Array Value) (Kp : Heap → Prop) (bt : Nat → Nat → Bool) : Prop :=
  ∀ i j x y (t : Shared) (Q : Value → Shared → Prop) (E : Value → Shared → Prop), Kp t.heap → its[i]? = some x → its[j]? = some y → Q (.bool (bt i j)) t → wpAny (model prog w) A (richCompare .Lt x y) Q E t
/-- Kp stands while nothing changes but the iterator and the box -/
def Kpt (Kp : Heap → Prop) (J S : Addr) : Prop := ∀ h h' : Heap, Kp h → (∀ b o, b ≠ J → b ≠ S → h.get? b = some o → h'.get? b = some o) → Kp h'
theorem min_turns (hh : A.in1.handled = none) (hlJ : l ≠ J) (O : Ord prog w A.in1 its Kp bt) {S : Addr} (hSJ : S ≠ J) (hSl : S ≠ l) (Z : Kpt Kp J S) :
    ∀ (k j : Nat) (t : Shared) (best : Value) (c : Nat), its.size - (j + 1) = k → j + 1 ≤ its.size → (t.heap.IsListIter J l (j + 1) ∧ t.heap.IsList l its) → Kp t.heap → its[argBest bt j]? = some best →
    t.heap.get? S = some { cls := .type "list", dict := none, data := .seq #[best, best] c, slots := #[] } →
    (∀ v h' tk, its[argBest bt (its.size - 1)]? = some v → (∀ b o, b ≠ J → b ≠ S → t.heap.get? b = some o → h'.get? b = some o) → R (.ok (.ret v)) { t with heap := h', toks := tk }) →
    codeAny (model prog w) A (.builtin "min.loop" ⟨[.ref J, .none, .ref S], []⟩) R t := by
  have Wl := Walks.list (prog := prog) (w := w) (A := A.in1) hh J l hlJ its
  have nm : (toString "min" ++ toString ".loop" : String) = "min.loop" := by decide
  intro k
  induction k with
  | zero =>
    intro j t best c ek ej st kp eb eS back
    refine codeAny_builtin F.entry_min_loop (by
      rw [Around.under_plainId F.plain_min_loop _]
      refine (show wpAny _ A.in1 (seqItems? (.ref S) >>= _) _ _ t from wpAny_bind (wpAny_seqItems eS rfl ?_))
      refine (show wpAny _ A.in1 (tryCatch (pyNext (.ref J)) _ >>= _) _ _ t from wpAny_bind (wpAny_tryCatch (Wl.done t _ _ ((by omega : j + 1 = its.size) ▸ st) fun h2 tk kept => ?_)))
      have eS2 := kept S _ (by simpa using hSJ) eS
      refine (show wpAny _ A.in1 (updateSeq S (fun _ => #[]) >>= _) _ _ _ from wpAny_bind (wpAny_updateSeq eS2 rfl (wpAny_bind (wpAny_letGo (wpAny_pure (back best _ tk ?_ fun b o n1 n2 e => ?_))))))
      · rw [← (by omega : j + 1 = its.size)]; exact eb
      · exact (Heap.get?_update_other _ _ (Ne.symm n2)).trans (kept b o (by simpa using n1) e))
  | succ k ih =>
    intro j t best c ek ej st kp eb eS back
    refine codeAny_builtin F.entry_min_loop (by
      rw [Around.under_plainId F.plain_min_loop _]
      refine (show wpAny _ A.in1 (seqItems? (.ref S) >>= _) _ _ t from wpAny_bind (wpAny_seqItems eS rfl ?_))
      refine (show wpAny _ A.in1 (tryCatch (pyNext (.ref J)) _ >>= _) _ _ t from wpAny_bind (wpAny_tryCatch (Wl.item (j + 1) t _ _ (by omega) st fun v h2 tk ev st2 kept => ?_)))
      have eS2 := kept S _ (by simpa using hSJ) eS
      have kp2 : Kp h2 := Z _ _ kp fun b o n1 _ e => kept b o (by simpa using n1) e
      refine (show wpAny _ A.in1 (tryCatch (holding [v, v] (richCompare .Lt v best >>= _)) _ >>= _) _ _ _ from wpAny_bind (wpAny_tryCatch (wpAny_holding (wpAny_bind (O (j + 1) (argBest bt j) v best _ _ _ kp2 ev eb ?_)))))
      refine wpAny_bind (wpAny_holding (wpAny_truthy_bool (wpAny_bind (wpAny_letGo (wpAny_pure ?_)))))
      cases hb : bt (j + 1) (argBest bt j) with
      | true =>
        simp only [if_true]
        refine wpAny_bind (wpAny_updateSeq eS2 rfl (wpAny_bind (wpAny_letGo ?_)))
        rw [nm]
        have kp3 : ∀ (g : Obj → Obj) b o, b ≠ S → h2.get? b = some o → (h2.update S g).get? b = some o := fun g b o n e => (Heap.get?_update_other _ _ (Ne.symm n)).trans e
        refine wpAny_pure ⟨plainId_quiet F.plain_min_loop _, ih (j + 1) _ v _ (by omega) (by omega) (Wl.frame _ _ _ st2 fun b hb2 o e => ?_) (Z _ _ kp2 fun b o _ n e => kp3 _ b o n e) (by simp only [argBest, hb, if_true]; exact ev) (Heap.get?_update_self _ eS2 rfl)
          fun v' h3 tk3 e3 kept3 => back v' h3 tk3 e3 fun b o n1 n2 e => kept3 b o n1 n2 (kp3 _ b o n2 (kept b o (by simpa using n1) e))⟩
        refine kp3 _ b o (fun z => ?_) e
        rcases List.mem_cons.mp hb2 with q | q
        · exact hSJ (z.symm.trans q)
        · exact hSl (z.symm.trans (by simpa using q))
      | false =>
        simp only [Bool.false_eq_true, if_false]
        refine wpAny_bind (wpAny_letGo ?_)
        rw [nm]
        exact wpAny_pure ⟨plainId_quiet F.plain_min_loop _, ih (j + 1) _ best c (by omega) (by omega) st2 kp2 (by simp only [argBest, hb, Bool.false_eq_true, if_false]; exact eb) eS2
          fun v' h3 tk3 e3 kept3 => back v' h3 tk3 e3 fun b o n1 n2 e => kept3 b o n1 n2 (kept b o (by simpa using n1) e)⟩)
theorem min_start (hh : A.in1.handled = none) (hlJ : l ≠ J) (O : Ord prog w A.in1 its Kp bt) {S : Addr} (hSJ : S ≠ J) (hSl : S ≠ l) (Z : Kpt Kp J S) (n0 : 0 < its.size) {t : Shared} {c : Nat} (st : t.heap.IsListIter J l 0 ∧ t.heap.IsList l its) (kp : Kp t.heap)
    (eS : t.heap.get? S = some { cls := .type "list", dict := none, data := .seq #[] c, slots := #[] })
    (back : ∀ v h' tk, its[argBest bt (its.size - 1)]? = some v → (∀ b o, b ≠ J → b ≠ S → t.heap.get? b = some o → h'.get? b = some o) → R (.ok (.ret v)) { t with heap := h', toks := tk }) :
    codeAny (model prog w) A (.builtin "min.loop" ⟨[.ref J, .none, .ref S], []⟩) R t := by
  have Wl := Walks.list (prog := prog) (w := w) (A := A.in1) hh J l hlJ its
  have nm : (toString "min" ++ toString ".loop" : String) = "min.loop" := by decide
  refine codeAny_builtin F.entry_min_loop (by
    rw [Around.under_plainId F.plain_min_loop _]
    refine (show wpAny _ A.in1 (seqItems? (.ref S) >>= _) _ _ t from wpAny_bind (wpAny_seqItems eS rfl ?_))
    refine (show wpAny _ A.in1 (tryCatch (pyNext (.ref J)) _ >>= _) _ _ t from wpAny_bind (wpAny_tryCatch (Wl.item 0 t _ _ n0 st fun v h2 tk ev st2 kept => ?_)))
    have eS2 := kept S _ (by simpa using hSJ) eS
    have kp2 : Kp h2 := Z _ _ kp fun b o n1 _ e => kept b o (by simpa using n1) e
    refine (show wpAny _ A.in1 (updateSeq S (fun _ => #[v, v]) >>= _) _ _ _ from wpAny_bind (wpAny_updateSeq eS2 rfl ?_))
    rw [nm]
    have kp3 : ∀ (g : Obj → Obj) b o, b ≠ S → h2.get? b = some o → (h2.update S g).get? b = some o := fun g b o n e => (Heap.get?_update_other _ _ (Ne.symm n)).trans e
    refine wpAny_pure ⟨plainId_quiet F.plain_min_loop _, min_turns hh hlJ O hSJ hSl Z _ 0 _ v _ rfl n0 (Wl.frame _ _ _ st2 fun b hb2 o e => ?_) (Z _ _ kp2 fun b o _ n e => kp3 _ b o n e) ev (Heap.get?_update_self _ eS2 rfl)
      fun v' h3 tk3 e3 kept3 => back v' h3 tk3 e3 fun b o n1 n2 e => kept3 b o n1 n2 (kp3 _ b o n2 (kept b o (by simpa using n1) e))⟩
    refine kp3 _ b o (fun z => ?_) e
    rcases List.mem_cons.mp hb2 with q | q
    · exact hSJ (z.symm.trans q)
    · exact hSl (z.symm.trans (by simpa using q)))
end
/-- the least of pairs: an order that is transitive has no better one -/
theorem argBest_least {bt : Nat → Nat → Bool} (tr : ∀ a b c, bt a b = true → bt b c = true → bt a c = true) (ir : ∀ a, bt a a = false) : ∀ k, argBest bt k ≤ k ∧ ∀ j, j ≤ k → bt j (argBest bt k) = false
  | 0 => ⟨Nat.le_refl _, fun j hj => by
    rw [show j = 0 by omega]
    exact ir 0⟩
  | k + 1 => by
    obtain ⟨h1, h2⟩ := argBest_least tr ir k
    show (if bt (k + 1) (argBest bt k) then k + 1 else argBest bt k) ≤ k + 1 ∧ ∀ j, j ≤ k + 1 → bt j (if bt (k + 1) (argBest bt k) then k + 1 else argBest bt k) = false
    by_cases c : bt (k + 1) (argBest bt k) = true
    · rw [if_pos c]
      refine ⟨Nat.le_refl _, fun j hj => ?_⟩
      rcases Nat.lt_or_ge k j with z | z
      · rw [show j = k + 1 by omega]
        exact ir _
      · cases e : bt j (k + 1) with
        | false => rfl
        | true =>
          have := tr _ _ _ e c
          rw [h2 j z] at this
          cases this
    · rw [if_neg c]
      refine ⟨by omega, fun j hj => ?_⟩
      rcases Nat.lt_or_ge k j with z | z
      · rw [show j = k + 1 by omega]
        simpa using c
      · exact h2 j z
section
variable {prog : Program} {w : World} {A : Around} {E : Value → Shared → Prop} {l : Addr} {its : Array Value} {bt : Nat → Nat → Bool}
/-- the call: Kp is that all that was there stands -/
theorem min_callP {s : Shared} {Q : Value → Shared → Prop} (hh : A.in1.handled = none) (hl : s.heap.IsList l its) (n0 : 0 < its.size) (O : Ord prog w A.in1 its (fun h => ∀ b o, s.heap.get? b = some o → h.get? b = some o) bt)
    (back : ∀ v h' tk, its[argBest bt (its.size - 1)]? = some v → (∀ b o, s.heap.get? b = some o → h'.get? b = some o) → Q v { s with heap := h', toks := tk }) : wpAny (model prog w) A (call (.builtin "min") [.ref l]) Q E s := by
  have nm : (toString "min" ++ toString ".loop" : String) = "min.loop" := by decide
  refine call_function_tree F.kind_min F.plain_min F.entry_min (F.args_min1 _) (wpAny_bind (m := Builtin.Builtins.bindParams "min" ["key", "default"] 0 ⟨[], []⟩) (wpAny_of_eq (show Builtin.Builtins.bindParams "min" ["key", "default"] 0 ⟨[], []⟩ = pure [none, none] from rfl) (wpAny_bind (wpAny_pure ?_))))
  refine wpAny_bind (wpAny_pyIter_list hl (wpAny_bind (wpAny_newObj_type ?_)))
  rw [nm]
  have hlt : l < s.heap.objs.size := by
    obtain ⟨_, e, _⟩ := id hl
    exact Heap.lt_size e
  have z1 : (s.heap.push { cls := .type "list_iterator", data := .fields #[.ref l, .int 0 0] }).objs.size = s.heap.objs.size + 1 := Heap.size_push ..
  have old : ∀ b o, s.heap.get? b = some o → b < s.heap.objs.size := fun b o e => Heap.lt_size e
  refine wpAny_pure ⟨plainId_quiet F.plain_min_loop _, min_start (l := l) (its := its) hh (Nat.ne_of_lt hlt) O (S := (s.heap.push { cls := .type "list_iterator", data := .fields #[.ref l, .int 0 0] }).objs.size) (by rw [z1]; exact Nat.succ_ne_self _) (by rw [z1]; exact (Nat.ne_of_lt (Nat.lt_succ_of_lt hlt)).symm) (fun h h' k f b o e => f b o (Nat.ne_of_lt (old b o e)) (by rw [z1]; exact Nat.ne_of_lt (Nat.lt_succ_of_lt (old b o e))) (k b o e)) n0 ⟨⟨_, Heap.get?_push_of_some _ (Heap.get?_push_size _ rfl), rfl, rfl⟩, (hl.push _).push _⟩ (fun b o e => Heap.get?_push_of_some _ (Heap.get?_push_of_some _ e)) (Heap.get?_push_size _ rfl) fun v h' tk ev f => ?_⟩
  exact back v h' tk ev fun b o e => f b o (Nat.ne_of_lt (old b o e)) (by rw [z1]; exact Nat.ne_of_lt (Nat.lt_succ_of_lt (old b o e))) (Heap.get?_push_of_some _ (Heap.get?_push_of_some _ e))
end
/-- x is before y: by the first, then by the second -/
def ltPr (x y : Int × Int) : Bool := decide (x.1 < y.1 ∨ x.1 = y.1 ∧ x.2 < y.2)
/-- min(xs), xs a list of pairs of ints: one of the least -/
def rMinP (K : PySem.W.Frag) : List V → Hp → VK → Prop := fun vs H Q => ∃ (a : Addr) (xs : List V) (ks : List (Int × Int)), vs = [V.ref a] ∧ SqL K H a xs ∧ 0 < xs.length ∧ ks.length = xs.length ∧ (∀ (i : Nat) x k, xs[i]? = some x → ks[i]? = some k → ∃ t, x = V.ref t ∧ H t = some (.tup [.int k.1, .int k.2])) ∧
  ∀ (i : Nat) x k, xs[i]? = some x → ks[i]? = some k → (∀ y ∈ ks, ltPr y k = false) → Q x H
theorem lex_pair (a b : Int × Int) : HT.lexLt [a.1, a.2] [b.1, b.2] = ltPr a b := by
  rw [HT.lexLt_cons, HT.lexLt_cons, HT.lexLt_nil_nil]
  unfold ltPr
  by_cases c : a.1 = b.1
  · rw [if_pos c]
    by_cases d : a.2 = b.2
    · rw [if_pos d]
      symm
      rw [decide_eq_false_iff_not]
      omega
    · rw [if_neg d]
      rw [decide_eq_decide]
      omega
  · rw [if_neg c]
    rw [decide_eq_decide]
    omega
section
variable {X : Cx} {j : Nat}
theorem cr_minP (hc : X.calm = true) (hr : Room (j + 1) X.A) : CallR X (.builtin "min") (rMinP X.K) := by
  intro pins s σ H vs us Q I r h
  obtain ⟨a, xs, ks, rfl, hs, hne, hk, hx, q⟩ := h
  obtain ⟨its, rv, hl, _⟩ := I.list hs
  rw [Vals.ref1 r]
  have hlen : its.length = xs.length := rv.length.symm
  refine min_callP (bt := fun i j => ltPr (ks.getD i (0, 0)) (ks.getD j (0, 0))) (I.ok.hd hc) hl.isList (by simpa using (by omega : 0 < its.length)) ?_ fun v h' tk ev kept => ?_
  · intro i1 i2 x y t Q' E' kp e1 e2 q'
    have g1 : its[i1]? = some x := by simpa using e1
    have g2 : its[i2]? = some y := by simpa using e2
    have b1 : i1 < its.length := (List.getElem?_eq_some_iff.mp g1).1
    have b2 : i2 < its.length := (List.getElem?_eq_some_iff.mp g2).1
    obtain ⟨u1, hu1, r1⟩ := rv.get (List.getElem?_eq_getElem (by omega : i1 < xs.length))
    obtain ⟨u2, hu2, r2⟩ := rv.get (List.getElem?_eq_getElem (by omega : i2 < xs.length))
    rw [g1] at hu1
    rw [g2] at hu2
    cases hu1
    cases hu2
    obtain ⟨t1, z1, o1⟩ := hx i1 _ _ (List.getElem?_eq_getElem (by omega)) (List.getElem?_eq_getElem (by omega : i1 < ks.length))
    obtain ⟨t2, z2, o2⟩ := hx i2 _ _ (List.getElem?_eq_getElem (by omega)) (List.getElem?_eq_getElem (by omega : i2 < ks.length))
    rw [z1] at r1
    rw [z2] at r2
    obtain rfl : x = Value.ref t1 := r1
    obtain rfl : y = Value.ref t2 := r2
    obtain ⟨l1, w1, ⟨ob1, p1, rest1⟩, _⟩ := I.tuple (SqT.of o1)
    obtain ⟨l2, w2, ⟨ob2, p2, rest2⟩, _⟩ := I.tuple (SqT.of o2)
    refine HT.lt_tupInts (l := t1) (b := t2) (items := l1.toArray) (items2 := l2.toArray) (ns := [ks[i1].1, ks[i1].2]) (ms := [ks[i2].1, ks[i2].2]) ⟨ob1, kp _ _ p1, rest1⟩ ⟨ob2, kp _ _ p2, rest2⟩ (Vals.ints w1) (Vals.ints w2) hr.in1.units0 ?_
    rw [lex_pair]
    simp only [List.getD_eq_getElem?_getD, List.getElem?_eq_getElem (by omega : i1 < ks.length), List.getElem?_eq_getElem (by omega : i2 < ks.length), Option.getD_some] at q'
    exact q'
  · obtain ⟨m1, m2⟩ := argBest_least (bt := fun i j => ltPr (ks.getD i (0, 0)) (ks.getD j (0, 0))) (fun a b c => by unfold ltPr; simp only [decide_eq_true_iff]; omega) (fun a => by unfold ltPr; simp) (its.toArray.size - 1)
    generalize hB : argBest (fun i j => ltPr (ks.getD i (0, 0)) (ks.getD j (0, 0))) (its.toArray.size - 1) = B at *
    have zs : its.toArray.size = its.length := by simp
    rw [zs] at m1 m2
    have bB : B < xs.length := by omega
    have g : its[B]? = some v := by simpa using ev
    obtain ⟨u, hu, ru⟩ := rv.get (List.getElem?_eq_getElem bB)
    rw [g] at hu
    cases hu
    refine ⟨xs[B], H, I.kept kept, ru, q B _ ks[B] (List.getElem?_eq_getElem bB) (List.getElem?_eq_getElem (by omega)) fun y hy => ?_⟩
    obtain ⟨i, hi, rfl⟩ := List.getElem_of_mem hy
    have := m2 i (by omega)
    simpa only [List.getD_eq_getElem?_getD, List.getElem?_eq_getElem hi, List.getElem?_eq_getElem (by omega : B < ks.length), Option.getD_some] using this
end
end L2
set_option Elab.async false
set_option linter.all false
set_option maxRecDepth 100000
set_option maxHeartbeats 4000000
namespace L2
open PySem PySem.Spec PyProof.Rows
/-! ### evidence: own __bool__, own __eq__, isinstance of a class above -/
section
variable {X : Cx} {k j : Nat} {C D : Addr} {sp : Sp} {dvs : List V} {a : Expr} {ta : TE}
/-- an instance as a test, by its own __bool__ -/
def tTruO (C : Addr) (sp : Sp) (dvs : List V) (ta : TE) : TT := fun σ H Q => ta σ H fun x H1 => ∃ a dx fs, x = .ref a ∧ H1 a = some (.ins C dx fs) ∧ sp ([.ref a] ++ dvs) H1 (fun v H2 => ∃ b, v = .bl b ∧ Q b H2) C8.E0
theorem pt_own (c : C8.Met X.prog X.w X.K X.mg X.base k C "__bool__" sp dvs) (hr : Room j X.A) (hk : k ≤ j) (ha : PE X a ta) (he : ∀ whole, isTrue a X.env whole = (do let v ← whole; standAt a.pos; holding [v] (truthy v)) := by intro _; rfl) : PT X a (tTruO C sp dvs ta) := by
  obtain ⟨f, fd, ps, ds, cl, hm, F, bd, d⟩ := c.ex
  refine ⟨fun pins s σ H Q I h => isTrue_plain (thn (ha.run pins s σ H _ I h) fun v s1 z => ?_) (he _)⟩
  obtain ⟨x, H1, I1, rx, o, dx, fs, rfl, e, q⟩ := z
  obtain rfl : v = Value.ref o := rx
  obtain ⟨mA, O, _, _, _, _⟩ := ins_get I1.hok e
  obtain ⟨od, J, _⟩ := O.look
  obtain ⟨m, F0⟩ := I1.fr
  refine PySem.W.truthy_K F0 I1.ok.mod.kin J hm.at_ hm.fn (wpAny_mono (run_fn (us := [.ref o]) (vs := [.ref o]) F (hr.mono hk) bd d C8.pass0 I1 (.cons rfl .nil) q) (fun v s2 y => ?_) fun _ _ y => y)
  obtain ⟨x2, H2, I2, rx2, b, rfl, q2⟩ := y
  obtain rfl : v = Value.bool b := rx2
  exact ⟨H2, I2, q2⟩
/-- x == y by the own __eq__ of the class of both -/
def rEqO (C : Addr) (sp : Sp) (dvs : List V) : R2 := fun x y H Q => ∃ a b dx dy fs gs, x = .ref a ∧ y = .ref b ∧ H a = some (.ins C dx fs) ∧ H b = some (.ins C dy gs) ∧ sp ([.ref a, .ref b] ++ dvs) H (fun v H' => ∃ k, v = .bl k ∧ Q v H') C8.E0
theorem op_eqO (c : C8.Met X.prog X.w X.K X.mg X.base k C "__eq__" sp dvs) (hr : Room j X.A) (hk : k ≤ j) : OpR X (compareOp .Eq) (rEqO C sp dvs) := by
  obtain ⟨f, fd, ps, ds, cl, hm, F, bd, d⟩ := c.ex
  intro pins s σ H x y v u Q I rx ry h
  obtain ⟨o, o2, dx, dy, fs, gs, rfl, rfl, e, e2, q⟩ := h
  obtain rfl : v = Value.ref o := rx
  obtain rfl : u = Value.ref o2 := ry
  obtain ⟨mA, O, _, _, _, _⟩ := ins_get I.hok e
  obtain ⟨mB, O2, _, _, _, _⟩ := ins_get I.hok e2
  obtain ⟨od, J, _⟩ := O.look
  obtain ⟨od2, J2, _⟩ := O2.look
  obtain ⟨m, F0⟩ := I.fr
  refine PySem.W.cmp_K (op := .Eq) (tb := .ref C) hr.units0 F0 I.ok.mod.kin J J2.type (by simp [PySem.W.notFirst]) hm.at_ hm.fn (wpAny_mono (run_fn (us := [.ref o, .ref o2]) (vs := [.ref o, .ref o2]) F (hr.mono hk) bd d C8.pass0 I (.cons rfl (.cons rfl .nil)) q) (fun v s2 y => ?_) fun _ _ y => y)
  obtain ⟨x2, H2, I2, rx2, b, rfl, q2⟩ := y
  obtain rfl : v = Value.bool b := rx2
  exact ⟨.bl b, H2, I2, rfl, q2⟩
/-- an instance of C is one of D, a class above -/
structure InsB (K : PySem.W.Frag) (C D : Addr) : Prop where
  cl : Cls K C
  ha : PySem.W.findIn K (.ref C) "__class__" = some (some (.builtin "object.__class__"))
  hn : PySem.W.specialIn K (.builtin "object.__class__") "__get__" = some (some (.builtin "getset_descriptor.__get__"))
  htk : PySem.W.takesIn K (.builtin "object.__class__") = some true
  hm : PySem.W.mroIn K C (.type "object") = some true
  me : PySem.W.kitOne K (.ref C) (.ref D) = some true
def rIsUp (C D : Addr) : List V → Hp → VK → Prop := fun xs H Q => ∃ a dx fs, xs = [.ref a, .ref D] ∧ H a = some (.ins C dx fs) ∧ Q (.bl true) H
theorem cr_isUp (c : InsB X.K C D) : CallR X (.builtin "isinstance") (rIsUp C D) := by
  intro pins s σ H xs us Q I r h
  obtain ⟨o, dx, fs, rfl, e, q⟩ := h
  obtain ⟨u, u2, rfl, r1, r2⟩ := vals2 r
  obtain rfl : u2 = Value.ref D := r2
  exact isinst_ok I r1 (TyOf.ins e c.cl c.ha c.hn c.htk c.hm) c.me fun tk => ⟨.bl true, H, I.tok _, rfl, q⟩
end
end L2
namespace Sl
open PySem L2 C8 StX
section
variable {σ : L2.St} {H : Hp} {Q : VK} {QB : Bool → Hp → Prop} {K : PySem.W.Frag} {C D : Addr} {sp : Sp} {dvs : List V} {ta : TE} {v : V} {f : Str} {u : Value}
def rTruO (C : Addr) (sp : Sp) (dvs : List V) (x : V) (H1 : Hp) (Q : Bool → Hp → Prop) : Prop := ∃ a dx fs, x = .ref a ∧ H1 a = some (.ins C dx fs) ∧ sp ([.ref a] ++ dvs) H1 (fun v H2 => ∃ b, v = .bl b ∧ Q b H2) C8.E0
theorem rd_truO0 (h : ta σ H fun x H1 => rTruO C sp dvs x H1 QB) : tTruO C sp dvs ta σ H QB := h
theorem rd_truO {a dx : Addr} {fs : List (Str × V)} (e : H a = some (.ins C dx fs)) (h : sp ([.ref a] ++ dvs) H (fun v H2 => ∃ b, v = .bl b ∧ QB b H2) C8.E0) : rTruO C sp dvs (.ref a) H QB := ⟨a, dx, fs, rfl, e, h⟩
theorem rd_eqO {a b dx dy : Addr} {fs gs : List (Str × V)} (e : H a = some (.ins C dx fs)) (e2 : H b = some (.ins C dy gs)) (h : sp ([.ref a, .ref b] ++ dvs) H (fun v H' => ∃ k, v = .bl k ∧ Q v H') C8.E0) : rEqO C sp dvs (.ref a) (.ref b) H Q := ⟨a, b, dx, dy, fs, gs, rfl, rfl, e, e2, h⟩
theorem rd_isUp {a dx : Addr} {fs : List (Str × V)} (e : H a = some (.ins C dx fs)) (h : Q (.bl true) H) : rIsUp C D [.ref a, .ref D] H Q := ⟨a, dx, fs, rfl, e, h⟩
def rCon (K : PySem.W.Frag) (f : Str) (x : V) (H : Hp) (Q : VK) : Prop := ∃ a C dx fs v u, x = .ref a ∧ H a = some (.ins C dx fs) ∧ Cls K C ∧ Con K C f v u ∧ fs.lookup f = none ∧ Q v H
theorem rd_con0 (h : ta σ H fun x H1 => rCon K f x H1 Q) : tCon K ta f σ H Q := h
theorem rd_con {a dx : Addr} {fs : List (Str × V)} (e : H a = some (.ins C dx fs)) (c : Cls K C) (k : ∃ u, Con K C f v u) (l : fs.lookup f = none) (h : Q v H) : rCon K f (.ref a) H Q := by
  obtain ⟨u, k⟩ := k
  exact ⟨a, C, dx, fs, v, u, rfl, e, c, k, l, h⟩
theorem rd_minP {a : Addr} {xs : List V} {ks : List (Int × Int)} (e : SqL K H a xs) (n : 0 < xs.length) (l : ks.length = xs.length) (hx : ∀ (i : Nat) x k, xs[i]? = some x → ks[i]? = some k → ∃ t, x = V.ref t ∧ H t = some (.tup [.int k.1, .int k.2]))
    (h : ∀ (i : Nat) t k, xs[i]? = some (.ref t) → ks[i]? = some k → H t = some (.tup [.int k.1, .int k.2]) → (∀ y ∈ ks, ltPr y k = false) → Q (.ref t) H) : rMinP K [.ref a] H Q :=
  ⟨a, xs, ks, rfl, e, n, l, hx, fun i x k h1 h2 h3 => by
    obtain ⟨t, rfl, e⟩ := hx i x k h1 h2
    exact h i t k h1 h2 e h3⟩
end
end Sl
set_option Elab.async false
set_option linter.all false
set_option maxRecDepth 100000
set_option maxHeartbeats 4000000
namespace L2
open PySem PySem.Spec PyProof.Rows
/-- a dict from ints to ints -/
def dI (ls : List (Int × Int)) : List (Key × V) := ls.map fun q => (Sum.inl q.1, V.int q.2)
theorem dI_len (ls : List (Int × Int)) : (dI ls).length = ls.length := by unfold dI; rw [List.length_map]
theorem dI_keys (ls : List (Int × Int)) : (dI ls).map (·.1) = (ls.map (·.1)).map Sum.inl := by unfold dI; rw [List.map_map, List.map_map]; rfl
theorem dI_nodup {ls : List (Int × Int)} (h : (ls.map (·.1)).Nodup) : ((dI ls).map (·.1)).Nodup := by
  rw [dI_keys]
  exact List.Pairwise.map Sum.inl (fun a b n e => n (Sum.inl.inj e)) h
theorem dI_val {ls : List (Int × Int)} (h : (ls.map (·.1)).Nodup) : ∀ p ∈ dI ls, valV (dI ls) p.1 = some p.2 ∧ flatB p.2 = true := by
  intro p hp
  refine ⟨val_nodup (dI_nodup h) p hp, ?_⟩
  obtain ⟨q, _, rfl⟩ := List.mem_map.mp hp
  rfl
theorem dI_at {ls : List (Int × Int)} (h : (ls.map (·.1)).Nodup) {k v : Int} (m : (k, v) ∈ ls) : valV (dI ls) (Sum.inl k) = some (.int v) := val_nodup (dI_nodup h) (Sum.inl k, V.int v) (List.mem_map.mpr ⟨(k, v), m, rfl⟩)
theorem dI_no {ls : List (Int × Int)} {k : Int} (h : ∀ q ∈ ls, q.1 ≠ k) : valV (dI ls) (Sum.inl k) = none := by
  induction ls with
  | nil => rfl
  | cons q r ih =>
    show valV ((Sum.inl q.1, V.int q.2) :: dI r) (Sum.inl k) = none
    rw [valV_neg (fun z => h q List.mem_cons_self (Sum.inl.inj z))]
    exact ih fun q' m => h q' (List.mem_cons_of_mem _ m)
theorem dI_putNew {ls : List (Int × Int)} {k v : Int} (h : ∀ q ∈ ls, q.1 ≠ k) : putK (dI ls) (Sum.inl k) (.int v) = dI (ls ++ [(k, v)]) := by
  rw [putK_new _ (dI_no h)]
  unfold dI
  rw [List.map_append]
  rfl
/-! ### == of such dicts, both answers where the lengths differ -/
section
variable {X : Cx}
def rEqDI : R2 := fun x y H Q => ∃ a b ls ms, x = .ref a ∧ y = .ref b ∧ H a = some (.dK (dI ls)) ∧ H b = some (.dK (dI ms)) ∧ (ls.map (·.1)).Nodup ∧ (ls = ms ∨ ls.length ≠ ms.length) ∧ Q (.bl (decide (ls = ms))) H
def rNeDI : R2 := fun x y H Q => ∃ a b ls ms, x = .ref a ∧ y = .ref b ∧ H a = some (.dK (dI ls)) ∧ H b = some (.dK (dI ms)) ∧ (ls.map (·.1)).Nodup ∧ (ls = ms ∨ ls.length ≠ ms.length) ∧ Q (.bl (!decide (ls = ms))) H
theorem dI_hits {A : Around} {s : Shared} {ls ms : List (Int × Int)} {va vb : List (Key × Value)} (nd : (ls.map (·.1)).Nodup) (h : ls = ms ∨ ls.length ≠ ms.length) (ra : KV (dI ls) va) (rb : KV (dI ms) vb) (e : va.length = vb.length) : ls = ms ∧ PySem.W.KeqHits A s vb va true := by
  rcases h with h | h
  · subst h
    exact ⟨rfl, hits_all rb ra (dI_val nd)⟩
  · exfalso
    have h1 := ra.length
    have h2 := rb.length
    rw [dI_len] at h1 h2
    omega
theorem dI_ans {ls ms : List (Int × Int)} {va vb : List (Key × Value)} (h : ls = ms ∨ ls.length ≠ ms.length) (ra : KV (dI ls) va) (rb : KV (dI ms) vb) : (va.length == vb.length && true) = decide (ls = ms) := by
  have h1 := ra.length
  have h2 := rb.length
  rw [dI_len] at h1 h2
  rw [Bool.and_true]
  rcases h with h | h
  · subst h
    rw [decide_eq_true rfl, ← h1, ← h2]
    simp
  · rw [decide_eq_false (fun z => h (by rw [z])), ← h1, ← h2]
    simpa using h
theorem op_eqDI (hu : X.A.units < cLine) : OpR X (compareOp .Eq) rEqDI := by
  intro pins s σ H x y v u Q I rx ry h
  obtain ⟨a, b, ls, ms, rfl, rfl, ea, eb, nd, hh, q⟩ := h
  obtain rfl : v = Value.ref a := rx
  obtain rfl : u = Value.ref b := ry
  obtain ⟨_, ya, va, ra, da⟩ := (show ObjOk X.prog X.w H s.heap a (.dK (dI ls)) from I.hok a _ ea)
  obtain ⟨_, yb, vb, rb, db⟩ := (show ObjOk X.prog X.w H s.heap b (.dK (dI ms)) from I.hok b _ eb)
  refine PySem.W.keq_eq (knd := mixKind X.prog X.w) (r := true) ya yb da db hu (fun e => (dI_hits nd hh ra rb e).2) ?_
  rw [dI_ans hh ra rb]
  exact ⟨.bl _, H, I, rfl, q⟩
theorem op_neDI (hu : X.A.units < cLine) : OpR X (compareOp .NotEq) rNeDI := by
  intro pins s σ H x y v u Q I rx ry h
  obtain ⟨a, b, ls, ms, rfl, rfl, ea, eb, nd, hh, q⟩ := h
  obtain rfl : v = Value.ref a := rx
  obtain rfl : u = Value.ref b := ry
  obtain ⟨_, ya, va, ra, da⟩ := (show ObjOk X.prog X.w H s.heap a (.dK (dI ls)) from I.hok a _ ea)
  obtain ⟨_, yb, vb, rb, db⟩ := (show ObjOk X.prog X.w H s.heap b (.dK (dI ms)) from I.hok b _ eb)
  refine PySem.W.keq_ne (knd := mixKind X.prog X.w) (r := true) ya yb da db hu (fun e => (dI_hits nd hh ra rb e).2) ?_
  rw [dI_ans hh ra rb]
  exact ⟨.bl _, H, I, rfl, q⟩
end
end L2
namespace Sl
open PySem L2 C8 StX
section
variable {σ : L2.St} {H H1 : Hp} {wi : TI} {g : TG} {tb : TS} {ta : TA} {td te ty tk tv : TE} {tt : TT} {nx bk ct : L2.St → Hp → Prop} {rt : VK} {K : PySem.W.Frag} {Q : VK} {QB : Bool → Hp → Prop} {vs : List Nat} {x y v : V}
theorem rd_dnew (h : ∀ p H', H p = none → Same H H' → H' p = some (.dK (dI [])) → H' = upd H p (.dK (dI [])) → Q (.ref p) H') : tDNewK σ H Q := fun p hp => h p _ hp (Same.new (Same.refl H) hp) upd_same rfl
def rDIn (y x : V) (H : Hp) (Q : VK) : Prop := ∃ a o, x = .ref a ∧ DGet H a y o ∧ Q (.bl o.isSome) H
def rDNot (y x : V) (H : Hp) (Q : VK) : Prop := ∃ a o, x = .ref a ∧ DGet H a y o ∧ Q (.bl (!o.isSome)) H
theorem rd_din0 (h : ty σ H fun y H1 => td σ H1 fun x H2 => rDIn y x H2 Q) : tDIn ty td σ H Q := h
theorem rd_dnot0 (h : ty σ H fun y H1 => td σ H1 fun x H2 => rDNot y x H2 Q) : tDNotIn ty td σ H Q := h
theorem rd_dnot {a : Addr} {ls : List (Int × Int)} {k : Int} (e : H a = some (.dK (dI ls))) (h : Q (.bl (!(valV (dI ls) (Sum.inl k)).isSome)) H) : rDNot (.int k) (.ref a) H Q := ⟨a, _, rfl, DGet.k (k := Sum.inl k) e, h⟩
def rDGet (x y : V) (H : Hp) (Q : VK) : Prop := ∃ a v, x = .ref a ∧ DGet H a y (some v) ∧ Q v H
theorem rd_dget0 (h : td σ H fun x H1 => ty σ H1 fun y H2 => rDGet x y H2 Q) : tDGet td ty σ H Q := h
theorem rd_dget {a : Addr} {ls : List (Int × Int)} {k w : Int} (e : Rd H a (.dK (dI ls))) (l : valV (dI ls) (Sum.inl k) = some (.int w)) (h : Q (.int w) H) : rDGet (.ref a) (.int k) H Q := ⟨a, .int w, rfl, .inl ⟨_, Sum.inl k, e, rfl, l.symm⟩, h⟩
def rDPut (nx : L2.St → Hp → Prop) (σ : L2.St) (v x y : V) (H : Hp) : Prop := ∃ a H4, x = .ref a ∧ DPut H a y v H4 ∧ nx σ H4
theorem rd_dput0 (h : tv σ H fun v H1 => td σ H1 fun x H2 => ty σ H2 fun y H3 => rDPut nx σ v x y H3) : sDPut td ty tv ⟨nx, rt, bk, ct⟩ σ H := h
theorem rd_dput {a : Addr} {ls : List (Int × Int)} {k w : Int} (e : H a = some (.dK (dI ls))) (l : ls.length < 100000) (h : ∀ H', H' = upd H a (.dK (putK (dI ls) (Sum.inl k) (.int w))) → H' a = some (.dK (putK (dI ls) (Sum.inl k) (.int w))) → nx σ H') : rDPut nx σ (.int w) (.ref a) (.int k) H :=
  ⟨a, _, rfl, DPut.k (k := Sum.inl k) e (by rw [dI_len]; exact Nat.lt_trans l (by decide)), h _ rfl upd_same⟩
def rDictD : List V → Hp → VK → Prop := fun xs H Q => ∃ (a : Addr) (kvs : List (Key × V)), xs = [.ref a] ∧ Rd H a (.dK kvs) ∧ ∀ p, H p = none → Q (.ref p) (upd H p (.dK kvs))
theorem cr_dictD {X : Cx} : CallR X (.type "dict") rDictD := call_dictD
theorem rd_dictD {a : Addr} {kvs : List (Key × V)} (e : H a = some (.dK kvs)) (h : ∀ p H', H p = none → Same H H' → H' p = some (.dK kvs) → H' = upd H p (.dK kvs) → Q (.ref p) H') : rDictD [.ref a] H Q := ⟨a, kvs, rfl, .inl e, fun p hp => h p _ hp (Same.new (Same.refl H) hp) upd_same rfl⟩
def rSortDI : List V → Hp → VK → Prop := fun xs H Q => ∃ (a : Addr) (kvs : List (Key × V)) (ks : List Int), xs = [.ref a] ∧ Rd H a (.dK kvs) ∧ kvs.map (·.1) = ks.map Sum.inl ∧ ks.length < 64 ∧ ∀ (ys : List Int) (p : Addr), ys.Perm ks → ys.Pairwise (· ≤ ·) → H p = none → Q (.ref p) (upd H p (.lst (ys.map V.int)))
theorem cr_sortDI {X : Cx} (hc : X.calm = true) : CallR X (.builtin "sorted") rSortDI := call_sortedDI hc
theorem perm_sorted : ∀ {ys ks : List Int}, ys.Perm ks → ys.Pairwise (· ≤ ·) → ks.Pairwise (· < ·) → ys = ks
  | [], ks, p, _, _ => (List.nil_perm.mp p).symm
  | y :: ys, [], p, _, _ => by have := p.length_eq; simp at this
  | y :: ys, k :: ks, p, s1, s2 => by
    have h1 := List.pairwise_cons.mp s1
    have h2 := List.pairwise_cons.mp s2
    have e : y = k := by
      have a : y ∈ k :: ks := p.mem_iff.mp List.mem_cons_self
      have b : k ∈ y :: ys := p.mem_iff.mpr List.mem_cons_self
      rcases List.mem_cons.mp a with z | z
      · exact z
      · rcases List.mem_cons.mp b with w | w
        · exact w.symm
        · have q1 := h2.1 y z
          have q2 := h1.1 k w
          omega
    subst e
    rw [perm_sorted p.cons_inv h1.2 h2.2]
theorem rd_sortDI {a : Addr} {ls : List (Int × Int)} (e : H a = some (.dK (dI ls))) (s : (ls.map (·.1)).Pairwise (· < ·)) (l : ls.length < 64) (h : ∀ p H', H p = none → Same H H' → H' p = some (.lst ((ls.map (·.1)).map V.int)) → Q (.ref p) H') : rSortDI [.ref a] H Q :=
  ⟨a, _, ls.map (·.1), rfl, .inl e, dI_keys ls, by rw [List.length_map]; exact l, fun ys p pm sr hp => by
    rw [perm_sorted pm sr s]
    exact h p _ hp (Same.new (Same.refl H) hp) upd_same⟩
theorem rd_sortL {a : Addr} {ks : List Int} (e : SqL K H a (ks.map V.int)) (s : ks.Pairwise (· < ·)) (l : ks.length < 64) (h : ∀ p H', H p = none → Same H H' → H' p = some (.lst (ks.map V.int)) → Q (.ref p) H') : rSorted K [.ref a] H Q :=
  ⟨a, ks, rfl, e, l, fun ys p pm sr hp => by
    rw [perm_sorted pm sr s]
    exact h p _ hp (Same.new (Same.refl H) hp) upd_same⟩
theorem rd_listD {a : Addr} {ls : List (Int × Int)} (e : H a = some (.dK (dI ls))) (h : ∀ p H', H p = none → Same H H' → H' p = some (.lst ((ls.map (·.1)).map V.int)) → Q (.ref p) H') : rListD [.ref a] H Q :=
  ⟨a, _, rfl, e, fun p hp => h p _ hp (Same.new (Same.refl H) hp) (by rw [upd_same]; unfold dI; rw [List.map_map, List.map_map]; rfl)⟩
theorem rd_eqDI {a b : Addr} {ls ms : List (Int × Int)} (ea : H a = some (.dK (dI ls))) (eb : H b = some (.dK (dI ms))) (nd : (ls.map (·.1)).Nodup) (hh : ls = ms ∨ ls.length ≠ ms.length) (q : Q (.bl (decide (ls = ms))) H) : rEqDI (.ref a) (.ref b) H Q := ⟨a, b, ls, ms, rfl, rfl, ea, eb, nd, hh, q⟩
theorem rd_neDI {a b : Addr} {ls ms : List (Int × Int)} (ea : H a = some (.dK (dI ls))) (eb : H b = some (.dK (dI ms))) (nd : (ls.map (·.1)).Nodup) (hh : ls = ms ∨ ls.length ≠ ms.length) (q : Q (.bl (!decide (ls = ms))) H) : rNeDI (.ref a) (.ref b) H Q := ⟨a, b, ls, ms, rfl, rfl, ea, eb, nd, hh, q⟩
/-! ### dict comprehensions -/
def DcE (D : Addr) (Nx : Hp → Prop) (y z : V) (H5 : Hp) : Prop := ∃ kvs k, y = kV k ∧ H5 D = some (.dK kvs) ∧ kvs.length < sizeLine ∧ Nx (upd H5 D (.dK (putK kvs k z)))
def DcR (J : It) (g : TG) (tt : TT) (tk tv : TE) (vs : List Nat) (σ : L2.St) (H1 : Hp) (Q : VK) : Prop := ∀ D, H1 D = none → ∃ W : Nat → Nat → Hp → Prop, (∃ m, W 0 m (upd H1 D (.dK []))) ∧ ∀ i m H, W i m H →
  (J.stop i H ∧ Q (.ref D) H) ∨ (J.go i H ∧ ∃ Nx : Hp → Prop, (∀ H', Nx H' → ∃ m', m' < m ∧ W (i + 1) m' H') ∧ ∀ x H', J.yld i H x H' → g x (wipe σ vs) H' fun σ2 H2 => wipe σ2 vs = wipe σ vs ∧ tt σ2 H2 fun b H3 =>
    if b = true then tk σ2 H3 fun y H4 => tv σ2 H4 fun z H5 => DcE D Nx y z H5 else Nx H3)
theorem rd_dc (h : wi σ H fun J H1 => DcR J g tt tk tv vs σ H1 Q) : tDc wi g tt tk tv vs σ H Q := h
theorem rd_dcE {D : Addr} {Nx : Hp → Prop} {ls : List (Int × Int)} {k w : Int} (e : H D = some (.dK (dI ls))) (l : ls.length < 100000) (n : ∀ q ∈ ls, q.1 ≠ k) (h : ∀ H', H' = upd H D (.dK (dI (ls ++ [(k, w)]))) → H' D = some (.dK (dI (ls ++ [(k, w)]))) → Nx H') : DcE D Nx (.int k) (.int w) H :=
  ⟨_, Sum.inl k, rfl, e, by rw [dI_len]; exact Nat.lt_trans l (by decide), by rw [dI_putNew n]; exact h _ rfl upd_same⟩
theorem dcR_gen (J : It) (n : Nat) (Pv : Addr → Nat → Hp → Prop) (h0 : ∀ D H', H D = none → Same H H' → H' D = some (.dK (dI [])) → H' = upd H D (.dK (dI [])) → Pv D 0 H') (hg : ∀ D i H', H D = none → i < n → Pv D i H' → J.go i H') (he : ∀ D H', H D = none → Pv D n H' → J.stop n H')
    (hs : ∀ D i H' x H2, H D = none → i < n → Pv D i H' → J.yld i H' x H2 → g x (wipe σ vs) H2 fun σ2 H2 => wipe σ2 vs = wipe σ vs ∧ tt σ2 H2 fun b H3 => if b = true then tk σ2 H3 fun y H4 => tv σ2 H4 fun z H5 => DcE D (Pv D (i + 1)) y z H5 else Pv D (i + 1) H3)
    (hd : ∀ D H', H D = none → Pv D n H' → Q (.ref D) H') : DcR J g tt tk tv vs σ H Q := by
  intro D hD
  refine ⟨fun i m H => m = n - i ∧ i ≤ n ∧ Pv D i H, ⟨n, by simp, Nat.zero_le _, h0 D _ hD (Same.new (Same.refl H) hD) upd_same rfl⟩, ?_⟩
  rintro i m H' ⟨rfl, hi, p⟩
  by_cases hlt : i < n
  · exact .inr ⟨hg D i H' hD hlt p, Pv D (i + 1), fun H2 p' => ⟨n - (i + 1), by omega, rfl, hlt, p'⟩, fun x H2 y => hs D i H' x H2 hD hlt p y⟩
  · obtain rfl : i = n := by omega
    exact .inl ⟨he D H' hD p, hd D H' hD p⟩
theorem dcR_lst {a : Addr} {xs : List V} (Pv : Addr → Nat → Hp → Prop) (hl : ∀ D i H', H D = none → Pv D i H' → SqL K H' a xs) (h0 : ∀ D H', H D = none → Same H H' → H' D = some (.dK (dI [])) → H' = upd H D (.dK (dI [])) → Pv D 0 H')
    (hs : ∀ D i x H', H D = none → xs[i]? = some x → Pv D i H' → g x (wipe σ vs) H' fun σ2 H2 => wipe σ2 vs = wipe σ vs ∧ tt σ2 H2 fun b H3 => if b = true then tk σ2 H3 fun y H4 => tv σ2 H4 fun z H5 => DcE D (Pv D (i + 1)) y z H5 else Pv D (i + 1) H3)
    (hd : ∀ D H', H D = none → Pv D xs.length H' → Q (.ref D) H') : DcR (Itl K a) g tt tk tv vs σ H Q :=
  dcR_gen _ xs.length Pv h0 (fun D i H' hD h p => ⟨xs, xs[i], hl D i H' hD p, by simp [h]⟩) (fun D H' hD p => ⟨xs, hl D _ H' hD p, Nat.le_refl _⟩)
    (fun D i H' x H2 hD hi p ⟨e1, e2⟩ => by subst e1; exact hs D i x _ hD (e2 xs (hl D i _ hD p)) p) hd
/-! ### the keys of a dict that is walked -/
def KeysR (R : It → Hp → Prop) (x : V) (H : Hp) : Prop := ∃ d o, x = .ref d ∧ ((∃ kvs, H d = some (.frz o (.dK kvs)) ∧ R (Itk d o kvs) H) ∨ ∃ kvs, H d = some (.frz o (.dT kvs)) ∧ R (Itkt d o kvs) H)
theorem rd_iKeys {R : It → Hp → Prop} (h : td σ H fun x H1 => KeysR R x H1) : iKeys td σ H R := h
theorem rd_keysR {R : It → Hp → Prop} {d : Addr} {o : Obj} {kvs : List (Key × V)} (e : H d = some (.frz o (.dK kvs))) (h : R (Itk d o kvs) H) : KeysR R (.ref d) H := ⟨d, o, rfl, .inl ⟨kvs, e, h⟩⟩
theorem rd_lock {d : Addr} {u : HO} (e : H d = some u) (m : Mut (some u)) (h : ∀ od, te σ (upd H d (.frz od u)) fun v H' => H' d = some (.frz od u) ∧ Q v (upd H' d u)) : tLockE te σ H Q := ⟨d, u, e, m, h⟩
theorem dcR_keys {d : Addr} {o : Obj} {kvs : List (Key × V)} (Pv : Addr → Nat → Hp → Prop) (hl : ∀ D i H', H D = none → Pv D i H' → H' d = some (.frz o (.dK kvs))) (h0 : ∀ D H', H D = none → Same H H' → H' D = some (.dK (dI [])) → H' = upd H D (.dK (dI [])) → Pv D 0 H')
    (hs : ∀ D i k z H', H D = none → kvs[i]? = some (k, z) → Pv D i H' → g (kV k) (wipe σ vs) H' fun σ2 H2 => wipe σ2 vs = wipe σ vs ∧ tt σ2 H2 fun b H3 => if b = true then tk σ2 H3 fun y H4 => tv σ2 H4 fun z H5 => DcE D (Pv D (i + 1)) y z H5 else Pv D (i + 1) H3)
    (hd : ∀ D H', H D = none → Pv D kvs.length H' → Q (.ref D) H') : DcR (Itk d o kvs) g tt tk tv vs σ H Q :=
  dcR_gen _ kvs.length Pv h0 (fun D i H' hD h p => ⟨hl D i H' hD p, h⟩) (fun D H' hD p => ⟨hl D _ H' hD p, Nat.le_refl _⟩)
    (fun D i H' x H2 hD hi p ⟨e1, k, v, e2, e3⟩ => by subst e1; subst e3; exact hs D i k v _ hD e2 p) hd
theorem lcR_keys {d : Addr} {o : Obj} {kvs : List (Key × V)} (Pv : Addr → Nat → Hp → Prop) (hl : ∀ D i H', H D = none → Pv D i H' → H' d = some (.frz o (.dK kvs))) (h0 : ∀ D H', H D = none → Same H H' → H' D = some (.lst []) → H' = upd H D (.lst []) → Pv D 0 H')
    (hs : ∀ D i k z H', H D = none → kvs[i]? = some (k, z) → Pv D i H' → g (kV k) (wipe σ vs) H' fun σ2 H2 => wipe σ2 vs = wipe σ vs ∧ tt σ2 H2 fun b H3 => if b = true then te σ2 H3 fun y H4 => LcE D (Pv D (i + 1)) y H4 else Pv D (i + 1) H3)
    (hd : ∀ D H', H D = none → Pv D kvs.length H' → Q (.ref D) H') : LcR (Itk d o kvs) g tt te vs σ H Q :=
  lcR_gen _ kvs.length Pv h0 (fun D i H' hD h p => ⟨hl D i H' hD p, h⟩) (fun D H' hD p => ⟨hl D _ H' hD p, Nat.le_refl _⟩)
    (fun D i H' x H2 hD hi p ⟨e1, k, v, e2, e3⟩ => by subst e1; subst e3; exact hs D i k v _ hD e2 p) hd
end
end Sl
set_option Elab.async false
set_option linter.all false
set_option maxRecDepth 100000
set_option maxHeartbeats 4000000
/-! ### t != u of tuples whose items are all equal, one of them a dict -/
namespace GQ
open PySem PySem.SeqAt
open AutoSeq1 (wpAny_loadPart')
open MeetsSeq MeetsSeq2 MeetsSeq3 SeqRoads2
section
variable {prog : Program} {w : World} {A : Around} {R : Result → Shared → Prop} {E : Value → Shared → Prop}
theorem tup_neT (t u : Addr) (xs ys : Array Value) (n m : Nat) (d1 d2 : Option Addr) (l1 l2 : Array (Option Value)) (len : xs.size = ys.size) {s : Shared}
    (each : ∀ i (h1 : i < xs.size) (h2 : i < ys.size) (E' : Value → Shared → Prop) (Q : Bool → Shared → Prop), Q true s → wpAny (model prog w) A.in1 (eqBool xs[i] ys[i]) Q E' s)
    (e1 : s.heap.get? t = some { cls := .type "tuple", dict := d1, data := .seq xs n, slots := l1 }) (e2 : s.heap.get? u = some { cls := .type "tuple", dict := d2, data := .seq ys m, slots := l2 }) (fin : R (.ok (.ret (.bool false))) s) :
    wpAny (model prog w) A.in1 (Builtin.«tuple.__ne__» ⟨[.ref t, .ref u], []⟩) (FinOf prog w A R) (fun e s' => R (.error e) s') s := by
  have f2 := AutoSeq1.sub_tuple_tuple
  have hz : (xs.toList.zip ys.toList).length = xs.size := by simp [len]
  obtain ⟨hp, gn, dr, tk, os⟩ := s
  wp_walk using wpAny_loadPart' e1, wpAny_loadPart' e2, wpAny_forIn_list _ (fun rest b s' => b.1 = none ∧ s' = (⟨hp, gn, dr, tk, os⟩ : Shared) ∧ ∃ i, rest = (xs.toList.zip ys.toList).drop i ∧ i ≤ xs.size) _
  case turn =>
    rintro ⟨y, x⟩ rest b s' ⟨hb, rfl, i, hr, hi⟩
    have lt : i < (xs.toList.zip ys.toList).length := by
      rcases Nat.lt_or_ge i (xs.toList.zip ys.toList).length with z | z
      · exact z
      · rw [List.drop_of_length_le z] at hr
        cases hr
    have h1 : i < xs.size := hz ▸ lt
    have h2 : i < ys.size := len ▸ h1
    rw [List.drop_eq_getElem_cons lt] at hr
    injection hr with q1 q2
    obtain rfl : y = xs[i] := by simpa using congrArg Prod.fst q1
    obtain rfl : x = ys[i] := by simpa using congrArg Prod.snd q1
    refine wpAny_bind (each i h1 h2 _ _ ?_)
    wp_walk
    exact ⟨rfl, rfl, i + 1, q2, h1⟩
  case fin =>
    rintro ⟨b1, b2⟩ s' ⟨hb, rfl, i, hr, hi⟩
    simp only at hb
    subst hb
    wp_walk
    simpa [Builtin.Tuple.tupleCompareSizes, len] using fin
  case h =>
    exact ⟨rfl, rfl, 0, rfl, Nat.zero_le _⟩
theorem rcne_tup {t u : Addr} {xs ys : Array Value} {Q : Value → Shared → Prop} {s : Shared} (len : xs.size = ys.size) (hu : A.units < cLine) (h1 : s.heap.IsTuple t xs) (h2 : s.heap.IsTuple u ys)
    (each : ∀ i (h1 : i < xs.size) (h2 : i < ys.size) (E' : Value → Shared → Prop) (Q : Bool → Shared → Prop), Q true s → wpAny (model prog w) A.in1 (eqBool xs[i] ys[i]) Q E' s) (fin : Q (.bool false) s) : wpAny (model prog w) A (richCompare .NotEq (.ref t) (.ref u)) Q E s := by
  obtain ⟨⟨c1, d1, k1, l1⟩, o1, z1, n, y1⟩ := id h1
  obtain ⟨⟨c2, d2, k2, l2⟩, o2, z2, m, y2⟩ := id h2
  simp only at z1 y1 z2 y2
  subst z1 y1 z2 y2
  refine wpAny_richCompare_same_room (op := .NotEq) ⟨_, o1, rfl⟩ ⟨_, o2, rfl⟩ F.slot_tuple_ne (call_here F.slot_tuple_ne ⟨_, o1, rfl⟩ F.entry_tuple_ne (F.args_tuple_ne_2 _ _) ?_) hu
  exact tup_neT (R := wants (fun v s' => v ≠ .notImplemented ∧ Q v s') E) t u xs ys n m d1 d2 l1 l2 len each o1 o2 ⟨(fun x => nomatch x), fin⟩
end
end GQ
namespace L2
open PySem PySem.Spec PyProof.Rows
section
variable {X : Cx}
/-- (i, d) != (i, e), d and e equal dicts -/
def rNePD (K : PySem.W.Frag) : R2 := fun x y H Q => ∃ t u i a b ls, x = .ref t ∧ y = .ref u ∧ H t = some (.tup [.int i, .ref a]) ∧ H u = some (.tup [.int i, .ref b]) ∧ H a = some (.dK (dI ls)) ∧ H b = some (.dK (dI ls)) ∧ (ls.map (·.1)).Nodup ∧ Q (.bl false) H
theorem op_nePD (hu : X.A.units + 64 < cLine) : OpR X (compareOp .NotEq) (rNePD X.K) := by
  intro pins s σ H x y v u' Q I rx ry h
  obtain ⟨t, u, i, a, b, ls, rfl, rfl, et, eu, ea, eb, nd, q⟩ := h
  obtain rfl : v = Value.ref t := rx
  obtain rfl : u' = Value.ref u := ry
  obtain ⟨xs, r1, p1, _⟩ := I.tuple (SqT.of et)
  obtain ⟨ys, r2, p2, _⟩ := I.tuple (SqT.of eu)
  obtain ⟨x1, x2, rfl, ⟨tx, rfl⟩, w2⟩ := vals2 r1
  obtain ⟨y1, y2, rfl, ⟨ty, rfl⟩, z2⟩ := vals2 r2
  obtain rfl : x2 = Value.ref a := w2
  obtain rfl : y2 = Value.ref b := z2
  obtain ⟨_, ya, va, ra, da⟩ := (show ObjOk X.prog X.w H s.heap a (.dK (dI ls)) from I.hok a _ ea)
  obtain ⟨_, yb, vb, rb, db⟩ := (show ObjOk X.prog X.w H s.heap b (.dK (dI ls)) from I.hok b _ eb)
  show wpAny (model X.prog X.w) X.A (richCompare .NotEq (.ref t) (.ref u)) (EP X pins σ Q) X.xe s
  refine GQ.rcne_tup (by simp) (by omega) p1 p2 (fun j h1 h2 E' Q' q' => ?_) ⟨.bl false, H, I, rfl, q⟩
  match j, h1, h2 with
  | 0, _, _ => exact (eqAt_same (A := X.A.in1) (s := s) (show RelV (V.int i) (Value.int i tx) from ⟨tx, rfl⟩) (show RelV (V.int i) (Value.int i ty) from ⟨ty, rfl⟩) rfl) X.prog X.w E' Q' q'
  | 1, _, _ =>
    show wpAny (model X.prog X.w) X.A.in1 (eqBool (Value.ref a) (Value.ref b)) Q' E' s
    by_cases c : a = b
    · subst c
      exact SeqAt.EqAt.same (A := X.A.in1) (s := s) (.ref a) X.prog X.w E' Q' q'
    · refine GQ.eqBool_refG c ?_
      show wpAny (model X.prog X.w) X.A.in1 (compareOp .Eq (.ref a) (.ref b)) _ E' s
      refine PySem.W.keq_eq (knd := mixKind X.prog X.w) (r := true) ya yb da db (by show X.A.units + 1 < cLine; omega) (fun e => (dI_hits nd (.inl rfl) ra rb e).2) ?_
      rw [dI_ans (.inl rfl) ra rb, decide_eq_true rfl]
      exact ⟨true, rfl, q'⟩
  | j + 2, h1, _ => exact absurd h1 (by simp)
end
end L2
namespace Sl
open PySem L2 C8 StX
theorem rd_nePD {K : PySem.W.Frag} {H : Hp} {Q : VK} {t u a b : Addr} {i : Int} {ls : List (Int × Int)} (et : H t = some (.tup [.int i, .ref a])) (eu : H u = some (.tup [.int i, .ref b])) (ea : H a = some (.dK (dI ls))) (eb : H b = some (.dK (dI ls))) (nd : (ls.map (·.1)).Nodup) (q : Q (.bl false) H) : rNePD K (.ref t) (.ref u) H Q :=
  ⟨t, u, i, a, b, ls, rfl, rfl, et, eu, ea, eb, nd, q⟩
end Sl
set_option Elab.async false
set_option linter.all false
set_option maxRecDepth 100000
set_option maxHeartbeats 4000000
namespace L2
open PySem PySem.Spec PyProof.Rows
/-! ### sum(d.values()) of a dict from ints to ints -/
def rSumV (x : V) (H : Hp) (Q : VK) : Prop := ∃ a ls, x = V.ref a ∧ H a = some (.dK (dI ls)) ∧ Q (.int ((ls.map (·.2)).sum)) H
def tSumV (td : TE) : TE := fun σ H Q => td σ H fun x H1 => rSumV x H1 Q
theorem dI_vals (ls : List (Int × Int)) : (dI ls).map (·.2) = (ls.map (·.2)).map V.int := by unfold dI; rw [List.map_map, List.map_map]; rfl
theorem preSum_list (l : List Int) : ∀ n : Nat, preSum (fun i => l.getD i 0) n = (l.take n).sum
  | 0 => by simp [preSum]
  | n + 1 => by
    rw [preSum, preSum_list l n, List.take_succ, List.sum_append]
    cases e : l[n]? with
    | none => simp [List.getD_eq_getElem?_getD, e]
    | some x => simp [List.getD_eq_getElem?_getD, e]
section
variable {X : Cx} {o : Expr} {p pos apos mpos : Pos} {td : TE}
theorem pe_sumVals (hc : X.calm = true) (hg : Gl X "sum") (hm : X.mg "sum" = none) (hd : PE X o td) (base : attributeBase o "values" X.env (eval o X.env) = eval o X.env := by rfl) (line : (apos.endLine == mpos.line) = true := by rfl)
    (each : starEach [Expr.Call (.Attribute o "values" apos) [] [] mpos] X.env = [(false, eval (Expr.Call (.Attribute o "values" apos) [] [] mpos) X.env)] := by rfl) : PE X (.Call (.Name "sum" p) [.Call (.Attribute o "values" apos) [] [] mpos] [] pos) (tSumV td) := by
  refine ⟨fun pins s σ H Q I h => wpAny_Call_Name_kw (ld_blt I hg hm (u := .builtin "sum") (by first | rfl | decide +kernel) ?_ (by first | decide +kernel | decide) (by first | decide +kernel | decide))⟩
  rw [each]
  refine PySem.callWith_builtin1 (wpAny_Call_method0_late base line (thn (hd.run pins s σ H _ I h) fun v s1 z => ?_))
  obtain ⟨x, H1, I1, rx, a, ls, rfl, ea, q⟩ := z
  obtain rfl : v = Value.ref a := rx
  obtain ⟨_, low, vs, rel, dof⟩ := dk_of I1.hok ea
  obtain ⟨ep, dat⟩ := dof.dictAt
  obtain ⟨ob, es, ho, ex, _⟩ := id dat
  refine ⟨"dict", "dict.values", F.plainAttrs_dict, F.slot_dict_values, F.type_dict_values, ⟨ob, ho, ex.1⟩, fun b e => (by cases e; exact ⟨ob, ho, ex.2.1⟩), Calls.callWith_builtin rfl (PySem.evalArgs_none (call_meetsIn F.slot_dict_values ⟨ob, ho, ex.1⟩ F.entry_dict_values (F.args_dict_values_1 _) (meets_dict_values (mixKind X.prog X.w) a low) ⟨⟨vs, dof⟩, ?_⟩))⟩
  have kept1 : ∀ b u, s1.heap.get? b = some u → (s1.heap.push { cls := .type "dict_values", data := .fields #[.ref a] }).get? b = some u := fun _ _ e => Heap.get?_push_of_some _ e
  have dat1 := dat.keep kept1
  have lt : a < s1.heap.objs.size := Heap.lt_size ho
  have sz : (s1.heap.push { cls := .type "dict_values", data := .fields #[.ref a] }).objs.size = s1.heap.objs.size + 1 := Heap.size_push _ _
  have lv : vs.length = ls.length := by rw [← rel.length, dI_len]
  have val : ∀ (i : Nat) (v : Value), (∃ k, vs[i]? = some (k, v)) → ∃ t, v = Value.int ((ls.map (·.2)).getD i 0) t := by
    rintro i v ⟨k, hk⟩
    obtain ⟨x, h1, h2⟩ := KV.at' rel hk
    have e : ((dI ls).map (·.2))[i]? = some x := by rw [List.getElem?_map, h1]; rfl
    rw [dI_vals, List.getElem?_map] at e
    cases w : (ls.map (·.2))[i]? with
    | none => rw [w] at e; cases e
    | some j =>
      rw [w] at e
      cases e
      obtain ⟨t, rfl⟩ := h2
      refine ⟨t, ?_⟩
      rw [List.getD_eq_getElem?_getD, w]; rfl
  refine call_sum_walkG (wpAny_pyIter_values (v := s1.heap.objs.size) (d := a) ⟨_, Heap.get?_push_size _ rfl, rfl, rfl⟩ dat1 ⟨_, _, _, _, _, _, fun i => (ls.map (·.2)).getD i 0, rfl,
    Walks.dictValues (knd := mixKind X.prog X.w) (A := X.A.in1) (I.ok.hd hc) _ a (by rw [sz]; exact Nat.ne_of_lt (Nat.lt_succ_of_lt lt)) vs ep, ⟨⟨_, Heap.get?_push_size _ rfl, rfl, rfl⟩, dat1.keep fun _ _ e => Heap.get?_push_of_some _ e⟩, fun b hb => ?_, val, fun h' tk t' kp => ?_⟩)
  · show b < ((s1.heap.push _).push _).objs.size
    rw [Heap.size_push, sz]
    rcases List.mem_cons.mp hb with e | hb
    · rw [e, sz]; exact Nat.lt_succ_self _
    · rw [List.mem_singleton.mp hb]; exact Nat.lt_succ_of_lt (Nat.lt_succ_of_lt lt)
  · have es : preSum (fun i => (ls.map (·.2)).getD i 0) vs.length = (ls.map (·.2)).sum := by
      rw [preSum_list, List.take_of_length_le (by rw [List.length_map, lv]; exact Nat.le_refl _)]
    rw [es]
    refine ⟨.int _, H1, I1.kept (t' := tk) fun b u e => kp b u (fun mem => ?_) (Heap.get?_push_of_some _ (kept1 b u e)), ⟨t', rfl⟩, q⟩
    have e2 := Heap.lt_size e
    rw [List.mem_singleton.mp mem, sz] at e2
    exact Nat.lt_irrefl _ (Nat.lt_of_succ_lt e2)
end
end L2
namespace Sl
open PySem L2 C8 StX
section
variable {σ : L2.St} {H : Hp} {Q : VK} {td ty tx : TE}
theorem rd_sumV0 (h : td σ H fun x H1 => rSumV x H1 Q) : tSumV td σ H Q := h
theorem rd_sumV {a : Addr} {ls : List (Int × Int)} (e : H a = some (.dK (dI ls))) (h : Q (.int ((ls.map (·.2)).sum)) H) : rSumV (.ref a) H Q := ⟨a, ls, rfl, e, h⟩
/-- d.get(k, z) -/
def rGetD (x : V) (ty tx : TE) (σ : L2.St) (H1 : Hp) (Q : VK) : Prop := ∃ a, x = .ref a ∧ IsD H1 a ∧ ty σ H1 fun y H2 => tx σ H2 fun z H3 => ∃ o, DGet H3 a y o ∧ Q (o.getD z) H3
theorem rd_getD0 (h : td σ H fun x H1 => rGetD x ty tx σ H1 Q) : tDGet2 td ty tx σ H Q := h
def rGetD2 (a : Addr) (y z : V) (H3 : Hp) (Q : VK) : Prop := ∃ o, DGet H3 a y o ∧ Q (o.getD z) H3
theorem rd_getD {a : Addr} {kvs : List (Key × V)} (e : Rd H a (.dK kvs)) (h : ty σ H fun y H2 => tx σ H2 fun z H3 => rGetD2 a y z H3 Q) : rGetD (.ref a) ty tx σ H Q := ⟨a, rfl, .inl ⟨kvs, e⟩, h⟩
theorem rd_getD2 {a : Addr} {ls : List (Int × Int)} {k w z : Int} (e : Rd H a (.dK (dI ls))) (l : (valV (dI ls) (Sum.inl k)).getD (.int z) = .int w) (h : Q (.int w) H) : rGetD2 a (.int k) (.int z) H Q := ⟨_, .inl ⟨_, Sum.inl k, e, rfl, rfl⟩, by rw [l]; exact h⟩
theorem rd_dinI {a : Addr} {ls : List (Int × Int)} {k : Int} (e : H a = some (.dK (dI ls))) (h : Q (.bl (valV (dI ls) (Sum.inl k)).isSome) H) : rDIn (.int k) (.ref a) H Q := ⟨a, _, rfl, DGet.k (k := Sum.inl k) e, h⟩
end
/-! ### truth of one of two classes of evidence -/
end Sl
namespace L2
open PySem PySem.Spec PyProof.Rows
section
variable {X : Cx} {k k2 j : Nat} {C D : Addr} {sp sp2 : Sp} {dvs dvs2 : List V} {a : Expr} {ta : TE}
def tTruO2 (C D : Addr) (sp sp2 : Sp) (dvs dvs2 : List V) (ta : TE) : TT := fun σ H Q => ta σ H fun x H1 => ∃ a dx fs, x = .ref a ∧ ((H1 a = some (.ins C dx fs) ∧ sp ([.ref a] ++ dvs) H1 (fun v H2 => ∃ b, v = .bl b ∧ Q b H2) C8.E0) ∨ (H1 a = some (.ins D dx fs) ∧ sp2 ([.ref a] ++ dvs2) H1 (fun v H2 => ∃ b, v = .bl b ∧ Q b H2) C8.E0))
theorem pt_own2 (c : C8.Met X.prog X.w X.K X.mg X.base k C "__bool__" sp dvs) (c2 : C8.Met X.prog X.w X.K X.mg X.base k2 D "__bool__" sp2 dvs2) (hr : Room j X.A) (hk : k ≤ j) (hk2 : k2 ≤ j) (ha : PE X a ta) (he : ∀ whole, isTrue a X.env whole = (do let v ← whole; standAt a.pos; holding [v] (truthy v)) := by intro _; rfl) : PT X a (tTruO2 C D sp sp2 dvs dvs2 ta) := by
  refine ⟨fun pins s σ H Q I h => isTrue_plain (thn (ha.run pins s σ H _ I h) fun v s1 z => ?_) (he _)⟩
  obtain ⟨x, H1, I1, rx, o, dx, fs, rfl, z⟩ := z
  obtain rfl : v = Value.ref o := rx
  obtain ⟨m, F0⟩ := I1.fr
  rcases z with ⟨e, q⟩ | ⟨e, q⟩
  · obtain ⟨f, fd, ps, ds, cl, hm, F, bd, d⟩ := c.ex
    obtain ⟨mA, O, _, _, _, _⟩ := ins_get I1.hok e
    obtain ⟨od, J, _⟩ := O.look
    refine PySem.W.truthy_K F0 I1.ok.mod.kin J hm.at_ hm.fn (wpAny_mono (run_fn (us := [.ref o]) (vs := [.ref o]) F (hr.mono hk) bd d C8.pass0 I1 (.cons rfl .nil) q) (fun v s2 y => ?_) fun _ _ y => y)
    obtain ⟨x2, H2, I2, rx2, b, rfl, q2⟩ := y
    obtain rfl : v = Value.bool b := rx2
    exact ⟨H2, I2, q2⟩
  · obtain ⟨f, fd, ps, ds, cl, hm, F, bd, d⟩ := c2.ex
    obtain ⟨mA, O, _, _, _, _⟩ := ins_get I1.hok e
    obtain ⟨od, J, _⟩ := O.look
    refine PySem.W.truthy_K F0 I1.ok.mod.kin J hm.at_ hm.fn (wpAny_mono (run_fn (us := [.ref o]) (vs := [.ref o]) F (hr.mono hk2) bd d C8.pass0 I1 (.cons rfl .nil) q) (fun v s2 y => ?_) fun _ _ y => y)
    obtain ⟨x2, H2, I2, rx2, b, rfl, q2⟩ := y
    obtain rfl : v = Value.bool b := rx2
    exact ⟨H2, I2, q2⟩
end
end L2
namespace Sl
open PySem L2 C8 StX
section
variable {σ : L2.St} {H : Hp} {QB : Bool → Hp → Prop} {C D : Addr} {sp sp2 : Sp} {dvs dvs2 : List V} {ta : TE}
def rTruO2 (C D : Addr) (sp sp2 : Sp) (dvs dvs2 : List V) (x : V) (H1 : Hp) (Q : Bool → Hp → Prop) : Prop := ∃ a dx fs, x = .ref a ∧ ((H1 a = some (.ins C dx fs) ∧ sp ([.ref a] ++ dvs) H1 (fun v H2 => ∃ b, v = .bl b ∧ Q b H2) C8.E0) ∨ (H1 a = some (.ins D dx fs) ∧ sp2 ([.ref a] ++ dvs2) H1 (fun v H2 => ∃ b, v = .bl b ∧ Q b H2) C8.E0))
theorem rd_truO20 (h : ta σ H fun x H1 => rTruO2 C D sp sp2 dvs dvs2 x H1 QB) : tTruO2 C D sp sp2 dvs dvs2 ta σ H QB := h
theorem rd_truO2a {a dx : Addr} {fs : List (Str × V)} (e : H a = some (.ins C dx fs)) (h : sp ([.ref a] ++ dvs) H (fun v H2 => ∃ b, v = .bl b ∧ QB b H2) C8.E0) : rTruO2 C D sp sp2 dvs dvs2 (.ref a) H QB := ⟨a, dx, fs, rfl, .inl ⟨e, h⟩⟩
theorem rd_truO2b {a dx : Addr} {fs : List (Str × V)} (e : H a = some (.ins D dx fs)) (h : sp2 ([.ref a] ++ dvs2) H (fun v H2 => ∃ b, v = .bl b ∧ QB b H2) C8.E0) : rTruO2 C D sp sp2 dvs dvs2 (.ref a) H QB := ⟨a, dx, fs, rfl, .inr ⟨e, h⟩⟩
end
end Sl
/-! ### walks over the keys of a dict as a statement; a list turned round -/
namespace Sl
open PySem L2 C8 StX
section
variable {σ : L2.St} {H : Hp} {g : TG} {tb : TS} {te : TE} {nx bk ct : L2.St → Hp → Prop} {rt : VK} {K : PySem.W.Frag} {Q : VK} {D : Ends} {t : TS}
theorem forR_keys {d : Addr} {o : Obj} {kvs : List (Key × V)} (Pv : Nat → L2.St → Hp → Prop) (hl : ∀ i σ H, Pv i σ H → H d = some (.frz o (.dK kvs))) (h0 : Pv 0 σ H) (hs : ∀ i k z σ H, kvs[i]? = some (k, z) → Pv i σ H → g (kV k) σ H fun σ2 H2 => tb ⟨Pv (i + 1), rt, nx, Pv (i + 1)⟩ σ2 H2) (hd : ∀ σ H, Pv kvs.length σ H → nx σ H) :
    ForR (Itk d o kvs) g tb ⟨nx, rt, bk, ct⟩ σ H := forR_gen _ kvs.length Pv h0 (fun i σ H hi p => ⟨hl i σ H p, hi⟩) (fun σ H p => ⟨hl _ σ H p, Nat.le_refl _⟩)
      (fun i σ H x H' hi p ⟨e1, k, v, e2, e3⟩ => by subst e1; subst e3; exact hs i k v σ _ e2 p) hd
theorem rd_lockS {d : Addr} {u : HO} (e : H d = some u) (m : Mut (some u)) (h : ∀ od HL, HL = upd H d (.frz od u) → HL d = some (.frz od u) → t ⟨fun σ' H' => H' d = some (.frz od u) ∧ nx σ' (upd H' d u), fun v H' => H' d = some (.frz od u) ∧ rt v (upd H' d u), fun σ' H' => H' d = some (.frz od u) ∧ bk σ' (upd H' d u), fun σ' H' => H' d = some (.frz od u) ∧ ct σ' (upd H' d u)⟩ σ HL) : tLock t ⟨nx, rt, bk, ct⟩ σ H :=
  ⟨d, u, e, m, fun od => h od _ rfl upd_same⟩
def rRevL (K : PySem.W.Frag) (x : V) (H : Hp) (Q : VK) : Prop := ∃ a xs, x = .ref a ∧ SqL K H a xs ∧ ∀ p, H p = none → Q (.ref p) (upd H p (.lst xs.reverse))
theorem rd_revL0 (h : te σ H fun x H1 => rRevL K x H1 Q) : tRevL K te σ H Q := h
theorem rd_revL {a : Addr} {xs : List V} (e : SqL K H a xs) (h : ∀ p H', H p = none → Same H H' → H' p = some (.lst xs.reverse) → Q (.ref p) H') : rRevL K (.ref a) H Q :=
  ⟨a, xs, rfl, e, fun p hp => h p _ hp (Same.new (Same.refl H) hp) upd_same⟩
end
end Sl
set_option Elab.async false
set_option linter.all false
set_option maxRecDepth 100000
set_option maxHeartbeats 4000000
set_option exponentiation.threshold 9000
namespace LamK
open PySem PySem.Spec PyProof.Rows L2 NdefX LamX
/-- a lambda: its words, the cells that it captured, its code object -/
structure LF where
  qual : Str
  params : Arguments
  body : Expr
  scope : Scope
  cl : List (Str × Addr)
  c : Addr
abbrev LF.obj (F : LF) (pm ctv : Value) : Obj := PySem.W.kla_obj "<lambda>" F.qual F.params F.body F.scope F.cl pm F.c ctv
/-- the object at f is the lambda F -/
def FnL (f : Addr) (F : LF) : HO := .ext fun h => ∃ (sl : Array (Option Value)) (pm ctv : Value), h.get? f = some ({ F.obj pm ctv with slots := sl } : Obj)
theorem fnL_ne {f : Addr} {F : LF} (ps : Array Value) : FnL f F ≠ .tbl ps := fun z => by
  unfold FnL at z
  cases z
theorem fnL_at {P : Program} {w : World} {H : Hp} {h : Heap} {f : Addr} {F : LF} (hok : HOk P w H h) (e : H f = some (FnL f F)) : ∃ (sl : Array (Option Value)) (pm ctv : Value), h.get? f = some ({ F.obj pm ctv with slots := sl } : Obj) := by
  obtain ⟨z, _, _⟩ := hok f _ e
  exact z
section
variable {X : Cx} {pins : List (Addr × Obj)} {σ : L2.St} {H : Hp} {s : Shared}
theorem inv_fnL {F : LF} {o : Obj} {t' : Nat} {pm ctv : Value} (I : Inv X pins σ H s) (ho : o = F.obj pm ctv) :
    Inv X pins σ (upd H s.heap.objs.size (FnL s.heap.objs.size F)) { s with heap := s.heap.push o, toks := t' } := by
  subst ho
  refine I.laid (a := s.heap.objs.size) (fun b u e => Heap.get?_push_of_some _ e) (Nat.le_refl _) ?_
  have e : (s.heap.push (F.obj pm ctv)).get? s.heap.objs.size = some (F.obj pm ctv) := Heap.get?_push_size _ rfl
  exact ⟨⟨_, pm, ctv, e⟩, ⟨_, e⟩, fun h1 h2 ⟨sl, p, t, z⟩ st => ⟨sl, p, t, st _ z⟩⟩
/-- the lambda's object is made: its code object is new, or found in the table -/
theorem lamL_make {T : List (Addr × Str)} {c P : Addr} {params : Arguments} {body : Expr} {scope : Scope} {pos : Pos} {E : Value → Shared → Prop} {Q : Value → Shared → Prop} (I : Inv X pins σ H s) (TB : TabB X.base X.mg c P) (hcode : X.env.code = .ref c)
    (hm : (P, X.env.qual ++ "<lambda>") ∈ T) (hu : ∀ p ∈ T, p.1 = P → p.2 = X.env.qual ++ "<lambda>") (hT : Tabs T H) (hdef : defaultsOf params X.env = ([], [])) (hfree : ∀ y ∈ scope.names, y.2 = .free → ∃ c, X.env.cells.lookup y.1 = some c)
    (h : ∀ (f c' : Addr) (H1 : Hp) (s' : Shared), Inv X pins σ H1 s' → ExtN H H1 → (∀ b, H1 b = Option.none → H b = Option.none) → Tabs T H1 → H f = none → H1 f = some (FnL f ⟨X.env.qual ++ "<lambda>", params, body, scope, cloFrom X.env.cells scope.names [], c'⟩) → H1 c' = some (CodeO c' (X.env.qual ++ "<lambda>")) → Q (.ref f) s') :
    wpAny (model X.prog X.w) X.A (eval (.Lambda params body scope pos) X.env) Q E s := by
  obtain ⟨ps, hP, ht, ha⟩ := hT _ hm
  refine PySem.W.kla_eval hdef ?_
  have bP : s.heap.BuiltinsAt X.mg P := TB.bm.keeps I.bk
  have hP' : s.heap.get? P = some { cls := .none, data := .fields ps } := I.hok P _ hP
  cases hc : codeAmong pos ps.toList with
  | none =>
    refine PySem.W.kla_makeFunction (mg := X.mg) (c := c) (P := P) (ps := ps) (closure_ok hfree) I.ok.glob (I.mod.glob.keeps I.bk) hcode (TB.code.keeps I.bk) hP' ht hc TB.gP bP fun c' ctv h' tk hx hge hlt hrec htb => ?_
    obtain ⟨c2, oc, vs, t, e2, hoc, hd, hv⟩ := hrec
    cases e2
    have nC : H c' = none := I.hok.fresh hge
    have I1 := inv_table (t' := tk) (more := #[rawInt pos.line, rawInt pos.col, .ref c']) (h' := h') I hP (fun b o hb e => hx b o hb e) htb hge ⟨oc, vs, t, hoc, hd, hv⟩
    have hE : ExtN H (upd (upd H P (.tbl (ps ++ #[rawInt pos.line, rawInt pos.col, .ref c']))) c' (CodeO c' (X.env.qual ++ "<lambda>"))) := fun b o e n => by
      rw [upd_ne (ne_of_none e nC), upd_ne (fun z => n ps (Option.some.inj (e.symm.trans (by rw [z]; exact hP))))]
      exact e
    have eL : (ps ++ #[rawInt pos.line, rawInt pos.col, .ref c']).toList = ps.toList ++ [rawInt pos.line, rawInt pos.col, .ref c'] := by simp
    have T1 : Tabs T (upd (upd H P (.tbl (ps ++ #[rawInt pos.line, rawInt pos.col, .ref c']))) c' (CodeO c' (X.env.qual ++ "<lambda>"))) := fun p hp => by
      by_cases hb : p.1 = P
      · rw [hu p hp hb, hb]
        refine ⟨_, by rw [upd_ne (ne_of_none hP nC), upd_same], by rw [eL]; exact PySem.TriplesOk_snoc _ _ _ _ ht, fun p' cv hcv => ?_⟩
        rw [eL] at hcv
        rcases among_app _ ht hcv with z | z
        · obtain ⟨c0, e1, e2⟩ := ha p' cv z
          exact ⟨c0, e1, hE _ _ e2 codeO_ne⟩
        · exact ⟨c', z, upd_same⟩
      · obtain ⟨ps', a1, a2, a3⟩ := hT p hp
        refine ⟨ps', by rw [upd_ne (ne_of_none a1 nC), upd_ne hb]; exact a1, a2, fun p' cv hcv => ?_⟩
        obtain ⟨c0, e1, e2⟩ := a3 p' cv hcv
        exact ⟨c0, e1, hE _ _ e2 codeO_ne⟩
    have nF := I1.hok.fresh (Nat.le_refl _)
    have I2 := inv_fnL (F := ⟨X.env.qual ++ "<lambda>", params, body, scope, cloFrom X.env.cells scope.names [], c'⟩) (t' := tk) (pm := (X.mg "__name__").getD .none) (ctv := ctv) I1 rfl
    refine h h'.objs.size c' _ _ I2 (fun b o e n => ?_) (fun b e => upd_none (upd_none (upd_none e))) (T1.ext fun b o e => ?_) (I.hok.fresh (Nat.le_trans hge (Nat.le_of_lt hlt))) upd_same ?_
    · have e1 := hE b o e n
      exact (upd_ne (ne_of_none e1 nF)).trans e1
    · exact (upd_ne (ne_of_none e nF)).trans e
    · exact (upd_ne (Nat.ne_of_lt hlt)).trans upd_same
  | some cv =>
    obtain ⟨c', e, hco⟩ := ha pos cv hc
    subst e
    refine PySem.W.kla_makeFunctionHit (mg := X.mg) (c := c) (P := P) (ps := ps) (closure_ok hfree) I.ok.glob (I.mod.glob.keeps I.bk) hcode (TB.code.keeps I.bk) hP' ht hc bP fun ctv h' tk hx hsz => ?_
    have I1 : Inv X pins σ H { s with heap := h', toks := tk } := I.kept hx
    have nF : H h'.objs.size = none := I1.hok.fresh (Nat.le_refl _)
    have I2 := inv_fnL (F := ⟨X.env.qual ++ "<lambda>", params, body, scope, cloFrom X.env.cells scope.names [], c'⟩) (t' := tk) (pm := (X.mg "__name__").getD .none) (ctv := ctv) I1 rfl
    refine h h'.objs.size c' _ _ I2 (fun b o e n => ?_) (fun b e => upd_none e) (hT.ext fun b o e => ?_) nF upd_same ?_
    · exact (upd_ne (ne_of_none e nF)).trans e
    · exact (upd_ne (ne_of_none e nF)).trans e
    · exact (upd_ne (ne_of_none hco nF)).trans hco
end
/-- the reading of a lambda: a new function -/
def tLamV (T : List (Addr × Str)) (mk : Addr → LF) : TE := fun σ H Q => Tabs T H ∧ ∀ (f c' : Addr) (H1 : Hp), ExtN H H1 → (∀ b, H1 b = Option.none → H b = Option.none) → Tabs T H1 → H f = none → H1 f = some (FnL f (mk c')) → H1 c' = some (CodeO c' (mk c').qual) → Q (.ref f) H1
theorem pe_lamV {X : Cx} {T : List (Addr × Str)} {c P : Addr} {params : Arguments} {body : Expr} {scope : Scope} {pos : Pos} (TB : TabB X.base X.mg c P) (hcode : X.env.code = .ref c) (hm : (P, X.env.qual ++ "<lambda>") ∈ T) (hu : ∀ p ∈ T, p.1 = P → p.2 = X.env.qual ++ "<lambda>")
    (hdef : defaultsOf params X.env = ([], [])) (hfree : ∀ y ∈ scope.names, y.2 = .free → X.env.scope.names.lookup y.1 = some .cell ∨ X.env.scope.names.lookup y.1 = some .free) :
    PE X (.Lambda params body scope pos) (tLamV T fun c' => ⟨X.env.qual ++ "<lambda>", params, body, scope, cloFrom X.env.cells scope.names [], c'⟩) := by
  refine ⟨fun pins s σ H Q I h => ?_⟩
  obtain ⟨hT, h⟩ := h
  have hfr : ∀ y ∈ scope.names, y.2 = .free → ∃ c, X.env.cells.lookup y.1 = some c := fun y hy e => (hfree y hy e).elim (fun z => I.ok.has _ (.inl z)) fun z => I.ok.has _ (.inr z)
  exact lamL_make I TB hcode hm hu hT hdef hfr fun f c' H1 s' I1 eN nn T1 f0 f1 c1 => ⟨.ref f, H1, I1, rfl, h f c' H1 eN nn T1 f0 f1 c1⟩
/-! ### sorted(xs, key=lambda x: (x[0], x[1])), the items lists of three ints -/
/-- what must be seen of the lambda -/
structure KeyF (F : LF) (x : Str) : Prop where
  body : ∃ p1 p2 p3 p4 p5 j1 j2 j3 p6 p7, F.body = .Tuple [.Subscript (.Name x p1) (.Constant (.int 0) j1 p2) p3, .Subscript (.Name x p4) (.Constant (.int 1) j2 p5) p6] j3 p7
  kind : F.scope.kind = .function
  co : F.scope.isCoroutine = false
  gen : F.scope.isGenerator = false
  loc : F.scope.names.lookup x = some .local
  nocell : ∀ y ∈ F.scope.names, y.2 ≠ .cell
  bind : ∀ (pm ctv u : Value), bindArgs (PySem.W.kla_fn "<lambda>" F.qual F.params F.body F.scope F.cl pm (.ref F.c) ctv) ⟨[u], []⟩ = pure [(x, u)]
  dbg : (x == ("__debug__" : Str)) = false
section
variable {prog : Program} {w : World} {A : Around} {s : Shared}
theorem key_call {F : LF} {x : Str} {f r : Addr} {sl : Array (Option Value)} {pm ctv : Value} {i j k : Int} {t1 t2 t3 : Tok} {n : Nat} {E : Value → Shared → Prop} (KF : KeyF F x) (hroom : A.depth < recursionLimit) (lim : s.heap.NoLimit)
    (ho : s.heap.get? f = some ({ F.obj pm ctv with slots := sl } : Obj)) (hcd : s.heap.CodeRec (.ref F.c) F.qual)
    (hr : s.heap.get? r = some { cls := .type "list", data := .seq #[.int i t1, .int j t2, .int k t3] n }) :
    wpAny (model prog w) A (call (.ref f) [.ref r]) (PySem.W.KeyPure (.tuple [.int i, .int j]) s) E s := by
  refine wpAny_call ?_
  refine PySem.W.kla_callFunE hroom ho rfl KF.co KF.gen rfl hcd ?_
  rw [KF.bind pm ctv (.ref r)]
  refine wpAny_pure (wpAny_newFunctionEnv KF.nocell (fun y hy => by rw [List.mem_singleton.mp hy]; exact KF.loc) (fun h₁ hns hsb => ⟨lim.fresh _ hsb, ?_⟩) KF.kind)
  have kp : ∀ b o, s.heap.get? b = some o → h₁.get? b = some o := fun b o e => hsb.extBut b o (Nat.ne_of_lt (Heap.lt_size e)) (Heap.get?_push_of_some _ e)
  have hr1 := kp _ _ hr
  refine PySem.W.kla_codeExpr ?_
  obtain ⟨p1, p2, p3, p4, p5, j1, j2, j3, p6, p7, eb⟩ := KF.body
  have eb : F.body = _ := eb
  show wpAny _ _ (eval F.body _) _ _ _
  rw [eb]
  refine wpAny_Tuple_spliced ?_
  have name : ∀ {A' : Around} {E' : Value → Shared → Prop} {Q' : Value → Shared → Prop} {tk : Nat} {pp : Pos}, Q' (.ref r) { s with heap := h₁, toks := tk } →
      wpAny (model prog w) A' (eval (.Name x pp) (PySem.W.envX F.qual F.scope s.heap.objs.size f (.ref F.c) F.cl)) Q' E' { s with heap := h₁, toks := tk } := fun hq =>
    wpAny_Name (wpAny_loadName_local KF.kind KF.loc hns (by simp) hq) KF.dbg
  have item : ∀ {A' : Around} {E' : Value → Shared → Prop} {Q' : Value → Shared → Prop} {tk : Nat} {pp pq pr : Pos} {jj : Nat} {m : Int} {v : Value}, 0 ≤ m → m < 2 ^ 63 → (#[.int i t1, .int j t2, .int k t3] : Array Value)[m.toNat]? = some v →
      (∀ tk', Q' v { s with heap := h₁, toks := tk' }) → wpAny (model prog w) A' (eval (.Subscript (.Name x pp) (.Constant (.int m) jj pq) pr) (PySem.W.envX F.qual F.scope s.heap.objs.size f (.ref F.c) F.cl)) Q' E' { s with heap := h₁, toks := tk } := fun h0 h1 hx hq =>
    Subscript_ (name (wpAny_Constant_int (item_listR (items := #[.int i t1, .int j t2, .int k t3]) ⟨_, hr1, rfl, n, rfl⟩ h0 h1 hx (hq _))))
  refine Calls.spliced_cons (item (by decide) (by decide) rfl fun tk1 => ?_)
  refine Calls.spliced_cons (item (by decide) (by decide) rfl fun tk2 => ?_)
  refine Calls.spliced_nil ⟨by show 2 ≤ sizeLine; decide, ?_⟩
  refine ⟨_, _, rfl, fun b o e => Heap.get?_push_of_some _ (kp b o e), ?_⟩
  refine .tuple (Heap.get?_push_size _ rfl) rfl rfl ?_
  exact .cons (.int _ _) (.cons (.int _ _) .nil)
end
/-- the order of the keys -/
abbrev leK (x y : Int × Int × Int) : Prop := x.1 < y.1 ∨ (x.1 = y.1 ∧ x.2.1 ≤ y.2.1)
def rSortL : List V → List V → Hp → VK → Prop := fun vs zs H Q => ∃ (a f : Addr) (F : LF) (x : Str) (rs : List Addr) (G : Addr → Int × Int × Int), vs = [.ref a] ∧ zs = [.ref f] ∧ KeyF F x ∧ H f = some (FnL f F) ∧ H F.c = some (CodeO F.c F.qual) ∧
  H a = some (.lst (rs.map V.ref)) ∧ (∀ r ∈ rs, H r = some (.lst [.int (G r).1, .int (G r).2.1, .int (G r).2.2])) ∧ rs.length ≤ 100000 ∧
  ∀ (p : Addr) (rs' : List Addr), rs'.Perm rs → rs'.Pairwise (fun x y => leK (G x) (G y)) → H p = none → Q (.ref p) (upd H p (.lst (rs'.map V.ref)))
theorem vals_refsB : ∀ {rs : List Addr} {us : List Value}, Vals (rs.map V.ref) us → us = rs.map Value.ref
  | [], _, .nil => rfl
  | _ :: rs, _, .cons h t => by
    have h : _ = Value.ref _ := h
    rw [h, vals_refsB t]
    rfl
theorem vals_refsF : ∀ bs : List Addr, Vals (bs.map V.ref) (bs.map Value.ref)
  | [] => .nil
  | _ :: r => .cons rfl (vals_refsF r)
theorem each_refs (rs : List Addr) : PySem.W.EachIs (fun (v : Value) (r : Addr) => v = .ref r) (rs.map Value.ref) rs := by
  induction rs with
  | nil => exact .nil
  | cons r rs ih => exact .cons rfl ih
theorem each_refs_eq : ∀ {vs : List Value} {rs : List Addr}, PySem.W.EachIs (fun (v : Value) (r : Addr) => v = .ref r) vs rs → vs = rs.map Value.ref
  | _, _, .nil => rfl
  | _, _, .cons h t => by rw [h, each_refs_eq t]; rfl
theorem cr_sortL {X : Cx} {k : Nat} (hr : Room (k + 1) X.A) : CallRK X (.builtin "sorted") [Str.ofString "key"] rSortL := by
  intro pins s σ H vs zs us ws Q I r rz h
  obtain ⟨a, f, F, x, rs, G, rfl, rfl, KF, hf, hc, ha, hrs, hlen, q⟩ := h
  obtain rfl := Vals.ref1 r
  obtain rfl := Vals.ref1 rz
  obtain ⟨hz, its, n, rv, hob⟩ := I.hok a _ ha
  have eits := vals_refsB rv
  subst eits
  obtain ⟨sl, pm, ctv, hfo⟩ := fnL_at I.hok hf
  have hcr := codeO_at I.hok hc
  have lim := I.nolimit
  have un := hr.units0
  have hl : s.heap.IsList a (rs.map Value.ref).toArray := ⟨_, hob, rfl, n, rfl⟩
  refine PySem.W.sorted_key_data (b := false) (β := Addr) (R := fun (v : Value) (r : Addr) => v = .ref r) (f := .ref f) (fun r => .tuple [.int (G r).1, .int (G r).2.1]) hl (each_refs rs) (PySem.W.AllAlike.of fun _ _ => by simp [PySem.W.alike, PySem.W.alikeAll]) (PySem.W.Sortable.tuples fun _ => ⟨_, _, rfl⟩)
    (by rw [sizeLine_eq]; omega) (fun r _ => ?_) (ksk_s1 _ _) (fun _ => ksk_l1 _ _) (fun _ => ksk_t1 _ _) (fun v r hv hm h tk kp => ?_) fun out c h' tk kp fr hD ho eo => ?_
  · have hd : (PyData.tuple [.int (G r).1, .int (G r).2.1]).depth = 1 := by simp [PyData.depth, PyData.depthAll]
    have := hr.units
    omega
  · subst hv
    obtain ⟨_, its2, n2, rv2, hr2⟩ := I.hok r _ (hrs r hm)
    cases rv2 with
    | cons h1 t1 =>
      cases t1 with
      | cons h2 t2 =>
        cases t2 with
        | cons h3 t3 =>
          cases t3
          obtain ⟨k1, rfl⟩ := h1
          obtain ⟨k2, rfl⟩ := h2
          obtain ⟨k3, rfl⟩ := h3
          obtain ⟨c2, oc, vs2, tq, g1, g2, g3, g4⟩ := hcr
          exact key_call (s := { s with heap := h, toks := tk }) KF hr.depth (lim.keeps kp) (kp _ _ hfo) ⟨c2, oc, vs2, tq, g1, kp _ _ g2, g3, g4⟩ (kp _ _ hr2)
  · rw [PySem.W.dataLe_ii (β := Addr) (fun r => (G r).1) (fun r => (G r).2.1)] at eo
    have e2 := each_refs_eq eo
    subst e2
    have hp : H (s.heap.objs.size + 1) = none := I.hok.fresh (Nat.le_succ _)
    generalize hrs' : rs.mergeSort (fun p q => decide ((G p).1 < (G q).1 ∨ (G p).1 = (G q).1 ∧ (G p).2.1 ≤ (G q).2.1)) = rs' at *
    have pm2 : rs'.Perm rs := by rw [← hrs']; exact List.mergeSort_perm _ _
    have pw : rs'.Pairwise (fun x y => leK (G x) (G y)) := by
      rw [← hrs']
      refine (List.pairwise_mergeSort (fun a b c h1 h2 => ?_) (fun a b => ?_) rs).imp fun h => of_decide_eq_true h
      · rw [decide_eq_true_iff] at h1 h2 ⊢
        omega
      · rw [Bool.or_eq_true, decide_eq_true_iff, decide_eq_true_iff]
        omega
    refine ⟨.ref (s.heap.objs.size + 1), upd H (s.heap.objs.size + 1) (.lst (rs'.map V.ref)), I.laid (t' := tk) (h' := h') kp (Nat.le_succ _) ⟨?_, rs'.map Value.ref, c, ?_, hD⟩, rfl, q _ rs' pm2 pw hp⟩
    · rw [List.length_map, pm2.length_eq, sizeLine_eq]
      omega
    · exact vals_refsF rs'
end LamK
set_option Elab.async false
set_option linter.all false
set_option maxRecDepth 100000
set_option maxHeartbeats 4000000
set_option exponentiation.threshold 9000
namespace BoolX
open PySem
open PySem.Sem (wp)
theorem bool_new_own {prog : Program} {w : World} (v : Value) : MeetsIn prog w (Builtin.«bool.__new__» ⟨[.type "bool", v], []⟩) (fun A R s => ∀ tk, wpAny (model prog w) A.in1 (truthy v) (fun b s1 => R (.ok (.ret (.bool b))) s1) (fun e s' => R (.error e) s') { s with toks := tk }) :=
  MeetsIn.of_wp fun A R s hs => by
    obtain ⟨hp, g, d, tk, os⟩ := s
    have f1 := F.conv_sub_bool
    repeat (any_goals (first | assumption | (with_reducible refine wpAny_bind (wpAny_mono (hs _) (fun b s1 hb => ?_) fun _ _ e => e)) | wp_step))
    all_goals first | exact ⟨_, rfl, hb⟩ | skip
end BoolX
namespace L2
open PySem PySem.Spec PyProof.Rows LamX
section
variable {X : Cx} {CX : CXT} {k j : Nat} {f C : Addr} {fd : FuncData} {ps : List Str} {sp : Sp} {dvs : List V} {ds : List Value} {E : XK}
theorem run_fn2 {pins : List (Addr × Obj)} {σ : St} {H : Hp} {s : Shared} {Q : VK} {us : List Value} {vs : List V} (F : FnOk X.prog X.w X.K X.mg X.base CX k f fd ps sp) (hr : Room (k + 2) X.A) (hb : Binds X.K fd ps ds) (hd : Vals dvs ds) (hx : Passes CX X E)
    (I : Inv X pins σ H s) (r : Vals vs us) (h : sp (vs ++ dvs) H Q E) : wpAny (model X.prog X.w) X.A.in1.in1 (call (.ref f) us) (EP X pins σ Q) X.xe s := by
  have r2 : Vals (vs ++ dvs) (us ++ ds) := r.append hd
  have hl : (us ++ ds).length = ps.length := by rw [← r2.length]; exact F.len _ _ _ _ h
  refine wpAny_call (codeAny_mono (F.run X.A.in1.in1 X.stack s H ⟨us, []⟩ (us ++ ds) (vs ++ dvs) Q E hr.in1.in1 I.env0.in1.in1 (hb s us I.kIn hl) r2 h) fun r s' hq => ?_)
  cases r with
  | error e => exact hx pins σ H s e s' I hq
  | ok fl =>
    cases fl with
    | ret u => exact I.after hq
    | next => exact False.elim hq
    | brk => exact False.elim hq
    | cont => exact False.elim hq
/-- bool(o), o of an own class with its own __bool__ -/
def rBoolO (C : Addr) (sp : Sp) (dvs : List V) : List V → Hp → VK → Prop := fun vs H Q => ∃ o dx fs, vs = [.ref o] ∧ H o = some (.ins C dx fs) ∧ sp ([.ref o] ++ dvs) H (fun v H' => ∃ b, v = .bl b ∧ Q (.bl b) H') C8.E0
theorem cr_boolO (c : C8.Met X.prog X.w X.K X.mg X.base k C "__bool__" sp dvs) (hr : Room j X.A) (hk : k + 2 ≤ j) : CallR X (.type "bool") (rBoolO C sp dvs) := by
  obtain ⟨f, fd, ps, ds, cl, hm, Fo, bd, d⟩ := c.ex
  intro pins s σ H vs us Q I r h
  obtain ⟨o, dx, fs, rfl, e, q⟩ := h
  obtain rfl := Vals.ref1 r
  obtain ⟨mA, O, _, _, _, _⟩ := ins_get I.hok e
  obtain ⟨od, J, _⟩ := O.look
  refine callType_newIn F.called_bool F.newNe_bool (F.typeCall_bool_1 _) (F.newCall_bool_1 _) (fun obj => F.args_object_init_2 obj _) F.entry_bool_new (BoolX.bool_new_own (.ref o)) fun tk => ?_
  have I1 : Inv X pins σ H { s with toks := tk } := I.tok _
  obtain ⟨m, F0⟩ := I1.fr
  refine PySem.W.truthy_K F0 I1.ok.mod.kin J hm.at_ hm.fn (wpAny_mono (run_fn2 (us := [.ref o]) (vs := [.ref o]) Fo (hr.mono hk) bd d C8.pass0 I1 (.cons rfl .nil) q) (fun v s2 y => ?_) fun _ _ y => y)
  obtain ⟨x2, H2, I2, rx2, b, rfl, q2⟩ := y
  obtain rfl : v = Value.bool b := rx2
  exact ⟨by first | rfl | trivial | (unfold Shared.TypeIs; rfl) | simp [Shared.TypeIs], ⟨.bl b, H2, I2, rfl, q2⟩⟩
/-- xs[i] of a list, for xs[i] op= e -/
def rGetL : V → V → Hp → VK → Prop := fun x y H Q => ∃ (p : Addr) (xs : List V) (i : Nat) (v : V), x = .ref p ∧ y = .int (i : Int) ∧ H p = some (.lst xs) ∧ i < 1000000 ∧ xs[i]? = some v ∧ Q v H
theorem get_listL : PGet X rGetL := by
  intro pins s σ H x y v u Q I rx ry h
  obtain ⟨p, xs, i, z, rfl, rfl, hp, hi, he, q⟩ := h
  cases rx
  obtain ⟨t, rfl⟩ := ry
  obtain ⟨its, n, r, ho, hz⟩ := I.lst hp
  obtain ⟨w, ew, rw'⟩ := r.get he
  exact wpAny_getItem_list (items := its.toArray) (x := w) ⟨_, ho, rfl, n, rfl⟩ (by omega) (by omega) (by simpa using ew) ⟨z, H, I, rw', q⟩
/-- one of two readings -/
theorem pe_alt {e : Expr} {t u : TE} (h1 : PE X e t) (h2 : PE X e u) : PE X e (fun σ H Q => t σ H Q ∨ u σ H Q) := ⟨fun pins s σ H Q I h => h.elim (h1.run pins s σ H Q I) (h2.run pins s σ H Q I)⟩
theorem cr_alt {f : Value} {r q : List V → Hp → VK → Prop} (h1 : CallR X f r) (h2 : CallR X f q) : CallR X f (fun vs H Q => r vs H Q ∨ q vs H Q) := fun pins s σ H vs us Q I rv h => h.elim (h1 pins s σ H vs us Q I rv) (h2 pins s σ H vs us Q I rv)
end
/-- a lambda's name -/
abbrev qL (x : Str) : Str := x ++ ".<locals>." ++ "<lambda>"
section
variable {P : Program} {w : World} {K : PySem.W.Frag} {mg : Str → Option Value} {base : Heap}
open C8
/-- a def that makes lambdas: its code object is known -/
theorem fnL0 {x qual : Str} {st : Stmt} {f c : Addr} {fd : FuncData} {N ps : List Str} {k : Nat} {sp : Sp} (F : C8.Fun K x qual st f fd) (hc : fd.code = .ref c) (S : FnScope N ps (C8.fnScope st)) (len : ∀ vs H Q E, sp vs H Q E → vs.length = ps.length)
    (hbody : ∀ (A : Around) (outer : List Env) (s : Shared) (H : Hp) (vs : List V) (Q : VK) (E : XK), Room k (A.deeper (envOfC qual (C8.fnScope st) s.heap.objs.size f (.ref c))) → sp vs H Q E →
      ∃ t, PSs (cxOf CX0 P w K mg base N qual (C8.fnScope st) f (.ref c) A outer s H E).nox (C8.fnBody st) t ∧ t { nx := fun _ H' => Q .non H', rt := Q } (start N vs) H) : FnOk P w K mg base CX0 (k + 1) f fd ps sp := by
  obtain ⟨oc, od, dV, kV, doc, pm, an, cdv, ct, osl, rfl, lk, hcd⟩ := F.ex
  have e : cdv = .ref c := hc
  subst e
  refine fn_of lk hcd S len fun A outer s H vs Q E hr hsp => ?_
  obtain ⟨t, h, q⟩ := hbody A outer s H vs Q E hr hsp
  exact ⟨t, h.nox, q⟩
theorem calL0 {x : Str} {st : Stmt} {f c : Addr} {fd : FuncData} {N ps : List Str} {ds : List Value} {dvs : List V} {k : Nat} {sp : Sp} (F : C8.Def K mg x st f fd) (hc : fd.code = .ref c) (b : Binds K fd ps ds) (d : Vals dvs ds) (S : FnScope N ps (C8.fnScope st)) (len : ∀ vs H Q E, sp vs H Q E → vs.length = ps.length)
    (hbody : ∀ (A : Around) (outer : List Env) (s : Shared) (H : Hp) (vs : List V) (Q : VK) (E : XK), Room k (A.deeper (envOfC x (C8.fnScope st) s.heap.objs.size f (.ref c))) → sp vs H Q E →
      ∃ t, PSs (cxOf CX0 P w K mg base N x (C8.fnScope st) f (.ref c) A outer s H E).nox (C8.fnBody st) t ∧ t { nx := fun _ H' => Q .non H', rt := Q } (start N vs) H) : Cal P w K mg base (k + 1) x sp dvs :=
  ⟨f, fd, ps, ds, fnL0 F.fn hc S len hbody, F.mgf, F.kp, b, d⟩
end
end L2
namespace Sl
open PySem L2 C8 LamX
/-- the facts of a def that makes lambdas -/
structure TabK (K : PySem.W.Frag) (x : Str) (Lc Lp : Addr) : Prop where
  tab : PySem.W.tabIn K x = some (Lc, Lp)
  nT : K.lookup Lp = none
theorem tabk {K : PySem.W.Frag} {x : Str} {Lc Lp : Addr} (h1 : PySem.W.tabIn K x = some (Lc, Lp)) (h2 : (K.lookup Lp).isNone = true) : TabK K x Lc Lp := ⟨h1, Option.isNone_iff_eq_none.mp h2⟩
theorem tab_get {o : Option (Addr × Addr)} (h : o.isSome = true) : o = some ((o.get h).1, (o.get h).2) := (Option.some_get h).symm
theorem tcmk {K : PySem.W.Frag} {h : Heap} {mg : Str → Option Value} {x : Str} {st : Stmt} {Lc Lp : Addr} (X : K.In h) (G : h.Ns mainGlobals mg) (t : TabK K x Lc Lp) : ∀ f fd, C8.Def K mg x st f fd → fd.code = .ref Lc := fun f fd D => by
  obtain ⟨oc, od, dV, kV, doc, pm, an, cdv, ct, osl, e, lk, hcd⟩ := D.fn.ex
  exact PySem.W.law_code X G t.tab D.mgf (X _ _ lk) rfl
end Sl
namespace LamX
open PySem PySem.Spec PyProof.Rows L2
/-- walk_ofTs, the top's facts handed on -/
theorem walk_ofTT {l : PySem.W.OpenLaw} {n k : Nat} {q : Program} {loose : List Str} {XP : (Str → Option Value) → Heap → Prop} {YP : World → Heap → Prop} {d : DefRec} {K : Params → PySem.W.Frag} {CX : World → CXT} {x : Str}
    (hn : l.most = some n) (hn2 : n ≤ sizeLine) (hdf : d.params.defaults = []) (hr : Room k callerA) (hY : ∀ (w : World) (h : Heap), YP w h → (K w.params).In h)
    (F : ∀ (w : World) (mg : Str → Option Value) (fa : Addr) (h : Heap) (tb : ∀ (x : Str) (c P : Addr), ((recsOf q).find? (fun e => e.name == x)).isSome = true → PySem.W.tabIn (K w.params) x = some (c, P) → PySem.W.CodeHd h c P ∧ h.get? P = some (PySem.W.tabObj #[])), (K w.params).In h → h.Ns mainGlobals mg → mg d.name = some (.ref fa) → LawAtS l w (K w.params) (CX w) k n x mg fa h)
    (hCX : ∀ (w : World) (H : Hp) (s : Shared) (e : Value) (s' : Shared), CX w [] H s (fun _ _ _ => False) e s' → False) :
    PySem.W.WalkO q loose XP YP l.row.toRowW d [] (fun f vs => PySem.call f vs) := by
  refine Att.attach_callB hn hdf fun w s₀ s₁ mg mb fa o pm cd doc a vs ns G Y ho hd hcd hmg hobj hints hlen hbits hg => ?_
  have KX := hY w _ Y
  obtain ⟨fd, cs, sp, hT, nT, C, hb, hsp, hF⟩ := F w mg fa _ (fun x c P hs ht => by
    obtain ⟨d', hd'⟩ := Option.isSome_iff_exists.mp hs
    exact PySem.W.tab_of G.T KX hd' ht) KX G.T.g hmg
  exact law_callTs KX G.T.g G.T.b G.T.builtins G.T.nolimit hg hT nT C G.T.bmain hobj hints (Nat.le_trans hlen hn2) hr hF hb (fun H hH hS => hsp H a ns hlen hbits hH hS) fun H e s' => hCX w H s₁ e s'
end LamX
namespace Sl
open PySem L2 C8 StX LamX LamK
section
variable {σ : L2.St} {H H' : Hp} {Q : VK} {te ta tb : TE} {t tk : TA} {K : PySem.W.Frag} {QS : L2.St → Hp → Prop} {x y v : V}
theorem rd_cKw {r : List V → List V → Hp → VK → Prop} (h : t σ H fun vs H1 => tk σ H1 fun zs H2 => r vs zs H2 Q) : tCKw r t tk σ H Q := h
theorem rd_lamV {T : List (Addr × Str)} {mk : Addr → LF} (hT : Tabs T H) (h : ∀ (f c' : Addr) (H1 : Hp), ExtN H H1 → (∀ b, H1 b = Option.none → H b = Option.none) → Tabs T H1 → H f = none → H1 f = some (FnL f (mk c')) → H1 c' = some (CodeO c' (mk c').qual) → Q (.ref f) H1) : tLamV T mk σ H Q := ⟨hT, h⟩
theorem rd_gunl {n : Nat} {tg : TGs} {a : Addr} {xs : List V} (e : H a = some (.lst xs)) (l : xs.length = n) (h : tg xs σ H QS) : gUnl K n tg (.ref a) σ H QS := ⟨a, xs, rfl, SqL.of e, l, h⟩
theorem rd_getL {p : Addr} {xs : List V} {i : Nat} (e : H p = some (.lst xs)) (hi : i < 1000000) (n : xs[i]? = some v) (h : Q v H) : rGetL (.ref p) (.int (i : Int)) H Q := ⟨p, xs, i, v, rfl, rfl, e, hi, n, h⟩
theorem rd_setL {p : Addr} {xs : List V} {i : Int} {j : Nat} {QH : Hp → Prop} (e : H p = some (.lst xs)) (hj : ixN xs.length i = some j) (h : ∀ H', H' = upd H p (.lst (xs.set j v)) → H' p = some (.lst (xs.set j v)) → QH H') : rSetL (.ref p) (.int i) v H QH := ⟨p, xs, i, j, rfl, rfl, e, hj, h _ rfl upd_same⟩
theorem rd_boolO {C o dx : Addr} {fs : List (Str × V)} {sp : Sp} {dvs : List V} (e : H o = some (.ins C dx fs)) (h : sp ([.ref o] ++ dvs) H (fun v H' => ∃ b, v = .bl b ∧ Q (.bl b) H') C8.E0) : rBoolO C sp dvs [.ref o] H Q := ⟨o, dx, fs, rfl, e, h⟩
theorem rd_sortLK {a f : Addr} {F : LF} {x : Str} {rs : List Addr} {G : Addr → Int × Int × Int} (KF : KeyF F x) (hf : H f = some (FnL f F)) (hc : H F.c = some (CodeO F.c F.qual)) (ha : H a = some (.lst (rs.map V.ref))) (hr : ∀ r ∈ rs, H r = some (.lst [.int (G r).1, .int (G r).2.1, .int (G r).2.2])) (hl : rs.length ≤ 100000)
    (h : ∀ (p : Addr) (rs' : List Addr) H', rs'.Perm rs → rs'.Pairwise (fun x y => leK (G x) (G y)) → H p = none → Same H H' → H' p = some (.lst (rs'.map V.ref)) → Q (.ref p) H') : rSortL [.ref a] [.ref f] H Q :=
  ⟨a, f, F, x, rs, G, rfl, rfl, KF, hf, hc, ha, hr, hl, fun p rs' p1 p2 hp => h p rs' _ p1 p2 hp (Same.new (Same.refl H) hp) upd_same⟩
end
/-! ### heaps without their tables -/
def nT (H : Hp) : Hp := fun a => match H a with
  | some (.tbl _) => none
  | o => o
theorem nT_of {H : Hp} {a : Addr} {o : HO} (e : H a = some o) (n : ∀ ps, o ≠ .tbl ps) : nT H a = some o := by
  unfold nT
  rw [e]
  cases o <;> first | rfl | exact absurd rfl (n _)
theorem nT_in {H : Hp} {a : Addr} {o : HO} (e : nT H a = some o) : H a = some o ∧ ∀ ps, o ≠ .tbl ps := by
  unfold nT at e
  cases q : H a with
  | none => rw [q] at e; cases e
  | some u =>
    rw [q] at e
    cases u <;> first | (cases e; exact ⟨rfl, fun ps z => by cases z⟩) | cases e
theorem nT_none {H : Hp} {a : Addr} (e : H a = none) : nT H a = none := by
  unfold nT
  rw [e]
theorem extN_same {H H' : Hp} (e : ExtN H H') : Same (nT H) H' := fun a o h => e a o (nT_in h).1 (nT_in h).2
theorem same_extN {H H' : Hp} (s : Same (nT H) H') : ExtN H H' := fun a o h n => s a o (nT_of h n)
mutual
theorem Dt.nT {H : Hp} : ∀ {v : V} {d : PyData}, Dt H v d → Dt (nT H) v d
  | _, _, .non => .non
  | _, _, .bl b => .bl b
  | _, _, .int i => .int i
  | _, _, .str x => .str x
  | _, _, .lst e h => .lst (nT_of e (fun _ z => by cases z)) (DtAll.nT h)
  | _, _, .tup e h => .tup (nT_of e (fun _ z => by cases z)) (DtAll.nT h)
theorem DtAll.nT {H : Hp} : ∀ {vs : List V} {ds : List PyData}, DtAll H vs ds → DtAll (nT H) vs ds
  | _, _, .nil => .nil
  | _, _, .cons h t => .cons (Dt.nT h) (DtAll.nT t)
end
theorem SqL.nT {K : PySem.W.Frag} {H : Hp} {a : Addr} {xs : List V} (h : SqL K H a xs) : SqL K (nT H) a xs := by
  rcases h with h | h
  · left
    rcases h with h | ⟨o, h⟩
    · exact .inl (nT_of h (fun _ z => by cases z))
    · exact .inr ⟨o, nT_of h (fun _ z => by cases z)⟩
  · exact .inr h
end Sl
set_option Elab.async false
set_option linter.all false
set_option maxRecDepth 100000
set_option maxHeartbeats 2000000
namespace L2
open PySem PySem.Spec PyProof.Rows
/-! ### enumerate(t) of a tuple -/
abbrev enO (it : Addr) : Obj := { cls := .type "enumerate", data := .fields #[.none, .bool false, .ref it, rawInt 0, .none, .none] }
theorem enum_new1 {v : Value} {o ob : Obj} {a : Addr} {I : Heap → Prop} (B : Begins v o I) (hv : v = .ref a) (hc : ob.cls = .type "tuple") : Meets (Builtin.«enumerate.__new__» ⟨[.type "enumerate", v], []⟩) (fun _ R s => (s.heap.get? a = some ob ∧ I s.heap) ∧
    R (.ok (.ret (.ref (s.heap.push o).objs.size))) { s with heap := (s.heap.push o).push (enO s.heap.objs.size) }) :=
  .of_wp fun prog w A R s h => by
    obtain ⟨hp, g, d, tk, os⟩ := s
    obtain ⟨⟨hl, h1⟩, h2⟩ := h
    subst hv
    have hs := PySem.sub_enumerate
    have it0 : ∀ {A' : Around} {E Q : Value → Shared → Prop}, Q (.ref hp.objs.size) ⟨hp.push o, g, d, tk, os⟩ → wpAny (model prog w) A' (pyIter (.ref a)) Q E ⟨hp, g, d, tk, os⟩ := fun q => B.iter prog w _ _ ⟨hp, g, d, tk, os⟩ _ h1 q
    wp_walk using wpAny_loadPart' hl, it0
    refine (wpAny_stack_any fun st => (wpAny_pure ?_))
    split
    · rename_i c _ _ _ _ _
      cases (c == Value.type "enumerate") <;> (wp_walk using wpAny_loadPart' hl, it0; exact ⟨_, rfl, h2⟩)
    · wp_walk using wpAny_loadPart' hl, it0
      exact ⟨_, rfl, h2⟩
section
variable {prog : Program} {w : World} {A : Around} {E : Value → Shared → Prop} {s : Shared}
theorem call_enumT {a : Addr} {items : Array Value} {Q : Value → Shared → Prop} (ht : s.heap.IsTuple a items)
    (h : ∀ h', IsEnum h' (s.heap.objs.size + 1) s.heap.objs.size 0 .none → h'.IsTupleIter s.heap.objs.size a 0 → (∀ b o, s.heap.get? b = some o → h'.get? b = some o) → Q (.ref (s.heap.objs.size + 1)) { s with heap := h' }) :
    wpAny (model prog w) A (call (.type "enumerate") [.ref a]) Q E s := by
  obtain ⟨ob, ho, hc, hd⟩ := id ht
  have two : (s.heap.push { cls := .type "tuple_iterator", data := .fields #[.ref a, .int 0 0] }).objs.size = s.heap.objs.size + 1 := Heap.size_push ..
  have M := enum_new1 (begins_tuple a items) rfl hc
  refine callType_new PySem.F.called_enumerate (by decide) (PySem.F.typeCall_enumerate_1 _) (PySem.F.newCall_enumerate_1 _) (fun obj => PySem.F.args_object_init_2 obj _) PySem.F.entry_enumerate_new M ⟨⟨ho, ht⟩, ?_⟩
  show _ ∧ _
  rw [two]
  have he : IsEnum ((s.heap.push { cls := .type "tuple_iterator", data := .fields #[.ref a, .int 0 0] }).push (enO s.heap.objs.size)) (s.heap.objs.size + 1) s.heap.objs.size 0 .none := by
    have q := Heap.get?_push_size (s.heap.push { cls := .type "tuple_iterator", data := .fields #[.ref a, .int 0 0] }) (o := enO s.heap.objs.size) rfl
    rw [two] at q
    exact q
  exact ⟨⟨_, he, rfl⟩, h _ he ⟨_, Heap.get?_push_of_some _ (Heap.get?_push_size _ rfl), rfl, rfl⟩ fun b o x => Heap.get?_push_of_some _ (Heap.get?_push_of_some _ x)⟩
end
theorem next_enumT_end {prog : Program} {w : World} {A : Around} {E : Value → Shared → Prop} {s : Shared} {e it a : Addr} {i : Nat} {c : Int} {items : Array Value} {old : Value} {Q : Option Value → Shared → Prop} (hh : A.handled = none)
    (he : IsEnum s.heap e it c old) (hit : s.heap.IsTupleIter it a i) (ht : s.heap.IsTuple a items) (hi : items.size ≤ i)
    (hQ : ∀ h', Heap.ExtBut it s.heap h' → Q none { s with heap := h' }) : wpAny (model prog w) A (pyNext (.ref e)) Q E s := by
  have hT : s.TypeIs (.ref e) "enumerate" := ⟨_, he, rfl⟩
  unfold pyNext
  refine wpAny_bind (wpAny_attempt (wpAny_callSpecial?_slot (name := Str.ofString "__next__") hT F.slot_enumerate_next
    (wpAny_call_entry F.slot_enumerate_next hT F.entry_enumerate_next ?_ (F.args_enumerate_next_1 _))))
  show wpAny _ _ (field (.ref e) 2 >>= _) _ _ _
  refine wpAny_bind (wpAny_field he rfl (x := .ref it) rfl ?_)
  refine wpAny_bind (wpAny_nextOf_tuple_end (A := A.in1) hh hit ht (by simp [hi]) fun h' x he' hx' => ?_)
  obtain ⟨o, ho, hc⟩ := hx'
  refine wpAny_bind (wpAny_isInstance (T := "StopIteration") (b := true) ⟨o, ho, hc⟩ isSubtype_stop ?_)
  exact wpAny_pure (hQ _ he')
/-- the tuple at a as it stands at each turn, each item in a new pair -/
def IteT (K : PySem.W.Frag) (a : Addr) : It :=
  ⟨fun i H => ∃ (xs : List V) (x : V), SqT K H a xs ∧ xs[i]? = some x, fun i H v H' => ∃ T x, v = .ref T ∧ H T = none ∧ H' = upd H T (.tup [.int (i : Nat), x]) ∧ ∀ xs, SqT K H a xs → xs[i]? = some x, fun i H => ∃ xs : List V, SqT K H a xs ∧ xs.length ≤ i⟩
theorem apart_cls {h : Heap} {a b : Addr} {o u : Obj} (ha : h.get? a = some o) (hb : h.get? b = some u) (hn : o.cls ≠ u.cls) : a ≠ b := fun z => by
  rw [z, hb] at ha
  exact hn (by rw [Option.some.inj ha])
theorem turn_enumT {P : Program} {w : World} {K : PySem.W.Frag} {elts : List Expr} {kk : Nat} {tpos : Pos} (a e it : Addr) :
    Turn P w K (.Tuple elts kk tpos) (IteT K a) [e, it] e (fun i h => (∃ old, IsEnum h e it ((i : Nat) : Int) old) ∧ h.IsTupleIter it a i ∧ e ≠ it) where
  mem := by simp
  obj := fun i h st b hb => by
    obtain ⟨⟨old, he⟩, ⟨o, ho, hc, hd⟩, _⟩ := st
    rcases (show b = e ∨ b = it by simpa using hb) with rfl | rfl
    · exact ⟨_, he, fun v q => nomatch q⟩
    · exact ⟨o, ho, fun v q => by rw [hd] at q; cases q⟩
  keep := fun i h h' st k => let ⟨⟨old, he⟩, hi, hne⟩ := st; ⟨⟨old, k e (by simp) _ he⟩, hi.at fun o q => k it (by simp) o q, hne⟩
  item := by
    intro X hP hw hK hc i pins s σ H E I hf st hg
    subst hP hw hK
    obtain ⟨⟨old, he⟩, hit, hne⟩ := st
    obtain ⟨xs, x, hq, hx⟩ := hg
    obtain ⟨its, rv, p, hz⟩ := I.tuple hq
    obtain ⟨u, hu, ru⟩ := rv.get hx
    have hp : s.heap.IsTuple a its.toArray := p
    obtain ⟨op, gp, cp, _⟩ := id hp
    obtain ⟨oi, gi, ci, _⟩ := id hit
    have hai : a ≠ it := apart_cls gp gi (by rw [cp, ci]; decide)
    have hea : e ≠ a := apart_cls he gp (by rw [cp]; show Value.type "enumerate" ≠ Value.type "tuple"; decide)
    have hlt : i < its.toArray.size := by
      have := (List.getElem?_eq_some_iff.mp hu).1
      simpa using this
    have hel : e < s.heap.objs.size := Heap.lt_size he
    refine wpAny_pyNext_enum_itemD (Draws.tuple (A := X.A.in1) (I.ok.hd hc) it a hai its.toArray) he ⟨hit, hp⟩ hlt hne (by simp [hne, hea]) fun u2 h' tk hu2 ho st2 hT hsz hk => ?_
    have hu2' : u2 = u := by
      have q : its.toArray[i]? = some u := by simpa using hu
      rw [q] at hu2
      exact (Option.some.inj hu2).symm
    subst hu2'
    refine ⟨_, rfl, (wpAny_letOwnedTupleGo_enum (s := { s with heap := h', toks := tk + 1 }) ho fun h'' he' sb => ?_)⟩
    have hT2 : h''.get? s.heap.objs.size = some { cls := .type "tuple", data := .seq #[.int i tk, u2] } := (sb.2 _ (Nat.ne_of_gt hel)).trans hT
    have new : ObjOk X.prog X.w (upd H s.heap.objs.size (.tup [.int (i : Nat), x])) h'' s.heap.objs.size (.tup [.int (i : Nat), x]) :=
      ⟨(show 2 ≤ sizeLine by decide), [.int i tk, u2], .cons ⟨tk, rfl⟩ (.cons ru .nil), ⟨_, hT2, rfl, _, rfl⟩⟩
    have I1 : Inv X pins σ (upd H s.heap.objs.size (.tup [.int (i : Nat), x])) { s with heap := h'', toks := tk + 1 } :=
      I.turnedNew (ch := [e, it]) (fun b ob hb q => (sb.2 b fun z => hb (by simp [z])).trans (hk b ob (fun z => hb (by simp [z])) (fun z => hb (by simp [z])) q)) hf (Nat.le_refl _) new
    refine ⟨.ref s.heap.objs.size, _, I1, rfl, ⟨_, x, rfl, I.hok.fresh (Nat.le_refl _), rfl, fun ys hy => by rw [I.tuple_inj hy hq]; exact hx⟩, ⟨⟨u2, ?_⟩, st2.1.at fun o q => (sb.2 it hne.symm).trans q, hne⟩, fun b hb => ?_⟩
    · rw [show ((i + 1 : Nat) : Int) = (i : Int) + 1 by omega]
      exact he'
    · have hb' : b < s.heap.objs.size := by
        rcases (show b = e ∨ b = it by simpa using hb) with z | z
        · rw [z]; exact hel
        · rw [z]; exact Heap.lt_size gi
      rw [upd_ne (Nat.ne_of_lt hb')]
      exact (hf b hb).1
  done := by
    intro X hP hw hK hc i pins s σ H E I hf st hg
    subst hP hw hK
    obtain ⟨⟨old, he⟩, hit, hne⟩ := st
    obtain ⟨xs, hq, hx⟩ := hg
    obtain ⟨its, rv, p, hz⟩ := I.tuple hq
    obtain ⟨f0, f1, f2, f3, f4, f5⟩ := hf it (by simp)
    have hl := rv.length
    have hp : s.heap.IsTuple a its.toArray := p
    refine next_enumT_end (I.ok.hd hc) he hit hp (by simp; omega) fun h' eb => ⟨rfl, I.turned (t' := s.toks) (fun b o hb q => eb b o hb q) f0 f1 f3 f4 f5⟩
  self := fun A i s Q E st h => let ⟨⟨_, he⟩, _⟩ := st; wpAny_pyIter_enum he h
def iEnumT (K : PySem.W.Frag) (ta : TA) : TI := fun σ H R => ta σ H fun vs H1 => ∃ a xs, vs = [.ref a] ∧ SqT K H1 a xs ∧ R (IteT K a) H1
theorem pi_enumT {X : Cx} {e : Expr} {ta : TA} {p pos tpos : Pos} {elts : List Expr} {kk : Nat} (hg : Gl X "enumerate") (hm : X.mg "enumerate" = none) (ha : PA X [e] ta) (hs : starEach [e] X.env = [(false, eval e X.env)] := by rfl) :
    PI X (.Tuple elts kk tpos) (.Call (.Name "enumerate" p) [e] [] pos) (iEnumT X.K ta) := by
  refine ⟨fun pins s σ H R I h => ?_⟩
  refine Call_ (ld_blt I hg hm boot_enumerate (PyProof.Rows.callWith_type1 (thn (ha.run pos pins s σ H _ I h) fun us s1 ⟨vs, H1, I1, r1, q1⟩ => ?_) hs rfl))
  obtain ⟨a, xs, ex, hq, q⟩ := q1
  subst ex
  cases r1 with
  | cons r rr =>
    cases rr
    cases r
    obtain ⟨its, rv, p', hz⟩ := I1.tuple hq
    refine call_enumT (show s1.heap.IsTuple a its.toArray from p') fun h' he hit hk => wpAny_pyIter_enum he ?_
    have I2 : Inv X pins σ H1 { s1 with heap := h' } := I1.kept (t' := s1.toks) hk
    refine ⟨s1.heap.objs.size + 1, [s1.heap.objs.size + 1, s1.heap.objs.size], _, _, H1, rfl, I2, turn_enumT a (s1.heap.objs.size + 1) s1.heap.objs.size, ⟨⟨.none, he⟩, hit, Nat.succ_ne_self _⟩, fun b hb => ?_, q⟩
    have hle : s1.heap.objs.size ≤ b := by
      rcases (show b = s1.heap.objs.size + 1 ∨ b = s1.heap.objs.size by simpa using hb) with z | z
      · rw [z]; exact Nat.le_add_right _ _
      · rw [z]; exact Nat.le_refl _
    exact I1.fpOk hle (I1.hok.fresh hle)
end L2

namespace Sl
open PySem L2 C8 StX
section
variable {σ : L2.St} {H H1 : Hp} {g : TG} {tb : TS} {ta : TA} {te : TE} {tt : TT} {nx bk ct : L2.St → Hp → Prop} {rt : VK} {R : It → Hp → Prop} {K : PySem.W.Frag} {Q : VK} {vs : List Nat}
def enRT (K : PySem.W.Frag) (R : It → Hp → Prop) (vs : List V) (H : Hp) : Prop := ∃ a xs, vs = [.ref a] ∧ SqT K H a xs ∧ R (IteT K a) H
theorem rd_iEnumT (h : ta σ H fun vs H1 => enRT K R vs H1) : iEnumT K ta σ H R := h
theorem rd_enRT {a : Addr} {xs : List V} (e : SqT K H a xs) (h : R (IteT K a) H) : enRT K R [.ref a] H := ⟨a, xs, rfl, e, h⟩
theorem forR_enumT {a : Addr} {xs : List V} (Pv : Nat → L2.St → Hp → Prop) (hl : ∀ i σ H, Pv i σ H → SqT K H a xs) (h0 : Pv 0 σ H)
    (hs : ∀ (i : Nat) x σ H t H', xs[i]? = some x → Pv i σ H → H t = none → Same H H' → H' t = some (.tup [.int (i : Nat), x]) → H' = upd H t (.tup [.int (i : Nat), x]) → g (.ref t) σ H' fun σ2 H2 => tb ⟨Pv (i + 1), rt, nx, Pv (i + 1)⟩ σ2 H2) (hd : ∀ σ H, Pv xs.length σ H → nx σ H) :
    ForR (IteT K a) g tb ⟨nx, rt, bk, ct⟩ σ H := forR_gen _ xs.length Pv h0 (fun i σ H h p => ⟨xs, xs[i], hl i σ H p, by simp [h]⟩) (fun σ H p => ⟨xs, hl _ σ H p, Nat.le_refl _⟩)
      (fun i σ H x H' hi p ⟨t, y, e1, e2, e3, e4⟩ => by subst e1; subst e3; exact hs i y σ H t _ (e4 xs (hl i σ _ p)) p e2 (Same.new (Same.refl H) e2) upd_same rfl) hd
theorem lcR_enumT {a : Addr} {xs : List V} (Pv : Addr → Nat → Hp → Prop) (hl : ∀ D i H', H D = none → Pv D i H' → SqT K H' a xs) (h0 : ∀ D H', H D = none → Same H H' → H' D = some (.lst []) → H' = upd H D (.lst []) → Pv D 0 H')
    (hs : ∀ D (i : Nat) x H' t H2, H D = none → xs[i]? = some x → Pv D i H' → H' t = none → Same H' H2 → H2 t = some (.tup [.int (i : Nat), x]) → H2 = upd H' t (.tup [.int (i : Nat), x]) → g (.ref t) (wipe σ vs) H2 fun σ2 H2 => wipe σ2 vs = wipe σ vs ∧ tt σ2 H2 fun b H3 => if b = true then te σ2 H3 fun y H4 => LcE D (Pv D (i + 1)) y H4 else Pv D (i + 1) H3)
    (hd : ∀ D H', H D = none → Pv D xs.length H' → Q (.ref D) H') : LcR (IteT K a) g tt te vs σ H Q :=
  lcR_gen _ xs.length Pv h0 (fun D i H' hD h p => ⟨xs, xs[i], hl D i H' hD p, by simp [h]⟩) (fun D H' hD p => ⟨xs, hl D _ H' hD p, Nat.le_refl _⟩)
    (fun D i H' x H2 hD hi p ⟨t, y, e1, e2, e3, e4⟩ => by subst e1; subst e3; exact hs D i y H' t _ hD (e4 xs (hl D i _ hD p)) p e2 (Same.new (Same.refl H') e2) upd_same rfl) hd
theorem lcR_tup {a : Addr} {xs : List V} (Pv : Addr → Nat → Hp → Prop) (hl : ∀ D i H', H D = none → Pv D i H' → SqT K H' a xs) (h0 : ∀ D H', H D = none → Same H H' → H' D = some (.lst []) → H' = upd H D (.lst []) → Pv D 0 H')
    (hs : ∀ D i x H', H D = none → xs[i]? = some x → Pv D i H' → g x (wipe σ vs) H' fun σ2 H2 => wipe σ2 vs = wipe σ vs ∧ tt σ2 H2 fun b H3 => if b = true then te σ2 H3 fun y H4 => LcE D (Pv D (i + 1)) y H4 else Pv D (i + 1) H3)
    (hd : ∀ D H', H D = none → Pv D xs.length H' → Q (.ref D) H') : LcR (Itt K a) g tt te vs σ H Q :=
  lcR_gen _ xs.length Pv h0 (fun D i H' hD h p => ⟨xs, xs[i], hl D i H' hD p, by simp [h]⟩) (fun D H' hD p => ⟨xs, hl D _ H' hD p, Nat.le_refl _⟩)
    (fun D i H' x H2 hD hi p ⟨e1, e2⟩ => by subst e1; exact hs D i x _ hD (e2 xs (hl D i _ hD p)) p) hd
end
end Sl
set_option Elab.async false
set_option linter.all false
set_option maxRecDepth 100000
set_option maxHeartbeats 4000000
/-! ### x != y by the own __eq__ of the class of both (object.__ne__) -/
namespace HNe
open PySem PySem.Spec PyProof.Rows PySem.SeqAt
section
variable {M : Model} {prog : Program} {w : World} {A : Around} {E : Value → Shared → Prop} {s : Shared} {K : PySem.W.Frag} {x y C f : Addr} {ox : Obj} {od : Option Obj}
theorem ifBound_objNe {args : List Value} {Q : Option Value → Shared → Prop} (X : K.In s.heap) (I : PySem.W.InstAt s.heap x ox C od) (hs : PySem.W.findIn K (.ref C) "__ne__" = some (some (.builtin "object.__ne__")))
    (h : wpAny M A (call (.builtin "object.__ne__") (.ref x :: args)) (fun v => Q (some v)) E s) : wpAny M A (callSpecialIfBound? (.ref x) "__ne__" args) Q E s := by
  simp only [callSpecialIfBound?, bindSpecialIfBound?]
  refine wpAny_holding (wpAny_bind (wpAny_bind (wpAny_bind (I.type.here ((PySem.W.looks_findIn X hs).here ?_)))))
  refine wpAny_bind (wpAny_askSetting (wpAny_ite ?_))
  have fin : wpAny M A (call (.builtin "object.__ne__") ([.ref x] ++ args) >>= fun v => pure (some v)) Q E s := wpAny_bind (wpAny_mono h (fun v s' h' => wpAny_pure h') fun _ _ h' => h')
  split
  · exact wpAny_bind (wpAny_of_eq (F.cmp_object.ne.bind _) (wpAny_pure (by exact fin)))
  · exact wpAny_tryCatch (wpAny_bind (wpAny_of_eq (F.cmp_object.ne.bind _) (wpAny_pure (by exact fin))))
theorem entry_ne (X : K.In s.heap) (I : PySem.W.InstAt s.heap x ox C od) (hs : PySem.W.findIn K (.ref C) "__eq__" = some (some (.ref f))) (hf : PySem.W.isFn K (.ref f) = true) (hu : A.units < cLine) {Q : Fin → Shared → Prop}
    (hcall : wpAny M A (call (.ref f) [.ref x, .ref y]) (fun v s' => ∃ b, v = .bool b ∧ Q (.done (.ret (.bool (!b)))) s') E s) : wpAny M A (Builtin.«object.__ne__» ⟨[.ref x, .ref y], []⟩) Q E s := by
  unfold Builtin.«object.__ne__»
  repeat (first
    | with_reducible refine wpAny_cRoomFor hu ?_
    | (refine wpAny_bind (m := callSpecialIfBound? (.ref x) (Str.ofString "__eq__") [.ref y])
        (PySem.W.ifBound_K X I hs hf (wpAny_mono hcall (fun r s' hr => by
          obtain ⟨b, rfl, hq⟩ := hr
          repeat (first | exact hq | exact wpAny_pure hq | exact wpAny_truthy_bool hq | (refine wpAny_bind (m := truthy (.bool _)) (wpAny_truthy_bool ?_)) | wp_step)) fun _ _ e => e)))
    | wp_step)
theorem call_objNe {Q : Value → Shared → Prop} (X : K.In s.heap) (I : PySem.W.InstAt s.heap x ox C od) (hm : PySem.W.mroIn K C (.type "object") = some true) (hs : PySem.W.findIn K (.ref C) "__eq__" = some (some (.ref f))) (hf : PySem.W.isFn K (.ref f) = true) (hu : A.units + 1 < cLine)
    (hcall : wpAny (model prog w) A.in1 (call (.ref f) [.ref x, .ref y]) (fun v s' => ∃ b, v = .bool b ∧ Q (.bool (!b)) s') E s) :
    wpAny (model prog w) A (call (.builtin "object.__ne__") [.ref x, .ref y]) Q E s :=
  wpAny_call (codeAny_call_builtin F.cmp_object.ne.plain F.cmpEntry_ne (PySem.W.check_slot F.cmpKind_ne F.cmpSplit_ne (I.type.andThen (PySem.W.looks_mroIn X hm)) (F.cmpArgs_ne _ _)
    (entry_ne (A := A.in1) X I hs hf hu (wpAny_mono hcall (fun v s' hv => by
      obtain ⟨b, rfl, hq⟩ := hv
      exact ⟨b, rfl, hq⟩) fun _ _ e => e))))
theorem cmp_neK {Q : Value → Shared → Prop} (X : K.In s.heap) (I : PySem.W.InstAt s.heap x ox C od) {oy : Obj} {od2 : Option Obj} (J : PySem.W.InstAt s.heap y oy C od2) (hm : PySem.W.mroIn K C (.type "object") = some true)
    (hn : PySem.W.findIn K (.ref C) "__ne__" = some (some (.builtin "object.__ne__"))) (hs : PySem.W.findIn K (.ref C) "__eq__" = some (some (.ref f))) (hf : PySem.W.isFn K (.ref f) = true) (hu : A.units + 1 < cLine)
    (hcall : wpAny (model prog w) A.in1 (call (.ref f) [.ref x, .ref y]) (fun v s' => ∃ b, v = .bool b ∧ Q (.bool (!b)) s') E s) : wpAny (model prog w) A (compareOp .NotEq (.ref x) (.ref y)) Q E s := by
  show wpAny (model prog w) A (richCompare .NotEq (.ref x) (.ref y)) Q E s
  have one : wpAny (model prog w) A (tryCompare (.ref x) "__ne__" (.ref y)) (fun r s' => ∃ v, r = some v ∧ Q v s') E s := by
    unfold tryCompare
    refine wpAny_bind (ifBound_objNe X I hn (call_objNe X I hm hs hf hu (wpAny_mono hcall (fun v s' hv => ?_) fun _ _ e => e)))
    obtain ⟨b, rfl, hq⟩ := hv
    exact ⟨b, rfl, wpAny_pure ⟨_, rfl, hq⟩⟩
  unfold richCompare
  simp only [oneThing_ref]
  refine wpAny_holding (wpAny_bind (wpAny_cRoomFor (Nat.lt_of_succ_lt hu) ?_))
  rw [cmpInfo_NotEq]
  dsimp only
  refine wpAny_bind (I.type.here (wpAny_bind (J.type.here ?_)))
  rw [show (Value.ref C != Value.ref C) = false from by simp]
  simp only [Bool.false_eq_true, if_false]
  refine wpAny_bind (wpAny_pure ?_)
  simp only [Bool.false_eq_true, if_false]
  refine wpAny_bind (wpAny_mono one (fun r s' z => ?_) fun _ _ e => e)
  obtain ⟨v, rfl, hq⟩ := z
  exact wpAny_pure hq
end
end HNe
namespace L2
open PySem PySem.Spec PyProof.Rows
section
variable {X : Cx} {k j : Nat} {C D : Addr} {sp : Sp} {dvs : List V} {a : Expr} {ta : TE}
/-- x != y by the own __eq__ of the class of both -/
def rNeO (C : Addr) (sp : Sp) (dvs : List V) : R2 := fun x y H Q => ∃ a b dx dy fs gs, x = .ref a ∧ y = .ref b ∧ H a = some (.ins C dx fs) ∧ H b = some (.ins C dy gs) ∧ sp ([.ref a, .ref b] ++ dvs) H (fun v H' => ∃ k, v = .bl k ∧ Q (.bl (!k)) H') C8.E0
theorem op_neO (c : C8.Met X.prog X.w X.K X.mg X.base k C "__eq__" sp dvs) (hr : Room j X.A) (hk : k + 1 ≤ j) (hm : PySem.W.mroIn X.K C (.type "object") = some true) (hn : PySem.W.findIn X.K (.ref C) "__ne__" = some (some (.builtin "object.__ne__"))) : OpR X (compareOp .NotEq) (rNeO C sp dvs) := by
  obtain ⟨f, fd, ps, ds, cl, hme, F, bd, d⟩ := c.ex
  intro pins s σ H x y v u Q I rx ry h
  obtain ⟨o, o2, dx, dy, fs, gs, rfl, rfl, e, e2, q⟩ := h
  obtain rfl : v = Value.ref o := rx
  obtain rfl : u = Value.ref o2 := ry
  obtain ⟨mA, O, _, _, _, _⟩ := ins_get I.hok e
  obtain ⟨mB, O2, _, _, _, _⟩ := ins_get I.hok e2
  obtain ⟨od, J, _⟩ := O.look
  obtain ⟨od2, J2, _⟩ := O2.look
  refine HNe.cmp_neK I.kIn J J2 hm hn hme.at_ hme.fn (by have := hr.units; omega) (wpAny_mono (run_fn1 (us := [.ref o, .ref o2]) (vs := [.ref o, .ref o2]) F (hr.mono hk) bd d C8.pass0 I (.cons rfl (.cons rfl .nil)) q) (fun v s2 y => ?_) fun _ _ y => y)
  obtain ⟨x2, H2, I2, rx2, b, rfl, q2⟩ := y
  obtain rfl : v = Value.bool b := rx2
  exact ⟨b, rfl, .bl (!b), H2, I2, rfl, q2⟩
/-- (i, d) == (i, e), d and e equal dicts -/
def rEqPD (K : PySem.W.Frag) : R2 := fun x y H Q => ∃ t u i a b ls, x = .ref t ∧ y = .ref u ∧ H t = some (.tup [.int i, .ref a]) ∧ H u = some (.tup [.int i, .ref b]) ∧ H a = some (.dK (dI ls)) ∧ H b = some (.dK (dI ls)) ∧ (ls.map (·.1)).Nodup ∧ Q (.bl true) H
theorem op_eqPD (hu : X.A.units + 64 < cLine) : OpR X (compareOp .Eq) (rEqPD X.K) := by
  intro pins s σ H x y v u' Q I rx ry h
  obtain ⟨t, u, i, a, b, ls, rfl, rfl, et, eu, ea, eb, nd, q⟩ := h
  obtain rfl : v = Value.ref t := rx
  obtain rfl : u' = Value.ref u := ry
  obtain ⟨xs, r1, p1, _⟩ := I.tuple (SqT.of et)
  obtain ⟨ys, r2, p2, _⟩ := I.tuple (SqT.of eu)
  obtain ⟨x1, x2, rfl, ⟨tx, rfl⟩, w2⟩ := vals2 r1
  obtain ⟨y1, y2, rfl, ⟨ty, rfl⟩, z2⟩ := vals2 r2
  obtain rfl : x2 = Value.ref a := w2
  obtain rfl : y2 = Value.ref b := z2
  obtain ⟨_, ya, va, ra, da⟩ := (show ObjOk X.prog X.w H s.heap a (.dK (dI ls)) from I.hok a _ ea)
  obtain ⟨_, yb, vb, rb, db⟩ := (show ObjOk X.prog X.w H s.heap b (.dK (dI ls)) from I.hok b _ eb)
  show wpAny (model X.prog X.w) X.A (richCompare .Eq (.ref t) (.ref u)) (EP X pins σ Q) X.xe s
  refine GQ.rc_tupG (by simp) (by omega) (fun _ s' => s' = s) p1 p2 (fun j h1 h2 s' es => ?_) (fun s' es => ?_) rfl
  · subst es
    match j, h1, h2 with
    | 0, _, _ => exact (eqAt_same (A := X.A.in1) (s := s') (show RelV (V.int i) (Value.int i tx) from ⟨tx, rfl⟩) (show RelV (V.int i) (Value.int i ty) from ⟨ty, rfl⟩) rfl) X.prog X.w _ _ ⟨rfl, rfl⟩
    | 1, _, _ =>
      show wpAny (model X.prog X.w) X.A.in1 (eqBool (Value.ref a) (Value.ref b)) _ _ s'
      by_cases c : a = b
      · subst c
        exact SeqAt.EqAt.same (A := X.A.in1) (s := s') (.ref a) X.prog X.w _ _ ⟨rfl, rfl⟩
      · refine GQ.eqBool_refG c ?_
        show wpAny (model X.prog X.w) X.A.in1 (compareOp .Eq (.ref a) (.ref b)) _ _ s'
        refine PySem.W.keq_eq (knd := mixKind X.prog X.w) (r := true) ya yb da db (by show X.A.units + 1 < cLine; omega) (fun e => (dI_hits nd (.inl rfl) ra rb e).2) ?_
        rw [dI_ans (.inl rfl) ra rb, decide_eq_true rfl]
        exact ⟨true, rfl, rfl, rfl⟩
    | j + 2, h1, _ => exact absurd h1 (by simp)
  · subst es
    exact ⟨.bl true, H, I, rfl, q⟩
end
end L2
namespace Sl
open PySem L2 C8 StX
section
variable {σ : L2.St} {H : Hp} {Q : VK} {K : PySem.W.Frag} {C : Addr} {sp : Sp} {dvs : List V}
theorem rd_neO {a b dx dy : Addr} {fs gs : List (Str × V)} (e : H a = some (.ins C dx fs)) (e2 : H b = some (.ins C dy gs)) (h : sp ([.ref a, .ref b] ++ dvs) H (fun v H' => ∃ k, v = .bl k ∧ Q (.bl (!k)) H') C8.E0) : rNeO C sp dvs (.ref a) (.ref b) H Q := ⟨a, b, dx, dy, fs, gs, rfl, rfl, e, e2, h⟩
theorem rd_eqPD {t u a b : Addr} {i : Int} {ls : List (Int × Int)} (et : H t = some (.tup [.int i, .ref a])) (eu : H u = some (.tup [.int i, .ref b])) (ea : H a = some (.dK (dI ls))) (eb : H b = some (.dK (dI ls))) (nd : (ls.map (·.1)).Nodup) (q : Q (.bl true) H) : rEqPD K (.ref t) (.ref u) H Q :=
  ⟨t, u, i, a, b, ls, rfl, rfl, et, eu, ea, eb, nd, q⟩
/-- isinstance(x, C) of an int, or None: no -/
theorem sub_int {K : PySem.W.Frag} {C : Addr} : PySem.W.subIn K (.type "int") (.ref C) = some false := by
  have e : fastBuiltinMro "int" = some [.type "int", .type "object"] := by decide +kernel
  show (fastBuiltinMro "int").map (·.contains (.ref C)) = some false
  rw [e]
  first
    | rfl
    | simp
theorem kit_not {K : PySem.W.Frag} {C : Addr} {n : String} (h1 : PySem.W.isClsIn K C = true) (h2 : PySem.W.typeIn K (.ref C) = some (.type "type")) (h3 : PySem.W.subIn K (.type n) (.ref C) = some false) : PySem.W.kitOne K (.type n) (.ref C) = some false := by
  have e2 : ((PySem.W.clsIn K C).isSome && PySem.W.typeIn K (.ref C) == some (.type "type")) = true := by
    have h1' : (PySem.W.clsIn K C).isSome = true := h1
    rw [h1', h2] <;> rfl
  unfold PySem.W.kitOne
  rw [if_neg (by simp)]
  show (if ((PySem.W.clsIn K C).isSome && PySem.W.typeIn K (.ref C) == some (.type "type")) = true then PySem.W.subIn K (.type n) (.ref C) else none) = some false
  rw [if_pos e2]
  exact h3
theorem rd_isiCi {C : Addr} {i : Int} (k : PySem.W.kitOne K (.type "int") (.ref C) = some false) (h : Q (.bl false) H) : rIsi K [.int i, .ref C] H Q := ⟨_, _, _, _, false, rfl, .own C, .base (.int i), k, h⟩
theorem rd_isiCn {C : Addr} (k : PySem.W.kitOne K (.type "NoneType") (.ref C) = some false) (h : Q (.bl false) H) : rIsi K [.non, .ref C] H Q := ⟨_, _, _, _, false, rfl, .own C, .base .non, k, h⟩
theorem rd_isiC {C a dx : Addr} {fs : List (Str × V)} (c : InsC K C) (e : H a = some (.ins C dx fs)) (h : Q (.bl true) H) : rIsi K [.ref a, .ref C] H Q := ⟨_, _, _, _, true, rfl, .own C, .base (TyOf.ins e c.cl c.ha c.hn c.htk c.hm), c.me, h⟩
/-- dict([(k, v), ..]) -/
def rDictP (K : PySem.W.Frag) : List V → Hp → VK → Prop := fun xs H Q => ∃ (a : Addr) (ps : List Addr) (kvs : List (Key × V)), xs = [.ref a] ∧ SqL K H a (ps.map V.ref) ∧ Paired (fun p kv => SqT K H p [kV kv.1, kv.2]) ps kvs ∧ ∀ p, H p = none → Q (.ref p) (upd H p (.dK (mergeK [] kvs)))
theorem cr_dictP {X : Cx} (hc : X.calm = true) : CallR X (.type "dict") (rDictP X.K) := call_dictP hc
end
end Sl
set_option Elab.async false
set_option linter.all false
set_option maxRecDepth 100000
set_option maxHeartbeats 4000000
set_option exponentiation.threshold 9000
namespace L2
open PySem PySem.Spec PyProof.Rows
theorem hu65 {k : Nat} {A : Around} (r : Room k A) : A.units + 65 < cLine := by have := r.un; omega
/-- one of two walks -/
theorem pi_alt {X : Cx} {tg e : Expr} {t u : TI} (h1 : PI X tg e t) (h2 : PI X tg e u) : PI X tg e (fun σ H R => t σ H R ∨ u σ H R) := ⟨fun pins s σ H R I h => h.elim (h1.run pins s σ H R I) (h2.run pins s σ H R I)⟩
section
variable {X : Cx} {CX : CXT} {k j : Nat} {f C : Addr} {fd : FuncData} {ps : List Str} {sp : Sp} {dvs : List V} {ds : List Value} {E : XK}
theorem run_fnL {pins : List (Addr × Obj)} {σ : St} {H : Hp} {s : Shared} {Q : VK} {us : List Value} {vs : List V} (F : FnOk X.prog X.w X.K X.mg X.base CX k f fd ps sp) (hr : Room (k + 1) X.A) (hb : Binds X.K fd ps ds) (hd : Vals dvs ds) (hx : Passes CX X E)
    (I : Inv X pins σ H s) (r : Vals vs us) (h : sp (vs ++ dvs) H Q E) : wpAny (model X.prog X.w) X.A.in1 (call (.ref f) us) (EP X pins σ Q) X.xe s := by
  have r2 : Vals (vs ++ dvs) (us ++ ds) := r.append hd
  have hl : (us ++ ds).length = ps.length := by rw [← r2.length]; exact F.len _ _ _ _ h
  refine wpAny_call (codeAny_mono (F.run X.A.in1 X.stack s H ⟨us, []⟩ (us ++ ds) (vs ++ dvs) Q E hr.in1 I.env0.in1 (hb s us I.kIn hl) r2 h) fun r s' hq => ?_)
  cases r with
  | error e => exact hx pins σ H s e s' I hq
  | ok fl =>
    cases fl with
    | ret u => exact I.after hq
    | next => exact False.elim hq
    | brk => exact False.elim hq
    | cont => exact False.elim hq
/-- len(o), o of an own class with its own __len__ -/
def rLenO (C : Addr) (sp : Sp) (dvs : List V) : List V → Hp → VK → Prop := fun vs H Q => ∃ o dx fs, vs = [.ref o] ∧ H o = some (.ins C dx fs) ∧ sp ([.ref o] ++ dvs) H (fun v H' => ∃ i : Nat, v = .int i ∧ i < 2 ^ 62 ∧ Q (.int i) H') C8.E0
theorem cr_lenO (c : C8.Met X.prog X.w X.K X.mg X.base k C "__len__" sp dvs) (hr : Room j X.A) (hk : k + 1 ≤ j) : CallR X (.builtin "len") (rLenO C sp dvs) := by
  obtain ⟨f, fd, ps, ds, cl, hm, Fo, bd, d⟩ := c.ex
  intro pins s σ H vs us Q I r h
  obtain ⟨o, dx, fs, rfl, e, q⟩ := h
  obtain rfl := Vals.ref1 r
  obtain ⟨mA, O, _, _, _, _⟩ := ins_get I.hok e
  obtain ⟨od, J, _⟩ := O.look
  obtain ⟨m, F0⟩ := I.fr
  refine PySem.W.len_K F0 I.ok.mod.kin J hm.at_ hm.fn (wpAny_mono (run_fnL (us := [.ref o]) (vs := [.ref o]) Fo (hr.mono hk) bd d C8.pass0 I (.cons rfl .nil) q) (fun v s2 y => ?_) fun _ _ y => y)
  obtain ⟨x2, H2, I2, rx2, i, rfl, hi, q2⟩ := y
  obtain ⟨t, rfl⟩ : ∃ t, v = Value.int i t := rx2
  exact ⟨⟨by omega, by omega⟩, ⟨.int i, H2, I2.tok _, ⟨_, rfl⟩, q2⟩⟩
/-- x in o, o of an own class with its own __contains__ -/
def rInO (C : Addr) (sp : Sp) (dvs : List V) : R2 := fun x y H Q => ∃ o dx fs, y = .ref o ∧ H o = some (.ins C dx fs) ∧ sp ([.ref o, x] ++ dvs) H (fun v H' => ∃ b, v = .bl b ∧ Q (.bl b) H') C8.E0
theorem op_inO (c : C8.Met X.prog X.w X.K X.mg X.base k C "__contains__" sp dvs) (hr : Room j X.A) (hk : k ≤ j) : OpR X (compareOp .In) (rInO C sp dvs) := by
  obtain ⟨f, fd, ps, ds, cl, hm, Fo, bd, d⟩ := c.ex
  intro pins s σ H x y v u Q I rx ry h
  obtain ⟨o, dx, fs, rfl, e, q⟩ := h
  obtain rfl : u = Value.ref o := ry
  obtain ⟨mA, O, _, _, _, _⟩ := ins_get I.hok e
  obtain ⟨od, J, _⟩ := O.look
  obtain ⟨m, F0⟩ := I.fr
  refine PySem.W.in_K F0 I.ok.mod.kin J hm.at_ hm.fn (wpAny_mono (run_fn (us := [.ref o, v]) (vs := [.ref o, x]) Fo (hr.mono hk) bd d C8.pass0 I (.cons rfl (.cons rx .nil)) q) (fun v s2 y => ?_) fun _ _ y => y)
  obtain ⟨x2, H2, I2, rx2, b, rfl, q2⟩ := y
  obtain rfl : v = Value.bool b := rx2
  exact wpAny_truthy_bool ⟨.bl b, H2, I2, rfl, q2⟩
/-- (d, g) == (e, h): d and e dicts of the same entries, g and h data -/
def rEqDG (K : PySem.W.Frag) : R2 := fun x y H Q => ∃ t u a b g h ks d e, x = .ref t ∧ y = .ref u ∧ H t = some (.tup [.ref a, .ref g]) ∧ H u = some (.tup [.ref b, .ref h]) ∧ H a = some (.dK ks) ∧ H b = some (.dK ks) ∧ (∀ p ∈ ks, valV ks p.1 = some p.2 ∧ flatB p.2 = true) ∧
  Dp K H (.ref g) d ∧ Dp K H (.ref h) e ∧ SeqAt.shaped d = true ∧ SeqAt.shaped e = true ∧ Q (.bl (PyData.eqv d e)) H
theorem op_eqDG (hu : X.A.units + 65 < cLine) : OpR X (compareOp .Eq) (rEqDG X.K) := by
  intro pins s σ H x y v u' Q I rx ry h
  obtain ⟨t, u, a, b, g, h', ks, d, e, rfl, rfl, et, eu, ea, eb, fl, hd, he, sd, se, q⟩ := h
  obtain rfl : v = Value.ref t := rx
  obtain rfl : u' = Value.ref u := ry
  obtain ⟨xs, r1, p1, _⟩ := I.tuple (SqT.of et)
  obtain ⟨ys, r2, p2, _⟩ := I.tuple (SqT.of eu)
  obtain ⟨x1, x2, rfl, w1, w2⟩ := vals2 r1
  obtain ⟨y1, y2, rfl, z1, z2⟩ := vals2 r2
  obtain rfl : x1 = Value.ref a := w1
  obtain rfl : y1 = Value.ref b := z1
  obtain ⟨as, q1⟩ := Dp.reads I d _ x2 hd w2
  obtain ⟨bs, q2⟩ := Dp.reads I e _ y2 he z2
  obtain ⟨_, ya, va, ra, da⟩ := (show ObjOk X.prog X.w H s.heap a (.dK ks) from I.hok a _ ea)
  obtain ⟨_, yb, vb, rb, db⟩ := (show ObjOk X.prog X.w H s.heap b (.dK ks) from I.hok b _ eb)
  have hl : va.length = vb.length := by rw [← ra.length, ← rb.length]
  show wpAny (model X.prog X.w) X.A (richCompare .Eq (.ref t) (.ref u)) (EP X pins σ Q) X.xe s
  refine SeqAt.rcIn_tuples (e := fun j => if j = 0 then true else PyData.eqv d e) p1 p2 (by omega) (fun j h1 h2 => ?_) ⟨.bl (PyData.eqv d e), H, I, ?_, q⟩
  · match j, h1, h2 with
    | 0, _, _ =>
      show SeqAt.EqIn X.prog X.w X.A.in1 s (Value.ref a) (Value.ref b) true
      by_cases c : a = b
      · subst c
        exact (SeqAt.EqAt.same (A := X.A.in1) (s := s) (.ref a)).inModel X.prog X.w
      · refine SeqAt.EqIn.of_refs c fun E' Q' q' => ?_
        show wpAny (model X.prog X.w) X.A.in1 (compareOp .Eq (.ref a) (.ref b)) _ E' s
        refine PySem.W.keq_eq (knd := mixKind X.prog X.w) (r := true) ya yb da db (by show X.A.units + 1 < cLine; omega) (fun _ => hits_all rb ra fl) ?_
        simpa [hl] using q'
    | 1, _, _ => exact (SeqAt.eqAt_reads d e X.A.in1 s x2 y2 as bs q1 q2 (SeqAt.canLay_of_shaped sd) (SeqAt.canLay_of_shaped se) (SeqAt.room_of_shaped sd (by show X.A.units + 1 + 64 < cLine; omega))).inModel X.prog X.w
    | j + 2, h1, _ => exact absurd h1 (by simp)
  · show RelV (V.bl (PyData.eqv d e)) _
    simp [List.range_succ, RelV]
end
end L2
namespace Sl
open PySem L2 C8 StX
section
variable {σ : L2.St} {H H' : Hp} {Q : VK} {te ta tb : TE} {t tk : TA} {K : PySem.W.Frag} {QS : L2.St → Hp → Prop} {x y v : V} {R : It → Hp → Prop} {g : TG} {tt : TT} {vs : List Nat}
theorem rd_gSub {to ti : TE} {st : TSet} (h : to σ H fun o H1 => ti σ H1 fun i H2 => st o i v H2 fun H3 => QS σ H3) : gSub to ti st v σ H QS := h
/-! ### texts walked -/
def stR (R : It → Hp → Prop) (v : V) (H1 : Hp) : Prop := ∃ x, v = .str x ∧ R (Its x) H1
theorem rd_iStr (h : te σ H fun v H1 => stR R v H1) : iStr te σ H R := h
theorem rd_stR {x : Str} (h : R (Its x) H) : stR R (.str x) H := ⟨x, rfl, h⟩
theorem lcR_str {x : Str} (Pv : Addr → Nat → Hp → Prop) (h0 : ∀ D H', H D = none → Same H H' → H' D = some (.lst []) → H' = upd H D (.lst []) → Pv D 0 H')
    (hs : ∀ D i c H', H D = none → x.cps[i]? = some c → Pv D i H' → g (.str ⟨#[c]⟩) (wipe σ vs) H' fun σ2 H2 => wipe σ2 vs = wipe σ vs ∧ tt σ2 H2 fun b H3 => if b = true then te σ2 H3 fun y H4 => LcE D (Pv D (i + 1)) y H4 else Pv D (i + 1) H3)
    (hd : ∀ D H', H D = none → Pv D x.cps.size H' → Q (.ref D) H') : LcR (Its x) g tt te vs σ H Q :=
  lcR_gen _ x.cps.size Pv h0 (fun _ i _ _ h _ => h) (fun _ _ _ _ => Nat.le_refl _) (fun D i H x2 H' hD hi p ⟨e1, c, e2, e3⟩ => by subst e1; subst e3; exact hs D i c _ hD e2 p) hd
/-! ### order of texts -/
def rLeS : R2 := fun x y H Q => ∃ i j, x = .str i ∧ y = .str j ∧ Q (.bl (!decide (j.cps.toList < i.cps.toList))) H
theorem op_leS {X : Cx} : OpR X (compareOp .LtE) rLeS := op_le_str
theorem rd_leS {i j : Str} (h : Q (.bl (!decide (j.cps.toList < i.cps.toList))) H) : rLeS (.str i) (.str j) H Q := ⟨i, j, rfl, rfl, h⟩
def rIxS (x y : V) (H : Hp) (Q : VK) : Prop := ∃ (z : Str) (i : Int) (c : Nat), x = .str z ∧ y = .int i ∧ 0 ≤ i ∧ i < 2 ^ 63 ∧ i < z.length ∧ z.cps[i.toNat]? = some c ∧ Q (.str ⟨#[c]⟩) H
theorem pe_ixS {X : Cx} {a b : Expr} {pos : Pos} {ta tb : TE} (ha : PE X a ta) (hb : PE X b tb) (hs : PlainIxT b) : PE X (.Subscript a b pos) (tOp rIxS ta tb) := pe_item_str ha hb hs
theorem rd_ixS {z : Str} {i : Int} {c : Nat} (h0 : 0 ≤ i) (h1 : i < 2 ^ 62) (h2 : i < z.length) (h3 : z.cps[i.toNat]? = some c) (h : Q (.str ⟨#[c]⟩) H) : rIxS (.str z) (.int i) H Q := ⟨z, i, c, rfl, rfl, h0, by omega, h2, h3, h⟩
/-! ### lengths, texts of ints -/
def rLenTx : List V → Hp → VK → Prop := fun xs H Q => ∃ z, xs = [.str z] ∧ z.length ≤ sizeLine ∧ Q (.int z.length) H
theorem cr_lenTx {X : Cx} : CallR X (.builtin "len") rLenTx := call_len_str
theorem rd_lenTx {z : Str} (hz : z.length ≤ sizeLine) (h : Q (.int z.length) H) : rLenTx [.str z] H Q := ⟨z, rfl, hz, h⟩
def rLenDk : List V → Hp → VK → Prop := fun xs H Q => ∃ a kvs, xs = [V.ref a] ∧ H a = some (.dK kvs) ∧ Q (.int kvs.length) H
theorem cr_lenDk {X : Cx} : CallR X (.builtin "len") rLenDk := call_lenD
theorem rd_lenDk {a : Addr} {kvs : List (Key × V)} (e : H a = some (.dK kvs)) (h : Q (.int kvs.length) H) : rLenDk [.ref a] H Q := ⟨a, kvs, rfl, e, h⟩
def rStrI : List V → Hp → VK → Prop := fun xs H Q => ∃ i, xs = [.int i] ∧ i.natAbs.log2 < 1920 ∧ Q (.str (toString i)) H
theorem cr_strI {X : Cx} : CallR X (.type "str") rStrI := call_str_int
theorem rd_strI {i : Int} (hi : i.natAbs.log2 < 1920) (h : Q (.str (toString i)) H) : rStrI [.int i] H Q := ⟨i, rfl, hi, h⟩
theorem rd_lenO {C o dx : Addr} {fs : List (Str × V)} {sp : Sp} {dvs : List V} (e : H o = some (.ins C dx fs)) (h : sp ([.ref o] ++ dvs) H (fun v H' => ∃ i : Nat, v = .int i ∧ i < 2 ^ 62 ∧ Q (.int i) H') C8.E0) : rLenO C sp dvs [.ref o] H Q := ⟨o, dx, fs, rfl, e, h⟩
theorem rd_inO {C o dx : Addr} {fs : List (Str × V)} {sp : Sp} {dvs : List V} (e : H o = some (.ins C dx fs)) (h : sp ([.ref o, x] ++ dvs) H (fun v H' => ∃ b, v = .bl b ∧ Q (.bl b) H') C8.E0) : rInO C sp dvs x (.ref o) H Q := ⟨o, dx, fs, rfl, e, h⟩
def rAddS : R2 := fun x y H Q => ∃ i j, x = .str i ∧ y = .str j ∧ i.length + j.length ≤ sizeLine ∧ Q (.str (i ++ j)) H
theorem op_addS {X : Cx} : OpR X (binaryOp .Add) rAddS := op_add_str
theorem rd_addS {i j : Str} (l : i.length + j.length ≤ 100000) (h : Q (.str (i ++ j)) H) : rAddS (.str i) (.str j) H Q := ⟨i, j, rfl, rfl, Nat.le_trans l (by decide), h⟩
/-! ### isinstance of plain values -/
def tyS : V → Option String
  | .int _ => some "int"
  | .bl _ => some "bool"
  | .str _ => some "str"
  | .non => some "NoneType"
  | _ => none
theorem tyS_of {v : V} {a : String} (h : tyS v = some a) : TyOf K H v (.type a) := by
  cases v <;> first | (cases h; first | exact .int _ | exact .bl _ | exact .str _ | exact .non) | cases h
theorem rd_isiS {v : V} {a b : String} {r : Bool} (h1 : tyS v = some a) (h2 : kitB a b = some r) (h : Q (.bl r) H) : rIsi K [v, .ty b] H Q := ⟨_, _, _, _, r, rfl, .ty _, .base (tyS_of h1), kit_ty h2, h⟩
theorem rd_isiTup {a : Addr} {xs : List V} {b : String} {r : Bool} (e : H a = some (.tup xs)) (h2 : kitB "tuple" b = some r) (h : Q (.bl r) H) : rIsi K [.ref a, .ty b] H Q := ⟨_, _, _, _, r, rfl, .ty _, .base (.tup e), kit_ty h2, h⟩
theorem rd_isiLst {a : Addr} {xs : List V} {b : String} {r : Bool} (e : H a = some (.lst xs)) (h2 : kitB "list" b = some r) (h : Q (.bl r) H) : rIsi K [.ref a, .ty b] H Q := ⟨_, _, _, _, r, rfl, .ty _, .base (.lst e), kit_ty h2, h⟩
theorem rd_isiD {a : Addr} {kvs : List (Key × V)} {b : String} {r : Bool} (e : H a = some (.dK kvs)) (h2 : kitB "dict" b = some r) (h : Q (.bl r) H) : rIsi K [.ref a, .ty b] H Q := ⟨_, _, _, _, r, rfl, .ty _, .base (.dK e), kit_ty h2, h⟩
theorem rd_eqDG {t u a b g h' : Addr} {ks : List (Key × V)} {d e : PyData} (et : H t = some (.tup [.ref a, .ref g])) (eu : H u = some (.tup [.ref b, .ref h'])) (ea : H a = some (.dK ks)) (eb : H b = some (.dK ks)) (fl : ∀ p ∈ ks, valV ks p.1 = some p.2 ∧ flatB p.2 = true)
    (hd : Dt H (.ref g) d) (he : Dt H (.ref h') e) (sd : SeqAt.shaped d = true) (se : SeqAt.shaped e = true) (q : Q (.bl (PyData.eqv d e)) H) : rEqDG K (.ref t) (.ref u) H Q := ⟨t, u, a, b, g, h', ks, d, e, rfl, rfl, et, eu, ea, eb, fl, hd.dp, he.dp, sd, se, q⟩
/-! ### sorted pairs -/
theorem rd_sortPO {a : Addr} {xs : List V} {k : V → Int × Int} (e : SqL K H a xs) (hx : ∀ x ∈ xs, ∃ t, x = V.ref t ∧ H t = some (.tup [.int (k x).1, .int (k x).2]))
    (h : ∀ ys p H', SrtO.Srtd (ltP k) ys → SrtO.Stb (ltP k) ys xs → H p = none → Same H H' → H' p = some (.lst ys) → Q (.ref p) H') : rSortedPO K [.ref a] H Q :=
  ⟨a, xs, k, rfl, e, hx, fun ys p h1 h2 hp => h ys p _ h1 h2 hp (Same.new (Same.refl H) hp) upd_same⟩
/-! ### dicts with any values, keys ints -/
def dV (ls : List (Int × V)) : List (Key × V) := ls.map fun q => (Sum.inl q.1, q.2)
theorem dV_len (ls : List (Int × V)) : (dV ls).length = ls.length := by unfold dV; rw [List.length_map]
theorem dV_keys (ls : List (Int × V)) : (dV ls).map (·.1) = (ls.map (·.1)).map Sum.inl := by unfold dV; rw [List.map_map, List.map_map]; rfl
end
end Sl
set_option Elab.async false
set_option linter.all false
set_option maxRecDepth 100000
set_option maxHeartbeats 4000000
set_option exponentiation.threshold 9000
/-! ### dict(reversed(a list of pairs)) -/
namespace PySem
open Sem (wp)
namespace F
theorem slot_lri_getattribute : Slot "list_reverseiterator" "__getattribute__" "object.__getattribute__" :=
  .of (owner := "object") (n := "__getattribute__") (by rw [typeLookup_type, builtinLookup_eq_fast]; kernel_rfl) (by decide +kernel) (by decide +kernel) (by decide +kernel)
    (by first | exact .inl (by decide +kernel) | exact .inr (by decide +kernel)) (by rw [isSubtype_type]; kernel_rfl)
end F
theorem lri_no_keys : typeLookup (.type "list_reverseiterator") "keys" = pure none := am_miss_of_fast (by decide +kernel)
theorem lri_getattr_none : typeLookup (.type "list_reverseiterator") "__getattr__" = pure none := am_miss_of_fast (by decide +kernel)
theorem meets_getattribute_miss_lri (a : Addr) (fs : Array Value) (sl : Array (Option Value)) (name : Str) (u : Tok) (hmiss : typeLookup (.type "list_reverseiterator") name = pure none) (hname : (["__module__", "__name__", "__qualname__", "__doc__", "__annotations__"] : List Str).contains name = false) (hsz : name.length + 100 ≤ sizeLine := by size_fits) :
    Meets (Builtin.«object.__getattribute__» ⟨[.ref a, .str name u], []⟩) (fun A R s => s.heap.get? a = some { cls := .type "list_reverseiterator", dict := none, data := .fields fs, slots := sl } ∧ raisesAttr (.ref a) name A R s) :=
  Meets.of_wp fun prog w A R s hs => by
    obtain ⟨hp, g, d, tk, os⟩ := s
    obtain ⟨hx, hs⟩ := hs
    have hT : (⟨hp, g, d, tk, os⟩ : Shared).TypeIs (.ref a) "list_reverseiterator" := ⟨_, hx, rfl⟩
    unfold Builtin.«object.__getattribute__»
    repeat (any_goals (first | assumption | wp_step))
    simp only [hname, Bool.false_eq_true, if_false]
    repeat (any_goals (first | assumption | wp_step))
    exact wpAny_raiseAttrError hs.1 hs.2 (attrMsg_fits (by decide +kernel) hsz)
theorem getAttrOr_miss_lri {prog : Program} {w : World} {A : Around} {E : Value → Shared → Prop} {s : Shared} {a : Addr} {o : Obj} {fs : Array Value} {name : Str} {Q : Option Value → Shared → Prop} (hx : s.heap.get? a = some o) (hc : o.cls = .type "list_reverseiterator") (hdat : o.data = .fields fs) (hd : o.dict = none) (hmiss : typeLookup (.type "list_reverseiterator") name = pure none)
    (hname : (["__module__", "__name__", "__qualname__", "__doc__", "__annotations__"] : List Str).contains name = false) (hA : A.handled = none)
    (h : ∀ h' tk, (∀ b o, s.heap.get? b = some o → h'.get? b = some o) → Q none { s with heap := h', toks := tk }) (hsz : name.length + 100 ≤ sizeLine := by size_fits) :
    wpAny (model prog w) A (getAttr? (.ref a) name) Q E s := by
  obtain ⟨c, dct, dat, sl⟩ := o
  simp only at hc hdat hd
  subst hc hdat hd
  obtain ⟨hp, g, d, tk, os⟩ := s
  have hT : ∀ tk', (⟨hp, g, d, tk', os⟩ : Shared).TypeIs (.ref a) "list_reverseiterator" := fun _ => ⟨_, hx, rfl⟩
  have f1 := sub_AttributeError
  have f3 := F.slot_lri_getattribute.lookup
  have f4 := F.slot_lri_getattribute.bind (.ref a)
  have f5 := lri_getattr_none
  unfold getAttr? getAttrBy?
  repeat (any_goals (first | assumption | exact hT _ | ((with_reducible show wpAny _ _ (call (Value.builtin "object.__getattribute__") _ _) _ _ _); refine call_meets F.slot_lri_getattribute (hT _) F.entry_object_getattribute (F.args_object_getattribute_2 _ _) (meets_getattribute_miss_lri a fs sl name _ hmiss hname hsz) ⟨hx, hA, fun h' tk' e hx' => ?_⟩) | wp_step))
  obtain ⟨t', u', he⟩ := hx'.there
  show wpAny _ _ (getattributeRaised _ _ _ _ _ _ _) _ _ _
  unfold getattributeRaised
  repeat (any_goals (first | assumption | wp_step))
  exact h _ _ hx'.keeps
theorem PairArg.rev {prog : Program} {w : World} (it l : Addr) (hli : l ≠ it) (items : Array Value) (Ts : Nat → Addr) (ps : List (Value × Value)) (hT : ∀ j, j < ps.length → Ts j ≠ it) :
    PairArg prog w "list_reverseiterator" it (it :: l :: (List.range ps.length).map Ts) [it] ps.length (fun i k v => i < ps.length ∧ ps[ps.length - 1 - i]? = some (k, v))
      (fun h => h.get? it = some (revObj l ((items.size : Int) - 1)) ∧ h.IsList l items ∧ PairItems h items Ts ps) where
  type := fun s ok => ⟨_, ok.1, rfl⟩
  notDict := by decide
  keep := fun h h' ok hk => ⟨hk _ _ ok.1, ok.2.1.at fun o x => hk _ o x, ok.2.2.at fun j _ o e => hk _ o e⟩
  there := fun h ok b hb => by
    obtain ⟨h1, ⟨o2, h2, _⟩, hp⟩ := ok
    rcases List.mem_cons.mp hb with rfl | hb
    · exact ⟨_, h1⟩
    · rcases List.mem_cons.mp hb with rfl | hb
      · exact ⟨_, h2⟩
      · obtain ⟨j, hj, rfl⟩ := List.mem_map.mp hb
        exact hp.there (List.mem_range.mp hj)
  sub := fun b hb => by rw [List.mem_singleton.mp hb]; exact List.mem_cons_self
  noKeys := fun A s Q E hA ok h => getAttrOr_miss_lri ok.1 rfl rfl rfl lri_no_keys (by decide +kernel) hA h
  iter := fun A s d Q E hA ok hd hdf h => by
    obtain ⟨h1, hl, hp⟩ := ok
    have hdi : it ≠ d := fun e => hdf (e ▸ List.mem_cons_self)
    have hdl : l ≠ d := fun e => hdf (e ▸ List.mem_cons_of_mem _ List.mem_cons_self)
    have hdT : ∀ j, j < ps.length → Ts j ≠ d := fun j hj e => hdf (List.mem_cons_of_mem _ (List.mem_cons_of_mem _ (List.mem_map.mpr ⟨j, List.mem_range.mpr hj, e⟩)))
    have hsz : items.size = ps.length := hp.1
    refine wpAny_pyIter_revIter (l := l) (i := (items.size : Int) - 1) ⟨_, h1, rfl, rfl⟩ (h it [it] (fun i h => i ≤ ps.length ∧ h.IsRevIter it l ((ps.length : Int) - 1 - i) ∧ h.IsList l items ∧ PairItems h items Ts ps) s.heap s.toks ?_ ⟨Nat.zero_le _, ⟨_, h1, rfl, by rw [hsz]; simp [revObj]⟩, hl, hp⟩ (fun _ _ e => e) fun b hb => .inl hb)
    exact {
      off := fun hm => hdi (List.mem_singleton.mp hm).symm
      frame := fun i h₁ h₂ st hk => ⟨st.1, st.2.1.at fun o e => hk _ o hdi e, st.2.2.1.at fun o e => hk _ o hdl e, st.2.2.2.at fun j hj o e => hk _ o (hdT j hj) e⟩
      item := fun i s₁ Q₁ E₁ hi st _ hQ => by
        have hkv' : ps[ps.length - 1 - i]? = some ps[ps.length - 1 - i] := List.getElem?_eq_getElem (by omega)
        obtain ⟨⟨k, v⟩, hkv⟩ : ∃ p, ps[ps.length - 1 - i]? = some p := ⟨_, hkv'⟩
        have hit : s₁.heap.IsRevIter it l ((ps.length - 1 - i : Nat) : Int) := by
          have := st.2.1
          rw [show (ps.length : Int) - 1 - (i : Int) = ((ps.length - 1 - i : Nat) : Int) by omega] at this
          exact this
        refine wpAny_pyNext_rev_item hit st.2.2.1 (x := .ref (Ts (ps.length - 1 - i))) (st.2.2.2.2 _ k v hkv).1 fun h' hit' hs' => ?_
        have pi : PairItems h' items Ts ps := st.2.2.2.at fun j hj o e => (hs'.2 (Ts j) (hT j hj)).trans e
        refine hQ (Ts (ps.length - 1 - i)) k v h' s₁.toks ⟨hi, hkv⟩ (pi.2 _ k v hkv).2 ⟨hi, ?_, st.2.2.1.at fun o' e => (hs'.2 l hli).trans e, pi⟩ fun b o hb e => (hs'.2 b (fun h => hb (by simp [h]))).trans e
        rw [show (ps.length : Int) - 1 - ((i + 1 : Nat) : Int) = ((ps.length - 1 - i : Nat) : Int) - 1 by omega]
        exact hit'
      done := fun s₁ Q₁ E₁ st hQ => by
        have hit := st.2.1
        rw [show (ps.length : Int) - 1 - (ps.length : Int) = -1 by omega] at hit
        exact wpAny_pyNext_rev_end hA hit fun h' he' => hQ h' s₁.toks fun b o hb e => he' b o (fun h => hb (by simp [h])) e }
end PySem

namespace L2
open PySem PySem.Spec PyProof.Rows
theorem pair_vals {h : Heap} : ∀ {ps : List Addr} {prs : List (Key × Value)}, prs.length = ps.length → (∀ (j : Nat) (q : Key × Value), prs[j]? = some q → ∃ (b : Addr) (u : Value), ps[j]? = some b ∧ IsTup h b #[u, q.2] ∧ keyIs q.1 u = true) →
    ∃ vps : List (Value × Value), vps.length = prs.length ∧ ∀ (j : Nat) (q : Key × Value), prs[j]? = some q → ∃ (b : Addr) (u : Value), ps[j]? = some b ∧ vps[j]? = some (u, q.2) ∧ IsTup h b #[u, q.2] ∧ keyIs q.1 u = true
  | [], [], _, _ => ⟨[], rfl, fun j q e => by simp at e⟩
  | [], _ :: _, l, _ => by simp at l
  | _ :: _, [], l, _ => by simp at l
  | p :: ps, q :: prs, l, hp => by
    obtain ⟨b, u, e1, e2, e3⟩ := hp 0 q rfl
    obtain ⟨vps, l2, h2⟩ := pair_vals (ps := ps) (prs := prs) (by simpa using l) fun j q' e => by
      obtain ⟨b, u, f1, f2, f3⟩ := hp (j + 1) q' (by simpa using e)
      exact ⟨b, u, by simpa using f1, f2, f3⟩
    refine ⟨(u, q.2) :: vps, by simp [l2], fun j q' e => ?_⟩
    match j, e with
    | 0, e =>
      have e : q = q' := by simpa using e
      subst e
      exact ⟨b, u, e1, rfl, e2, e3⟩
    | j + 1, e =>
      obtain ⟨b, u, f1, f2, f3, f4⟩ := h2 j q' (by simpa using e)
      exact ⟨b, u, by simpa using f1, by simpa using f2, f3, f4⟩
theorem paired_app {α β : Type} {R : α → β → Prop} : ∀ {a c : List α} {b d : List β}, Paired R a b → Paired R c d → Paired R (a ++ c) (b ++ d)
  | _, _, _, _, .nil, h => h
  | _, _, _, _, .cons h t, k => .cons h (paired_app t k)
theorem paired_rev {α β : Type} {R : α → β → Prop} : ∀ {a : List α} {b : List β}, Paired R a b → Paired R a.reverse b.reverse
  | _, _, .nil => .nil
  | _, _, .cons h t => by
    rw [List.reverse_cons, List.reverse_cons]
    exact paired_app (paired_rev t) (.cons h .nil)
/-- dict(reversed(x)), x a list of pairs -/
def tDictRev (K : PySem.W.Frag) (te : TE) : TE := fun σ H Q => te σ H fun v H1 => ∃ (a : Addr) (ps : List Addr) (kvs : List (Key × V)), v = .ref a ∧ SqL K H1 a (ps.map V.ref) ∧ Paired (fun p kv => SqT K H1 p [kV kv.1, kv.2]) ps kvs ∧ ∀ p, H1 p = none → Q (.ref p) (upd H1 p (.dK (mergeK [] kvs.reverse)))
section
variable {X : Cx}
theorem pe_dictRev {e : Expr} {te : TE} {p p2 pos pos2 : Pos} (hc : X.calm = true) (hg : Gl X "dict") (hm : X.mg "dict" = none) (hg2 : Gl X "reversed") (hm2 : X.mg "reversed" = none) (he : PE X e te)
    (hs : starEach [e] X.env = (false, eval e X.env) :: starEach [] X.env := by rfl)
    (hs2 : starEach [.Call (.Name "reversed" p2) [e] [] pos2] X.env = (false, eval (.Call (.Name "reversed" p2) [e] [] pos2) X.env) :: starEach [] X.env := by rfl) :
    PE X (.Call (.Name "dict" p) [.Call (.Name "reversed" p2) [e] [] pos2] [] pos) (tDictRev X.K te) := by
  refine ⟨fun pins s σ H Q I h => ?_⟩
  refine Call_ (ld_blt I hg hm (show bootBuiltins "dict" = some (.type "dict") from by decide +kernel) (PyProof.Rows.callWith_type1 (args_cons (Call_ (ld_blt I hg2 hm2 PyProof.Rows.boot_reversed (PyProof.Rows.callWith_type1 (args_cons (thn (he.run pins s σ H _ I h) fun u s1 ⟨v, H1, I1, r1, q1⟩ => args_nil ?_) hs) hs rfl))) hs2) hs2 rfl))
  obtain ⟨a, ps, kvs, ev, hq, hp, q⟩ := q1
  subst ev
  obtain rfl : u = Value.ref a := r1
  obtain ⟨its, rv, p', hz⟩ := I1.list hq
  have ei := refs_at rv
  subst ei
  rw [List.length_map] at hz
  obtain ⟨prs, rel, hl, hpr⟩ := pairs_of I1 hp
  obtain ⟨vps, lv, hv⟩ := pair_vals hl hpr
  refine call_reversed_list p'.isList (args_nil ?_)
  have hlist := p'.isList
  obtain ⟨ol, hol, _⟩ := id hlist
  have hne : a ≠ s1.heap.objs.size := Nat.ne_of_lt (Heap.lt_size hol)
  have hat : ∀ j, j < vps.length → ∃ b u qv, ps[j]? = some b ∧ vps[j]? = some (u, qv) ∧ IsTup s1.heap b #[u, qv] := fun j hj => by
    obtain ⟨b, u, e1, e2, e3, e4⟩ := hv j _ (List.getElem?_eq_getElem (by omega : j < prs.length))
    exact ⟨b, u, _, e1, e2, e3⟩
  have hT : ∀ j, j < vps.length → ps.getD j 0 ≠ s1.heap.objs.size := fun j hj => by
    obtain ⟨b, u, qv, e1, e2, ⟨o, ho, _⟩⟩ := hat j hj
    rw [List.getD_eq_getElem?_getD, e1]
    exact Nat.ne_of_lt (Heap.lt_size ho)
  have hitems : ((ps.map Value.ref).toArray).size = vps.length := by simp; omega
  refine PySem.call_dict_pairs (knd := mixKind X.prog X.w) (kvs := prs.reverse) (s := { s1 with heap := s1.heap.push (revObj a (((ps.map Value.ref).toArray.size : Int) - 1)) }) (PairArg.rev s1.heap.objs.size a hne (ps.map Value.ref).toArray (fun j => ps.getD j 0) vps hT) (I1.ok.hd hc) ⟨Heap.get?_push_size _ rfl, hlist.push _, hitems, fun j k v e => ?_⟩ ⟨by rw [List.length_reverse, lv], fun i key v hr => ?_⟩ (by omega) fun h' tk hd' hk => ?_
  · have hj := (List.getElem?_eq_some_iff.mp e).1
    obtain ⟨b, u, qv, e1, e2, e3⟩ := hat j hj
    rw [e] at e2
    cases e2
    have eb : ps.getD j 0 = b := by rw [List.getD_eq_getElem?_getD, e1]; rfl
    refine ⟨by simp [e1], .inl ?_⟩
    show IsTup _ (ps.getD j 0) _
    rw [eb]
    exact e3.keeps fun b o z => Heap.get?_push_of_some _ z
  · obtain ⟨hi, e⟩ := hr
    obtain ⟨b, u, e1, e2, e3, e4⟩ := hv (vps.length - 1 - i) _ (List.getElem?_eq_getElem (by omega : vps.length - 1 - i < prs.length))
    rw [e] at e2
    have e2 := Option.some.inj e2
    have f1 : key = u := congrArg Prod.fst e2
    have f2 : v = (prs[vps.length - 1 - i]'(by omega)).2 := congrArg Prod.snd e2
    subst f1 f2
    refine ⟨_, ?_, e4⟩
    rw [List.getElem?_reverse (by omega), show prs.length - 1 - i = vps.length - 1 - i by omega]
    exact List.getElem?_eq_getElem (by omega)
  · have k1 : ∀ b o, s1.heap.get? b = some o → h'.get? b = some o := fun b o e => hk b o (fun z => by rw [List.mem_singleton.mp z] at e; exact absurd (Heap.lt_size e) (Nat.lt_irrefl _)) (Heap.get?_push_of_some _ e)
    have hm' : (((s1.heap.push (revObj a (((ps.map Value.ref).toArray.size : Int) - 1))).objs.size) == sysModules) = false := by
      have := I1.big
      exact beq_eq_false_iff_ne.mpr (Nat.ne_of_gt (Nat.lt_of_lt_of_le this (by simp [Heap.push])))
    have hlen : (mergeK [] kvs.reverse).length ≤ sizeLine := by
      refine Nat.le_trans (length_mergeK kvs.reverse []) ?_
      rw [List.length_nil, Nat.zero_add, List.length_reverse, rel.length, hl]
      exact hz
    have hge : s1.heap.objs.size ≤ (s1.heap.push (revObj a (((ps.map Value.ref).toArray.size : Int) - 1))).objs.size := by simp [Heap.push]
    exact ⟨.ref _, upd H1 _ (.dK (mergeK [] kvs.reverse)), I1.laid (t' := tk) k1 hge (show ObjOk X.prog X.w _ _ _ (.dK (mergeK [] kvs.reverse)) from ⟨hlen, hm', merged [] prs.reverse, KV.merge (paired_rev rel) .nil, hd'⟩), rfl, q _ (I1.hok.fresh hge)⟩
end
end L2
set_option Elab.async false
set_option linter.all false
set_option maxRecDepth 100000
set_option maxHeartbeats 4000000
set_option exponentiation.threshold 9000
/-! readings for the stores' laws: items of a dict, dicts of lists, displays of one pair, get, text * int -/
namespace Sl
open PySem L2 C8 StX PySem.Spec PyProof.Rows LiI RT
section
variable {σ : L2.St} {H H' : Hp} {Q : VK} {te td ty tv : TE} {K : PySem.W.Frag} {R : It → Hp → Prop} {g : TG} {tt : TT} {vs : List Nat} {x y v : V}
def itR (R : It → Hp → Prop) (x : V) (H1 : Hp) : Prop := ∃ d o kvs, x = .ref d ∧ H1 d = some (.frz o (.dK kvs)) ∧ R (Iti d o kvs) H1
theorem rd_iItems (h : td σ H fun x H1 => itR R x H1) : iItems td σ H R := h
theorem rd_itR {d : Addr} {o : Obj} {kvs : List (Key × V)} (e : H d = some (.frz o (.dK kvs))) (h : R (Iti d o kvs) H) : itR R (.ref d) H := ⟨d, o, kvs, rfl, e, h⟩
theorem lcR_items {d : Addr} {o : Obj} {kvs : List (Key × V)} (Pv : Addr → Nat → Hp → Prop) (hl : ∀ D i H', H D = none → Pv D i H' → H' d = some (.frz o (.dK kvs))) (h0 : ∀ D H', H D = none → Same H H' → H' D = some (.lst []) → H' = upd H D (.lst []) → Pv D 0 H')
    (hs : ∀ D i k z t H' H2, H D = none → kvs[i]? = some (k, z) → Pv D i H' → Same H' H2 → H2 t = some (.tup [kV k, z]) → g (.ref t) (wipe σ vs) H2 fun σ2 H2 => wipe σ2 vs = wipe σ vs ∧ tt σ2 H2 fun b H3 => if b = true then te σ2 H3 fun y H4 => LcE D (Pv D (i + 1)) y H4 else Pv D (i + 1) H3)
    (hd : ∀ D H', H D = none → Pv D kvs.length H' → Q (.ref D) H') : LcR (Iti d o kvs) g tt te vs σ H Q :=
  lcR_gen _ kvs.length Pv h0 (fun D i H' hD h p => ⟨hl D i H' hD p, h⟩) (fun D H' hD p => ⟨hl D _ H' hD p, Nat.le_refl _⟩)
    (fun D i H' x H2 hD hi p ⟨t, k, v, e1, e2, e3, e4⟩ => by subst e2; subst e4; exact hs D i k v t H' _ hD e1 p (Same.new (Same.refl H') e3) upd_same) hd
theorem rd_listIt0 (h : te σ H fun x H1 => rItemsL x H1 Q) : tListItems te σ H Q := h
theorem rd_listIt {d : Addr} {kvs : List (Key × V)} (e : H d = some (.dK kvs)) (h : ∀ H' p (ts : List Addr), Same H H' → H p = none → H' p = some (.lst (ts.map V.ref)) → Paired (fun (t : Addr) (q : Key × V) => H' t = some (.tup [kV q.1, q.2])) ts kvs → Q (.ref p) H') : rItemsL (.ref d) H Q :=
  ⟨d, kvs, rfl, e, fun H' p ts s hp _ _ ep pr => h H' p ts s hp ep pr⟩
def rDictRev (K : PySem.W.Frag) (v : V) (H1 : Hp) (Q : VK) : Prop := ∃ (a : Addr) (ps : List Addr) (kvs : List (Key × V)), v = .ref a ∧ SqL K H1 a (ps.map V.ref) ∧ Paired (fun p kv => SqT K H1 p [kV kv.1, kv.2]) ps kvs ∧ ∀ p, H1 p = none → Q (.ref p) (upd H1 p (.dK (mergeK [] kvs.reverse)))
theorem rd_dictRev0 (h : te σ H fun v H1 => rDictRev K v H1 Q) : tDictRev K te σ H Q := h
def rTupRev (K : PySem.W.Frag) (v : V) (H1 : Hp) (Q : VK) : Prop := ∃ (a : Addr) (xs : List V), v = .ref a ∧ SqL K H1 a xs ∧ ∀ q, H1 q = none → Q (.ref q) (upd H1 q (.tup xs.reverse))
theorem rd_tupRev0 (h : te σ H fun v H1 => rTupRev K v H1 Q) : tTupRev K te σ H Q := h
theorem rd_tupRev {a : Addr} {xs : List V} (e : SqL K H a xs) (h : ∀ q H', H q = none → Same H H' → H' q = some (.tup xs.reverse) → Q (.ref q) H') : rTupRev K (.ref a) H Q := ⟨a, xs, rfl, e, fun q hq => h q _ hq (Same.new (Same.refl H) hq) upd_same⟩
def rDGet1 (ty : TE) (x : V) (σ : L2.St) (H1 : Hp) (Q : VK) : Prop := ∃ a, x = .ref a ∧ IsD H1 a ∧ ty σ H1 fun y H2 => ∃ o, DGet H2 a y o ∧ Q (o.getD .non) H2
theorem rd_dget10 (h : td σ H fun x H1 => rDGet1 ty x σ H1 Q) : tDGet1 td ty σ H Q := h
/-- text * int -/
def rMulS : R2 := fun x y H Q => ∃ z n, x = .str z ∧ y = .int n ∧ 2 ≤ n ∧ n ≤ 100 ∧ 1 ≤ z.length ∧ z.length ≤ 100 ∧ ((⟨(List.replicate n.toNat z.cps).foldl (· ++ ·) #[]⟩ : Str).length ≤ 100000) ∧ Q (.str ⟨(List.replicate n.toNat z.cps).foldl (· ++ ·) #[]⟩) H
theorem op_mulS {X : Cx} : OpR X (binaryOp .Mult) rMulS := by
  intro pins s σ H x y v u Q I rx ry h
  obtain ⟨z, n, rfl, rfl, n0, n1, z0, z1, lz, q⟩ := h
  obtain ⟨t, rfl⟩ := rx
  obtain ⟨t', rfl⟩ := ry
  have e1 : (n == 1 || z.length == 0) = false := by
    rw [Bool.or_eq_false_iff]
    exact ⟨beq_eq_false_iff_ne.mpr (by omega), beq_eq_false_iff_ne.mpr (by omega)⟩
  refine PySem.P.mul_str (by rw [decide_eq_false (by omega), decide_eq_false (by omega)]; rfl) (fun _ _ => ?_) (fun _ _ => ?_) ?_
  · have h1 : (z.length : Int) * n ≤ 100 * 100 := Int.mul_le_mul (by omega) n1 (by omega) (by omega)
    have h2 : (z.length : Int) ≤ (2 ^ 63 - 1) / n := (Int.le_ediv_iff_mul_le (by omega)).mpr (Int.le_trans h1 (by decide))
    omega
  · refine decide_eq_false (Nat.not_lt.mpr (Nat.le_trans (m := 10000) ?_ (by decide)))
    have : n.toNat ≤ 100 := by omega
    exact Nat.mul_le_mul z1 this
  · rw [if_neg (by omega), e1, if_neg (by decide)]
    exact ⟨Nat.le_trans lz (by decide), ⟨.str _, H, I.tok _, ⟨_, rfl⟩, q⟩⟩
end
end Sl
set_option Elab.async false
set_option linter.all false
set_option maxRecDepth 100000
set_option maxHeartbeats 4000000
set_option exponentiation.threshold 9000
/-! {True: x}: a dict whose one key is a truth value -/
namespace L2
open PySem PySem.Spec PyProof.Rows PpSet
/-- the object at p is o -/
def BkO (p : Addr) (o : Obj) : HO := .ext fun h => h.get? p = some o
/-- o is a dict with the one key b -/
structure BkOk (P : Program) (w : World) (p : Addr) (o : Obj) (b : Bool) : Prop where
  sys : (p == sysModules) = false
  ex : o.ExactDict
  dt : ∃ es ep en, o.data = .dict es ep ∧ es.size = 1 ∧ es[0]? = some en ∧ en.key = Value.bool b
  of : ∃ u, ∀ h : Heap, h.get? p = some o → h.DictOf (boolK P w) p [(b, u)]
section
variable {X : Cx} {pins : List (Addr × Obj)} {σ : L2.St} {H : Hp} {s : Shared}
theorem bk_at {p : Addr} {o : Obj} (I : Inv X pins σ H s) (e : H p = some (BkO p o)) : s.heap.get? p = some o := (I.hok p _ e).1
/-- the display -/
def tDispB (P : Program) (w : World) (b : Bool) (tv : TE) : TE := fun σ H Q => ∀ p, H p = none → tv σ (upd H p (.dK [])) fun y H2 => H2 p = some (.dK []) ∧ ∀ o, BkOk P w p o b → Q (.ref p) (upd H2 p (BkO p o))
theorem pairs_nil {P : Program} {w : World} {h : Heap} {a : Addr} (d : h.DictOf (mixKind P w) a []) : h.DictOf (boolK P w) a [] := by
  obtain ⟨o, es, ep, h1, h2, h3, h4, h5, h6⟩ := d
  have e : es = #[] := by
    cases es with
    | mk l => cases l with
      | nil => rfl
      | cons x l => cases h5
  subst e
  exact ⟨o, #[], ep, h1, h2, h3, fun x hx => by simp at hx, .nil, List.nodup_nil⟩
theorem pe_dispB {b : Bool} {j : Nat} {pos pos' : Pos} {v : Expr} {tv : TE} (hv : PE X v tv) (hk : PE X (.Constant (.bool b) j pos') (tC (.bl b))) : PE X (.Dict [some (.Constant (.bool b) j pos')] [v] pos) (tDispB X.prog X.w b tv) := by
  refine ⟨fun pins s σ H Q I q => ?_⟩
  have hn := I.hok.fresh (Nat.le_refl s.heap.objs.size)
  have I1 := I.laid (a := s.heap.objs.size) (o := .dK []) (h' := s.heap.push { cls := .type "dict", data := .dict #[] }) (t' := s.toks) (fun _ _ q => Heap.get?_push_of_some _ q) (Nat.le_refl _) (dk_empty s.heap I.big)
  have q1 := q s.heap.objs.size hn
  refine wpAny_Dict_walk (knd := boolK X.prog X.w) rfl rfl (by simp) (by simp) ?_
  refine pairTrees_cons_walk (Constant_bool (thn (hv.run pins _ σ _ _ I1 q1) fun w2 s2 ⟨y, H2, I2, ry, e, q2⟩ => pairTrees_nil_walk ?_))
  obtain ⟨z, hd, vs0, r0, dd⟩ := dk_of I2.hok e
  cases r0
  refine ⟨[(b, w2)], ⟨boolK_is _ _ b, rfl, True.intro⟩, pairs_nil dd, fun h' dd' hs => ?_⟩
  obtain ⟨o, es, ep, h1, h2, h3, h4, h5, h6⟩ := dd'
  have hz : es.size = 1 ∧ ∃ en : DictEntry, es[0]? = some en ∧ en.key = Value.bool b := by
    have h5 : Pairs (boolK X.prog X.w) es.toList [(b, w2)] := h5
    cases hl : es.toList with
    | nil => rw [hl] at h5; cases h5
    | cons x l =>
      rw [hl] at h5
      cases h5 with
      | cons a c d =>
        cases d
        refine ⟨by rw [← Array.length_toList, hl]; rfl, x, by rw [← Array.getElem?_toList, hl]; rfl, isB_shape a⟩
  obtain ⟨hz, en, hen, hk⟩ := hz
  have ok : BkOk X.prog X.w s.heap.objs.size o b := ⟨hd, h2, ⟨es, ep, en, h3, hz, hen, hk⟩, w2, fun h e => ⟨o, es, ep, e, h2, h3, h4, h5, h6⟩⟩
  have new : ObjOk X.prog X.w (upd H2 s.heap.objs.size (BkO s.heap.objs.size o)) h' s.heap.objs.size (BkO s.heap.objs.size o) := ⟨h1, ⟨o, h1⟩, fun g1 g2 e1 k => k _ e1⟩
  exact ⟨.ref s.heap.objs.size, _, d_write I2 (by rw [e]; exact True.intro) hs ⟨o, h1⟩ new, rfl, q2 o ok⟩
/-- isinstance(x, dict) of such a dict -/
def rIsiB (P : Program) (w : World) : List V → Hp → VK → Prop := fun xs H Q => ∃ (p : Addr) (o : Obj) (b : Bool), xs = [.ref p, .ty "dict"] ∧ H p = some (BkO p o) ∧ BkOk P w p o b ∧ Q (.bl true) H
theorem cr_isiB : CallR X (.builtin "isinstance") (rIsiB X.prog X.w) := by
  intro pins s σ H xs us Q I r h
  obtain ⟨p, o, b, rfl, e, ok, q⟩ := h
  obtain ⟨u1, u2, rfl, r1, r2⟩ := vals2 r
  cases (show u1 = Value.ref p from r1)
  cases (show u2 = Value.type "dict" from r2)
  exact PySem.W.kia_one PySem.W.kitx_dict I.kIn ⟨o, bk_at I e, ok.ex.1⟩ (kit_ty (show kitB "dict" "dict" = some true by decide +kernel)) (fun z => nomatch z) fun tk => ⟨.bl true, H, I.tok tk, rfl, q⟩
/-- len of such a dict -/
def rLenB (P : Program) (w : World) : List V → Hp → VK → Prop := fun xs H Q => ∃ (p : Addr) (o : Obj) (b : Bool), xs = [.ref p] ∧ H p = some (BkO p o) ∧ BkOk P w p o b ∧ Q (.int 1) H
theorem cr_lenB : CallR X (.builtin "len") (rLenB X.prog X.w) := by
  intro pins s σ H xs us Q I r h
  obtain ⟨p, o, b, rfl, e, ok, q⟩ := h
  obtain ⟨u1, rfl, r1⟩ := vals1 r
  cases (show u1 = Value.ref p from r1)
  obtain ⟨u, d⟩ := ok.of
  exact PySem.call_len_dict ok.sys (d _ (bk_at I e)) (show (((1 : Nat) : Int)) < 2 ^ 63 by decide) ⟨.int 1, H, I.tok _, ⟨_, rfl⟩, q⟩
/-- the keys of such a dict -/
def Itb (d : Addr) (o : Obj) (b : Bool) : It :=
  ⟨fun i H => H d = some (BkO d o) ∧ i < 1, fun i H x H' => H' = H ∧ x = .bl b, fun i H => H d = some (BkO d o) ∧ 1 ≤ i⟩
theorem turn_keysB {P : Program} {w : World} {K : PySem.W.Frag} {tg : Expr} {d : Addr} {o : Obj} {b : Bool} {es : Array DictEntry} {ep : Nat} {en : DictEntry} (it : Addr) (hd : o.data = .dict es ep) (hz : es.size = 1) (hen : es[0]? = some en) (hk : en.key = Value.bool b) :
    Turn P w K tg (Itb d o b) [it] it (fun i h => h.IsKeyIter it d i 1 ep) where
  mem := by simp
  obj := fun i h st b hb => by
    have e : b = it := by simpa using hb
    subst e
    obtain ⟨oi, e, c, dd⟩ := st
    exact ⟨oi, e, fun v z => by rw [dd] at z; cases z⟩
  keep := fun i h h' st k => st.at fun oi e => k it (by simp) oi e
  item := by
    intro X hP hw hK hc i pins s σ H E I hf st hg
    subst hP hw hK
    obtain ⟨hdd, hi⟩ := hg
    obtain ⟨f0, f1, f2, f3, f4, f5⟩ := hf it (by simp)
    obtain rfl : i = 0 := by omega
    refine next_key_item st (bk_at I hdd) hd hz hen fun h' st' sb => ?_
    have I1 : Inv X pins σ H { s with heap := h' } := I.turned (t' := s.toks) (fun b ob hb e => (sb.2 b hb).trans e) f0 f1 f3 f4 f5
    obtain ⟨oi, e, c, dd⟩ := id st'
    exact ⟨en.key, rfl, go_of (s := { s with heap := h' }) e c dd (by decide) ⟨.bl b, H, I1, hk, ⟨rfl, rfl⟩, st', fun b hb => (hf b hb).1⟩⟩
  done := by
    intro X hP hw hK hc i pins s σ H E I hf st hg
    subst hP hw hK
    obtain ⟨hdd, hi⟩ := hg
    obtain ⟨f0, f1, f2, f3, f4, f5⟩ := hf it (by simp)
    exact next_key_end (I.ok.hd hc) st (bk_at I hdd) hd hz hi fun h' eb => ⟨rfl, I.turned (t' := s.toks) (fun b ob hb e => eb b ob hb e) f0 f1 f3 f4 f5⟩
  self := fun A i s Q E st h => wpAny_pyIter_keyiter st h
def iKeysB (P : Program) (w : World) (td : TE) : TI := fun σ H R => td σ H fun x H1 => ∃ d o b, x = .ref d ∧ H1 d = some (BkO d o) ∧ BkOk P w d o b ∧ R (Itb d o b) H1
theorem pi_keysB {tg e : Expr} {td : TE} (he : PE X e td) : PI X tg e (iKeysB X.prog X.w td) := by
  refine ⟨fun pins s σ H R I h => ?_⟩
  refine thn (he.run pins s σ H _ I h) fun u s1 ⟨x, H1, I1, rx, d, o, b, ex, hd, ok, q⟩ => ?_
  subst ex
  obtain rfl : u = Value.ref d := rx
  obtain ⟨es, ep, en, h3, hz, hen, hk⟩ := ok.dt
  refine iter_keys ok.sys (bk_at I1 hd) ok.ex h3 (pi_one (tk := s1.toks) I1 _ (turn_keysB _ h3 hz hen hk) ⟨_, Heap.get?_push_size _ rfl, rfl, ?_⟩ q)
  rw [hz] <;> rfl
end
end L2
namespace Sl
open PySem L2 C8 StX
section
variable {σ : L2.St} {H H1 : Hp} {Q : VK} {K : PySem.W.Frag} {P : Program} {w : World} {te td : TE} {R : It → Hp → Prop} {g : TG} {tt : TT} {vs : List Nat}
theorem rd_isiB {p : Addr} {o : Obj} {b : Bool} (e : H p = some (BkO p o)) (ok : BkOk P w p o b) (h : Q (.bl true) H) : rIsiB P w [.ref p, .ty "dict"] H Q := ⟨p, o, b, rfl, e, ok, h⟩
theorem rd_lenB {p : Addr} {o : Obj} {b : Bool} (e : H p = some (BkO p o)) (ok : BkOk P w p o b) (h : Q (.int 1) H) : rLenB P w [.ref p] H Q := ⟨p, o, b, rfl, e, ok, h⟩
def rKeysB (P : Program) (w : World) (R : It → Hp → Prop) (x : V) (H1 : Hp) : Prop := ∃ d o b, x = .ref d ∧ H1 d = some (BkO d o) ∧ BkOk P w d o b ∧ R (Itb d o b) H1
theorem rd_iKeysB (h : td σ H fun x H1 => rKeysB P w R x H1) : iKeysB P w td σ H R := h
theorem rd_keysB {d : Addr} {o : Obj} {b : Bool} (e : H d = some (BkO d o)) (ok : BkOk P w d o b) (h : R (Itb d o b) H) : rKeysB P w R (.ref d) H := ⟨d, o, b, rfl, e, ok, h⟩
end
end Sl
set_option Elab.async false
set_option linter.all false
set_option maxRecDepth 100000
set_option maxHeartbeats 4000000
/-! an own instance == an int, by the own __eq__ -/
namespace L2
open PySem PySem.Spec PyProof.Rows
section
variable {X : Cx} {k j : Nat} {C : Addr} {sp : Sp} {dvs : List V}
def rEqOI (C : Addr) (sp : Sp) (dvs : List V) : R2 := fun x y H Q => ∃ (a dx : Addr) (fs : List (Str × V)) (i : Int), x = .ref a ∧ y = .int i ∧ H a = some (.ins C dx fs) ∧ sp ([.ref a, .int i] ++ dvs) H (fun v H' => ∃ k, v = .bl k ∧ Q v H') C8.E0
theorem op_eqOI (c : C8.Met X.prog X.w X.K X.mg X.base k C "__eq__" sp dvs) (hr : Room j X.A) (hk : k ≤ j) (hn : PySem.W.subIn X.K (.type "int") (.ref C) = some false) : OpR X (compareOp .Eq) (rEqOI C sp dvs) := by
  obtain ⟨f, fd, ps, ds, cl, hm, F, bd, d⟩ := c.ex
  intro pins s σ H x y v u Q I rx ry h
  obtain ⟨o, dx, fs, i, rfl, rfl, e, q⟩ := h
  obtain rfl : v = Value.ref o := rx
  obtain ⟨t, rfl⟩ := ry
  obtain ⟨mA, O, _, _, _, _⟩ := ins_get I.hok e
  obtain ⟨od, J, _⟩ := O.look
  obtain ⟨m, F0⟩ := I.fr
  refine PySem.W.cmp_K (op := .Eq) (tb := .type "int") hr.units0 F0 I.ok.mod.kin J (fun _ _ _ _ _ q => wpAny_pure q) (by unfold PySem.W.notFirst; rw [hn]; simp) hm.at_ hm.fn (wpAny_mono (run_fn (us := [.ref o, .int i t]) (vs := [.ref o, .int i]) F (hr.mono hk) bd d C8.pass0 I (.cons rfl (.cons ⟨t, rfl⟩ .nil)) q) (fun v s2 y => ?_) fun _ _ y => y)
  obtain ⟨x2, H2, I2, rx2, b, rfl, q2⟩ := y
  obtain rfl : v = Value.bool b := rx2
  exact ⟨.bl b, H2, I2, rfl, q2⟩
end
end L2
namespace Sl
open PySem L2 C8 StX
theorem rd_eqOI {H : Hp} {Q : VK} {C a dx : Addr} {sp : Sp} {dvs : List V} {fs : List (Str × V)} {i : Int} (e : H a = some (.ins C dx fs)) (h : sp ([.ref a, .int i] ++ dvs) H (fun v H' => ∃ k, v = .bl k ∧ Q v H') C8.E0) : rEqOI C sp dvs (.ref a) (.int i) H Q := ⟨a, dx, fs, i, rfl, rfl, e, h⟩
end Sl
set_option Elab.async false
set_option linter.all false
set_option maxRecDepth 100000
set_option maxHeartbeats 4000000
set_option exponentiation.threshold 9000
/-! readings: displays of one pair, tuple + tuple, list(range), dict of pairs -/
namespace Sl
open PySem L2 C8 StX PySem.Spec PyProof.Rows
section
variable {σ : L2.St} {H H' : Hp} {Q : VK} {te tk tv : TE} {K : PySem.W.Frag} {x y v : V} {P : Program} {w : World}
def rDisp1 (p : Addr) (Q : VK) (x y : V) (H2 : Hp) : Prop := H2 p = some (.dK []) ∧ ∃ kvs : List (Key × V), [(x, y)] = kvs.map (fun kv => (kV kv.1, kv.2)) ∧ kvs.length ≤ 15 ∧ Q (.ref p) (upd H2 p (.dK (mergeK [] kvs)))
theorem rd_disp1 (h : ∀ p H1, H p = none → Same H H1 → H1 p = some (.dK []) → tk σ H1 fun x H2 => tv σ H2 fun y H3 => rDisp1 p Q x y H3) : tDisp [(tk, tv)] σ H Q :=
  fun p hp => h p _ hp (Same.new (Same.refl H) hp) upd_same
theorem rd_d1 {p : Addr} {i : Int} {H2 : Hp} (e : H2 p = some (.dK [])) (h : ∀ H3, H3 = upd H2 p (.dK [(Sum.inl i, y)]) → H3 p = some (.dK [(Sum.inl i, y)]) → Q (.ref p) H3) : rDisp1 p Q (.int i) y H2 := ⟨e, [(Sum.inl i, y)], rfl, Nat.le_of_lt_succ (by decide : 1 < 16), h _ rfl upd_same⟩
def rDispB (P : Program) (w : World) (b : Bool) (p : Addr) (Q : VK) (y : V) (H2 : Hp) : Prop := H2 p = some (.dK []) ∧ ∀ o, BkOk P w p o b → Q (.ref p) (upd H2 p (BkO p o))
theorem rd_dispB {b : Bool} (h : ∀ p H1, H p = none → Same H H1 → H1 p = some (.dK []) → tv σ H1 fun y H2 => rDispB P w b p Q y H2) : tDispB P w b tv σ H Q :=
  fun p hp => h p _ hp (Same.new (Same.refl H) hp) upd_same
theorem rd_dB {b : Bool} {p : Addr} {H2 : Hp} (e : H2 p = some (.dK [])) (h : ∀ o H3, BkOk P w p o b → H3 = upd H2 p (BkO p o) → H3 p = some (BkO p o) → Q (.ref p) H3) : rDispB P w b p Q y H2 := ⟨e, fun o ok => h o _ ok rfl upd_same⟩
theorem rd_catA {a b : Addr} {xs ys : List V} (e1 : H a = some (.tup xs)) (e2 : H b = some (.tup ys)) (l : xs.length + ys.length ≤ 100000) (h : ∀ p H', Same H H' → H' p = some (.tup (xs ++ ys)) → Q (.ref p) H') : rCatA K (.ref a) (.ref b) H Q := by
  refine ⟨a, b, xs, ys, rfl, rfl, SqT.of e1, SqT.of e2, Nat.le_trans l (by decide), fun z => ?_, fun _ z => ?_, fun _ _ p hp => h p _ (Same.new (Same.refl H) hp) upd_same⟩
  · subst z; exact h b H (Same.refl H) e2
  · subst z; exact h a H (Same.refl H) (by rw [List.append_nil]; exact e1)
def rLstRg (Q : VK) (a b : Int) (H1 : Hp) : Prop := RgOk a b ∧ ∀ q, H1 q = none → Q (.ref q) (upd H1 q (.lst (rgV a b)))
theorem rd_listRg0 {tr : L2.St → Hp → (Int → Int → Hp → Prop) → Prop} (h : tr σ H fun a b H1 => rLstRg Q a b H1) : tLstRg tr σ H Q := h
end
end Sl
set_option Elab.async false
set_option linter.all false
set_option maxRecDepth 100000
set_option maxHeartbeats 4000000
set_option exponentiation.threshold 9000
/-! ### list(reversed(a list)) -/
namespace LiR
open PySem PySem.Spec PyProof.Rows RT
section
variable {prog : Program} {w : World} {A : Around} {s : Shared} {R : Result → Shared → Prop}
theorem extend_rev (hh : A.handled = none) {it l S : Addr} {items : Array Value} (res : Value) (c0 : Nat) (hit : s.heap.IsRevIter it l ((items.size : Int) - 1)) (hl : s.heap.IsList l items) (hne : l ≠ it) (hn : items.size ≤ sizeLine) (hS : s.heap.get? S = some { cls := Value.type "list", data := Data.seq #[] c0 }) (hSi : S ≠ it) (hSl : S ≠ l)
    (hR : ∀ (h' : Heap) (tk : Nat) (acc' : Array Value) (c' : Nat), (∀ (b : Addr) (o : Obj), b ≠ S → b ≠ it → s.heap.get? b = some o → h'.get? b = some o) → h'.get? S = some { cls := Value.type "list", data := Data.seq acc' c' } →
      ItemsOf (fun i v => items[items.size - 1 - i]? = some v) acc' items.size → R (.ok (.ret res)) { heap := h', gens := s.gens, drawn := s.drawn, toks := tk, os := s.os }) :
    wpAny (model prog w) A.in1 (Builtin.List.listExtendWith (.ref S) (.ref it) res) (fun fin s' => match fin with | .done f => R (.ok f) s' | .again c' => c'.quiet = true ∧ codeAny (model prog w) A c' R s') (fun e s' => R (.error e) s') s := by
  have W := Walks.toS (Walks.listRev (prog := prog) (w := w) (A := A.in1) hh it l hne items)
  have hT := hit.typeIs
  have h1 : Builtin.List.listSameRef (.ref S) (.ref it) = false := by simp [Builtin.List.listSameRef, hSi]
  unfold Builtin.List.listExtendWith
  refine wpAny_bind (wpAny_typeOf hT ?_)
  rw [if_neg (by rw [h1]; decide)]
  refine wpAny_bind (wpAny_pyIter_revIter hit (wpAny_bind (wpAny_holding ?_)))
  unfold Builtin.List.listLengthHint
  refine wpAny_bind (wpAny_specialOf hT nolen_lri ?_)
  refine wpAny_bind (wpAny_specialOf hT hint_lri ?_)
  have e1 : splitId "list_reverseiterator.__length_hint__" = some ("list_reverseiterator", "__length_hint__") := by decide +kernel
  simp only [e1]
  have f5 : isSubtype (.type "list_reverseiterator") (.type "list_reverseiterator") = pure true := by rw [isSubtype_type]; kernel_rfl
  refine wpAny_bind ?_
  iterate 6 (any_goals (first | assumption | wp_step))
  refine wpAny_pure ⟨plainId_quiet F.plain_extend_loop _, codeAny_extend_loopS W hn S (by simp [hSi, hSl]) res items.size 0 s #[] c0 (Nat.sub_zero _) (Nat.zero_le _) ⟨Nat.zero_le _, by simpa using hit, hl⟩ hS ?_ fun s' acc' c' mv hS' hacc => ?_⟩
  · exact ⟨rfl, fun j v h => by simp at h⟩
  · obtain ⟨hp, g, d, tk, os⟩ := s'
    obtain ⟨m1, m2, m3, m4, m5⟩ := mv
    have m2 : g = s.gens := m2
    have m3 : d = s.drawn := m3
    have m4 : os = s.os := m4
    subst m2 m3 m4
    exact hR hp tk acc' c' (fun b o h1 h2 => m1 b o (by simp [h1, h2])) hS' hacc
theorem list_init_rev (hh : A.handled = none) {it l S : Addr} {items : Array Value} (hit : s.heap.IsRevIter it l ((items.size : Int) - 1)) (hl : s.heap.IsList l items) (hne : l ≠ it) (hn : items.size ≤ sizeLine) (hS : s.heap.get? S = some { cls := Value.type "list", data := Data.seq #[] }) (hSi : S ≠ it) (hSl : S ≠ l)
    (hR : ∀ (h' : Heap) (tk : Nat) (acc' : Array Value) (c' : Nat), (∀ (b : Addr) (o : Obj), b ≠ S → b ≠ it → s.heap.get? b = some o → h'.get? b = some o) → h'.get? S = some { cls := Value.type "list", data := Data.seq acc' c' } →
      ItemsOf (fun i v => items[items.size - 1 - i]? = some v) acc' items.size → R (.ok (.ret .none)) { heap := h', gens := s.gens, drawn := s.drawn, toks := tk, os := s.os }) :
    wpAny (model prog w) A.in1 (Builtin.«list.__init__» { pos := [.ref S, .ref it] }) (fun fin s' => match fin with | .done f => R (.ok f) s' | .again c' => c'.quiet = true ∧ codeAny (model prog w) A c' R s') (fun e s' => R (.error e) s') s := by
  refine wpAny_bind ?_
  refine wpAny_bind (wpAny_seqItems hS rfl (wpAny_pure ?_))
  refine wpAny_bind (wpAny_updateSeq hS rfl ?_ (by rw [sizeLine_eq]; simp) (by rw [sizeLine_eq]; simp))
  have hS₂ := Heap.get?_update_self (Obj.mapSeq fun x => #[]) hS rfl
  have oth : ∀ b o, b ≠ S → s.heap.get? b = some o → (s.heap.update S (Obj.mapSeq fun x => #[])).get? b = some o := fun b o hb e => (Heap.get?_update_other s.heap (Obj.mapSeq fun x => #[]) (Ne.symm hb)).trans e
  refine wpAny_bind (wpAny_letGo ?_)
  obtain ⟨oi, hoi, r1⟩ := id hit
  obtain ⟨ol, hol, r2⟩ := id hl
  refine extend_rev (s := { s with heap := s.heap.update S (Obj.mapSeq fun x => #[]) }) hh (it := it) (l := l) .none _ ⟨oi, oth _ _ hSi.symm hoi, r1⟩ ⟨ol, oth _ _ hSl.symm hol, r2⟩ hne hn hS₂ hSi hSl fun h' tk acc' c' k1 k2 k3 => ?_
  exact hR h' tk acc' c' (fun b o h1 h2 e => k1 b o h1 h2 (oth b o h1 e)) k2 k3
theorem call_list_rev {E : Value → Shared → Prop} {Q : Value → Shared → Prop} (hh : A.handled = none) {it l : Addr} {items : Array Value} (hit : s.heap.IsRevIter it l ((items.size : Int) - 1)) (hl : s.heap.IsList l items) (hne : l ≠ it) (hn : items.size ≤ sizeLine)
    (hQ : ∀ (h' : Heap) (tk : Nat) (acc' : Array Value) (c' : Nat), (∀ (b : Addr) (o : Obj), b ≠ it → s.heap.get? b = some o → h'.get? b = some o) → h'.get? s.heap.objs.size = some { cls := Value.type "list", data := Data.seq acc' c' } →
      ItemsOf (fun i v => items[items.size - 1 - i]? = some v) acc' items.size → Q (.ref s.heap.objs.size) { heap := h', gens := s.gens, drawn := s.drawn, toks := tk, os := s.os }) :
    wpAny (model prog w) A (call (.type "list") [.ref it]) Q E s := by
  refine callType_codes (Q₁ := fun obj s₁ => obj = .ref s.heap.objs.size ∧ s₁ = { s with heap := s.heap.push { cls := Value.type "list", data := Data.seq #[] } }) F.called_list (F.typeCall_list_1 (.ref it)) F.entry_list_init (code_list_new (.ref it) ⟨rfl, rfl⟩) fun obj s₁ h₁ => ?_
  obtain ⟨e1, e2⟩ := h₁
  subst e1 e2
  obtain ⟨oi, hoi, r1⟩ := id hit
  obtain ⟨ol, hol, r2⟩ := id hl
  have hS : (s.heap.push { cls := Value.type "list", data := Data.seq #[] }).get? s.heap.objs.size = some { cls := Value.type "list", data := Data.seq #[] } := Heap.get?_push_size s.heap rfl
  have kp : ∀ b o, s.heap.get? b = some o → (s.heap.push { cls := Value.type "list", data := Data.seq #[] }).get? b = some o := fun b o e => Heap.get?_push_of_some _ e
  refine ⟨⟨_, hS, rfl⟩, F.args_list_init_2 _ _, list_init_rev (A := A.in1) (R := wants (fun r s₂ => r = Value.none ∧ Q (.ref s.heap.objs.size) s₂) E) (s := { s with heap := s.heap.push { cls := Value.type "list", data := Data.seq #[] } }) hh (it := it) (l := l) ⟨oi, kp _ _ hoi, r1⟩ ⟨ol, kp _ _ hol, r2⟩ hne hn hS (Nat.ne_of_gt (Heap.lt_size hoi)) (Nat.ne_of_gt (Heap.lt_size hol)) fun h' tk acc' c' k1 k2 k3 => ⟨rfl, hQ h' tk acc' c' (fun b o h1 e => k1 b o (Nat.ne_of_lt (Heap.lt_size e)) h1 (kp b o e)) k2 k3⟩⟩
end
end LiR
namespace L2
open PySem PySem.Spec PyProof.Rows RT
def rLstRev (K : PySem.W.Frag) (v : V) (H1 : Hp) (Q : VK) : Prop := ∃ (a : Addr) (xs : List V), v = .ref a ∧ SqL K H1 a xs ∧ ∀ q, H1 q = none → Q (.ref q) (upd H1 q (.lst xs.reverse))
/-- list(reversed(x)), x a list -/
def tLstRev (K : PySem.W.Frag) (te : TE) : TE := fun σ H Q => te σ H fun v H1 => ∃ (a : Addr) (xs : List V), v = .ref a ∧ SqL K H1 a xs ∧ ∀ q, H1 q = none → Q (.ref q) (upd H1 q (.lst xs.reverse))
theorem pe_lstRev {X : Cx} {e : Expr} {te : TE} {p p2 pos pos2 : Pos} (hc : X.calm = true) (hg : Gl X "list") (hm : X.mg "list" = none) (hg2 : Gl X "reversed") (hm2 : X.mg "reversed" = none) (he : PE X e te)
    (hs : starEach [e] X.env = (false, eval e X.env) :: starEach [] X.env := by rfl)
    (hs2 : starEach [.Call (.Name "reversed" p2) [e] [] pos2] X.env = (false, eval (.Call (.Name "reversed" p2) [e] [] pos2) X.env) :: starEach [] X.env := by rfl) :
    PE X (.Call (.Name "list" p) [.Call (.Name "reversed" p2) [e] [] pos2] [] pos) (tLstRev X.K te) := by
  refine ⟨fun pins s σ H Q I h => ?_⟩
  refine Call_ (ld_blt I hg hm (show bootBuiltins "list" = some (.type "list") from by decide +kernel) (PyProof.Rows.callWith_type1 (args_cons (Call_ (ld_blt I hg2 hm2 PyProof.Rows.boot_reversed (PyProof.Rows.callWith_type1 (args_cons (thn (he.run pins s σ H _ I h) fun u s1 ⟨v, H1, I1, r1, q1⟩ => args_nil ?_) hs) hs rfl))) hs2) hs2 rfl))
  obtain ⟨a, xs, ev, hq, q⟩ := q1
  subst ev
  obtain rfl : u = Value.ref a := r1
  obtain ⟨its, rv, p', hz⟩ := I1.list hq
  refine call_reversed_list p'.isList (args_nil ?_)
  have hlist := p'.isList
  obtain ⟨ol, hol, hl2⟩ := id hlist
  have hne : a ≠ s1.heap.objs.size := Nat.ne_of_lt (Heap.lt_size hol)
  have lz : its.length = xs.length := rv.length.symm
  refine LiR.call_list_rev (s := { s1 with heap := s1.heap.push (revObj a ((its.toArray.size : Int) - 1)) }) (I1.ok.hd hc) (it := s1.heap.objs.size) (l := a) (items := its.toArray) ⟨_, Heap.get?_push_size _ rfl, rfl, ?_⟩ (hlist.push _) hne (by rw [List.size_toArray, lz]; exact hz) fun h' tk acc' c' k1 k2 k3 => ?_
  · rfl
  · have k0 : ∀ b o, s1.heap.get? b = some o → h'.get? b = some o := fun b o e => k1 b o (Nat.ne_of_lt (Heap.lt_size e)) (Heap.get?_push_of_some _ e)
    have hge : s1.heap.objs.size ≤ (s1.heap.push (revObj a ((its.toArray.size : Int) - 1))).objs.size := by simp [Heap.push]
    have eacc : acc'.toList = its.reverse := by
      obtain ⟨z1, z2⟩ := k3
      have z1 : acc'.size = its.length := z1
      refine List.ext_getElem? fun j => ?_
      by_cases c : j < its.length
      · have hj : j < acc'.size := by omega
        have := z2 j acc'[j] (by simp [hj])
        have e1 : its[its.length - 1 - j]? = some acc'[j] := by simpa using this
        rw [Array.getElem?_toList, List.getElem?_reverse c, e1]
        simp [hj]
      · rw [List.getElem?_eq_none (by rw [Array.length_toList]; omega), List.getElem?_eq_none (by rw [List.length_reverse]; omega)]
    refine ⟨.ref _, upd H1 _ (.lst xs.reverse), I1.laid (t' := tk) k0 hge (show ObjOk X.prog X.w _ _ _ (.lst xs.reverse) from ⟨by rw [List.length_reverse]; exact hz, its.reverse, c', rv.reverse, ?_⟩), rfl, q _ (I1.hok.fresh hge)⟩
    rw [← eacc]
    exact k2
end L2
namespace Sl
open PySem L2 C8 StX
theorem rd_lstRev0 {te : TE} {σ : L2.St} {H : Hp} {Q : VK} {K : PySem.W.Frag} (h : te σ H fun v H1 => rLstRev K v H1 Q) : tLstRev K te σ H Q := h
theorem rd_lstRev {H : Hp} {Q : VK} {K : PySem.W.Frag} {a : Addr} {xs : List V} (e : SqL K H a xs) (h : ∀ q H', H q = none → Same H H' → H' q = some (.lst xs.reverse) → Q (.ref q) H') : rLstRev K (.ref a) H Q := ⟨a, xs, rfl, e, fun q hq => h q _ hq (Same.new (Same.refl H) hq) upd_same⟩
end Sl
set_option Elab.async false
set_option linter.all false
set_option maxRecDepth 100000
set_option maxHeartbeats 4000000
/-! max of a tuple of ints -/
namespace L2
open PySem PySem.Spec PyProof.Rows RT
def rMaxT (K : PySem.W.Frag) : List V → Hp → VK → Prop := fun vs H Q => ∃ (a : Addr) (ns : List Int), vs = [V.ref a] ∧ SqT K H a (ns.map V.int) ∧ 0 < ns.length ∧ ∀ m, m ∈ ns → (∀ y, y ∈ ns → y ≤ m) → Q (.int m) H
theorem cmp_gt_ints {prog : Program} {w : World} {A : Around} {its : List Value} {ns : List Int} (h : Vals (ns.map V.int) its) : CmpOf prog w A CmpOp.Gt (fun i v => its.toArray[i]? = some v) (fun i j => decide (ns.getD i 0 > ns.getD j 0)) := by
  have key : ∀ i v, its.toArray[i]? = some v → ∃ t, v = Value.int (ns.getD i 0) t := by
    intro i v hv
    have hv : its[i]? = some v := by simpa using hv
    have hi := (List.getElem?_eq_some_iff.mp hv).1
    have hl := h.length
    rw [List.length_map] at hl
    cases e : ns[i]? with
    | none =>
      have := List.getElem?_eq_none_iff.mp e
      omega
    | some n =>
      obtain ⟨u, hu, rx⟩ := Vals.get h (i := i) (x := V.int n) (by rw [List.getElem?_map, e]; rfl)
      rw [hv] at hu
      cases hu
      obtain ⟨t, rfl⟩ := rx
      refine ⟨t, ?_⟩
      rw [List.getD_eq_getElem?_getD, e]
      rfl
  intro i j vi vj s Q E h1 h2 hq
  obtain ⟨t1, rfl⟩ := key i vi h1
  obtain ⟨t2, rfl⟩ := key j vj h2
  have ht : ∀ bb, (Made.val (Value.bool bb)).takes := fun bb => by cases bb <;> (unfold Made.takes; simp)
  exact richCompare_gives (T := "int") rfl rfl F.slot_int_gt F.entry_int_gt (F.args_int_gt_2 _ _) (gives_int_gt _ _ _ _) (ht _) hq
theorem cr_maxT {X : Cx} (hc : X.calm = true) : CallR X (.builtin "max") (rMaxT X.K) := by
  intro pins s σ H xs us Q I r h
  obtain ⟨a, ns, rfl, hs, hne, q⟩ := h
  have e1 := Vals.ref1 r
  subst e1
  obtain ⟨its, rv, hl, hz⟩ := I.tuple hs
  have lz : its.length = ns.length := by have := rv.length; rw [List.length_map] at this; exact this.symm
  obtain ⟨o, ho, hc2, n, hd⟩ := id hl
  refine call_max_walk (wpAny_pyIter_tuple ⟨o, ho, hc2, n, hd⟩ ?_)
  have hne2 : a ≠ s.heap.objs.size := Nat.ne_of_lt (Heap.lt_size ho)
  refine ⟨s.heap.objs.size, _, _, _, _, _, _, rfl, Walks.tuple (A := X.A.in1) (I.ok.hd hc) s.heap.objs.size a hne2 its.toArray, ⟨⟨_, Heap.get?_push_size _ rfl, rfl, rfl⟩, ⟨o, Heap.get?_push_of_some _ ho, hc2, n, hd⟩⟩, fun b hb => ?_, by rw [List.size_toArray, lz]; exact hne, cmp_gt_ints rv, fun v h' tk hP hk => ?_⟩
  · rcases List.mem_cons.mp hb with rfl | hb
    · simp [Heap.push]
    · rw [List.mem_singleton.mp hb]
      exact Nat.lt_of_lt_of_le (Heap.lt_size ho) (by simp [Heap.push])
  · have kp : ∀ b o, s.heap.get? b = some o → h'.get? b = some o := fun b o e => hk b o (fun z => by rw [List.mem_singleton.mp z] at e; exact absurd (Heap.lt_size e) (Nat.lt_irrefl _)) (Heap.get?_push_of_some _ e)
    obtain ⟨g1, g2⟩ := argBest_gt (fun i => ns.getD i 0) (its.toArray.size - 1)
    rw [List.size_toArray, lz] at g1 g2 hP
    generalize argBest (fun i j => decide (ns.getD i 0 > ns.getD j 0)) (ns.length - 1) = b at *
    have hb : b < ns.length := by omega
    obtain ⟨u, hu, t, rfl⟩ := Vals.get rv (i := b) (x := V.int ns[b]) (by rw [List.getElem?_map, List.getElem?_eq_getElem hb]; rfl)
    have hP : its[b]? = some v := by simpa using hP
    rw [hu] at hP
    cases hP
    refine ⟨.int ns[b], H, I.kept kp, ⟨t, rfl⟩, q ns[b] (List.getElem_mem hb) fun y hy => ?_⟩
    obtain ⟨j, hj, rfl⟩ := List.getElem_of_mem hy
    have := g2 j (by omega)
    have e1 : ns.getD j 0 = ns[j] := by rw [List.getD_eq_getElem?_getD, List.getElem?_eq_getElem hj]; rfl
    have e2 : ns.getD b 0 = ns[b] := by rw [List.getD_eq_getElem?_getD, List.getElem?_eq_getElem hb]; rfl
    rw [e1, e2] at this
    exact this
end L2
namespace Sl
open PySem L2 C8 StX
theorem rd_maxT {K : PySem.W.Frag} {H : Hp} {Q : VK} {a : Addr} {ns : List Int} (e : SqT K H a (ns.map V.int)) (l : 0 < ns.length) (h : ∀ m, m ∈ ns → (∀ y, y ∈ ns → y ≤ m) → Q (.int m) H) : rMaxT K [.ref a] H Q := ⟨a, ns, rfl, e, l, h⟩
end Sl
set_option Elab.async false
set_option linter.all false
set_option maxRecDepth 100000
set_option maxHeartbeats 4000000
set_option exponentiation.threshold 9000
namespace StarRg
open PySem PyProof.Rows PyProof L2
/-! ### f(.., *range(a, b), ..) and [.., *range(a, b), ..] -/
theorem code_collect_range {prog : Program} {w : World} {A : Around} {R : Result → Shared → Prop} {s : Shared} {r : Addr} {a b c : Int} {t u v : Tok} {n : Nat} (hh : A.handled = none) (hr : IsRange s.heap r a b c t u v) (hs : Builtin.Range.small a b c = true) (hz : Builtin.Range.rangeSize a b c = ↑n) (hn : n ≤ 2^24)
    (h : ∀ (h' : Heap) (tk : Nat) (L : Addr) (acc : Array Value) (c' : Nat), (∀ b o, s.heap.get? b = some o → h'.get? b = some o) → h'.get? L = some { cls := .type "list", data := .seq acc c' } → ItemsOf (fun i v => ∃ t, v = .int (a + (i : Int) * c) t) acc n → R (.ok (.ret (.ref L))) { s with heap := h', toks := tk }) :
    codeAny (model prog w) A (.builtin "proto.collect" { pos := [.ref r] }) R s := by
  refine codeAny_builtin entry_proto_collect' ?_
  refine wpAny_bind (wpAny_newList ?_)
  refine wpAny_pure ?_
  refine ⟨plainId_quiet (by decide +kernel) _, codeAny_builtin entry_list_iadd' ?_⟩
  have e : A.under (Code.builtin "list.__iadd__" { pos := [Value.ref s.heap.objs.size, Value.ref r] }) = A.in1 := by rfl
  rw [e]
  unfold Builtin.«list.__iadd__»
  refine wpAny_bind ?_
  unfold slotArgs
  refine wpAny_pure ?_
  have hS : ({ s with heap := s.heap.push { cls := Value.type "list", data := Data.seq (List.toArray []) } } : Shared).heap.get? s.heap.objs.size = some { cls := Value.type "list", data := Data.seq #[] 0 } := Heap.get?_push_size _ rfl
  show wpAny _ _ (Builtin.List.listExtendWith (.ref s.heap.objs.size) (.ref r) (.ref s.heap.objs.size)) _ _ _
  refine wpAny_extend_range (R := R) (s := { s with heap := s.heap.push { cls := Value.type "list", data := Data.seq (List.toArray []) } }) hh (Heap.get?_push_of_some _ hr) hs hz hn s.heap.objs.size _ 0 hS fun h' tk acc' c' kp hS' it => ?_
  exact h h' tk s.heap.objs.size acc' c' (fun b o e => kp b o (Nat.ne_of_lt (Heap.lt_size e)) (Heap.get?_push_of_some _ e)) hS' it
theorem collect_range {prog : Program} {w : World} {A : Around} {E : Value → Shared → Prop} {s : Shared} {r : Addr} {a b c : Int} {t u v : Tok} {n : Nat} {Q : List Value → Shared → Prop} (hh : A.handled = none) (hr : IsRange s.heap r a b c t u v) (hs : Builtin.Range.small a b c = true) (hz : Builtin.Range.rangeSize a b c = ↑n) (hn : n ≤ 2^24)
    (h : ∀ (h' : Heap) (tk : Nat) (acc : Array Value), (∀ b o, s.heap.get? b = some o → h'.get? b = some o) → ItemsOf (fun i v => ∃ t, v = .int (a + (i : Int) * c) t) acc n → Q acc.toList { s with heap := h', toks := tk }) : wpAny (model prog w) A (collect (.ref r)) Q E s := by
  unfold collect
  refine wpAny_bind (wpAny_runValue (code_collect_range hh hr hs hz hn fun h' tk L acc c' kp hL it => ?_))
  exact wpAny_bind (wpAny_load hL (wpAny_pure (h h' tk acc kp it)))
theorem notIter_range {prog : Program} {w : World} {A : Around} {E : Value → Shared → Prop} {s : Shared} {r : Addr} {a b c : Int} {t u v : Tok} {Q : Bool → Shared → Prop} (hr : IsRange s.heap r a b c t u v) (h : Q false s) : wpAny (model prog w) A (notIterableAtAll (.ref r)) Q E s := by
  unfold notIterableAtAll
  refine wpAny_bind (wpAny_specialOf (T := "range") ⟨_, hr, rfl⟩ (r := some (.builtin "range.__iter__")) (by rfl) ?_)
  exact wpAny_pure h
theorem rg_fits {a b : Int} (h : RgOk a b) : Builtin.Range.small a b 1 = true ∧ Builtin.Range.rangeSize a b 1 = (((b - a).toNat : Nat) : Int) := by
  obtain ⟨h1, h2, h3, h4, h5⟩ := h
  have e : Builtin.Range.rangeSize a b 1 = (((b - a).toNat : Nat) : Int) := by
    unfold Builtin.Range.rangeSize
    rw [if_pos (by decide)]
    split <;> omega
  refine ⟨?_, e⟩
  unfold Builtin.Range.small
  rw [e]
  simp only [Builtin.Range.rangeFitsLong, Bool.and_eq_true, Bool.or_eq_true, decide_eq_true_eq, beq_iff_eq]
  rw [if_pos (by decide)]
  simp only [decide_eq_true_eq, Bool.and_eq_true]
  omega
theorem rg_vals {a : Int} : ∀ (l : List Value) (k : Nat), (∀ (j : Nat) v, l[j]? = some v → ∃ t, v = .int (a + ((k + j : Nat) : Int)) t) → Vals ((List.range' k l.length).map fun (i : Nat) => V.int (a + (i : Int))) l
  | [], _, _ => .nil
  | v :: l, k, h => by
    obtain ⟨t, rfl⟩ := h 0 v rfl
    refine .cons ⟨t, rfl⟩ ?_
    refine rg_vals l (k + 1) fun j v hv => ?_
    obtain ⟨t2, e⟩ := h (j + 1) v (by simpa using hv)
    exact ⟨t2, by rw [e, show k + (j + 1) = k + 1 + j by omega]⟩
section
variable {X : Cx}
def tStarRg (te : L2.St → Hp → (Int → Int → Hp → Prop) → Prop) (t : TA) : TA := fun σ H Q => te σ H fun a b H1 => RgOk a b ∧ t σ H1 fun ys H2 => Q (rgV a b ++ ys) H2
theorem pa_starRg (hc : X.calm = true) {e : Expr} {es : List Expr} {te : L2.St → Hp → (Int → Int → Hp → Prop) → Prop} {t : TA} {p : Pos} (he : PRg X e te) (h : PA X es t) (hs : starEach (e.Starred p :: es) X.env = (true, eval e X.env) :: starEach es X.env := by rfl) : PA X (e.Starred p :: es) (tStarRg te t) := by
  refine ⟨fun pos pins s σ H Q I k => ?_⟩
  rw [hs]
  show wpAny _ _ (spliced ((true, do let v ← eval e X.env; standAt pos; pure v) :: backTo pos (starEach es X.env))) _ _ _
  rw [spliced]
  refine wpAny_bind (wpAny_bind (wpAny_mono (he pins s σ H _ I k) (fun v s1 z => ?_) (fun _ _ z => z)))
  obtain ⟨r, a, b, t1, u, v1, H', rfl, hr, I1, ok, k1⟩ := z
  refine wpAny_bind (wpAny_standAt (wpAny_pure ?_))
  dsimp only
  rw [if_pos rfl]
  refine wpAny_bind (notIter_range hr ?_)
  rw [if_neg Bool.false_ne_true]
  have hh := I.ok.hd hc
  have fit := rg_fits ok
  refine wpAny_bind (collect_range hh hr fit.1 fit.2 ok.2.2.2.2 fun h' tk acc kp it => ?_)
  have hv : Vals (rgV a b) acc.toList := by
    have := rg_vals (a := a) acc.toList 0 fun j v hv => by
      obtain ⟨t, e⟩ := it.2 j v (by rw [← hv]; simp)
      exact ⟨t, by rw [e, Int.mul_one, Nat.zero_add]⟩
    rw [Array.length_toList, it.1, ← List.range_eq_range'] at this
    exact this
  refine wpAny_bind (wpAny_holding (wpAny_mono (h.run pos pins _ σ H' _ (I1.kept kp) k1) (fun ws s2 z => ?_) (fun _ _ z => z)))
  obtain ⟨vs, H2, I2, r2, q⟩ := z
  exact wpAny_pure ⟨rgV a b ++ vs, H2, I2, hv.append r2, q⟩
theorem rd_starRg {te : L2.St → Hp → (Int → Int → Hp → Prop) → Prop} {t : TA} {σ : L2.St} {H : Hp} {Q : List V → Hp → Prop} (h : te σ H fun a b H1 => RgOk a b ∧ t σ H1 fun ys H2 => Q (rgV a b ++ ys) H2) : tStarRg te t σ H Q := h
end
end StarRg
set_option Elab.async false
set_option linter.all false
set_option maxRecDepth 100000
set_option maxHeartbeats 4000000
set_option exponentiation.threshold 9000
namespace SortD
open PySem PyProof.Rows PyProof L2 C8
/-! ### sorted(xs, key=f), f a def of the program whose answers hold lists that the sort leaves alone -/
/-- what is told of a key: as long as all but the store of keys stands -/
def KeyR (kS : Addr) (h : Heap) (u : Value) (k : PyData) : Prop := ∀ h'' : Heap, (∀ b o, b ≠ kS → h.get? b = some o → h''.get? b = some o) → ∃ as, Reads h'' u k as
theorem each_take_read {kS : Addr} {h : Heap} {ks : List Value} {kz : List PyData} (e : W.EachIs (KeyR kS h) ks kz) : W.EachIs (fun v k => ∃ as, Reads h v k as) ks kz := by
  induction e with
  | nil => exact .nil
  | cons r _ ih => exact .cons (r h fun _ _ _ z => z) ih
theorem each_mono {kS : Addr} {h h' : Heap} {ks : List Value} {kz : List PyData} (kp : ∀ b o, b ≠ kS → h.get? b = some o → h'.get? b = some o) (e : W.EachIs (KeyR kS h) ks kz) : W.EachIs (KeyR kS h') ks kz := by
  induction e with
  | nil => exact .nil
  | cons r _ ih => exact .cons (fun h'' k2 => r h'' fun b o n z => k2 b o n (kp b o n z)) ih
section
variable {prog : Program} {w : World} {A : Around} {E : Value → Shared → Prop} {s : Shared}
theorem rest {a kS : Addr} {b : Bool} {vs : List Value} {e1 : Nat} {P : Fin → Shared → Prop} {kz : List PyData} {f : Value} {h₁ : Heap} (KB : W.KeepsBut a h₁ s.heap) (hk : h₁.get? kS = none) (ek : s.heap.get? kS = some (seqObj "list" #[] 0)) (ea : s.heap.get? a = some (seqObj "list" #[] e1)) (ne : kS ≠ a) (hl : kz.length = vs.length) (sz : vs.length ≤ sizeLine)
    (AA : W.AllAlike kz) (SS : W.Sortable kz) (dp : ∀ d ∈ kz, A.units + d.depth < cLine)
    (key : ∀ (i : Nat) v k, vs[i]? = some v → kz[i]? = some k → ∀ (h : Heap) (tk : Nat), W.KeepsBut a h₁ h → (∃ o, h.get? kS = some o) → wpAny (model prog w) A (call f [v]) (fun u s₂ => ∃ h' tk', s₂ = { s with heap := h', toks := tk' } ∧ (∀ b o, h.get? b = some o → h'.get? b = some o) ∧ KeyR kS h' u k) (fun _ _ => False) { s with heap := h, toks := tk })
    (fin : ∀ (h' : Heap) (tk : Nat) (out : List Value) (c : Nat), W.KeepsBut a h₁ h' → h'.get? a = some (seqObj "list" out.toArray c) → W.KeyedOut b kz vs out → P (Fin.done (Flow.ret Value.none)) { s with heap := h', toks := tk }) :
    wpAny (model prog w) A (ksk_rest a f b vs.toArray e1 (.ref kS)) P E s := by
  unfold ksk_rest
  refine wpAny_bind (wpAny_rule ?_)
  rw [List.forIn_toArray]
  refine wpAny_bind (ksk_fold (I := fun j s' => ∃ (h : Heap) (tk : Nat) (ks : List Value) (e : Nat), s' = { s with heap := h, toks := tk } ∧ W.KeepsBut a h₁ h ∧ h.get? kS = some (seqObj "list" ks.toArray e) ∧ h.get? a = some (seqObj "list" #[] e1) ∧ ks.length = j ∧ W.EachIs (KeyR kS h) ks (kz.take j)) vs 0 s ⟨s.heap, s.toks, [], 0, rfl, KB, ek, ea, rfl, .nil⟩ ?_ ?_)
  · rintro j x s' hx ⟨h, tk, ks, e, rfl, kb, ek', ea', hlen, each⟩
    have hj := (List.getElem?_eq_some_iff.mp hx).1
    have hk' : kz[j]? = some (kz[j]'(by omega)) := List.getElem?_eq_getElem (by omega)
    refine wpAny_bind (wpAny_attempt (wpAny_mono (key j x _ hx hk' h tk kb ⟨_, ek'⟩) (fun u s2 z => ?_) (fun _ _ z => z.elim)))
    obtain ⟨h', tk', rfl, kp, kr⟩ := z
    have hs : ks.toArray.size ≤ sizeLine := by
      rw [List.size_toArray]
      omega
    have hs2 : (ks.toArray.push u).size ≤ sizeLine + 1 := by
      rw [Array.size_push, List.size_toArray]
      omega
    refine wpAny_bind (listUpdate_at (kp _ _ ek') rfl ?_ hs hs2)
    have kU : ∀ b o, b ≠ kS → h'.get? b = some o → (h'.update kS (Obj.mapSeq fun x => x.push u)).get? b = some o := fun b o n z => by rw [Heap.get?_update_ne _ _ _ _ n]; exact z
    refine wpAny_pure ⟨rfl, _, tk', ks ++ [u], e + 1, rfl, fun b o n z => ?_, ?_, ?_, by rw [List.length_append, hlen]; rfl, ?_⟩
    · have n2 : b ≠ kS := fun q => by rw [q, hk] at z; cases z
      exact kU b o n2 (kp b o (kb b o n z))
    · rw [Heap.get?_update_self _ (kp _ _ ek') rfl]
      unfold Obj.mapSeq
      have n : ((ks.toArray.push u).size == ks.toArray.size) = false := by simp
      simp only [n]
      simp
    · exact kU _ _ (Ne.symm ne) (kp _ _ ea')
    · rw [show 0 + j + 1 = j + 1 by omega, List.take_add_one, hk']
      refine W.each_snoc ?_ ?_
      · exact fun h'' k2 => kr h'' fun b o n z => k2 b o n (kU b o n z)
      · rw [Nat.zero_add] at each
        exact each_mono kU (each_mono (fun b o _ z => kp b o z) each)
  · rintro s' ⟨h, tk, ks, e, rfl, kb, ek', ea', hlen, each⟩
    rw [Nat.zero_add, ← hl, List.take_length] at each
    rw [Nat.zero_add] at hlen
    refine wpAny_bind (listItems_at ek' rfl ?_)
    refine W.keyH_end (κ := W.dataKind h kz) (s := { s with heap := h, toks := tk }) kb hk ek' ea' ne (W.SortsAt.data (each_take_read each) AA SS dp) (by rw [List.size_toArray]; exact hlen) sz fun h2 tk2 c kb2 ea2 => ?_
    exact fin h2 tk2 _ c kb2 ea2 ⟨h, ks, AA, rfl, each_take_read each⟩
theorem tree {a : Addr} {b : Bool} {vs : List Value} {P : Fin → Shared → Prop} {kz : List PyData} {f : Value} {n : Nat} (ea : s.heap.get? a = some (seqObj "list" vs.toArray n)) (hl : kz.length = vs.length) (sz : vs.length ≤ sizeLine) (AA : W.AllAlike kz) (SS : W.Sortable kz) (dp : ∀ d ∈ kz, A.units + d.depth < cLine)
    (key : ∀ (kS : Addr), s.heap.get? kS = none → ∀ (i : Nat) v k, vs[i]? = some v → kz[i]? = some k → ∀ (h : Heap) (tk : Nat), W.KeepsBut a s.heap h → (∃ o, h.get? kS = some o) → wpAny (model prog w) A (call f [v]) (fun u s₂ => ∃ h' tk', s₂ = { s with heap := h', toks := tk' } ∧ (∀ b o, h.get? b = some o → h'.get? b = some o) ∧ KeyR kS h' u k) (fun _ _ => False) { s with heap := h, toks := tk })
    (fin : ∀ (h' : Heap) (tk : Nat) (out : List Value) (c : Nat), W.KeepsBut a s.heap h' → h'.get? a = some (seqObj "list" out.toArray c) → W.KeyedOut b kz vs out → P (Fin.done (Flow.ret Value.none)) { s with heap := h', toks := tk }) :
    wpAny (model prog w) A (ksk_tree a f b) P E s := by
  unfold ksk_tree
  refine wpAny_bind (listItems_at ea rfl ?_)
  refine wpAny_bind (listUpdate_at ea rfl ?_ (by rw [List.size_toArray]; exact sz) (Nat.zero_le _))
  obtain ⟨e1, hea⟩ : ∃ e1, (s.heap.update a (Obj.mapSeq fun x => #[])).get? a = some (seqObj "list" #[] e1) := ⟨_, by rw [Heap.get?_update_self _ ea rfl]; unfold Obj.mapSeq; rfl⟩
  refine wpAny_bind (seqEpoch_at hea rfl ?_)
  refine wpAny_bind (wpAny_newTuple ?_ (by show vs.length ≤ sizeLine; exact sz))
  refine wpAny_bind (wpAny_newList ?_)
  refine wpAny_holding ?_
  have kU : W.KeepsBut a s.heap (s.heap.update a (Obj.mapSeq fun x => #[])) := fun b o nb z => by rw [Heap.get?_update_ne _ _ _ _ nb]; exact z
  obtain ⟨h0, e0⟩ : ∃ h0, h0 = s.heap.update a (Obj.mapSeq fun x => #[]) := ⟨_, rfl⟩
  have sz0 : h0.objs.size = s.heap.objs.size := by rw [e0]; exact Heap.size_update _ _ _
  rw [← e0] at kU hea
  obtain ⟨o1, eo1⟩ : ∃ o1 : Obj, o1 = { cls := .type "tuple", data := .seq vs.toArray } := ⟨_, rfl⟩
  have key2 := key (h0.push o1).objs.size (Heap.get?_none_of_le (by rw [Heap.size_push, sz0]; omega))
  have kP : ∀ b o, h0.get? b = some o → ((h0.push o1).push (seqObj "list" #[] 0)).get? b = some o := fun b o z => Heap.get?_push_of_some _ (Heap.get?_push_of_some _ z)
  have hne : (h0.push o1).objs.size ≠ a := by
    rw [Heap.size_push, sz0]
    exact Nat.ne_of_gt (Nat.lt_succ_of_lt (Heap.lt_size ea))
  have := rest (prog := prog) (w := w) (A := A) (E := E) (P := P) (f := f) (b := b) (s := { s with heap := (h0.push o1).push (seqObj "list" #[] 0) }) (kS := (h0.push o1).objs.size) (h₁ := s.heap) (fun b o nb z => kP b o (kU b o nb z)) (Heap.get?_none_of_le (by rw [Heap.size_push, sz0]; omega)) (Heap.get?_push_size _ rfl) (kP _ _ hea) hne hl sz AA SS dp key2 fin
  rw [eo1, e0] at this
  exact this
theorem sorted {l : Addr} {vs : List Value} {kz : List PyData} {f : Addr} {Q : Value → Shared → Prop} (hL : s.heap.IsList l vs.toArray) (hl : kz.length = vs.length) (sz : vs.length ≤ sizeLine) (AA : W.AllAlike kz) (SS : W.Sortable kz) (dp : ∀ d ∈ kz, A.units + 2 + d.depth < cLine)
    (key : ∀ (kS : Addr), s.heap.get? kS = none → ∀ (i : Nat) v k, vs[i]? = some v → kz[i]? = some k → ∀ (h : Heap) (tk : Nat), (∀ b o, s.heap.get? b = some o → h.get? b = some o) → (∃ o, h.get? kS = some o) → wpAny (model prog w) A.in1.in1 (call (.ref f) [v]) (fun u s₂ => ∃ h' tk', s₂ = { s with heap := h', toks := tk' } ∧ (∀ b o, h.get? b = some o → h'.get? b = some o) ∧ KeyR kS h' u k) (fun _ _ => False) { s with heap := h, toks := tk })
    (fin : ∀ (h' : Heap) (tk : Nat) (out : List Value) (c : Nat), (∀ b o, s.heap.get? b = some o → h'.get? b = some o) → h'.get? (s.heap.objs.size + 1) = some (seqObj "list" out.toArray c) → W.KeyedOut false kz vs out → Q (.ref (s.heap.objs.size + 1)) { s with heap := h', toks := tk }) :
    wpAny (model prog w) A (call (.builtin "sorted") [.ref l] [("key", .ref f)]) Q E s := by
  refine W.sorted_of_sort hL sz (ksk_s1 _ _) (fun _ => ksk_l1 _ _) fun E' => ?_
  rw [ksk_t1]
  have old : ∀ b o, s.heap.get? b = some o → (W.copyHeap s.heap vs).get? b = some o := fun b o z => W.copyHeap_old z
  have csz : ∀ b o, s.heap.get? b = some o → b ≠ s.heap.objs.size + 1 := fun b o z => Nat.ne_of_lt (Nat.lt_succ_of_lt (Heap.lt_size z))
  refine tree (s := { s with heap := W.copyHeap s.heap vs }) (W.copyHeap_at _ _) hl sz AA SS (fun d hd => by have := dp d hd; show A.units + 1 + 1 + d.depth < cLine; omega) (fun kS hk i v k hv hz h tk kb ho => key kS ?_ i v k hv hz h tk (fun b o z => kb b o (csz b o z) (old b o z)) ho) fun h' tk out c kb e KO => ⟨rfl, fin h' tk out c (fun b o z => kb b o (csz b o z) (old b o z)) e KO⟩
  · cases q : s.heap.get? kS with
    | none => rfl
    | some o => rw [old kS o q] at hk; cases hk
/-- a def that tells (len(x[0]), x[1], x[0]) -/
structure KeyT (st : Stmt) (x : Str) : Prop where
  body : ∃ p1 p2 p3 p4 p5 p6 p7 p8 p9 p10 p11 p12 p13 j1 j2 j3 j4, fnBody st = [.Return (some (.Tuple [.Call (.Name "len" p1) [.Subscript (.Name x p2) (.Constant (.int 0) j1 p3) p4] [] p5, .Subscript (.Name x p6) (.Constant (.int 1) j2 p7) p8, .Subscript (.Name x p9) (.Constant (.int 0) j3 p10) p11] j4 p12)) p13]
  kind : (fnScope st).kind = .function
  co : (fnScope st).isCoroutine = false
  gen : (fnScope st).isGenerator = false
  loc : (fnScope st).names.lookup x = some .local
  glb : (fnScope st).names.lookup (Str.ofString "len") = some .globalImplicit
  nocell : ∀ y ∈ (fnScope st).names, y.2 ≠ .cell
  dbg : (x == ("__debug__" : Str)) = false
theorem key_size {K : W.Frag} {mg : Str → Option Value} {base : Heap} {q qual x : Str} {st : Stmt} {f : Addr} {fd : FuncData} (M : L2.Mod K mg base) (F : C8.Fun K q qual st f fd) (hb : L2.Binds K fd [x] []) (KT : KeyT st x) (hm : mg "len" = none) (bs : ∀ b o, base.get? b = some o → s.heap.get? b = some o) (room : A.depth < recursionLimit) (lim : s.heap.NoLimit)
    {r l kS : Addr} {vs : Array Value} {n2 : Nat} {d : Int} {t : Tok} {ds : List PyData} (hr : PyProof.Rows.IsTup s.heap r #[.ref l, .int d t]) (hl : s.heap.get? l = some { cls := .type "list", data := .seq vs n2 }) (hv : ∀ h, ReadsAll h vs.toList ds []) (sz : (vs.size : Int) < 2 ^ 63) (hk : ∃ o, s.heap.get? kS = some o) (hlk : l ≠ kS) :
    wpAny (model prog w) A (call (.ref f) [.ref r]) (fun u s₂ => ∃ h' tk', s₂ = { s with heap := h', toks := tk' } ∧ (∀ b o, s.heap.get? b = some o → h'.get? b = some o) ∧ KeyR kS h' u (.tuple [.int vs.size, .int d, .list ds])) E s := by
  obtain ⟨otp, etp1, etp2, ntp, etp3⟩ := hr
  have bt := hb s [.ref r] (M.kin.keeps bs) rfl
  obtain ⟨oc, od, dV, kV, doc, pm, an, cdv, ct, osl, rfl, hf, hc⟩ := F.ex
  refine wpAny_call (codeAny_call_def (a := f) (body := fnBody st) room (bs _ _ (M.kin _ _ hf)) rfl lim (W.codeRec_of (M.kin.keeps bs) hc) rfl bt KT.nocell (fun y hy => by rw [List.mem_singleton.mp hy]; exact KT.loc) (fun h0 ns kp => ?_) KT.co KT.gen KT.kind)
  obtain ⟨env, he⟩ : ∃ env, env = callEnv (W.fnOf q qual (fnArgs st) (fnBody st) (fnScope st) dV kV doc pm an cdv ct) s.heap.objs.size f := ⟨_, rfl⟩
  have hs : env.scope = fnScope st := by rw [he]; rfl
  have hl0 : env.locals = s.heap.objs.size := by rw [he]; rfl
  have hg : env.globals = mainGlobals := by rw [he]; rfl
  have hbn : env.builtins = builtinsNs := by rw [he]; rfl
  rw [← he]
  obtain ⟨p1, p2, p3, p4, p5, p6, p7, p8, p9, p10, p11, p12, p13, j1, j2, j3, j4, eb⟩ := KT.body
  rw [eb]
  refine wpAny_execs_cons (wpAny_Return_some ?_)
  refine wpAny_Tuple_spliced ?_
  have hkind : env.scope.kind = .function := by rw [hs]; exact KT.kind
  have name : ∀ {A' : Around} {E' : Value → Shared → Prop} {Q' : Value → Shared → Prop} {tk : Nat} {pp : Pos}, Q' (.ref r) { s with heap := h0, toks := tk } →
      wpAny (model prog w) A' (eval (.Name x pp) env) Q' E' { s with heap := h0, toks := tk } := fun hq =>
    wpAny_Name (wpAny_loadName_local hkind (by show env.scope.names.lookup x = _; rw [hs]; exact KT.loc) (hl0 ▸ ns) (by simp) hq) KT.dbg
  have item : ∀ {A' : Around} {E' : Value → Shared → Prop} {Q' : Value → Shared → Prop} {tk : Nat} {pp pq pr : Pos} {jj : Nat} {m : Int} {j : Nat} {v : Value}, -2 ^ 63 ≤ m → m < 2 ^ 63 → seqIndex? m ([.ref l, .int d t] : List Value).length = some j → ([.ref l, .int d t] : List Value)[j]? = some v →
      (∀ tk', Q' v { s with heap := h0, toks := tk' }) → wpAny (model prog w) A' (eval (.Subscript (.Name x pp) (.Constant (.int m) jj pq) pr) env) Q' E' { s with heap := h0, toks := tk } := fun h1 h2 h3 h4 hq =>
    Subscript_ (name (wpAny_Constant_int (item_tupleT (l := [.ref l, .int d t]) ⟨_, kp _ _ etp1, etp2, ntp, etp3⟩ h1 h2 h3 h4 (hq _))))
  have len : ∀ {A' : Around} {E' : Value → Shared → Prop} {Q' : Value → Shared → Prop} {tk : Nat} {pp : Pos}, Q' (.builtin "len") { s with heap := h0, toks := tk } →
      wpAny (model prog w) A' (eval (.Name "len" pp) env) Q' E' { s with heap := h0, toks := tk } := fun hq => by
    refine wpAny_Name ?_ (by decide +kernel)
    rw [loadName_read hkind (by show env.scope.names.lookup _ = _; rw [hs]; exact KT.glb)]
    unfold loadGlobal
    rw [hg, hbn]
    refine wpAny_bind (wpAny_nsGet (M.glob.keeps fun b o z => kp b o (bs b o z)) ?_)
    rw [hm]
    obtain ⟨mb, hmb, hmv⟩ := M.blt
    refine wpAny_bind (wpAny_nsGet (hmb.keeps fun b o z => kp b o (bs b o z)) ?_)
    rw [hmv _ (by decide +kernel), show bootBuiltins "len" = some (.builtin "len") by decide +kernel]
    exact wpAny_pure hq
  refine Calls.spliced_cons ?_
  refine wpAny_Call_NameR (len ?_)
  refine PyProof.Rows.callWith_builtin1 (Calls.spliced_cons (item (m := 0) (j := 0) (by decide) (by decide) rfl rfl fun tk1 => Calls.spliced_nil ?_))
  refine len_list (items := vs) ⟨_, kp _ _ hl, rfl, n2, rfl⟩ sz ?_
  refine Calls.spliced_cons (item (m := 1) (j := 1) (by decide) (by decide) rfl rfl fun tk2 => ?_)
  refine Calls.spliced_cons (item (m := 0) (j := 0) (by decide) (by decide) rfl rfl fun tk3 => ?_)
  refine Calls.spliced_nil ⟨by show 3 ≤ sizeLine; decide, ?_⟩
  refine ⟨_, _, rfl, fun b o e => Heap.get?_push_of_some _ (kp b o e), fun h'' k2 => ?_⟩
  obtain ⟨ok, hok⟩ := hk
  exact ⟨_, .tuple (k2 _ _ (Nat.ne_of_gt (Heap.lt_size (kp _ _ hok))) (Heap.get?_push_size _ rfl)) rfl rfl (.cons (.int _ _) (.cons (.int _ _) (.cons (.list (k2 _ _ hlk (Heap.get?_push_of_some _ (kp _ _ hl))) rfl rfl (hv _)) .nil)))⟩
end
/-- pairs of a list of ints and an int are sorted: some arrangement of them -/
def rSortH (f : Addr) : List V → List V → Hp → VK → Prop := fun vs zs H Q => ∃ (a : Addr) (rs : List Addr) (G : Addr → Addr × List Int × Int), vs = [.ref a] ∧ zs = [.ref f] ∧ H a = some (.lst (rs.map V.ref)) ∧ (∀ r ∈ rs, H r = some (.tup [.ref (G r).1, .int (G r).2.2]) ∧ H (G r).1 = some (.lst ((G r).2.1.map V.int)) ∧ (G r).2.1.length ≤ 100000) ∧ rs.length ≤ 100000 ∧
  ∀ (p : Addr) (rs' : List Addr), rs'.Perm rs → H p = none → Q (.ref p) (upd H p (.lst (rs'.map V.ref)))
theorem vals_refs : ∀ {rs : List Addr} {us : List Value}, Vals (rs.map V.ref) us → us = rs.map Value.ref
  | [], _, .nil => rfl
  | _ :: rs, _, .cons h t => by
    have h : _ = Value.ref _ := h
    rw [h, vals_refs t]
    rfl
theorem vals_refsF : ∀ bs : List Addr, Vals (bs.map V.ref) (bs.map Value.ref)
  | [] => .nil
  | _ :: r => .cons rfl (vals_refsF r)
theorem each_refs (rs : List Addr) : W.EachIs (fun (v : Value) (r : Addr) => v = .ref r) (rs.map Value.ref) rs := by
  induction rs with
  | nil => exact .nil
  | cons r rs ih => exact .cons rfl ih
theorem each_refs_eq : ∀ {vs : List Value} {rs : List Addr}, W.EachIs (fun (v : Value) (r : Addr) => v = .ref r) vs rs → vs = rs.map Value.ref
  | _, _, .nil => rfl
  | _, _, .cons h t => by rw [h, each_refs_eq t]; rfl
theorem vals_ints : ∀ {ns : List Int} {us : List Value}, Vals (ns.map V.int) us → us.length = ns.length ∧ ∀ h, ReadsAll h us (ns.map PyData.int) []
  | [], _, .nil => ⟨rfl, fun _ => .nil⟩
  | n :: ns, _, .cons h t => by
    obtain ⟨tk, rfl⟩ : ∃ t, _ = Value.int n t := h
    obtain ⟨e, r⟩ := vals_ints t
    exact ⟨by rw [List.length_cons, List.length_cons, e], fun h => .cons (.int _ _) (r h)⟩
theorem depth_ints : ∀ l : List Int, PyData.depthAll (l.map PyData.int) = 0
  | [] => by simp [PyData.depthAll]
  | a :: l => by simp [PyData.depthAll, PyData.depth, depth_ints l]
theorem alike_ints : ∀ (l m : List Int), W.alikeAll (l.map PyData.int) (m.map PyData.int) = true
  | [], _ => by simp [W.alikeAll]
  | _ :: _, [] => by simp [W.alikeAll]
  | a :: l, b :: m => by simp [W.alike, W.alikeAll, alike_ints l m]
theorem cr_sortD {X : Cx} {k : Nat} {q qual x : Str} {st : Stmt} {f : Addr} {fd : FuncData} (F : C8.Fun X.K q qual st f fd) (hd : L2.Binds X.K fd [x] []) (KT : KeyT st x) (hm : X.mg "len" = none) (hr : Room (k + 1) X.A) : CallRK X (.builtin "sorted") [Str.ofString "key"] (rSortH f) := by
  intro pins s σ H vs zs us ws Q I r rz h
  obtain ⟨a, rs, G, rfl, rfl, ha, hrs, hlen, q⟩ := h
  obtain rfl := Vals.ref1 r
  obtain rfl := Vals.ref1 rz
  obtain ⟨hz, its, n, rv, hob⟩ := I.hok a _ ha
  have eits := vals_refs rv
  subst eits
  have lim := I.nolimit
  have hl : s.heap.IsList a (rs.map Value.ref).toArray := ⟨_, hob, rfl, n, rfl⟩
  refine sorted (kz := rs.map fun r => .tuple [.int ((G r).2.1.length : Nat), .int (G r).2.2, .list ((G r).2.1.map PyData.int)]) hl (by rw [List.length_map, List.length_map]) (by rw [List.length_map, sizeLine_eq]; omega) (W.AllAlike.of fun b b' => ?_) (W.Sortable.tuples fun _ => ⟨_, _, rfl⟩) (fun d hd2 => ?_) (fun kS hk i v k2 hv hz2 h tk kp ho => ?_) fun h' tk out c fr hD KO => ?_
  · simp [W.alike, W.alikeAll, alike_ints]
  · obtain ⟨r, _, rfl⟩ := List.mem_map.mp hd2
    have h1 := depth_ints (G r).2.1
    have h2 : (PyData.tuple [.int ((G r).2.1.length : Nat), .int (G r).2.2, .list ((G r).2.1.map PyData.int)]).depth ≤ 2 := by
      simp [PyData.depth, PyData.depthAll, h1]
    have := hr.units
    omega
  · rw [List.getElem?_map] at hv hz2
    cases hi : rs[i]? with
    | none => rw [hi] at hv; cases hv
    | some r =>
      rw [hi] at hv hz2
      cases hv
      cases hz2
      obtain ⟨h1, h2, h3⟩ := hrs r (List.mem_of_getElem? hi)
      obtain ⟨_, its2, rv2, hr2⟩ := I.hok r _ h1
      obtain ⟨_, its3, n3, rv3, hl3⟩ := I.hok _ _ h2
      cases rv2 with
      | cons g1 t1 =>
        cases t1 with
        | cons g2 t2 =>
          cases t2
          obtain rfl : _ = Value.ref (G r).1 := g1
          obtain ⟨tk2, rfl⟩ : ∃ t, _ = Value.int (G r).2.2 t := g2
          obtain ⟨e3, rd3⟩ := vals_ints rv3
          have hlk : (G r).1 ≠ kS := fun z => by rw [z, hk] at hl3; cases hl3
          have := key_size (prog := X.prog) (w := X.w) (A := X.A.in1.in1) (E := fun _ _ => False) (s := { s with heap := h, toks := tk }) I.ok.mod F hd KT hm (fun b o z => kp b o (I.bk b o z)) hr.depth (lim.keeps kp) (by obtain ⟨o, q1, q2, n, q3⟩ := hr2; exact ⟨o, kp _ _ q1, q2, n, q3⟩) (kp _ _ hl3) rd3 (by rw [List.size_toArray, e3]; omega) ho hlk
          rw [List.size_toArray, e3] at this
          exact this
  · have e1 := W.keyedOut_each (R := fun (v : Value) (r : Addr) => v = .ref r) (bs := rs) (fun r => PyData.tuple [.int ((G r).2.1.length : Nat), .int (G r).2.2, .list ((G r).2.1.map PyData.int)]) KO (each_refs rs)
    have e2 := each_refs_eq e1
    subst e2
    have hp : H (s.heap.objs.size + 1) = none := I.hok.fresh (Nat.le_succ _)
    generalize hrs' : rs.mergeSort (W.dataLe false fun r => PyData.tuple [.int ((G r).2.1.length : Nat), .int (G r).2.2, .list ((G r).2.1.map PyData.int)]) = rs' at *
    have pm2 : rs'.Perm rs := by rw [← hrs']; exact List.mergeSort_perm _ _
    refine ⟨.ref (s.heap.objs.size + 1), upd H (s.heap.objs.size + 1) (.lst (rs'.map V.ref)), I.laid (t' := tk) (h' := h') fr (Nat.le_succ _) ⟨?_, rs'.map Value.ref, c, ?_, hD⟩, rfl, q _ rs' pm2 hp⟩
    · rw [List.length_map, pm2.length_eq, sizeLine_eq]
      omega
    · exact vals_refsF rs'
end SortD
set_option linter.all false
set_option Elab.async false
/-! policies: which versions are kept; histories -/
namespace Silt
inductive Pol where
  | pinned : Pol
  | after : Pol
  | anyP : Pol
  | newest (k : Nat) : Pol
  | young (k : Nat) : Pol
  | fresh (k : Nat) : Pol
  | neg (p : Pol) : Pol
  | both (p q : Pol) : Pol
  | either (p q : Pol) : Pol
structure Cas where
  newer : Int
  old : Int
  covered : Int
  anyC : Bool
  pinned : Bool
  after : Bool
def holdsF : Pol → Cas → Bool
  | .pinned, c => c.pinned
  | .after, c => c.after
  | .anyP, c => c.anyC
  | .newest k, c => decide (c.newer < (k : Int))
  | .young k, c => decide (c.old ≤ (k : Int))
  | .fresh k, c => decide (c.covered ≤ (k : Int))
  | .neg p, c => !holdsF p c
  | .both p q, c => holdsF p c && holdsF q c
  | .either p q, c => holdsF p c || holdsF q c
def numF : Pol → Nat
  | .newest k => k
  | .young k => k
  | .fresh k => k
  | .neg p => numF p
  | .both p q => max (numF p) (numF q)
  | .either p q => max (numF p) (numF q)
  | _ => 0
def hgt : Pol → Nat
  | .neg p => hgt p + 1
  | .both p q => max (hgt p) (hgt q) + 1
  | .either p q => max (hgt p) (hgt q) + 1
  | _ => 0
/-- all numbers are at most 12 -/
def okP : Pol → Prop
  | .newest k => k ≤ 12
  | .young k => k ≤ 12
  | .fresh k => k ≤ 12
  | .neg p => okP p
  | .both p q => okP p ∧ okP q
  | .either p q => okP p ∧ okP q
  | _ => True
theorem numF_le : ∀ {p : Pol}, okP p → numF p ≤ 12
  | .pinned, _ => Nat.zero_le _
  | .after, _ => Nat.zero_le _
  | .anyP, _ => Nat.zero_le _
  | .newest k, h => h
  | .young k, h => h
  | .fresh k, h => h
  | .neg p, h => numF_le (p := p) h
  | .both p q, h => Nat.max_le.mpr ⟨numF_le h.1, numF_le h.2⟩
  | .either p q, h => Nat.max_le.mpr ⟨numF_le h.1, numF_le h.2⟩
/-- two cases that no number up to m tells apart -/
structure Alike (m : Nat) (c d : Cas) : Prop where
  n : ∀ k : Nat, k ≤ m → (c.newer < (k : Int) ↔ d.newer < (k : Int))
  o : ∀ k : Nat, k ≤ m → (c.old ≤ (k : Int) ↔ d.old ≤ (k : Int))
  v : ∀ k : Nat, k ≤ m → (c.covered ≤ (k : Int) ↔ d.covered ≤ (k : Int))
  a : c.anyC = d.anyC
  p : c.pinned = d.pinned
  f : c.after = d.after
theorem holds_alike {m : Nat} {c d : Cas} (A : Alike m c d) : ∀ {p : Pol}, numF p ≤ m → holdsF p c = holdsF p d
  | .pinned, _ => A.p
  | .after, _ => A.f
  | .anyP, _ => A.a
  | .newest k, h => decide_eq_decide.mpr (A.n k h)
  | .young k, h => decide_eq_decide.mpr (A.o k h)
  | .fresh k, h => decide_eq_decide.mpr (A.v k h)
  | .neg p, h => congrArg (!·) (holds_alike A (p := p) h)
  | .both p q, h => by
    have h := Nat.max_le.mp h
    show (holdsF p c && holdsF q c) = (holdsF p d && holdsF q d)
    rw [holds_alike A h.1, holds_alike A h.2]
  | .either p q, h => by
    have h := Nat.max_le.mp h
    show (holdsF p c || holdsF q c) = (holdsF p d || holdsF q d)
    rw [holds_alike A h.1, holds_alike A h.2]
/-- the case of a version, by its place from the oldest one -/
def casF (days : List Int) (i : Nat) (pins : List Int) (today : Int) : Cas :=
  { newer := (days.length : Int) - (i : Int) - 1, old := today - days.getD i 0, covered := today - days.getD (i + 1) 0, anyC := !pins.isEmpty,
    pinned := pins.any fun q => decide (days.getD i 0 ≤ q) && decide (q < days.getD (i + 1) 0), after := pins.any fun q => decide (q ≥ days.getD i 0) }
/-- the days that are kept, of the first n -/
def keptI (p : Pol) (days pins : List Int) (today : Int) (n : Nat) : List Int := ((List.range n).filter fun i => holdsF p (casF days i pins today)).map fun i => days.getD i 0
def keptF (p : Pol) (days pins : List Int) (today : Int) : List Int := keptI p days pins today (days.length - 1) ++ days.drop (days.length - 1)
theorem keptI_succ (p : Pol) (days pins : List Int) (today : Int) (n : Nat) : keptI p days pins today (n + 1) = keptI p days pins today n ++ (if holdsF p (casF days n pins today) = true then [days.getD n 0] else []) := by
  unfold keptI
  rw [List.range_succ, List.filter_append, List.map_append]
  congr 1
  by_cases c : holdsF p (casF days n pins today) = true
  · rw [if_pos c]
    simp [List.filter, c]
  · rw [if_neg c]
    simp [List.filter, c]
theorem keptI_len (p : Pol) (days pins : List Int) (today : Int) (n : Nat) : (keptI p days pins today n).length ≤ n := by
  unfold keptI
  rw [List.length_map]
  refine Nat.le_trans (List.length_filter_le _ _) ?_
  rw [List.length_range]
  exact Nat.le_refl _
/-! ### histories -/
abbrev Hist := List Int × Int
def rgI (a b : Int) : List Int := (List.range (b - a).toNat).map fun (i : Nat) => a + (i : Int)
/-- the program's: today, newer ones, the cover -/
def hC (t w l : Int) : List Hist := if t - l ≥ w - 1 then [(1 :: l :: rgI (t - w + 2) (t + 1), t)] else []
def hB (t w : Int) (k : Nat) : List Hist := (List.range k).flatMap fun (i : Nat) => hC t w (2 + (i : Int))
def hA (m : Nat) (t : Int) (j : Nat) : List Hist := (List.range j).flatMap fun (i : Nat) => hB t (1 + (i : Int)) (t + 1 - 2).toNat
def hH (m : Nat) (n : Nat) : List Hist := (List.range n).flatMap fun (i : Nat) => hA m (2 + (i : Int)) (m + 2)
def histF (m : Nat) : List Hist := hH m (2 * m + 4)
/-- the law's -/
def gC (t l w : Int) : Hist := ([1, l] ++ rgI (t - w + 1) (t + 1), t)
def gB (t l : Int) (k : Nat) : List Hist := (List.range k).flatMap fun (i : Nat) => [gC t l (i : Int)]
def gA (t : Int) (j : Nat) : List Hist := (List.range j).flatMap fun (i : Nat) => gB t (2 + (i : Int)) (t - (2 + (i : Int)) + 1).toNat
def gH (n : Nat) : List Hist := (List.range n).flatMap fun (i : Nat) => gA (2 + (i : Int)) (2 + (i : Int) + 1 - 2).toNat
def histG (m : Nat) : List Hist := gH (2 * m + 3)
theorem fm_succ {α : Type} (f : Nat → List α) (n : Nat) : (List.range (n + 1)).flatMap f = (List.range n).flatMap f ++ f n := by
  rw [List.range_succ, List.flatMap_append]
  simp
theorem rgI_len (a b : Int) : (rgI a b).length = (b - a).toNat := by
  unfold rgI
  rw [List.length_map, List.length_range]
theorem mem_histF {m : Nat} {h : Hist} : h ∈ histF m ↔ ∃ t w l : Int, 2 ≤ t ∧ t ≤ 2 * m + 5 ∧ 1 ≤ w ∧ w ≤ m + 2 ∧ 2 ≤ l ∧ l ≤ t ∧ w - 1 ≤ t - l ∧ h = (1 :: l :: rgI (t - w + 2) (t + 1), t) := by
  unfold histF hH hA hB hC
  simp only [List.mem_flatMap, List.mem_range]
  constructor
  · rintro ⟨i, hi, j, hj, k, hk, hm⟩
    split at hm
    · rename_i c
      refine ⟨2 + i, 1 + j, 2 + k, by omega, by omega, by omega, by omega, by omega, by omega, by omega, List.mem_singleton.mp hm⟩
    · cases hm
  · rintro ⟨t, w, l, h1, h2, h3, h4, h5, h6, h7, rfl⟩
    refine ⟨(t - 2).toNat, by omega, (w - 1).toNat, by omega, (l - 2).toNat, by omega, ?_⟩
    have e1 : (2 : Int) + ((t - 2).toNat : Int) = t := by omega
    have e2 : (1 : Int) + ((w - 1).toNat : Int) = w := by omega
    have e3 : (2 : Int) + ((l - 2).toNat : Int) = l := by omega
    rw [e1, e2, e3, if_pos (by omega)]
    exact List.mem_singleton.mpr rfl
theorem mem_histG {m : Nat} {h : Hist} : h ∈ histG m ↔ ∃ t w l : Int, 2 ≤ t ∧ t ≤ 2 * m + 4 ∧ 0 ≤ w ∧ w ≤ t - l ∧ 2 ≤ l ∧ l ≤ t ∧ h = (1 :: l :: rgI (t - w + 1) (t + 1), t) := by
  unfold histG gH gA gB gC
  simp only [List.mem_flatMap, List.mem_range]
  constructor
  · rintro ⟨i, hi, j, hj, k, hk, hm⟩
    exact ⟨2 + i, k, 2 + j, by omega, by omega, by omega, by omega, by omega, by omega, List.mem_singleton.mp hm⟩
  · rintro ⟨t, w, l, h1, h2, h3, h4, h5, h6, rfl⟩
    refine ⟨(t - 2).toNat, by omega, (l - 2).toNat, by omega, w.toNat, by omega, ?_⟩
    have e1 : (2 : Int) + ((t - 2).toNat : Int) = t := by omega
    have e2 : (w.toNat : Int) = w := by omega
    have e3 : (2 : Int) + ((l - 2).toNat : Int) = l := by omega
    rw [e1, e2, e3]
    exact List.mem_singleton.mpr rfl
/-- the case of the version asked for in a history: by how many versions, today, the cover, and what pins tell -/
def casH (w t l : Int) (a p f : Bool) : Cas := { newer := w, old := t - 1, covered := t - l, anyC := a, pinned := p, after := f }
theorem cas_hist (l : Int) (r : List Int) (t : Int) (pins : List Int) : casF (1 :: l :: r) 0 pins t = casH ((r.length : Int) + 1) t l (!pins.isEmpty) (pins.any fun q => decide (1 ≤ q) && decide (q < l)) (pins.any fun q => decide (q ≥ 1)) := by
  unfold casF casH
  congr 1
  show (((1 :: l :: r).length : Nat) : Int) - ((0 : Nat) : Int) - 1 = _
  rw [List.length_cons, List.length_cons]
  omega
/-- each case of the program's histories is alike to one of the law's, and the other way round -/
theorem hist_FG {m : Nat} {h : Hist} (hh : h ∈ histF m) : ∃ t l w : Int, ∃ g ∈ histG m, ∃ t' l' w' : Int, 2 ≤ l ∧ 2 ≤ l' ∧ (∃ r, h = (1 :: l :: r, t) ∧ (r.length : Int) + 1 = w) ∧ (∃ r, g = (1 :: l' :: r, t') ∧ (r.length : Int) + 1 = w') ∧ ∀ a p f, Alike m (casH w t l a p f) (casH w' t' l' a p f) := by
  obtain ⟨t, w, l, h1, h2, h3, h4, h5, h6, h7, rfl⟩ := mem_histF.mp hh
  by_cases c : t ≤ 2 * m + 4
  · refine ⟨t, l, w, _, mem_histG.mpr ⟨t, w - 1, l, h1, c, by omega, by omega, h5, h6, rfl⟩, t, l, w, h5, h5, ⟨_, rfl, by rw [rgI_len]; omega⟩, ⟨_, rfl, by rw [rgI_len]; omega⟩, fun a p f => ⟨fun _ _ => Iff.rfl, fun _ _ => Iff.rfl, fun _ _ => Iff.rfl, rfl, rfl, rfl⟩⟩
  · have et : t = 2 * m + 5 := by omega
    by_cases c2 : l = 2
    · refine ⟨t, l, w, _, mem_histG.mpr ⟨2 * m + 4, w - 1, 2, by omega, by omega, by omega, by omega, by omega, by omega, rfl⟩, 2 * m + 4, 2, w, h5, by omega, ⟨_, rfl, by rw [rgI_len]; omega⟩, ⟨_, rfl, by rw [rgI_len]; omega⟩, fun a p f => ⟨fun k hk => Iff.rfl, fun k hk => ?_, fun k hk => ?_, rfl, rfl, rfl⟩⟩
      · show t - 1 ≤ (k : Int) ↔ 2 * (m : Int) + 4 - 1 ≤ (k : Int)
        omega
      · show t - l ≤ (k : Int) ↔ 2 * (m : Int) + 4 - 2 ≤ (k : Int)
        omega
    · refine ⟨t, l, w, _, mem_histG.mpr ⟨2 * m + 4, w - 1, l - 1, by omega, by omega, by omega, by omega, by omega, by omega, rfl⟩, 2 * m + 4, l - 1, w, h5, by omega, ⟨_, rfl, by rw [rgI_len]; omega⟩, ⟨_, rfl, by rw [rgI_len]; omega⟩, fun a p f => ⟨fun k hk => Iff.rfl, fun k hk => ?_, fun k hk => ?_, rfl, rfl, rfl⟩⟩
      · show t - 1 ≤ (k : Int) ↔ 2 * (m : Int) + 4 - 1 ≤ (k : Int)
        omega
      · show t - l ≤ (k : Int) ↔ 2 * (m : Int) + 4 - (l - 1) ≤ (k : Int)
        omega
theorem hist_GF {m : Nat} {h : Hist} (hh : h ∈ histG m) : ∃ t l w : Int, ∃ g ∈ histF m, ∃ t' l' w' : Int, 2 ≤ l ∧ 2 ≤ l' ∧ (∃ r, h = (1 :: l :: r, t) ∧ (r.length : Int) + 1 = w) ∧ (∃ r, g = (1 :: l' :: r, t') ∧ (r.length : Int) + 1 = w') ∧ ∀ a p f, Alike m (casH w t l a p f) (casH w' t' l' a p f) := by
  obtain ⟨t, w, l, h1, h2, h3, h4, h5, h6, rfl⟩ := mem_histG.mp hh
  by_cases c : w + 1 ≤ m + 2
  · refine ⟨t, l, w + 1, _, mem_histF.mpr ⟨t, w + 1, l, h1, by omega, by omega, c, h5, h6, by omega, rfl⟩, t, l, w + 1, h5, h5, ⟨_, rfl, by rw [rgI_len]; omega⟩, ⟨_, rfl, by rw [rgI_len]; omega⟩, fun a p f => ⟨fun _ _ => Iff.rfl, fun _ _ => Iff.rfl, fun _ _ => Iff.rfl, rfl, rfl, rfl⟩⟩
  · refine ⟨t, l, w + 1, _, mem_histF.mpr ⟨t, m + 2, l, h1, by omega, by omega, by omega, h5, h6, by omega, rfl⟩, t, l, m + 2, h5, h5, ⟨_, rfl, by rw [rgI_len]; omega⟩, ⟨_, rfl, by rw [rgI_len]; omega⟩, fun a p f => ⟨fun k hk => ?_, fun _ _ => Iff.rfl, fun _ _ => Iff.rfl, rfl, rfl, rfl⟩⟩
    show w + 1 < (k : Int) ↔ (m : Int) + 2 < (k : Int)
    omega
end Silt
set_option linter.all false
set_option Elab.async false
/-! policies: what evidence shows -/
namespace Silt
theorem mem_keptI {p : Pol} {days pins : List Int} {today d : Int} {n : Nat} : d ∈ keptI p days pins today n ↔ ∃ i, i < n ∧ holdsF p (casF days i pins today) = true ∧ days.getD i 0 = d := by
  unfold keptI
  rw [List.mem_map]
  constructor
  · rintro ⟨i, hi, e⟩
    have := List.mem_filter.mp hi
    exact ⟨i, List.mem_range.mp this.1, this.2, e⟩
  · rintro ⟨i, h1, h2, e⟩
    exact ⟨i, List.mem_filter.mpr ⟨List.mem_range.mpr h1, h2⟩, e⟩
theorem mem_last {days : List Int} {d : Int} : d ∈ days.drop (days.length - 1) ↔ 0 < days.length ∧ days.getD (days.length - 1) 0 = d := by
  rw [List.mem_iff_getElem?]
  constructor
  · rintro ⟨i, hi⟩
    rw [List.getElem?_drop] at hi
    have h1 := (List.getElem?_eq_some_iff.mp hi).1
    have : i = 0 := by omega
    subst this
    rw [Nat.add_zero] at hi
    exact ⟨by omega, by rw [List.getD_eq_getElem?_getD, hi]; rfl⟩
  · rintro ⟨h1, rfl⟩
    exact ⟨0, by rw [List.getElem?_drop, Nat.add_zero, List.getD_eq_getElem?_getD, List.getElem?_eq_getElem (by omega)]; rfl⟩
theorem asc_lt {days : List Int} (a : days.Pairwise (· < ·)) {i j : Nat} (ij : i < j) (hj : j < days.length) : days.getD i 0 < days.getD j 0 := by
  rw [List.getD_eq_getElem?_getD, List.getD_eq_getElem?_getD, List.getElem?_eq_getElem hj, List.getElem?_eq_getElem (by omega)]
  exact List.pairwise_iff_getElem.mp a _ _ _ _ ij
theorem mem_keptF {p : Pol} {days pins : List Int} {today d : Int} : d ∈ keptF p days pins today ↔ (∃ i, i < days.length - 1 ∧ holdsF p (casF days i pins today) = true ∧ days.getD i 0 = d) ∨ (0 < days.length ∧ days.getD (days.length - 1) 0 = d) := by
  unfold keptF
  rw [List.mem_append, mem_keptI, mem_last]
/-- the first day is kept just where the policy keeps it -/
theorem first_kept {p : Pol} {days pins : List Int} {today : Int} (a : days.Pairwise (· < ·)) (l : 2 ≤ days.length) : days.getD 0 0 ∈ keptF p days pins today ↔ holdsF p (casF days 0 pins today) = true := by
  rw [mem_keptF]
  constructor
  · rintro (⟨i, h1, h2, e⟩ | ⟨h1, e⟩)
    · by_cases c : i = 0
      · rw [c] at h2
        exact h2
      · have := asc_lt a (i := 0) (j := i) (by omega) (by omega)
        omega
    · have := asc_lt a (i := 0) (j := days.length - 1) (by omega) (by omega)
      omega
  · intro h
    exact .inl ⟨0, by omega, h, rfl⟩
def showsLO (p : Pol) (days : List Int) (pin today : Int) : Bool := !((keptF .pinned days [pin] today).all fun d => decide (d ∈ keptF p days [pin] today))
def showsKM (p : Pol) (days pins : List Int) (today : Int) : Bool := !((keptF p days pins today).all fun d => decide (d ∈ keptF .pinned days pins today))
def L1 (p : Pol) (h : Hist) : Bool := holdsF p (casF h.1 0 [h.1.getD 0 0] h.2)
def pins3 (h : Hist) : List (List Int) := [[], [0], [h.1.getD 1 0]]
def losesB (p : Pol) : Bool := (histF (numF p)).any fun h => !L1 p h
def moreB (p : Pol) : Bool := (histF (numF p)).any fun h => (pins3 h).any fun q => holdsF p (casF h.1 0 q h.2)
def losesG (p : Pol) : Bool := (histG (numF p)).any fun h => !holdsF p (casF h.1 0 [1] h.2)
def moreG (p : Pol) : Bool := (histG (numF p)).any fun h => (pins3 h).any fun q => holdsF p (casF h.1 0 q h.2)
/-- what pins tell of the version asked for -/
theorem cas_1 {l : Int} (h : 2 ≤ l) (r : List Int) (t : Int) : casF (1 :: l :: r) 0 [1] t = casH ((r.length : Int) + 1) t l true true true := by
  rw [cas_hist]
  have e : (([1] : List Int).any fun q => decide (1 ≤ q) && decide (q < l)) = true := by
    show (decide ((1 : Int) ≤ 1) && decide (1 < l) || false) = true
    rw [decide_eq_true (by omega : (1 : Int) < l)]
    rfl
  rw [e]
  rfl
theorem cas_n (l : Int) (r : List Int) (t : Int) : casF (1 :: l :: r) 0 [] t = casH ((r.length : Int) + 1) t l false false false := by
  rw [cas_hist]
  simp
theorem cas_0 (l : Int) (r : List Int) (t : Int) : casF (1 :: l :: r) 0 [0] t = casH ((r.length : Int) + 1) t l true false false := by
  rw [cas_hist]
  simp
theorem cas_l {l : Int} (h : 2 ≤ l) (r : List Int) (t : Int) : casF (1 :: l :: r) 0 [l] t = casH ((r.length : Int) + 1) t l true false true := by
  rw [cas_hist]
  have e : (([l] : List Int).any fun q => decide (1 ≤ q) && decide (q < l)) = false := by
    show (decide (1 ≤ l) && decide (l < l) || false) = false
    rw [decide_eq_false (by omega : ¬ l < l), Bool.and_false]
    rfl
  have e2 : (([l] : List Int).any fun q => decide (q ≥ 1)) = true := by
    show (decide (l ≥ 1) || false) = true
    rw [decide_eq_true (by omega : l ≥ 1)]
    rfl
  rw [e, e2]
  rfl
theorem loses_eq (p : Pol) : losesG p = losesB p := by
  rw [Bool.eq_iff_iff]
  unfold losesG losesB
  rw [List.any_eq_true, List.any_eq_true]
  constructor
  · rintro ⟨h, hm, e⟩
    obtain ⟨t, l, w, g, gm, t', l', w', h1, h2, ⟨r, rfl, e1⟩, ⟨r', rfl, e2⟩, A⟩ := hist_GF hm
    refine ⟨_, gm, ?_⟩
    have e : (!holdsF p (casF (1 :: l :: r) 0 [1] t)) = true := e
    show (!holdsF p (casF (1 :: l' :: r') 0 [1] t')) = true
    rw [cas_1 h1, e1] at e
    rw [cas_1 h2, e2, ← holds_alike (A true true true) (Nat.le_refl _)]
    exact e
  · rintro ⟨h, hm, e⟩
    obtain ⟨t, l, w, g, gm, t', l', w', h1, h2, ⟨r, rfl, e1⟩, ⟨r', rfl, e2⟩, A⟩ := hist_FG hm
    refine ⟨_, gm, ?_⟩
    have e : (!holdsF p (casF (1 :: l :: r) 0 [1] t)) = true := e
    show (!holdsF p (casF (1 :: l' :: r') 0 [1] t')) = true
    rw [cas_1 h1, e1] at e
    rw [cas_1 h2, e2, ← holds_alike (A true true true) (Nat.le_refl _)]
    exact e
theorem pins3_any {l : Int} (h : 2 ≤ l) (r : List Int) (t : Int) (p : Pol) : ((pins3 (1 :: l :: r, t)).any fun q => holdsF p (casF (1 :: l :: r, t).1 0 q (1 :: l :: r, t).2)) = (holdsF p (casH ((r.length : Int) + 1) t l false false false) || (holdsF p (casH ((r.length : Int) + 1) t l true false false) || holdsF p (casH ((r.length : Int) + 1) t l true false true))) := by
  rw [← cas_n, ← cas_0, ← cas_l h]
  simp [pins3]
theorem more_eq (p : Pol) : moreG p = moreB p := by
  rw [Bool.eq_iff_iff]
  unfold moreG moreB
  rw [List.any_eq_true, List.any_eq_true]
  constructor
  · rintro ⟨h, hm, e⟩
    obtain ⟨t, l, w, g, gm, t', l', w', h1, h2, ⟨r, rfl, e1⟩, ⟨r', rfl, e2⟩, A⟩ := hist_GF hm
    refine ⟨_, gm, ?_⟩
    rw [pins3_any h1, e1, holds_alike (A _ _ _) (Nat.le_refl _), holds_alike (A _ _ _) (Nat.le_refl _), holds_alike (A _ _ _) (Nat.le_refl _)] at e
    rw [pins3_any h2, e2]
    exact e
  · rintro ⟨h, hm, e⟩
    obtain ⟨t, l, w, g, gm, t', l', w', h1, h2, ⟨r, rfl, e1⟩, ⟨r', rfl, e2⟩, A⟩ := hist_FG hm
    refine ⟨_, gm, ?_⟩
    rw [pins3_any h1, e1, holds_alike (A _ _ _) (Nat.le_refl _), holds_alike (A _ _ _) (Nat.le_refl _), holds_alike (A _ _ _) (Nat.le_refl _)] at e
    rw [pins3_any h2, e2]
    exact e
/-! ### evidence -/
theorem shows_lost {p : Pol} {h : Hist} {l : Int} {r : List Int} (e : h.1 = 1 :: l :: r) (h2 : 2 ≤ l) (a : h.1.Pairwise (· < ·)) (hl : L1 p h = false) : showsLO p h.1 (h.1.getD 0 0) h.2 = true := by
  have g0 : h.1.getD 0 0 = 1 := by rw [e]; rfl
  have l2 : 2 ≤ h.1.length := by rw [e]; simp
  unfold showsLO
  rw [Bool.not_eq_true', List.all_eq_false]
  refine ⟨h.1.getD 0 0, (first_kept a l2).mpr ?_, ?_⟩
  · rw [g0, e, cas_1 h2]
    rfl
  · rw [decide_eq_true_iff, first_kept a l2]
    unfold L1 at hl
    rw [hl]
    exact Bool.false_ne_true
theorem shows_today {p : Pol} {days : List Int} {today : Int} (a : days.Pairwise (· < ·)) (hi : ∀ d ∈ days, d ≤ today) : showsLO p days today today = false := by
  unfold showsLO
  rw [Bool.not_eq_false', List.all_eq_true]
  intro d hd
  rw [decide_eq_true_iff]
  rcases mem_keptF.mp hd with ⟨i, h1, h2, e⟩ | h
  · exfalso
    have h2 : (([today] : List Int).any fun q => decide (days.getD i 0 ≤ q) && decide (q < days.getD (i + 1) 0)) = true := h2
    have h3 : days.getD (i + 1) 0 ≤ today := by
      refine hi _ ?_
      rw [List.getD_eq_getElem?_getD, List.getElem?_eq_getElem (by omega : i + 1 < days.length)]
      exact List.getElem_mem _
    obtain ⟨q, hq, h4⟩ := List.any_eq_true.mp h2
    rw [List.mem_singleton.mp hq, Bool.and_eq_true] at h4
    have := of_decide_eq_true h4.2
    omega
  · exact mem_keptF.mpr (.inr h)
theorem hist_12 (m : Nat) : (([1, 2], 2) : Hist) ∈ histF m := mem_histF.mpr ⟨2, 1, 2, by omega, by omega, by omega, by omega, by omega, by omega, by omega, rfl⟩
theorem shows_12 {p : Pol} (h : losesB p = false) : showsLO p [1, 2] 1 2 = false := by
  have hl : L1 p ([1, 2], 2) = true := by
    have := List.any_eq_false.mp h _ (hist_12 (numF p))
    simpa using this
  have hl : holdsF p (casF [1, 2] 0 [1] 2) = true := hl
  have a : ([1, 2] : List Int).Pairwise (· < ·) := by decide
  unfold showsLO
  rw [Bool.not_eq_false', List.all_eq_true]
  intro d hd
  rw [decide_eq_true_iff]
  rcases mem_keptF.mp hd with ⟨i, h1, h2, e⟩ | h
  · have : i = 0 := by
      have h1 : i < 1 := h1
      omega
    subst this
    rw [← e]
    exact mem_keptF.mpr (.inl ⟨0, h1, hl, rfl⟩)
  · exact mem_keptF.mpr (.inr h)
theorem shows_more {p : Pol} {h : Hist} {pins : List Int} {l : Int} {r : List Int} (e : h.1 = 1 :: l :: r) (h2 : 2 ≤ l) (a : h.1.Pairwise (· < ·)) (hp : pins ∈ pins3 h) (hl : holdsF p (casF h.1 0 pins h.2) = true) : showsKM p h.1 pins h.2 = true := by
  have l2 : 2 ≤ h.1.length := by rw [e]; simp
  unfold showsKM
  rw [Bool.not_eq_true', List.all_eq_false]
  refine ⟨h.1.getD 0 0, (first_kept a l2).mpr hl, ?_⟩
  rw [decide_eq_true_iff, first_kept a l2]
  have e1 : h.1.getD 1 0 = l := by rw [e]; rfl
  unfold pins3 at hp
  rw [e1] at hp
  simp only [List.mem_cons, List.not_mem_nil, or_false] at hp
  rw [e]
  rcases hp with rfl | rfl | rfl
  · rw [cas_n]
    exact Bool.false_ne_true
  · rw [cas_0]
    exact Bool.false_ne_true
  · rw [cas_l h2]
    exact Bool.false_ne_true
theorem shows_1 (p : Pol) : showsKM p [1] [] 1 = false := by
  unfold showsKM
  rw [Bool.not_eq_false', List.all_eq_true]
  intro d hd
  rw [decide_eq_true_iff]
  rcases mem_keptF.mp hd with ⟨i, h1, h2, e⟩ | h
  · have h1 : i < 0 := h1
    omega
  · exact mem_keptF.mpr (.inr h)
theorem shows_2 {p : Pol} (h : moreB p = false) : showsKM p [1, 2] [] 2 = false := by
  have hl : holdsF p (casF [1, 2] 0 [] 2) = false := by
    have := List.any_eq_false.mp h _ (hist_12 (numF p))
    rw [Bool.not_eq_true, List.any_eq_false] at this
    have := this [] (by simp [pins3])
    simpa using this
  unfold showsKM
  rw [Bool.not_eq_false', List.all_eq_true]
  intro d hd
  rw [decide_eq_true_iff]
  rcases mem_keptF.mp hd with ⟨i, h1, h2, e⟩ | h
  · have : i = 0 := by
      have h1 : i < 1 := h1
      omega
    subst this
    rw [hl] at h2
    cases h2
  · exact mem_keptF.mpr (.inr h)
end Silt
set_option Elab.async false
set_option linter.all false
set_option maxRecDepth 100000
set_option maxHeartbeats 4000000
namespace Sl
open PySem L2 C8 StX
def topS (i : Nat) : Stmt := PySem.Challenge.pw_siltstore_k07_whole_policies.main.body.getD i (.Pass ⟨0, 0, 0, 0⟩)
abbrev s_is_whole : Stmt := topS 6
abbrev N_is_whole : List Str := ["thing"]
abbrev P_is_whole : List Str := ["thing"]
theorem sc_is_whole : FnScope N_is_whole P_is_whole (fnScope s_is_whole) := fnScope_by (by decide +kernel)
abbrev s_check_pins : Stmt := topS 8
abbrev N_check_pins : List Str := ["pins", "one"]
abbrev P_check_pins : List Str := ["pins"]
theorem sc_check_pins : FnScope N_check_pins P_check_pins (fnScope s_check_pins) := fnScope_by (by decide +kernel)
abbrev s_is_needed : Stmt := topS 9
abbrev N_is_needed : List Str := ["day", "later", "pins", "pin"]
abbrev P_is_needed : List Str := ["day", "later", "pins"]
theorem sc_is_needed : FnScope N_is_needed P_is_needed (fnScope s_is_needed) := fnScope_by (by decide +kernel)
abbrev s_Evidence_pieces : Stmt := inClass (topS 11) 1
abbrev N_Evidence_pieces : List Str := ["self"]
abbrev P_Evidence_pieces : List Str := ["self"]
theorem sc_Evidence_pieces : FnScope N_Evidence_pieces P_Evidence_pieces (fnScope s_Evidence_pieces) := fnScope_by (by decide +kernel)
abbrev s_Evidence_eq : Stmt := inClass (topS 11) 2
abbrev N_Evidence_eq : List Str := ["self", "other"]
abbrev P_Evidence_eq : List Str := ["self", "other"]
theorem sc_Evidence_eq : FnScope N_Evidence_eq P_Evidence_eq (fnScope s_Evidence_eq) := fnScope_by (by decide +kernel)
abbrev s_Good_bool : Stmt := inClass (topS 12) 0
abbrev N_Good_bool : List Str := ["self"]
abbrev P_Good_bool : List Str := ["self"]
theorem sc_Good_bool : FnScope N_Good_bool P_Good_bool (fnScope s_Good_bool) := fnScope_by (by decide +kernel)
abbrev s_Bad_bool : Stmt := inClass (topS 13) 0
abbrev N_Bad_bool : List Str := ["self"]
abbrev P_Bad_bool : List Str := ["self"]
theorem sc_Bad_bool : FnScope N_Bad_bool P_Bad_bool (fnScope s_Bad_bool) := fnScope_by (by decide +kernel)
abbrev s_is_policy : Stmt := topS 19
abbrev N_is_policy : List Str := ["thing", "deep", "one"]
abbrev P_is_policy : List Str := ["thing", "deep"]
theorem sc_is_policy : FnScope N_is_policy P_is_policy (fnScope s_is_policy) := fnScope_by (by decide +kernel)
abbrev s_check_policy : Stmt := topS 20
abbrev N_check_policy : List Str := ["thing"]
abbrev P_check_policy : List Str := ["thing"]
theorem sc_check_policy : FnScope N_check_policy P_check_policy (fnScope s_check_policy) := fnScope_by (by decide +kernel)
abbrev s_holds : Stmt := topS 21
abbrev N_holds : List Str := ["policy", "case", "kind", "told", "one"]
abbrev P_holds : List Str := ["policy", "case"]
theorem sc_holds : FnScope N_holds P_holds (fnScope s_holds) := fnScope_by (by decide +kernel)
abbrev s_case_of : Stmt := topS 22
abbrev N_case_of : List Str := ["days", "place", "pins", "today", "day", "late", "pin"]
abbrev P_case_of : List Str := ["days", "place", "pins", "today"]
theorem sc_case_of : FnScope N_case_of P_case_of (fnScope s_case_of) := fnScope_by (by decide +kernel)
abbrev s_check_days : Stmt := topS 23
abbrev N_check_days : List Str := ["days", "today", "day", "one", "late"]
abbrev P_check_days : List Str := ["days", "today"]
theorem sc_check_days : FnScope N_check_days P_check_days (fnScope s_check_days) := fnScope_by (by decide +kernel)
abbrev s_kept_days : Stmt := topS 24
abbrev N_kept_days : List Str := ["policy", "days", "pins", "today", "found", "place", "day"]
abbrev P_kept_days : List Str := ["policy", "days", "pins", "today"]
theorem sc_kept_days : FnScope N_kept_days P_kept_days (fnScope s_kept_days) := fnScope_by (by decide +kernel)
abbrev s_needed_days : Stmt := topS 25
abbrev N_needed_days : List Str := ["days", "pins", "today"]
abbrev P_needed_days : List Str := ["days", "pins", "today"]
theorem sc_needed_days : FnScope N_needed_days P_needed_days (fnScope s_needed_days) := fnScope_by (by decide +kernel)
abbrev s_greatest_in : Stmt := topS 26
abbrev N_greatest_in : List Str := ["policy", "one"]
abbrev P_greatest_in : List Str := ["policy"]
theorem sc_greatest_in : FnScope N_greatest_in P_greatest_in (fnScope s_greatest_in) := fnScope_by (by decide +kernel)
abbrev s_histories : Stmt := topS 27
abbrev N_histories : List Str := ["most", "found", "today", "newer", "late"]
abbrev P_histories : List Str := ["most"]
theorem sc_histories : FnScope N_histories P_histories (fnScope s_histories) := fnScope_by (by decide +kernel)
abbrev s_size_of : Stmt := topS 28
abbrev N_size_of : List Str := ["row"]
abbrev P_size_of : List Str := ["row"]
theorem sc_size_of : FnScope N_size_of P_size_of (fnScope s_size_of) := fnScope_by (by decide +kernel)
abbrev s_KeepsAll_init : Stmt := inClass (topS 29) 1
abbrev N_KeepsAll_init : List Str := ["self", "most"]
abbrev P_KeepsAll_init : List Str := ["self", "most"]
theorem sc_KeepsAll_init : FnScope N_KeepsAll_init P_KeepsAll_init (fnScope s_KeepsAll_init) := fnScope_by (by decide +kernel)
abbrev s_KeepsAll_pieces : Stmt := inClass (topS 29) 2
abbrev N_KeepsAll_pieces : List Str := ["self"]
abbrev P_KeepsAll_pieces : List Str := ["self"]
theorem sc_KeepsAll_pieces : FnScope N_KeepsAll_pieces P_KeepsAll_pieces (fnScope s_KeepsAll_pieces) := fnScope_by (by decide +kernel)
abbrev s_KeepsAll_shows : Stmt := inClass (topS 29) 3
abbrev N_KeepsAll_shows : List Str := ["self", "policy"]
abbrev P_KeepsAll_shows : List Str := ["self", "policy"]
theorem sc_KeepsAll_shows : FnScope N_KeepsAll_shows P_KeepsAll_shows (fnScope s_KeepsAll_shows) := fnScope_by (by decide +kernel)
abbrev s_LosesOne_init : Stmt := inClass (topS 30) 1
abbrev N_LosesOne_init : List Str := ["self", "days", "pin", "today"]
abbrev P_LosesOne_init : List Str := ["self", "days", "pin", "today"]
theorem sc_LosesOne_init : FnScope N_LosesOne_init P_LosesOne_init (fnScope s_LosesOne_init) := fnScope_by (by decide +kernel)
abbrev s_LosesOne_pieces : Stmt := inClass (topS 30) 2
abbrev N_LosesOne_pieces : List Str := ["self"]
abbrev P_LosesOne_pieces : List Str := ["self"]
theorem sc_LosesOne_pieces : FnScope N_LosesOne_pieces P_LosesOne_pieces (fnScope s_LosesOne_pieces) := fnScope_by (by decide +kernel)
abbrev s_LosesOne_shows : Stmt := inClass (topS 30) 3
abbrev N_LosesOne_shows : List Str := ["self", "policy", "kept", "day"]
abbrev P_LosesOne_shows : List Str := ["self", "policy"]
theorem sc_LosesOne_shows : FnScope N_LosesOne_shows P_LosesOne_shows (fnScope s_LosesOne_shows) := fnScope_by (by decide +kernel)
abbrev s_lost_by : Stmt := topS 31
abbrev N_lost_by : List Str := ["policy", "days", "today"]
abbrev P_lost_by : List Str := ["policy"]
theorem sc_lost_by : FnScope N_lost_by P_lost_by (fnScope s_lost_by) := fnScope_by (by decide +kernel)
abbrev s_judge_policy : Stmt := topS 32
abbrev N_judge_policy : List Str := ["policy", "found"]
abbrev P_judge_policy : List Str := ["policy"]
theorem sc_judge_policy : FnScope N_judge_policy P_judge_policy (fnScope s_judge_policy) := fnScope_by (by decide +kernel)
abbrev s_KeepsLittle_init : Stmt := inClass (topS 33) 1
abbrev N_KeepsLittle_init : List Str := ["self", "most"]
abbrev P_KeepsLittle_init : List Str := ["self", "most"]
theorem sc_KeepsLittle_init : FnScope N_KeepsLittle_init P_KeepsLittle_init (fnScope s_KeepsLittle_init) := fnScope_by (by decide +kernel)
abbrev s_KeepsLittle_pieces : Stmt := inClass (topS 33) 2
abbrev N_KeepsLittle_pieces : List Str := ["self"]
abbrev P_KeepsLittle_pieces : List Str := ["self"]
theorem sc_KeepsLittle_pieces : FnScope N_KeepsLittle_pieces P_KeepsLittle_pieces (fnScope s_KeepsLittle_pieces) := fnScope_by (by decide +kernel)
abbrev s_KeepsLittle_shows : Stmt := inClass (topS 33) 3
abbrev N_KeepsLittle_shows : List Str := ["self", "policy"]
abbrev P_KeepsLittle_shows : List Str := ["self", "policy"]
theorem sc_KeepsLittle_shows : FnScope N_KeepsLittle_shows P_KeepsLittle_shows (fnScope s_KeepsLittle_shows) := fnScope_by (by decide +kernel)
abbrev s_KeepsMore_init : Stmt := inClass (topS 34) 1
abbrev N_KeepsMore_init : List Str := ["self", "days", "pins", "today"]
abbrev P_KeepsMore_init : List Str := ["self", "days", "pins", "today"]
theorem sc_KeepsMore_init : FnScope N_KeepsMore_init P_KeepsMore_init (fnScope s_KeepsMore_init) := fnScope_by (by decide +kernel)
abbrev s_KeepsMore_pieces : Stmt := inClass (topS 34) 2
abbrev N_KeepsMore_pieces : List Str := ["self"]
abbrev P_KeepsMore_pieces : List Str := ["self"]
theorem sc_KeepsMore_pieces : FnScope N_KeepsMore_pieces P_KeepsMore_pieces (fnScope s_KeepsMore_pieces) := fnScope_by (by decide +kernel)
abbrev s_KeepsMore_shows : Stmt := inClass (topS 34) 3
abbrev N_KeepsMore_shows : List Str := ["self", "policy", "kept", "day"]
abbrev P_KeepsMore_shows : List Str := ["self", "policy"]
theorem sc_KeepsMore_shows : FnScope N_KeepsMore_shows P_KeepsMore_shows (fnScope s_KeepsMore_shows) := fnScope_by (by decide +kernel)
abbrev s_spared_by : Stmt := topS 35
abbrev N_spared_by : List Str := ["policy", "days", "today", "pins"]
abbrev P_spared_by : List Str := ["policy"]
theorem sc_spared_by : FnScope N_spared_by P_spared_by (fnScope s_spared_by) := fnScope_by (by decide +kernel)
abbrev s_judge_lean : Stmt := topS 36
abbrev N_judge_lean : List Str := ["policy", "found"]
abbrev P_judge_lean : List Str := ["policy"]
theorem sc_judge_lean : FnScope N_judge_lean P_judge_lean (fnScope s_judge_lean) := fnScope_by (by decide +kernel)
abbrev s__law_draw : Stmt := topS 38
abbrev N__law_draw : List Str := ["_law_script", "_law_at", "_law_many", "_law_row", "_law_cell", "_law_turn", "_law_step", "_law_mixed"]
abbrev P__law_draw : List Str := ["_law_script", "_law_at", "_law_many"]
theorem sc__law_draw : FnScope N__law_draw P__law_draw (fnScope s__law_draw) := fnScope_by (by decide +kernel)
abbrev s__law_policy : Stmt := topS 39
abbrev N__law_policy : List Str := ["_law_script", "_law_at", "_law_deep", "_law_kind"]
abbrev P__law_policy : List Str := ["_law_script", "_law_at", "_law_deep"]
theorem sc__law_policy : FnScope N__law_policy P__law_policy (fnScope s__law_policy) := fnScope_by (by decide +kernel)
abbrev s__law_keeps : Stmt := topS 40
abbrev N__law_keeps : List Str := ["_law_policy_here", "_law_days", "_law_place", "_law_pins", "_law_today", "_law_kind", "_law_pin", "_law_told", "_law_one"]
abbrev P__law_keeps : List Str := ["_law_policy_here", "_law_days", "_law_place", "_law_pins", "_law_today"]
theorem sc__law_keeps : FnScope N__law_keeps P__law_keeps (fnScope s__law_keeps) := fnScope_by (by decide +kernel)
abbrev s__law_number : Stmt := topS 41
abbrev N__law_number : List Str := ["_law_policy_here", "_law_one"]
abbrev P__law_number : List Str := ["_law_policy_here"]
theorem sc__law_number : FnScope N__law_number P__law_number (fnScope s__law_number) := fnScope_by (by decide +kernel)
abbrev s__law_histories : Stmt := topS 42
abbrev N__law_histories : List Str := ["_law_most", "_law_found", "_law_today", "_law_late", "_law_newer"]
abbrev P__law_histories : List Str := ["_law_most"]
theorem sc__law_histories : FnScope N__law_histories P__law_histories (fnScope s__law_histories) := fnScope_by (by decide +kernel)
abbrev s_law : Stmt := topS 43
abbrev N_law : List Str := ["_law_script", "_law_policy_here", "_law_most", "_law_today", "_law_days", "_law_day", "_law_pins", "_law_turn", "_law_kept", "_law_place", "_law_need", "_law_loses", "_law_more", "_law_told", "_law_now", "_law_some", "_law_found", "_law_lean", "_law_bad"]
abbrev P_law : List Str := ["_law_script"]
theorem sc_law : FnScope N_law P_law (fnScope s_law) := fnScope_by (by decide +kernel)
def strsOf : List Value → Option (List Str)
  | [] => some []
  | .str x _ :: r => (strsOf r).map (x :: ·)
  | _ => none
def tupS : Option Obj → Option (List Str)
  | some o => match o.cls, o.data with
    | .type s, .seq a _ => if s == "tuple" then strsOf a.toList else none
    | _, _ => none
  | none => none
theorem strsOf_vals : ∀ {us : List Value} {zs : List Str}, strsOf us = some zs → Vals (zs.map V.str) us
  | [], zs, h => by
    cases h
    exact .nil
  | u :: r, zs, h => by
    cases u <;> first | (cases h; done) | skip
    rename_i x t
    show Vals (zs.map V.str) (Value.str x t :: r)
    have h : (strsOf r).map (x :: ·) = some zs := h
    cases e : strsOf r with
    | none => rw [e] at h; cases h
    | some ys =>
      rw [e] at h
      cases h
      exact .cons ⟨t, rfl⟩ (strsOf_vals e)
theorem tupS_sq {K : PySem.W.Frag} {D : Addr} {zs : List Str} (h : tupS (K.lookup D) = some zs) (hl : zs.length ≤ 1000) (H : Hp) : SqT K H D (zs.map V.str) := by
  cases e : K.lookup D with
  | none => rw [e] at h; cases h
  | some o =>
    rw [e] at h
    obtain ⟨c, d, dt, sl⟩ := o
    unfold tupS at h
    cases c <;> first | (cases h; done) | skip
    cases dt <;> first | (cases h; done) | skip
    rename_i s its n
    have h : (if s == "tuple" then strsOf its.toList else none) = some zs := h
    by_cases c : (s == "tuple") = true
    · rw [if_pos c] at h
      have e1 : s = "tuple" := beq_iff_eq.mp c
      subst e1
      have rv := strsOf_vals h
      refine .inr ⟨_, its, n, e, rfl, rfl, ?_, rv⟩
      have hs : its.size = zs.length := by
        have := rv.length
        simpa using this.symm
      rw [hs]
      exact Nat.le_trans hl (by decide)
    · rw [if_neg c] at h
      cases h
/-- what isinstance asks of an own class, without the class itself -/
structure InsF (K : PySem.W.Frag) (C : Addr) : Prop where
  ha : PySem.W.findIn K (.ref C) "__class__" = some (some (.builtin "object.__class__"))
  hn : PySem.W.specialIn K (.builtin "object.__class__") "__get__" = some (some (.builtin "getset_descriptor.__get__"))
  htk : PySem.W.takesIn K (.builtin "object.__class__") = some true
  hm : PySem.W.mroIn K C (.type "object") = some true
theorem kit_self {K : PySem.W.Frag} {C : Addr} : PySem.W.kitOne K (.ref C) (.ref C) = some true := by
  unfold PySem.W.kitOne
  rw [if_pos (by simp)]
structure TX (K : PySem.W.Frag) (mg : Str → Option Value) (C_Evidence C_Good C_Bad C_KeepsAll C_LosesOne C_KeepsLittle C_KeepsMore C_BadDay C_BadPolicy D_PLAIN D_NUMBERED : Addr) : Prop where
  mg_Evidence : mg "Evidence" = some (.ref C_Evidence)
  mg_Good : mg "Good" = some (.ref C_Good)
  mg_Bad : mg "Bad" = some (.ref C_Bad)
  mg_KeepsAll : mg "KeepsAll" = some (.ref C_KeepsAll)
  mg_LosesOne : mg "LosesOne" = some (.ref C_LosesOne)
  mg_KeepsLittle : mg "KeepsLittle" = some (.ref C_KeepsLittle)
  mg_KeepsMore : mg "KeepsMore" = some (.ref C_KeepsMore)
  mg_BadDay : mg "BadDay" = some (.ref C_BadDay)
  mg_BadPolicy : mg "BadPolicy" = some (.ref C_BadPolicy)
  d_is_whole : ∃ f fd, C8.Def K mg "is_whole" s_is_whole f fd ∧ fd.defaults = .none
  d_check_pins : ∃ f fd, C8.Def K mg "check_pins" s_check_pins f fd ∧ fd.defaults = .none
  d_is_needed : ∃ f fd, C8.Def K mg "is_needed" s_is_needed f fd ∧ fd.defaults = .none
  d_is_policy : ∃ f fd, C8.Def K mg "is_policy" s_is_policy f fd ∧ (∃ ds, Vals [] ds ∧ Binds K fd P_is_policy ds) ∧ (∃ ds, Vals [.int 8] ds ∧ Binds K fd P_is_policy ds)
  d_check_policy : ∃ f fd, C8.Def K mg "check_policy" s_check_policy f fd ∧ fd.defaults = .none
  d_holds : ∃ f fd, C8.Def K mg "holds" s_holds f fd ∧ fd.defaults = .none
  d_case_of : ∃ f fd, C8.Def K mg "case_of" s_case_of f fd ∧ fd.defaults = .none
  d_check_days : ∃ f fd, C8.Def K mg "check_days" s_check_days f fd ∧ fd.defaults = .none
  d_kept_days : ∃ f fd, C8.Def K mg "kept_days" s_kept_days f fd ∧ fd.defaults = .none
  d_needed_days : ∃ f fd, C8.Def K mg "needed_days" s_needed_days f fd ∧ fd.defaults = .none
  d_greatest_in : ∃ f fd, C8.Def K mg "greatest_in" s_greatest_in f fd ∧ fd.defaults = .none
  d_histories : ∃ f fd, C8.Def K mg "histories" s_histories f fd ∧ fd.defaults = .none
  d_size_of : ∃ f fd, C8.Def K mg "size_of" s_size_of f fd ∧ fd.defaults = .none
  m_KeepsAll_init : ∃ f fd, C8.Fun K "__init__" "KeepsAll.__init__" s_KeepsAll_init f fd ∧ fd.defaults = .none ∧ Mk K C_KeepsAll f
  m_KeepsAll_pieces : ∃ f fd, C8.Fun K "pieces" "KeepsAll.pieces" s_KeepsAll_pieces f fd ∧ fd.defaults = .none ∧ Meth K C_KeepsAll "pieces" f ∧ PySem.W.fnIn K f = true
  m_KeepsAll_shows : ∃ f fd, C8.Fun K "shows" "KeepsAll.shows" s_KeepsAll_shows f fd ∧ fd.defaults = .none ∧ Meth K C_KeepsAll "shows" f ∧ PySem.W.fnIn K f = true
  m_LosesOne_init : ∃ f fd, C8.Fun K "__init__" "LosesOne.__init__" s_LosesOne_init f fd ∧ fd.defaults = .none ∧ Mk K C_LosesOne f
  m_LosesOne_pieces : ∃ f fd, C8.Fun K "pieces" "LosesOne.pieces" s_LosesOne_pieces f fd ∧ fd.defaults = .none ∧ Meth K C_LosesOne "pieces" f ∧ PySem.W.fnIn K f = true
  m_LosesOne_shows : ∃ f fd, C8.Fun K "shows" "LosesOne.shows" s_LosesOne_shows f fd ∧ fd.defaults = .none ∧ Meth K C_LosesOne "shows" f ∧ PySem.W.fnIn K f = true
  d_lost_by : ∃ f fd, C8.Def K mg "lost_by" s_lost_by f fd ∧ fd.defaults = .none
  d_judge_policy : ∃ f fd, C8.Def K mg "judge_policy" s_judge_policy f fd ∧ fd.defaults = .none
  m_KeepsLittle_init : ∃ f fd, C8.Fun K "__init__" "KeepsLittle.__init__" s_KeepsLittle_init f fd ∧ fd.defaults = .none ∧ Mk K C_KeepsLittle f
  m_KeepsLittle_pieces : ∃ f fd, C8.Fun K "pieces" "KeepsLittle.pieces" s_KeepsLittle_pieces f fd ∧ fd.defaults = .none ∧ Meth K C_KeepsLittle "pieces" f ∧ PySem.W.fnIn K f = true
  m_KeepsLittle_shows : ∃ f fd, C8.Fun K "shows" "KeepsLittle.shows" s_KeepsLittle_shows f fd ∧ fd.defaults = .none ∧ Meth K C_KeepsLittle "shows" f ∧ PySem.W.fnIn K f = true
  m_KeepsMore_init : ∃ f fd, C8.Fun K "__init__" "KeepsMore.__init__" s_KeepsMore_init f fd ∧ fd.defaults = .none ∧ Mk K C_KeepsMore f
  m_KeepsMore_pieces : ∃ f fd, C8.Fun K "pieces" "KeepsMore.pieces" s_KeepsMore_pieces f fd ∧ fd.defaults = .none ∧ Meth K C_KeepsMore "pieces" f ∧ PySem.W.fnIn K f = true
  m_KeepsMore_shows : ∃ f fd, C8.Fun K "shows" "KeepsMore.shows" s_KeepsMore_shows f fd ∧ fd.defaults = .none ∧ Meth K C_KeepsMore "shows" f ∧ PySem.W.fnIn K f = true
  d_spared_by : ∃ f fd, C8.Def K mg "spared_by" s_spared_by f fd ∧ fd.defaults = .none
  d_judge_lean : ∃ f fd, C8.Def K mg "judge_lean" s_judge_lean f fd ∧ fd.defaults = .none
  d__law_draw : ∃ f fd, C8.Def K mg "_law_draw" s__law_draw f fd ∧ fd.defaults = .none
  d__law_policy : ∃ f fd, C8.Def K mg "_law_policy" s__law_policy f fd ∧ fd.defaults = .none
  d__law_keeps : ∃ f fd, C8.Def K mg "_law_keeps" s__law_keeps f fd ∧ fd.defaults = .none
  d__law_number : ∃ f fd, C8.Def K mg "_law_number" s__law_number f fd ∧ fd.defaults = .none
  d__law_histories : ∃ f fd, C8.Def K mg "_law_histories" s__law_histories f fd ∧ fd.defaults = .none
  d_law : ∃ f fd, C8.Def K mg "law" s_law f fd ∧ fd.defaults = .none
  m_KeepsAll_bool : ∃ f fd, C8.Fun K "__bool__" "Good.__bool__" s_Good_bool f fd ∧ fd.defaults = .none ∧ Meth K C_KeepsAll "__bool__" f ∧ PySem.W.fnIn K f = true
  m_KeepsAll_eq : ∃ f fd, C8.Fun K "__eq__" "Evidence.__eq__" s_Evidence_eq f fd ∧ fd.defaults = .none ∧ Meth K C_KeepsAll "__eq__" f ∧ PySem.W.fnIn K f = true
  ux_KeepsAll_Evidence : PySem.W.kitOne K (.ref C_KeepsAll) (.ref C_Evidence) = some true
  k_KeepsAll_WORD : ∃ u, Con K C_KeepsAll "WORD" (.str "keepsall") u
  m_LosesOne_bool : ∃ f fd, C8.Fun K "__bool__" "Bad.__bool__" s_Bad_bool f fd ∧ fd.defaults = .none ∧ Meth K C_LosesOne "__bool__" f ∧ PySem.W.fnIn K f = true
  m_LosesOne_eq : ∃ f fd, C8.Fun K "__eq__" "Evidence.__eq__" s_Evidence_eq f fd ∧ fd.defaults = .none ∧ Meth K C_LosesOne "__eq__" f ∧ PySem.W.fnIn K f = true
  ux_LosesOne_Evidence : PySem.W.kitOne K (.ref C_LosesOne) (.ref C_Evidence) = some true
  k_LosesOne_WORD : ∃ u, Con K C_LosesOne "WORD" (.str "losesone") u
  m_KeepsLittle_bool : ∃ f fd, C8.Fun K "__bool__" "Good.__bool__" s_Good_bool f fd ∧ fd.defaults = .none ∧ Meth K C_KeepsLittle "__bool__" f ∧ PySem.W.fnIn K f = true
  m_KeepsLittle_eq : ∃ f fd, C8.Fun K "__eq__" "Evidence.__eq__" s_Evidence_eq f fd ∧ fd.defaults = .none ∧ Meth K C_KeepsLittle "__eq__" f ∧ PySem.W.fnIn K f = true
  ux_KeepsLittle_Evidence : PySem.W.kitOne K (.ref C_KeepsLittle) (.ref C_Evidence) = some true
  k_KeepsLittle_WORD : ∃ u, Con K C_KeepsLittle "WORD" (.str "keepslittle") u
  m_KeepsMore_bool : ∃ f fd, C8.Fun K "__bool__" "Bad.__bool__" s_Bad_bool f fd ∧ fd.defaults = .none ∧ Meth K C_KeepsMore "__bool__" f ∧ PySem.W.fnIn K f = true
  m_KeepsMore_eq : ∃ f fd, C8.Fun K "__eq__" "Evidence.__eq__" s_Evidence_eq f fd ∧ fd.defaults = .none ∧ Meth K C_KeepsMore "__eq__" f ∧ PySem.W.fnIn K f = true
  ux_KeepsMore_Evidence : PySem.W.kitOne K (.ref C_KeepsMore) (.ref C_Evidence) = some true
  k_KeepsMore_WORD : ∃ u, Con K C_KeepsMore "WORD" (.str "keepsmore") u
  cl_KeepsAll : Cls K C_KeepsAll
  ic_KeepsAll : InsF K C_KeepsAll
  na_KeepsAll_most : NoAttr K C_KeepsAll "most"
  cl_LosesOne : Cls K C_LosesOne
  ic_LosesOne : InsF K C_LosesOne
  na_LosesOne_days : NoAttr K C_LosesOne "days"
  na_LosesOne_pin : NoAttr K C_LosesOne "pin"
  na_LosesOne_today : NoAttr K C_LosesOne "today"
  cl_KeepsLittle : Cls K C_KeepsLittle
  ic_KeepsLittle : InsF K C_KeepsLittle
  na_KeepsLittle_most : NoAttr K C_KeepsLittle "most"
  cl_KeepsMore : Cls K C_KeepsMore
  ic_KeepsMore : InsF K C_KeepsMore
  na_KeepsMore_days : NoAttr K C_KeepsMore "days"
  na_KeepsMore_pins : NoAttr K C_KeepsMore "pins"
  na_KeepsMore_today : NoAttr K C_KeepsMore "today"
  nc_KeepsAll_LosesOne : PySem.W.kitOne K (.ref C_KeepsAll) (.ref C_LosesOne) = some false
  nc_LosesOne_KeepsAll : PySem.W.kitOne K (.ref C_LosesOne) (.ref C_KeepsAll) = some false
  nc_KeepsLittle_KeepsMore : PySem.W.kitOne K (.ref C_KeepsLittle) (.ref C_KeepsMore) = some false
  nc_KeepsMore_KeepsLittle : PySem.W.kitOne K (.ref C_KeepsMore) (.ref C_KeepsLittle) = some false
  x_BadDay : XOwn K C_BadDay
  x_BadPolicy : XOwn K C_BadPolicy
  g_MOST_NUMBER : ∃ u, mg "MOST_NUMBER" = some u ∧ RelV (.int 12) u
  g_MOST_DEEP : ∃ u, mg "MOST_DEEP" = some u ∧ RelV (.int 8) u
  mg_D_PLAIN : mg "PLAIN" = some (.ref D_PLAIN)
  e_PLAIN : tupS (K.lookup D_PLAIN) = some (["pinned", "after", "any"] : List Str)
  mg_D_NUMBERED : mg "NUMBERED" = some (.ref D_NUMBERED)
  e_NUMBERED : tupS (K.lookup D_NUMBERED) = some (["newest", "young", "fresh"] : List Str)
  b_max : mg "max" = none
  b_min : mg "min" = none
  b_len : mg "len" = none
  b_sum : mg "sum" = none
  b_abs : mg "abs" = none
  b_int : mg "int" = none
  b_bool : mg "bool" = none
  b_isinstance : mg "isinstance" = none
  b_range : mg "range" = none
  b_enumerate : mg "enumerate" = none
  b_list : mg "list" = none
  b_tuple : mg "tuple" = none
  b_sorted : mg "sorted" = none
  b_all : mg "all" = none
  b_any : mg "any" = none
  b_dict : mg "dict" = none
  b_str : mg "str" = none
  b_zip : mg "zip" = none
  b_reversed : mg "reversed" = none
  b_set : mg "set" = none
theorem TX.g_Evidence {K : PySem.W.Frag} {mg : Str → Option Value} {C_Evidence C_Good C_Bad C_KeepsAll C_LosesOne C_KeepsLittle C_KeepsMore C_BadDay C_BadPolicy D_PLAIN D_NUMBERED : Addr} (T : TX K mg C_Evidence C_Good C_Bad C_KeepsAll C_LosesOne C_KeepsLittle C_KeepsMore C_BadDay C_BadPolicy D_PLAIN D_NUMBERED) : ∃ u, mg "Evidence" = some u ∧ RelV (.ref C_Evidence) u := ⟨_, T.mg_Evidence, rfl⟩
theorem TX.g_Good {K : PySem.W.Frag} {mg : Str → Option Value} {C_Evidence C_Good C_Bad C_KeepsAll C_LosesOne C_KeepsLittle C_KeepsMore C_BadDay C_BadPolicy D_PLAIN D_NUMBERED : Addr} (T : TX K mg C_Evidence C_Good C_Bad C_KeepsAll C_LosesOne C_KeepsLittle C_KeepsMore C_BadDay C_BadPolicy D_PLAIN D_NUMBERED) : ∃ u, mg "Good" = some u ∧ RelV (.ref C_Good) u := ⟨_, T.mg_Good, rfl⟩
theorem TX.g_Bad {K : PySem.W.Frag} {mg : Str → Option Value} {C_Evidence C_Good C_Bad C_KeepsAll C_LosesOne C_KeepsLittle C_KeepsMore C_BadDay C_BadPolicy D_PLAIN D_NUMBERED : Addr} (T : TX K mg C_Evidence C_Good C_Bad C_KeepsAll C_LosesOne C_KeepsLittle C_KeepsMore C_BadDay C_BadPolicy D_PLAIN D_NUMBERED) : ∃ u, mg "Bad" = some u ∧ RelV (.ref C_Bad) u := ⟨_, T.mg_Bad, rfl⟩
theorem TX.g_KeepsAll {K : PySem.W.Frag} {mg : Str → Option Value} {C_Evidence C_Good C_Bad C_KeepsAll C_LosesOne C_KeepsLittle C_KeepsMore C_BadDay C_BadPolicy D_PLAIN D_NUMBERED : Addr} (T : TX K mg C_Evidence C_Good C_Bad C_KeepsAll C_LosesOne C_KeepsLittle C_KeepsMore C_BadDay C_BadPolicy D_PLAIN D_NUMBERED) : ∃ u, mg "KeepsAll" = some u ∧ RelV (.ref C_KeepsAll) u := ⟨_, T.mg_KeepsAll, rfl⟩
theorem TX.up_KeepsAll_Evidence {K : PySem.W.Frag} {mg : Str → Option Value} {C_Evidence C_Good C_Bad C_KeepsAll C_LosesOne C_KeepsLittle C_KeepsMore C_BadDay C_BadPolicy D_PLAIN D_NUMBERED : Addr} (T : TX K mg C_Evidence C_Good C_Bad C_KeepsAll C_LosesOne C_KeepsLittle C_KeepsMore C_BadDay C_BadPolicy D_PLAIN D_NUMBERED) : InsB K C_KeepsAll C_Evidence := ⟨T.cl_KeepsAll, T.ic_KeepsAll.ha, T.ic_KeepsAll.hn, T.ic_KeepsAll.htk, T.ic_KeepsAll.hm, T.ux_KeepsAll_Evidence⟩
theorem TX.i_KeepsAll {K : PySem.W.Frag} {mg : Str → Option Value} {C_Evidence C_Good C_Bad C_KeepsAll C_LosesOne C_KeepsLittle C_KeepsMore C_BadDay C_BadPolicy D_PLAIN D_NUMBERED : Addr} (T : TX K mg C_Evidence C_Good C_Bad C_KeepsAll C_LosesOne C_KeepsLittle C_KeepsMore C_BadDay C_BadPolicy D_PLAIN D_NUMBERED) : InsC K C_KeepsAll := ⟨T.cl_KeepsAll, T.ic_KeepsAll.ha, T.ic_KeepsAll.hn, T.ic_KeepsAll.htk, T.ic_KeepsAll.hm, kit_self⟩
theorem TX.g_LosesOne {K : PySem.W.Frag} {mg : Str → Option Value} {C_Evidence C_Good C_Bad C_KeepsAll C_LosesOne C_KeepsLittle C_KeepsMore C_BadDay C_BadPolicy D_PLAIN D_NUMBERED : Addr} (T : TX K mg C_Evidence C_Good C_Bad C_KeepsAll C_LosesOne C_KeepsLittle C_KeepsMore C_BadDay C_BadPolicy D_PLAIN D_NUMBERED) : ∃ u, mg "LosesOne" = some u ∧ RelV (.ref C_LosesOne) u := ⟨_, T.mg_LosesOne, rfl⟩
theorem TX.up_LosesOne_Evidence {K : PySem.W.Frag} {mg : Str → Option Value} {C_Evidence C_Good C_Bad C_KeepsAll C_LosesOne C_KeepsLittle C_KeepsMore C_BadDay C_BadPolicy D_PLAIN D_NUMBERED : Addr} (T : TX K mg C_Evidence C_Good C_Bad C_KeepsAll C_LosesOne C_KeepsLittle C_KeepsMore C_BadDay C_BadPolicy D_PLAIN D_NUMBERED) : InsB K C_LosesOne C_Evidence := ⟨T.cl_LosesOne, T.ic_LosesOne.ha, T.ic_LosesOne.hn, T.ic_LosesOne.htk, T.ic_LosesOne.hm, T.ux_LosesOne_Evidence⟩
theorem TX.i_LosesOne {K : PySem.W.Frag} {mg : Str → Option Value} {C_Evidence C_Good C_Bad C_KeepsAll C_LosesOne C_KeepsLittle C_KeepsMore C_BadDay C_BadPolicy D_PLAIN D_NUMBERED : Addr} (T : TX K mg C_Evidence C_Good C_Bad C_KeepsAll C_LosesOne C_KeepsLittle C_KeepsMore C_BadDay C_BadPolicy D_PLAIN D_NUMBERED) : InsC K C_LosesOne := ⟨T.cl_LosesOne, T.ic_LosesOne.ha, T.ic_LosesOne.hn, T.ic_LosesOne.htk, T.ic_LosesOne.hm, kit_self⟩
theorem TX.g_KeepsLittle {K : PySem.W.Frag} {mg : Str → Option Value} {C_Evidence C_Good C_Bad C_KeepsAll C_LosesOne C_KeepsLittle C_KeepsMore C_BadDay C_BadPolicy D_PLAIN D_NUMBERED : Addr} (T : TX K mg C_Evidence C_Good C_Bad C_KeepsAll C_LosesOne C_KeepsLittle C_KeepsMore C_BadDay C_BadPolicy D_PLAIN D_NUMBERED) : ∃ u, mg "KeepsLittle" = some u ∧ RelV (.ref C_KeepsLittle) u := ⟨_, T.mg_KeepsLittle, rfl⟩
theorem TX.up_KeepsLittle_Evidence {K : PySem.W.Frag} {mg : Str → Option Value} {C_Evidence C_Good C_Bad C_KeepsAll C_LosesOne C_KeepsLittle C_KeepsMore C_BadDay C_BadPolicy D_PLAIN D_NUMBERED : Addr} (T : TX K mg C_Evidence C_Good C_Bad C_KeepsAll C_LosesOne C_KeepsLittle C_KeepsMore C_BadDay C_BadPolicy D_PLAIN D_NUMBERED) : InsB K C_KeepsLittle C_Evidence := ⟨T.cl_KeepsLittle, T.ic_KeepsLittle.ha, T.ic_KeepsLittle.hn, T.ic_KeepsLittle.htk, T.ic_KeepsLittle.hm, T.ux_KeepsLittle_Evidence⟩
theorem TX.i_KeepsLittle {K : PySem.W.Frag} {mg : Str → Option Value} {C_Evidence C_Good C_Bad C_KeepsAll C_LosesOne C_KeepsLittle C_KeepsMore C_BadDay C_BadPolicy D_PLAIN D_NUMBERED : Addr} (T : TX K mg C_Evidence C_Good C_Bad C_KeepsAll C_LosesOne C_KeepsLittle C_KeepsMore C_BadDay C_BadPolicy D_PLAIN D_NUMBERED) : InsC K C_KeepsLittle := ⟨T.cl_KeepsLittle, T.ic_KeepsLittle.ha, T.ic_KeepsLittle.hn, T.ic_KeepsLittle.htk, T.ic_KeepsLittle.hm, kit_self⟩
theorem TX.g_KeepsMore {K : PySem.W.Frag} {mg : Str → Option Value} {C_Evidence C_Good C_Bad C_KeepsAll C_LosesOne C_KeepsLittle C_KeepsMore C_BadDay C_BadPolicy D_PLAIN D_NUMBERED : Addr} (T : TX K mg C_Evidence C_Good C_Bad C_KeepsAll C_LosesOne C_KeepsLittle C_KeepsMore C_BadDay C_BadPolicy D_PLAIN D_NUMBERED) : ∃ u, mg "KeepsMore" = some u ∧ RelV (.ref C_KeepsMore) u := ⟨_, T.mg_KeepsMore, rfl⟩
theorem TX.up_KeepsMore_Evidence {K : PySem.W.Frag} {mg : Str → Option Value} {C_Evidence C_Good C_Bad C_KeepsAll C_LosesOne C_KeepsLittle C_KeepsMore C_BadDay C_BadPolicy D_PLAIN D_NUMBERED : Addr} (T : TX K mg C_Evidence C_Good C_Bad C_KeepsAll C_LosesOne C_KeepsLittle C_KeepsMore C_BadDay C_BadPolicy D_PLAIN D_NUMBERED) : InsB K C_KeepsMore C_Evidence := ⟨T.cl_KeepsMore, T.ic_KeepsMore.ha, T.ic_KeepsMore.hn, T.ic_KeepsMore.htk, T.ic_KeepsMore.hm, T.ux_KeepsMore_Evidence⟩
theorem TX.i_KeepsMore {K : PySem.W.Frag} {mg : Str → Option Value} {C_Evidence C_Good C_Bad C_KeepsAll C_LosesOne C_KeepsLittle C_KeepsMore C_BadDay C_BadPolicy D_PLAIN D_NUMBERED : Addr} (T : TX K mg C_Evidence C_Good C_Bad C_KeepsAll C_LosesOne C_KeepsLittle C_KeepsMore C_BadDay C_BadPolicy D_PLAIN D_NUMBERED) : InsC K C_KeepsMore := ⟨T.cl_KeepsMore, T.ic_KeepsMore.ha, T.ic_KeepsMore.hn, T.ic_KeepsMore.htk, T.ic_KeepsMore.hm, kit_self⟩
theorem TX.gt_PLAIN {K : PySem.W.Frag} {mg : Str → Option Value} {C_Evidence C_Good C_Bad C_KeepsAll C_LosesOne C_KeepsLittle C_KeepsMore C_BadDay C_BadPolicy D_PLAIN D_NUMBERED : Addr} (T : TX K mg C_Evidence C_Good C_Bad C_KeepsAll C_LosesOne C_KeepsLittle C_KeepsMore C_BadDay C_BadPolicy D_PLAIN D_NUMBERED) : ∃ u, mg "PLAIN" = some u ∧ RelV (.ref D_PLAIN) u := ⟨_, T.mg_D_PLAIN, rfl⟩
theorem TX.gt_NUMBERED {K : PySem.W.Frag} {mg : Str → Option Value} {C_Evidence C_Good C_Bad C_KeepsAll C_LosesOne C_KeepsLittle C_KeepsMore C_BadDay C_BadPolicy D_PLAIN D_NUMBERED : Addr} (T : TX K mg C_Evidence C_Good C_Bad C_KeepsAll C_LosesOne C_KeepsLittle C_KeepsMore C_BadDay C_BadPolicy D_PLAIN D_NUMBERED) : ∃ u, mg "NUMBERED" = some u ∧ RelV (.ref D_NUMBERED) u := ⟨_, T.mg_D_NUMBERED, rfl⟩
end Sl
set_option Elab.async false
set_option linter.all false
set_option maxRecDepth 100000
set_option maxHeartbeats 4000000
namespace Sl
open PySem L2 C8 StX
/-! ### data without lists stands when a list changes -/
mutual
inductive Dn (H : Hp) : V → PyData → Prop
  | non : Dn H .non .none
  | bl (b : Bool) : Dn H (.bl b) (.bool b)
  | int (i : Int) : Dn H (.int i) (.int i)
  | str (x : Str) : Dn H (.str x) (.str x)
  | tup {a : Addr} {xs : List V} {ds : List PyData} : H a = some (.tup xs) → DnAll H xs ds → Dn H (.ref a) (.tuple ds)
inductive DnAll (H : Hp) : List V → List PyData → Prop
  | nil : DnAll H [] []
  | cons {v : V} {vs : List V} {d : PyData} {ds : List PyData} : Dn H v d → DnAll H vs ds → DnAll H (v :: vs) (d :: ds)
end
mutual
/-- it stands where all tuples stand -/
theorem Dn.keep {H H' : Hp} (s : ∀ a xs, H a = some (.tup xs) → H' a = some (.tup xs)) : ∀ {v : V} {d : PyData}, Dn H v d → Dn H' v d
  | _, _, .non => .non
  | _, _, .bl b => .bl b
  | _, _, .int i => .int i
  | _, _, .str x => .str x
  | _, _, .tup e h => .tup (s _ _ e) (DnAll.keep s h)
theorem DnAll.keep {H H' : Hp} (s : ∀ a xs, H a = some (.tup xs) → H' a = some (.tup xs)) : ∀ {vs : List V} {ds : List PyData}, DnAll H vs ds → DnAll H' vs ds
  | _, _, .nil => .nil
  | _, _, .cons h t => .cons (Dn.keep s h) (DnAll.keep s t)
end
mutual
theorem Dn.dt {H : Hp} : ∀ {v : V} {d : PyData}, Dn H v d → Dt H v d
  | _, _, .non => .non
  | _, _, .bl b => .bl b
  | _, _, .int i => .int i
  | _, _, .str x => .str x
  | _, _, .tup e h => .tup e (DnAll.dt h)
theorem DnAll.dt {H : Hp} : ∀ {vs : List V} {ds : List PyData}, DnAll H vs ds → DtAll H vs ds
  | _, _, .nil => .nil
  | _, _, .cons h t => .cons (Dn.dt h) (DnAll.dt t)
end
theorem Dn.mono {H H' : Hp} (s : Same H H') {v : V} {d : PyData} (h : Dn H v d) : Dn H' v d := h.keep fun a xs e => s a _ e
theorem DnAll.mono {H H' : Hp} (s : Same H H') {v : List V} {d : List PyData} (h : DnAll H v d) : DnAll H' v d := h.keep fun a xs e => s a _ e
theorem keep_lst {H : Hp} {t : Addr} {xs ys : List V} (e : H t = some (.lst xs)) : ∀ a zs, H a = some (.tup zs) → upd H t (.lst ys) a = some (.tup zs) := fun a zs ea => by
  rw [upd_ne (fun q => by rw [q, e] at ea; cases ea)]
  exact ea
theorem DnAll.updL {H : Hp} {t : Addr} {xs ys : List V} (e : H t = some (.lst xs)) {vs : List V} {ds : List PyData} (h : DnAll H vs ds) : DnAll (upd H t (.lst ys)) vs ds := h.keep (keep_lst e)
theorem Dn.updL {H : Hp} {t : Addr} {xs ys : List V} (e : H t = some (.lst xs)) {v : V} {d : PyData} (h : Dn H v d) : Dn (upd H t (.lst ys)) v d := h.keep (keep_lst e)
theorem DnAll.append {H : Hp} : ∀ {vs ws : List V} {ds es : List PyData}, DnAll H vs ds → DnAll H ws es → DnAll H (vs ++ ws) (ds ++ es)
  | _, _, _, _, .nil, s => s
  | _, _, _, _, .cons h t, s => .cons h (DnAll.append t s)
theorem DnAll.length {H : Hp} : ∀ {vs : List V} {ds : List PyData}, DnAll H vs ds → vs.length = ds.length
  | _, _, .nil => rfl
  | _, _, .cons _ t => by rw [List.length_cons, List.length_cons, DnAll.length t]
theorem DnAll.intsD {H : Hp} : ∀ (ns : List Int), DnAll H (ns.map V.int) (Sl.intsD ns)
  | [] => .nil
  | n :: ns => .cons (.int n) (DnAll.intsD ns)
def triD (q : Int × Int × Int) : PyData := .tuple [.int q.1, .int q.2.1, .int q.2.2]
def pairD (q : Int × Int) : PyData := .tuple [.int q.1, .int q.2]
theorem Dn.tri {H : Hp} {t : Addr} {a b c : Int} (e : H t = some (.tup [.int a, .int b, .int c])) : Dn H (.ref t) (triD (a, b, c)) := .tup e (.cons (.int _) (.cons (.int _) (.cons (.int _) .nil)))
theorem Dn.pair {H : Hp} {t : Addr} {q : Int × Int} (e : H t = some (.tup [.int q.1, .int q.2])) : Dn H (.ref t) (pairD q) := .tup e (.cons (.int _) (.cons (.int _) .nil))
theorem Dt.tri_inv {H : Hp} {v : V} {q : Int × Int × Int} (h : Dt H v (triD q)) : ∃ t, v = .ref t ∧ H t = some (.tup [.int q.1, .int q.2.1, .int q.2.2]) := by
  unfold triD at h
  cases h with
  | tup e h =>
    cases h with
    | cons h1 h2 =>
      cases h1
      cases h2 with
      | cons h1 h2 =>
        cases h1
        cases h2 with
        | cons h1 h2 =>
          cases h1
          cases h2
          exact ⟨_, rfl, e⟩
/-! ### shapes, equality -/
theorem lay_map {α : Type} {f : α → PyData} (h : ∀ x, (f x).canLay0 = true) : ∀ l : List α, PyData.canLayAll0 (l.map f) = true
  | [] => by simp [PyData.canLayAll0]
  | x :: l => by simp [PyData.canLayAll0, h x, lay_map h l]
theorem depth_map {α : Type} {f : α → PyData} {n : Nat} (h : ∀ x, (f x).depth ≤ n) : ∀ l : List α, PyData.depthAll (l.map f) ≤ n
  | [] => by simp [PyData.depthAll]
  | x :: l => by simp only [List.map_cons, PyData.depthAll]; have := h x; have := depth_map h l; omega
theorem shaped_listMap {α : Type} {f : α → PyData} (h : ∀ x, (f x).canLay0 = true) (hd : ∀ x, (f x).depth ≤ 60) (l : List α) : SeqAt.shaped (.list (l.map f)) = true := by
  have := depth_map hd l
  refine Bool.and_eq_true_iff.mpr ⟨by simp only [PyData.canLay0]; exact lay_map h l, decide_eq_true ?_⟩
  simp only [PyData.depth]
  omega
theorem shaped_tupMap {α : Type} {f : α → PyData} (h : ∀ x, (f x).canLay0 = true) (hd : ∀ x, (f x).depth ≤ 60) (l : List α) : SeqAt.shaped (.tuple (l.map f)) = true := by
  have := depth_map hd l
  refine Bool.and_eq_true_iff.mpr ⟨by simp only [PyData.canLay0]; exact lay_map h l, decide_eq_true ?_⟩
  simp only [PyData.depth]
  omega
theorem shaped_ints (ns : List Int) : SeqAt.shaped (.list (intsD ns)) = true := shaped_listMap (fun _ => by simp [PyData.canLay0]) (fun _ => by simp [PyData.depth]) ns
theorem shaped_tris (l : List (Int × Int × Int)) : SeqAt.shaped (.list (l.map triD)) = true := shaped_listMap (fun _ => by simp [triD, PyData.canLay0, PyData.canLayAll0]) (fun _ => by simp [triD, PyData.depth, PyData.depthAll]) l
theorem shaped_pair (q : Int × Int) : SeqAt.shaped (pairD q) = true := by simp [SeqAt.shaped, pairD, PyData.canLay0, PyData.canLayAll0, PyData.depth, PyData.depthAll]
theorem shaped_pairsT (l : List (Int × Int)) : SeqAt.shaped (.tuple (l.map pairD)) = true := shaped_tupMap (fun _ => by simp [pairD, PyData.canLay0, PyData.canLayAll0]) (fun _ => by simp [pairD, PyData.depth, PyData.depthAll]) l
theorem eqv_self {d : PyData} (h : SeqAt.shaped d = true) : PyData.eqv d d = true := SeqAt.eqv_refl d (SeqAt.canLay_of_shaped h)
theorem eqv_nil (l : List PyData) : PyData.eqv (.list l) (.list []) = decide (l = []) := by
  cases l with
  | nil => simp [PyData.eqv, PyData.eqvAll]
  | cons x l => simp [PyData.eqv, PyData.eqvAll]
/-! ### isinstance against (list, tuple) -/
section
variable {H : Hp} {Q : VK} {K : PySem.W.Frag}
theorem kit_ll : PySem.W.kitAny K (.type "list") [.type "list", .type "tuple"] = some true := kitAny_cons (b := true) (kit_ty (by decide +kernel)) (fun h => nomatch h) (fun _ => rfl)
theorem kit_tt : PySem.W.kitAny K (.type "tuple") [.type "list", .type "tuple"] = some true := kitAny_cons (b := false) (kit_ty (by decide +kernel)) (fun _ => kitAny_cons (b := true) (kit_ty (by decide +kernel)) (fun h => nomatch h) (fun _ => rfl)) (fun h => nomatch h)
theorem rd_isiTL {a u : Addr} {xs : List V} (e : H a = some (.lst xs)) (eu : H u = some (.tup [.ty "list", .ty "tuple"])) (h : Q (.bl true) H) : rIsiT K [.ref a, .ref u] H Q :=
  ⟨_, u, _, _, [.type "list", .type "tuple"], true, rfl, eu, .cons (.ty _) (.cons (.ty _) .nil), .base (.lst e), kit_ll, h⟩
theorem rd_isiTT {a u : Addr} {xs : List V} (e : H a = some (.tup xs)) (eu : H u = some (.tup [.ty "list", .ty "tuple"])) (h : Q (.bl true) H) : rIsiT K [.ref a, .ref u] H Q :=
  ⟨_, u, _, _, [.type "list", .type "tuple"], true, rfl, eu, .cons (.ty _) (.cons (.ty _) .nil), .base (.tup e), kit_tt, h⟩
/-- a conditional expression of two plain values -/
theorem rd_iteV {p : Prop} [Decidable p] {σ : L2.St} {ta tb : TE} {v : V} (h1 : p → ∀ Q' : VK, Q' v H → ta σ H Q') (h2 : ¬ p → ∀ Q' : VK, Q' v H → tb σ H Q') (h : Q v H) : if decide p = true then ta σ H Q else tb σ H Q := by
  by_cases c : p
  · rw [if_pos (decide_eq_true c)]; exact h1 c Q h
  · rw [if_neg (by rw [decide_eq_false c]; exact Bool.false_ne_true)]; exact h2 c Q h
end
end Sl
set_option Elab.async false
set_option linter.all false
set_option maxRecDepth 100000
set_option maxHeartbeats 8000000
set_option exponentiation.threshold 9000
/-! lists or tuples; dicts with keys that are ints -/
namespace Sl
open PySem L2 C8 StX
theorem atI_nat' {α : Type} {xs : List α} {i : Nat} {x : α} (h : xs[i]? = some x) : atI xs (i : Int) = some x := atI_nat h
theorem none_back {H H' : Hp} {a : Addr} (s : Same H H') (h : H' a = none) : H a = none := by
  cases z : H a with
  | none => rfl
  | some o => rw [s _ _ z] at h; cases h
theorem refs_get {rs : List Addr} {j : Nat} {x : V} (hx : (rs.map V.ref)[j]? = some x) : ∃ r, rs[j]? = some r ∧ V.ref r = x := by
  rw [List.getElem?_map] at hx
  cases z : rs[j]? with
  | none => rw [z] at hx; cases hx
  | some r => rw [z] at hx; exact ⟨r, rfl, Option.some.inj hx⟩
def keysL (ls : List (Int × V)) : List Int := ls.map (·.1)
theorem dV_get {ls : List (Int × V)} {i : Nat} {k : Key} {z : V} (h : (dV ls)[i]? = some (k, z)) : ∃ y, ls[i]? = some (y, z) ∧ k = Sum.inl y := by
  unfold dV at h
  rw [List.getElem?_map] at h
  cases q : ls[i]? with
  | none => rw [q] at h; cases h
  | some x => rw [q] at h; cases h; exact ⟨x.1, rfl, rfl⟩
theorem sqT_mono {K : PySem.W.Frag} {H H' : Hp} {a : Addr} {xs : List V} (s : Same H H') (h : SqT K H a xs) : SqT K H' a xs := by
  rcases h with h | h
  · rcases h with h | ⟨o, h⟩
    · exact .inl (.inl (s _ _ h))
    · exact .inl (.inr ⟨o, s _ _ h⟩)
  · exact .inr h
/-- a list or a tuple -/
def SqQ (K : PySem.W.Frag) (H : Hp) (a : Addr) (xs : List V) : Prop := SqL K H a xs ∨ SqT K H a xs
theorem SqQ.mono {K : PySem.W.Frag} {H H' : Hp} {a : Addr} {xs : List V} (s : Same H H') (h : SqQ K H a xs) : SqQ K H' a xs := h.imp (L2.Same.seq s) (sqT_mono s)
theorem dV_nodup {ls : List (Int × V)} (h : (keysL ls).Nodup) : ((dV ls).map (·.1)).Nodup := by
  rw [dV_keys]
  exact List.Pairwise.map _ (fun a b hab z => hab (Sum.inl.inj z)) h
theorem dV_val {ls : List (Int × V)} (h : (keysL ls).Nodup) {k : Int} {v : V} (m : (k, v) ∈ ls) : valV (dV ls) (Sum.inl k) = some v := val_nodup (dV_nodup h) (Sum.inl k, v) (List.mem_map.mpr ⟨(k, v), m, rfl⟩)
theorem dV_no {ls : List (Int × V)} {k : Int} (h : k ∉ keysL ls) : valV (dV ls) (Sum.inl k) = none := by
  induction ls with
  | nil => rfl
  | cons q r ih =>
    show valV ((Sum.inl q.1, q.2) :: dV r) (Sum.inl k) = none
    rw [valV_neg (fun z => h (by rw [← Sum.inl.inj z]; exact List.mem_cons_self))]
    exact ih fun z => h (List.mem_cons_of_mem _ z)
theorem dV_putNew {ls : List (Int × V)} {k : Int} {v : V} (h : k ∉ keysL ls) : putK (dV ls) (Sum.inl k) v = dV (ls ++ [(k, v)]) := by
  rw [putK_new _ (dV_no h)]
  unfold dV
  rw [List.map_append]
  rfl
section
variable {σ : L2.St} {H : Hp} {Q : VK} {K : PySem.W.Frag} {g : TG} {tt : TT} {te : TE} {vs : List Nat}
theorem rd_dgetV {a : Addr} {ls : List (Int × V)} {k : Int} {v : V} (e : Rd H a (.dK (dV ls))) (l : valV (dV ls) (Sum.inl k) = some v) (h : Q v H) : rDGet (.ref a) (.int k) H Q := ⟨a, v, rfl, .inl ⟨_, Sum.inl k, e, rfl, l.symm⟩, h⟩
theorem rd_dcEV {D : Addr} {Nx : Hp → Prop} {ls : List (Int × V)} {k : Int} {v : V} (e : H D = some (.dK (dV ls))) (l : ls.length < 100000) (n : k ∉ keysL ls) (h : ∀ H', H' = upd H D (.dK (dV (ls ++ [(k, v)]))) → H' D = some (.dK (dV (ls ++ [(k, v)]))) → Nx H') : DcE D Nx (.int k) v H :=
  ⟨_, Sum.inl k, rfl, e, by rw [dV_len]; exact Nat.lt_trans l (by decide), by rw [dV_putNew n]; exact h _ rfl upd_same⟩
theorem tyX_Q {a : Addr} {xs : List V} (h : SqQ K H a xs) : ∃ t, (t = .type "list" ∨ t = .type "tuple") ∧ TyX K H (.ref a) t := by
  rcases h with (h | ⟨o, its, n, h1, h2, _⟩) | (h | ⟨o, its, n, h1, h2, _⟩)
  · rcases h with h | ⟨o, h⟩
    · exact ⟨_, .inl rfl, .base (.lst h)⟩
    · exact ⟨_, .inl rfl, .base (.frz h)⟩
  · exact ⟨_, .inl rfl, .kList h1 h2⟩
  · rcases h with h | ⟨o, h⟩
    · exact ⟨_, .inr rfl, .base (.tup h)⟩
    · exact ⟨_, .inr rfl, .fTuple h⟩
  · exact ⟨_, .inr rfl, .kTuple h1 h2⟩
def rGFld (K : PySem.W.Frag) (f : Str) (v : V) (QS : L2.St → Hp → Prop) (σ : L2.St) (x : V) (H1 : Hp) : Prop := ∃ a C dx fs, x = .ref a ∧ H1 a = some (.ins C dx fs) ∧ Cls K C ∧ NoAttr K C f ∧ fs.length < 1000 ∧ QS σ (upd H1 a (.ins C dx (putF f v fs)))
theorem rd_gfld0 {to : TE} {f : Str} {v : V} {QS : L2.St → Hp → Prop} (h : to σ H fun x H1 => rGFld K f v QS σ x H1) : gFld K to f v σ H QS := h
theorem rd_gfld {f : Str} {v : V} {QS : L2.St → Hp → Prop} {a C dx : Addr} {fs : List (Str × V)} (e : H a = some (.ins C dx fs)) (c : Cls K C) (n : NoAttr K C f) (l : fs.length < 1000) (h : ∀ H', H' = upd H a (.ins C dx (putF f v fs)) → H' a = some (.ins C dx (putF f v fs)) → QS σ H') : rGFld K f v QS σ (.ref a) H :=
  ⟨a, C, dx, fs, rfl, e, c, n, l, h _ rfl upd_same⟩
/-- an instance's attribute is put: lists and tuples stand -/
theorem SqQ.updI {a b C dx : Addr} {fs : List (Str × V)} {xs : List V} {o : HO} (e : H a = some (.ins C dx fs)) (h : SqQ K H b xs) : SqQ K (upd H a o) b xs := by
  have ne : ∀ u, H b = some u → (∀ C dx fs, u ≠ .ins C dx fs) → upd H a o b = some u := fun u hu n => by
    rw [upd_ne (fun z => by rw [z, e] at hu; cases hu; exact n _ _ _ rfl)]
    exact hu
  rcases h with (h | h) | (h | h)
  · rcases h with h | ⟨o, h⟩
    · exact .inl (.inl (.inl (ne _ h (fun _ _ _ z => by cases z))))
    · exact .inl (.inl (.inr ⟨o, ne _ h (fun _ _ _ z => by cases z)⟩))
  · exact .inl (.inr h)
  · rcases h with h | ⟨o, h⟩
    · exact .inr (.inl (.inl (ne _ h (fun _ _ _ z => by cases z))))
    · exact .inr (.inl (.inr ⟨o, ne _ h (fun _ _ _ z => by cases z)⟩))
  · exact .inr (.inr h)
theorem rd_isiTQ {a u : Addr} {xs : List V} (e : SqQ K H a xs) (eu : H u = some (.tup [.ty "list", .ty "tuple"])) (h : Q (.bl true) H) : rIsiT K [.ref a, .ref u] H Q := by
  obtain ⟨t, rfl | rfl, ht⟩ := tyX_Q e
  · exact ⟨_, u, _, _, [.type "list", .type "tuple"], true, rfl, eu, .cons (.ty _) (.cons (.ty _) .nil), ht, kit_ll, h⟩
  · exact ⟨_, u, _, _, [.type "list", .type "tuple"], true, rfl, eu, .cons (.ty _) (.cons (.ty _) .nil), ht, kit_tt, h⟩
def JQ (K : PySem.W.Frag) (H : Hp) (a : Addr) (xs : List V) (J : It) : Prop := (J = Itl K a ∧ SqL K H a xs) ∨ (J = Itt K a ∧ SqT K H a xs)
theorem altQ {n : Nat} {a : Addr} {xs : List V} {R : It → Hp → Prop} (hn : σ[n]? = some (some (.ref a))) (sM : SqQ K H a xs) (h : ∀ J, JQ K H a xs J → R J H) : iList K (tVar n) σ H R ∨ iTup K (tVar n) σ H R :=
  sM.elim (fun z => .inl ⟨_, hn, a, rfl, ⟨xs, z⟩, h _ (.inl ⟨rfl, z⟩)⟩) fun z => .inr ⟨_, hn, a, rfl, ⟨xs, z⟩, h _ (.inr ⟨rfl, z⟩)⟩
theorem lcR_Q {a : Addr} {xs : List V} {J : It} (hJ : JQ K H a xs J) (Pv : Addr → Nat → Hp → Prop) (hP : ∀ D i H', H D = none → Pv D i H' → Same H H') (h0 : ∀ D H', H D = none → Same H H' → H' D = some (.lst []) → H' = upd H D (.lst []) → Pv D 0 H')
    (hs : ∀ D i x H', H D = none → xs[i]? = some x → Pv D i H' → g x (wipe σ vs) H' fun σ2 H2 => wipe σ2 vs = wipe σ vs ∧ tt σ2 H2 fun b H3 => if b = true then te σ2 H3 fun y H4 => LcE D (Pv D (i + 1)) y H4 else Pv D (i + 1) H3)
    (hd : ∀ D H', H D = none → Pv D xs.length H' → Q (.ref D) H') : LcR J g tt te vs σ H Q := by
  rcases hJ with ⟨rfl, h⟩ | ⟨rfl, h⟩
  · exact lcR_lst Pv (fun D i H' hD p => L2.Same.seq (hP D i H' hD p) h) h0 hs hd
  · exact lcR_tup Pv (fun D i H' hD p => sqT_mono (hP D i H' hD p) h) h0 hs hd
theorem all_true {D : Addr} {n : Nat} (e : H D = some (.lst ((List.replicate n true).map V.bl))) (h : Q (.bl true) H) : rAll K [.ref D] H Q := by
  refine ⟨D, List.replicate n true, rfl, SqL.of e, ?_⟩
  rw [show (List.replicate n true).all id = true from by simp]
  exact h
end
/-! walks over a list or a tuple, with places or without -/
section
variable {σ : L2.St} {H : Hp} {Q : VK} {K : PySem.W.Frag} {g : TG} {tb : TS} {tt : TT} {te : TE} {vs : List Nat} {nx bk ct : L2.St → Hp → Prop} {rt : VK}
theorem forR_Q {a : Addr} {xs : List V} {J : It} {H0 : Hp} (hJ : JQ K H0 a xs J) (Pv : Nat → L2.St → Hp → Prop) (hP : ∀ i σ H, Pv i σ H → Same H0 H) (h0 : Pv 0 σ H)
    (hs : ∀ i x σ H, xs[i]? = some x → Pv i σ H → g x σ H fun σ2 H2 => tb ⟨Pv (i + 1), rt, nx, Pv (i + 1)⟩ σ2 H2) (hd : ∀ σ H, Pv xs.length σ H → nx σ H) : ForR J g tb ⟨nx, rt, bk, ct⟩ σ H := by
  rcases hJ with ⟨rfl, h⟩ | ⟨rfl, h⟩
  · exact forR_lst Pv (fun i σ H p => L2.Same.seq (hP i σ H p) h) h0 hs hd
  · exact forR_tup Pv (fun i σ H p => sqT_mono (hP i σ H p) h) h0 hs hd
def JE (K : PySem.W.Frag) (H : Hp) (a : Addr) (xs : List V) (J : It) : Prop := (J = Ite K a ∧ SqL K H a xs) ∨ (J = IteT K a ∧ SqT K H a xs)
theorem altE {n : Nat} {a : Addr} {xs : List V} {R : It → Hp → Prop} (hn : σ[n]? = some (some (.ref a))) (sM : SqQ K H a xs) (h : ∀ J, JE K H a xs J → R J H) : iEnum K (tCons (tVar n) tNil) σ H R ∨ iEnumT K (tCons (tVar n) tNil) σ H R :=
  sM.elim (fun z => .inl ⟨_, hn, a, xs, rfl, z, h _ (.inl ⟨rfl, z⟩)⟩) fun z => .inr ⟨_, hn, a, xs, rfl, z, h _ (.inr ⟨rfl, z⟩)⟩
theorem forR_E {a : Addr} {xs : List V} {J : It} {H0 : Hp} (hJ : JE K H0 a xs J) (Pv : Nat → L2.St → Hp → Prop) (hP : ∀ i σ H, Pv i σ H → Same H0 H) (h0 : Pv 0 σ H)
    (hs : ∀ (i : Nat) x σ H t H', xs[i]? = some x → Pv i σ H → H t = none → Same H H' → H' t = some (.tup [.int (i : Nat), x]) → g (.ref t) σ H' fun σ2 H2 => tb ⟨Pv (i + 1), rt, nx, Pv (i + 1)⟩ σ2 H2) (hd : ∀ σ H, Pv xs.length σ H → nx σ H) : ForR J g tb ⟨nx, rt, bk, ct⟩ σ H := by
  rcases hJ with ⟨rfl, h⟩ | ⟨rfl, h⟩
  · exact forR_enum Pv (fun i σ H p => L2.Same.seq (hP i σ H p) h) h0 (fun i x σ H t H' e1 e2 e3 e4 e5 _ => hs i x σ H t H' e1 e2 e3 e4 e5) hd
  · exact forR_enumT Pv (fun i σ H p => sqT_mono (hP i σ H p) h) h0 (fun i x σ H t H' e1 e2 e3 e4 e5 _ => hs i x σ H t H' e1 e2 e3 e4 e5) hd
end
/-! comprehensions with two for -/
section
variable {σ : L2.St} {H H4 : Hp} {Q : VK} {K : PySem.W.Frag} {g g1 : TG} {wi wi1 : TI} {tt tt1 : TT} {te : TE} {vs vs1 : List Nat}
def Lc2I (J1 : It) (g1 : TG) (tt1 : TT) (te : TE) (vs1 : List Nat) (D : Addr) (Nx : Hp → Prop) (σ2 : L2.St) (H4 : Hp) : Prop := ∃ W1 : Nat → Nat → Hp → Prop, (∃ m, W1 0 m H4) ∧ ∀ j k H, W1 j k H → (J1.stop j H ∧ Nx H) ∨ (J1.go j H ∧ ∃ Nx1 : Hp → Prop, (∀ H', Nx1 H' → ∃ k', k' < k ∧ W1 (j + 1) k' H') ∧
  ∀ x H', J1.yld j H x H' → g1 x (wipe σ2 vs1) H' fun σ3 H5 => wipe σ3 vs1 = wipe σ2 vs1 ∧ tt1 σ3 H5 fun b H6 => if b = true then te σ3 H6 fun y H7 => LcE D Nx1 y H7 else Nx1 H6)
def Lc2R (J : It) (g : TG) (tt : TT) (wi1 : TI) (g1 : TG) (tt1 : TT) (te : TE) (vs vs1 : List Nat) (σ : L2.St) (H1 : Hp) (Q : VK) : Prop := ∀ D, H1 D = none → ∃ W : Nat → Nat → Hp → Prop, (∃ m, W 0 m (upd H1 D (.lst []))) ∧ ∀ i m H, W i m H →
  (J.stop i H ∧ Q (.ref D) H) ∨ (J.go i H ∧ ∃ Nx : Hp → Prop, (∀ H', Nx H' → ∃ m', m' < m ∧ W (i + 1) m' H') ∧ ∀ x H', J.yld i H x H' → g x (wipe σ vs) H' fun σ2 H2 => wipe σ2 vs = wipe σ vs ∧ tt σ2 H2 fun b H3 => if b = true then wi1 σ2 H3 fun J1 H4 => Lc2I J1 g1 tt1 te vs1 D Nx σ2 H4 else Nx H3)
theorem rd_lc2 (h : wi σ H fun J H1 => Lc2R J g tt wi1 g1 tt1 te vs vs1 σ H1 Q) : tLc2 wi g tt wi1 g1 tt1 te vs vs1 σ H Q := h
theorem lc2R_gen (J : It) (n : Nat) (Pv : Addr → Nat → Hp → Prop) (h0 : ∀ D H', H D = none → Same H H' → H' D = some (.lst []) → H' = upd H D (.lst []) → Pv D 0 H') (hg : ∀ D i H', H D = none → i < n → Pv D i H' → J.go i H') (he : ∀ D H', H D = none → Pv D n H' → J.stop n H')
    (hs : ∀ D i H' x H2, H D = none → i < n → Pv D i H' → J.yld i H' x H2 → g x (wipe σ vs) H2 fun σ2 H2 => wipe σ2 vs = wipe σ vs ∧ tt σ2 H2 fun b H3 => if b = true then wi1 σ2 H3 fun J1 H4 => Lc2I J1 g1 tt1 te vs1 D (Pv D (i + 1)) σ2 H4 else Pv D (i + 1) H3)
    (hd : ∀ D H', H D = none → Pv D n H' → Q (.ref D) H') : Lc2R J g tt wi1 g1 tt1 te vs vs1 σ H Q := by
  intro D hD
  refine ⟨fun i m H => m = n - i ∧ i ≤ n ∧ Pv D i H, ⟨n, by simp, Nat.zero_le _, h0 D _ hD (Same.new (Same.refl H) hD) upd_same rfl⟩, ?_⟩
  rintro i m H' ⟨rfl, hi, p⟩
  by_cases hlt : i < n
  · exact .inr ⟨hg D i H' hD hlt p, Pv D (i + 1), fun H2 p' => ⟨n - (i + 1), by omega, rfl, hlt, p'⟩, fun x H2 y => hs D i H' x H2 hD hlt p y⟩
  · obtain rfl : i = n := by omega
    exact .inl ⟨he D H' hD p, hd D H' hD p⟩
theorem lc2R_lst {a : Addr} {xs : List V} (Pv : Addr → Nat → Hp → Prop) (hl : ∀ D i H', H D = none → Pv D i H' → SqL K H' a xs) (h0 : ∀ D H', H D = none → Same H H' → H' D = some (.lst []) → H' = upd H D (.lst []) → Pv D 0 H')
    (hs : ∀ D i x H', H D = none → xs[i]? = some x → Pv D i H' → g x (wipe σ vs) H' fun σ2 H2 => wipe σ2 vs = wipe σ vs ∧ tt σ2 H2 fun b H3 => if b = true then wi1 σ2 H3 fun J1 H4 => Lc2I J1 g1 tt1 te vs1 D (Pv D (i + 1)) σ2 H4 else Pv D (i + 1) H3)
    (hd : ∀ D H', H D = none → Pv D xs.length H' → Q (.ref D) H') : Lc2R (Itl K a) g tt wi1 g1 tt1 te vs vs1 σ H Q :=
  lc2R_gen _ xs.length Pv h0 (fun D i H' hD h p => ⟨xs, xs[i], hl D i H' hD p, by simp [h]⟩) (fun D H' hD p => ⟨xs, hl D _ H' hD p, Nat.le_refl _⟩)
    (fun D i H' x H2 hD hi p ⟨e1, e2⟩ => by subst e1; exact hs D i x _ hD (e2 xs (hl D i _ hD p)) p) hd
theorem lc2I_gen (J : It) (n : Nat) {D : Addr} {Nx : Hp → Prop} (Pv : Nat → Hp → Prop) (h0 : Pv 0 H4) (hg : ∀ i H', i < n → Pv i H' → J.go i H') (he : ∀ H', Pv n H' → J.stop n H')
    (hs : ∀ i H' x H2, i < n → Pv i H' → J.yld i H' x H2 → g1 x (wipe σ vs1) H2 fun σ3 H5 => wipe σ3 vs1 = wipe σ vs1 ∧ tt1 σ3 H5 fun b H6 => if b = true then te σ3 H6 fun y H7 => LcE D (Pv (i + 1)) y H7 else Pv (i + 1) H6)
    (hd : ∀ H', Pv n H' → Nx H') : Lc2I J g1 tt1 te vs1 D Nx σ H4 := by
  refine ⟨fun i m H => m = n - i ∧ i ≤ n ∧ Pv i H, ⟨n, by simp, Nat.zero_le _, h0⟩, ?_⟩
  rintro i m H' ⟨rfl, hi, p⟩
  by_cases hlt : i < n
  · exact .inr ⟨hg i H' hlt p, Pv (i + 1), fun H2 p' => ⟨n - (i + 1), by omega, rfl, hlt, p'⟩, fun x H2 y => hs i H' x H2 hlt p y⟩
  · obtain rfl : i = n := by omega
    exact .inl ⟨he H' p, hd H' p⟩
theorem lc2I_tup {a : Addr} {xs : List V} {D : Addr} {Nx : Hp → Prop} (Pv : Nat → Hp → Prop) (hl : ∀ i H', Pv i H' → SqT K H' a xs) (h0 : Pv 0 H4)
    (hs : ∀ i x H', xs[i]? = some x → Pv i H' → g1 x (wipe σ vs1) H' fun σ3 H5 => wipe σ3 vs1 = wipe σ vs1 ∧ tt1 σ3 H5 fun b H6 => if b = true then te σ3 H6 fun y H7 => LcE D (Pv (i + 1)) y H7 else Pv (i + 1) H6)
    (hd : ∀ H', Pv xs.length H' → Nx H') : Lc2I (Itt K a) g1 tt1 te vs1 D Nx σ H4 :=
  lc2I_gen _ xs.length Pv h0 (fun i H' h p => ⟨xs, xs[i], hl i H' p, by simp [h]⟩) (fun H' p => ⟨xs, hl _ H' p, Nat.le_refl _⟩)
    (fun i H' x H2 hi p ⟨e1, e2⟩ => by subst e1; exact hs i x _ (e2 xs (hl i _ p)) p) hd
end
theorem cutN_take {xs : List V} {m : Nat} : cutV xs none (some (m : Int)) = xs.take m := by
  unfold cutV
  have e1 : HT.sIx xs.length 0 none = 0 := rfl
  have e2 : HT.sIx xs.length xs.length (some (m : Int)) = min m xs.length := by
    show (if (m : Int) < 0 then ((m : Int) + xs.length).toNat else min (m : Int).toNat xs.length) = _
    rw [if_neg (by omega)]
    simp
  rw [e1, e2, List.drop_zero, Nat.sub_zero]
  by_cases c : m ≤ xs.length
  · rw [Nat.min_eq_left c]
  · rw [Nat.min_eq_right (by omega), List.take_length, List.take_of_length_le (by omega)]
theorem cutN_drop {xs : List V} {m : Nat} : cutV xs (some (m : Int)) none = xs.drop m := by
  unfold cutV
  have e1 : HT.sIx xs.length xs.length none = xs.length := rfl
  have e2 : HT.sIx xs.length 0 (some (m : Int)) = min m xs.length := by
    show (if (m : Int) < 0 then ((m : Int) + xs.length).toNat else min (m : Int).toNat xs.length) = _
    rw [if_neg (by omega)]
    simp
  rw [e1, e2]
  by_cases c : m ≤ xs.length
  · rw [Nat.min_eq_left c, List.take_of_length_le (by rw [List.length_drop]; exact Nat.le_refl _)]
  · rw [Nat.min_eq_right (by omega), List.drop_of_length_le (Nat.le_refl _), List.drop_of_length_le (by omega)]
    simp
/-! zip of two lists -/
section
variable {σ : L2.St} {H : Hp} {Q : VK} {K : PySem.W.Frag} {g : TG} {tb : TS} {tt : TT} {te : TE} {ta : TA} {R : It → Hp → Prop} {vs : List Nat} {nx bk ct : L2.St → Hp → Prop} {rt : VK}
def zpR (K : PySem.W.Frag) (R : It → Hp → Prop) (vs : List V) (H1 : Hp) : Prop := ∃ a b xs ys, vs = [.ref a, .ref b] ∧ SqL K H1 a xs ∧ SqL K H1 b ys ∧ R (Itz K a b) H1
theorem rd_iZip (h : ta σ H fun vs H1 => zpR K R vs H1) : iZip K ta σ H R := h
theorem rd_zpR {a b : Addr} {xs ys : List V} (e1 : SqL K H a xs) (e2 : SqL K H b ys) (h : R (Itz K a b) H) : zpR K R [.ref a, .ref b] H := ⟨a, b, xs, ys, rfl, e1, e2, h⟩
theorem forR_zip {a b : Addr} {xs ys : List V} (n : Nat) (hn : n = min xs.length ys.length) (Pv : Nat → L2.St → Hp → Prop) (hl : ∀ i σ H, Pv i σ H → SqL K H a xs ∧ SqL K H b ys) (h0 : Pv 0 σ H)
    (hs : ∀ (i : Nat) x y σ H t H', i < n → xs[i]? = some x → ys[i]? = some y → Pv i σ H → H t = none → Same H H' → H' t = some (.tup [x, y]) → g (.ref t) σ H' fun σ2 H2 => tb ⟨Pv (i + 1), rt, nx, Pv (i + 1)⟩ σ2 H2) (hd : ∀ σ H, Pv n σ H → nx σ H) :
    ForR (Itz K a b) g tb ⟨nx, rt, bk, ct⟩ σ H :=
  forR_gen _ n Pv h0 (fun i σ H h p => ⟨xs, ys, xs[i]'(by omega), ys[i]'(by omega), (hl i σ H p).1, (hl i σ H p).2, by simp, by simp⟩) (fun σ H p => ⟨xs, ys, (hl _ σ H p).1, (hl _ σ H p).2, by omega⟩)
    (fun i σ H x H' hi p ⟨t, x1, y1, e1, e2, e3, e4, e5⟩ => by subst e1; subst e3; exact hs i x1 y1 σ H t _ hi (e4 xs (hl i σ _ p).1) (e5 ys (hl i σ _ p).2) p e2 (Same.new (Same.refl H) e2) upd_same) hd
end
section
variable {σ : L2.St} {H H0 : Hp} {K : PySem.W.Frag}
theorem altQs {n : Nat} {a : Addr} {xs : List V} {R : It → Hp → Prop} (hn : σ[n]? = some (some (.ref a))) (sM : SqQ K H0 a xs) (s : Same H0 H) (h : ∀ J, JQ K H0 a xs J → R J H) : iList K (tVar n) σ H R ∨ iTup K (tVar n) σ H R :=
  sM.elim (fun z => .inl ⟨_, hn, a, rfl, ⟨xs, L2.Same.seq s z⟩, h _ (.inl ⟨rfl, z⟩)⟩) fun z => .inr ⟨_, hn, a, rfl, ⟨xs, sqT_mono s z⟩, h _ (.inr ⟨rfl, z⟩)⟩
theorem altEs {n : Nat} {a : Addr} {xs : List V} {R : It → Hp → Prop} (hn : σ[n]? = some (some (.ref a))) (sM : SqQ K H0 a xs) (s : Same H0 H) (h : ∀ J, JE K H0 a xs J → R J H) : iEnum K (tCons (tVar n) tNil) σ H R ∨ iEnumT K (tCons (tVar n) tNil) σ H R :=
  sM.elim (fun z => .inl ⟨_, hn, a, xs, rfl, L2.Same.seq s z, h _ (.inl ⟨rfl, z⟩)⟩) fun z => .inr ⟨_, hn, a, xs, rfl, sqT_mono s z, h _ (.inr ⟨rfl, z⟩)⟩
end
section
variable {σ : L2.St} {H : Hp} {Q : VK} {g : TG} {tt : TT} {te : TE} {vs : List Nat}
theorem lcR_rngC {lo c : Int} {n : Nat} (Pv : Addr → Nat → Hp → Prop) (h0 : ∀ D H', H D = none → Same H H' → H' D = some (.lst []) → H' = upd H D (.lst []) → Pv D 0 H')
    (hs : ∀ D (i : Nat) H', H D = none → i < n → Pv D i H' → g (.int (lo + (i : Nat) * c)) (wipe σ vs) H' fun σ2 H2 => wipe σ2 vs = wipe σ vs ∧ tt σ2 H2 fun b H3 => if b = true then te σ2 H3 fun y H4 => LcE D (Pv D (i + 1)) y H4 else Pv D (i + 1) H3)
    (hd : ∀ D H', H D = none → Pv D n H' → Q (.ref D) H') : LcR (Itc lo c n) g tt te vs σ H Q :=
  lcR_gen _ n Pv h0 (fun D i H' hD h p => h) (fun D H' hD p => Nat.le_refl _) (fun D i H' x H2 hD hi p ⟨e1, e2⟩ => by subst e1; subst e2; exact hs D i _ hD hi p) hd
end
theorem slK {X : Cx} (R : PySem.W.Frag → V → Option Int → Option Int → Hp → VK → Prop) (K : PySem.W.Frag) (h : SlR X (R X.K)) (e : X.K = K := by rfl) : SlR X (R K) := e ▸ h
theorem pe_tupRevK {X : Cx} {e : Expr} {te : TE} (K : PySem.W.Frag) (h : PE X e (RT.tTupRev X.K te)) (eK : X.K = K := by rfl) : PE X e (RT.tTupRev K te) := eK ▸ h
end Sl

set_option Elab.async false
set_option linter.all false
set_option maxRecDepth 100000
set_option maxHeartbeats 8000000
set_option exponentiation.threshold 9000
namespace Sl
open PySem L2 C8 StX Silt
local macro_rules | `(tactic| walk_at "side") => `(tactic| first
  | exact cdivw (by omega) (by omega)
  | exact cmulw (by omega) (by omega) (by omega) (by omega)
  | exact Or.inr ⟨by omega, by omega⟩
  | exact Or.inl ⟨by omega, by omega⟩
  | omega
  | exact ⟨by omega, by omega, by decide⟩
  | decide)
local macro_rules | `(tactic| walk_at "rd1") => `(tactic| first
  | with_reducible refine rd_seq ?_
  | with_reducible refine rd_asg ?_
  | with_reducible refine rd_drop ?_
  | with_reducible refine rd_ret ?_
  | with_reducible refine rd_retN ?_
  | with_reducible refine rd_ifS ?_
  | ((with_reducible refine rd_var0 ?_); refine ⟨_, rfl, ?_⟩)
  | with_reducible refine rd_c ?_
  | with_reducible refine rd_op ?_
  | with_reducible refine rd_un ?_
  | with_reducible refine rd_I0 ?_
  | with_reducible refine rd_U ?_
  | ((with_reducible refine rd_I ?c ?_); (case c => walk_at "side"))
  | with_reducible refine rd_ipI ?_
  | with_reducible refine rd_eqI ?_
  | with_reducible refine rd_neI ?_
  | with_reducible refine rd_test ?_
  | with_reducible refine rd_tB ?_
  | with_reducible refine rd_bl ?_
  | with_reducible refine rd_not ?_
  | with_reducible refine rd_and ?_
  | with_reducible refine rd_or ?_
  | with_reducible refine rd_andV ?_
  | with_reducible refine rd_orV ?_
  | with_reducible refine rd_notV ?_
  | with_reducible refine rd_ifE ?_
  | with_reducible refine rd_chain ?_
  | with_reducible refine rd_chain3 ?_
  | with_reducible refine rd_nil ?_
  | with_reducible refine rd_cons ?_
  | with_reducible refine rd_call ?_
  | with_reducible refine rd_CB ?_
  | with_reducible refine rd_par ?_
  | with_reducible refine rd_par2 ?_
  | with_reducible refine rd_par3 ?_
  | with_reducible refine rd_par4 ?_
  | ((with_reducible refine rd_aug0 ?_); refine ⟨_, rfl, ?_⟩)
  | with_reducible refine rd_gname ?_
  | with_reducible refine rd_gcons ?_
  | with_reducible refine rd_gnil ?_
  | with_reducible refine rd_max ?_
  | with_reducible refine rd_min ?_
  | with_reducible refine rd_int1 ?_
  | with_reducible refine rd_abs ?_
  | with_reducible refine rd_lst ?_
  | with_reducible refine rd_tup ?_
  | with_reducible refine rd_bm ?_
  | with_reducible refine rd_fld0 ?_
  | with_reducible refine rd_sl0 ?_
  | with_reducible refine rd_noP ?_
  | with_reducible refine rd_part ?_
  | with_reducible refine rd_part2 ?_
  | with_reducible refine rd_meth0 ?_
  | with_reducible refine rd_star ?_
  | with_reducible refine rd_for ?_
  | with_reducible refine rd_rng1 ?_
  | with_reducible refine rd_rng2 ?_
  | with_reducible refine rd_rng3 ?_
  | with_reducible refine rd_iList ?_
  | with_reducible refine rd_iTup ?_
  | with_reducible refine rd_iEnum ?_
  | with_reducible refine rd_lc ?_
  | with_reducible refine rd_yes ?_
  | with_reducible refine rd_augS ?_
  | with_reducible refine rd_drawNew ?_
  | with_reducible refine rd_make0 ?_
  | with_reducible refine rd_next ?_
  | with_reducible refine rd_break ?_
  | with_reducible refine rd_cont ?_
  | with_reducible refine rd_iteTT ?_
  | with_reducible refine rd_iteFF ?_
  | with_reducible refine rd_iteNTT ?_
  | with_reducible refine rd_iteNFF ?_
  | with_reducible refine rd_con0 ?_
  | with_reducible refine rd_truO0 ?_
  | with_reducible refine rd_gfld0 ?_
  | with_reducible refine rd_dc ?_
  | with_reducible refine rd_iKeys ?_
  | with_reducible refine rd_dget0 ?_
  | with_reducible refine rd_dput0 ?_
  | with_reducible refine rd_dnot0 ?_
  | with_reducible refine rd_iEnumT ?_
  | with_reducible refine rd_raP0 ?_
  | with_reducible refine rd_xf0 ?_
  | with_reducible refine rd_cKw ?_
  | with_reducible refine rd_iStr ?_
  | with_reducible refine rd_gSub ?_
  | with_reducible refine rd_asgG ?_)
local macro_rules | `(tactic| walk_at "rd") => `(tactic| repeat walk_at "rd1")
local macro_rules | `(tactic| walk_at "len") => `(tactic| first
  | (intro vs H Q E h; obtain ⟨h2, _⟩ := h; rw [h2]; rfl)
  | (intro vs H Q E h; obtain ⟨_, h2, _⟩ := h; rw [h2]; rfl)
  | (intro vs H Q E h; obtain ⟨_, _, h2, _⟩ := h; rw [h2]; rfl)
  | (intro vs H Q E h; obtain ⟨_, _, _, h2, _⟩ := h; rw [h2]; rfl)
  | (intro vs H Q E h; obtain ⟨_, _, _, _, h2, _⟩ := h; rw [h2]; rfl)
  | (intro vs H Q E h; obtain ⟨_, _, _, _, _, h2, _⟩ := h; rw [h2]; rfl)
  | (intro vs H Q E h; obtain ⟨_, _, _, _, _, _, h2, _⟩ := h; rw [h2]; rfl)
  | (intro vs H Q E h; obtain ⟨_, _, _, _, _, _, _, h2, _⟩ := h; rw [h2]; rfl)
  | (intro vs H Q E h; obtain ⟨_, _, _, _, _, _, _, _, h2, _⟩ := h; rw [h2]; rfl)
  | (intro vs H Q E h; obtain ⟨_, _, _, _, _, _, _, _, _, h2, _⟩ := h; rw [h2]; rfl)
  | (intro vs H Q E h; obtain ⟨_, _, _, _, _, _, _, _, _, _, h2, _⟩ := h; rw [h2]; rfl)
  | (intro vs H Q E h; obtain ⟨_, _, _, _, _, _, _, _, _, _, _, h2, _⟩ := h; rw [h2]; rfl)
  | (intro vs H Q E h; obtain ⟨_, _, _, _, _, _, _, _, _, _, _, _, h2, _⟩ := h; rw [h2]; rfl))
local macro_rules | `(tactic| walk_at "side") => `(tactic| first | exact ⟨by decide, by decide⟩ | exact ⟨by decide, by decide, by decide⟩ | exact Or.inr ⟨by decide, by decide⟩ | exact ⟨by omega, wide_nat (by omega)⟩)
theorem cut_60 (xs : List V) : cutV xs none (some 60) = xs.take 60 := by
  unfold cutV
  have e : HT.sIx xs.length xs.length (some 60) = min 60 xs.length := by
    show (if (60 : Int) < 0 then ((60 : Int) + (xs.length : Int)).toNat else min (60 : Int).toNat xs.length) = _
    rw [if_neg (by decide)]
    rfl
  rw [e, HT.sIx_none, List.drop_zero, Nat.sub_zero]
  rcases Nat.le_total 60 xs.length with h | h
  · rw [Nat.min_eq_left h]
  · rw [Nat.min_eq_right h, List.take_length, List.take_of_length_le h]
theorem rd_ixSq {K : PySem.W.Frag} {H : Hp} {Q : VK} {a : Addr} {xs : List V} {j : Int} {v : V} (e : SqL K H a xs) (n : atI xs j = some v) (h : Q v H) : rIxL K (.ref a) (.int j) H Q := ⟨a, xs, j, v, rfl, rfl, e, n, h⟩
theorem fmod_pos {i j : Int} (h : 0 < j) : 0 ≤ i.fmod j ∧ i.fmod j < j := by
  rw [Int.fmod_eq_emod_of_nonneg _ (by omega)]
  exact ⟨Int.emod_nonneg _ (by omega), Int.emod_lt_of_pos _ h⟩
def spLDraw (K : PySem.W.Frag) : Sp := fun vs H Q _ => ∃ (sc : Addr) (ns : List Int) (i m : Int), vs = [.ref sc, .int i, .int m] ∧ SqL K H sc (ns.map V.int) ∧ ns.length ≤ 63 ∧ (0 ≤ i ∧ i ≤ 1000000) ∧ 0 < m ∧ ∀ H' n, Same H H' → 0 ≤ n → n < m → Q (.int n) H'
section
variable {P : Program} {w : World} {K : PySem.W.Frag} {mg : Str → Option Value} {base : Heap} {C_Evidence C_Good C_Bad C_KeepsAll C_LosesOne C_KeepsLittle C_KeepsMore C_BadDay C_BadPolicy D_PLAIN D_NUMBERED : Addr}
theorem cal__law_draw (T : TX K mg C_Evidence C_Good C_Bad C_KeepsAll C_LosesOne C_KeepsLittle C_KeepsMore C_BadDay C_BadPolicy D_PLAIN D_NUMBERED) : Cal P w K mg base 1 "_law_draw" (spLDraw K) [] := by
  obtain ⟨f0, fd, D, dn⟩ := T.d__law_draw
  refine cal0 D (D.fn.binds dn fun _ _ _ _ _ _ us hl => match us, hl with | [_, _, _], _ => rfl) .nil sc__law_draw (by walk_at "len") (fun cdv A outer s H vs Q E hr h => ?_)
  obtain ⟨sc, ns, i, m, rfl, hS, h63, hi, hm, k⟩ := h
  refine ⟨_, (pss_cut (ps_s 3 sc__law_draw.nd (pe_ifExp (pt_cmpR (op_neD hr.units) (pv 0) (pe_lst pa_nil) (nomark _)) (pe_slice sl_list (pv 0) po_none (po_some pe_int)) (pe_lst (pa_cons pe_int pa_nil))))
      (pss_cut (ps_par (i := 4) (j := 5) rfl sc__law_draw.nd rfl rfl (by decide) rfl rfl (pa_cons (pe_ix ix_list (pv 3) (pe_op op_modN (pv 1) (pe_callB cr_lenS (by rfl) T.b_len (by decide +kernel) (pa_cons (pv 3) pa_nil))) (fun _ _ => rfl)) (pa_cons (pe_op op_fdivW (pv 1) (pe_callB cr_lenS (by rfl) T.b_len (by decide +kernel) (pa_cons (pv 3) pa_nil))) pa_nil)) (by rfl))
      (pss_cons (ps_if (pt_cmpR op_ge (pv 4) (pe_op op_pow pe_int pe_int) (nomark _)) (pss_cons (ps_s 4 sc__law_draw.nd (pe_op op_modN (pe_callTy cr_int1 (by rfl) T.b_int (by decide +kernel) (pa_cons (pv 4) pa_nil)) (pe_op op_pow pe_int pe_int)))
      (pss_cons (ps_for PassesOwn.never rfl (pi_range1 rfl T.b_range (pa_cons (pe_op op_modN (pv 5) pe_int) pa_nil)) (pg_n 6 sc__law_draw.nd) (pss_one (ps_s 4 sc__law_draw.nd (pe_op op_fdivW (pv 4) pe_int))))
      (pss_one (ps_ret (pe_op op_modN (pe_op op_modN (pe_callTy cr_int1 (by rfl) T.b_int (by decide +kernel) (pa_cons (pv 4) pa_nil)) pe_int) (pv 2)))))) pss_nil)
      (pss_cons (ps_s 7 sc__law_draw.nd (pe_op op_add (pe_op op_mul (pe_op op_add (pe_op op_add (pe_op op_modN (pe_callTy cr_int1 (by rfl) T.b_int (by decide +kernel) (pa_cons (pe_op op_add (pv 4) (pe_op op_mul pe_int (pv 5))) pa_nil)) pe_int) (pe_op op_mul pe_int (pv 1))) pe_int) pe_int) (pe_op op_modN (pe_callTy cr_int1 (by rfl) T.b_int (by decide +kernel) (pa_cons (pe_op op_fdivW (pv 4) pe_int) pa_nil)) pe_int)))
      (pss_one (ps_ret (pe_op op_modN (pe_callTy cr_int1 (by rfl) T.b_int (by decide +kernel) (pa_cons (pe_op op_modN (pe_op op_mul (pe_op op_modN (pv 7) pe_int) pe_int) pe_int) pa_nil)) (pv 2)))))))), ?_⟩
  walk_at "rd"
  refine ⟨fun σ' H' => ∃ (r : Addr) (ms : List Int), Same H H' ∧ SqL K H' r (ms.map V.int) ∧ ms ≠ [] ∧ ms.length ≤ 63 ∧ σ' = [some (.ref sc), some (.int i), some (.int m), some (.ref r), none, none, none, none], ?_, ?_⟩
  · walk_at "rd"
    refine rd_newL (by decide) fun u H1 _ s1 eu _ => ?_
    refine ⟨.list (intsD ns), .list [], .lst (L2.Same.seq s1 hS) (DtAll.intsD ns).dp, .lst (SqL.of eu) .nil, shaped_ints ns, by decide, ?_⟩
    rw [eqv_nil]
    walk_at "rd"
    refine rd_iteN (fun c => ?_) (fun c => ?_)
    · walk_at "rd"
      refine rd_slL (L2.Same.seq s1 hS) fun p H2 _ s2 ep _ => ?_
      rw [cut_60, ← List.map_take] at ep
      refine ⟨p, ns.take 60, s1.trans s2, SqL.of ep, fun z => c ?_, by rw [List.length_take]; omega, rfl⟩
      have := congrArg List.length z
      rw [List.length_take] at this
      have : ns = [] := List.length_eq_zero_iff.mp (by simp at this; rcases this with h | h <;> simp_all)
      rw [this]
      rfl
    · walk_at "rd"
      refine rd_newL (by decide) fun p H2 _ s2 ep _ => ?_
      exact ⟨p, [7], s1.trans s2, SqL.of ep, (fun z => nomatch z), by decide, rfl⟩
  rintro σ H1 ⟨r, ms, s1, sr, hne, hm63, rfl⟩
  walk_at "rd"
  have hl : 0 < ms.length := List.length_pos_iff.mpr hne
  refine ⟨fun σ' H' => ∃ (c tn : Int), Same H H' ∧ 0 ≤ tn ∧ σ' = [some (.ref sc), some (.int i), some (.int m), some (.ref r), some (.int c), some (.int tn), none, none], ?_, ?_⟩
  · walk_at "rd"
    refine rd_lenSq sr ?_
    rw [List.length_map]
    walk_at "rd"
    have fm := fmod_pos (i := i) (j := (ms.length : Int)) (by omega)
    obtain ⟨n, hn⟩ : ∃ n : Nat, i.fmod (ms.length : Int) = n := ⟨(i.fmod (ms.length : Int)).toNat, by omega⟩
    rw [hn]
    refine rd_ixSq sr (v := .int (ms[n]'(by omega))) (atI_nat' (by rw [List.getElem?_map, List.getElem?_eq_getElem (by omega : n < ms.length)]; rfl)) ?_
    walk_at "rd"
    refine rd_lenSq sr ?_
    rw [List.length_map]
    walk_at "rd"
    refine rd_I ⟨by omega, Nat.lt_of_le_of_lt (Nat.log2_le_self _) (by omega)⟩ ?_
    walk_at "rd"
    exact ⟨_, _, s1, Int.ediv_nonneg hi.1 (by omega), rfl⟩
  rintro σ H2 ⟨c, tn, s2, ht, rfl⟩
  clear sr s1
  walk_at "rd"
  refine rd_ite (fun c1 => ?_) (fun c1 => ?_)
  · walk_at "rd"
    have fm := fmod_pos (i := tn) (j := 40) (by decide)
    refine rd_rgR1 (by omega) (by omega) ?_
    refine forR_rng (fun j σ H' => ∃ c v6, Same H H' ∧ σ = [some (.ref sc), some (.int i), some (.int m), some (.ref r), some (.int c), some (.int tn), v6, none]) ⟨_, _, s2, rfl⟩ ?_ ?_
    · rintro j σ H3 hj ⟨c3, v6, s3, rfl⟩
      walk_at "rd"
      exact ⟨_, _, s3, rfl⟩
    · rintro σ H3 ⟨c3, v6, s3, rfl⟩
      walk_at "rd"
      have fm := fmod_pos (i := c3.fmod 97) hm
      exact k H3 _ s3 fm.1 fm.2
  · walk_at "rd"
    exact k H2 _ s2 (fmod_pos hm).1 (fmod_pos hm).2
end
end Sl

set_option Elab.async false
set_option linter.all false
set_option maxRecDepth 100000
set_option maxHeartbeats 8000000
set_option exponentiation.threshold 9000
namespace Sl
open PySem L2 C8 StX Silt
local macro_rules | `(tactic| walk_at "side") => `(tactic| first
  | exact cdivw (by omega) (by omega)
  | exact cmulw (by omega) (by omega) (by omega) (by omega)
  | exact Or.inr ⟨by omega, by omega⟩
  | exact Or.inl ⟨by omega, by omega⟩
  | omega
  | exact ⟨by omega, by omega, by decide⟩
  | decide)
local macro_rules | `(tactic| walk_at "rd1") => `(tactic| first
  | with_reducible refine rd_seq ?_
  | with_reducible refine rd_asg ?_
  | with_reducible refine rd_drop ?_
  | with_reducible refine rd_ret ?_
  | with_reducible refine rd_retN ?_
  | with_reducible refine rd_ifS ?_
  | ((with_reducible refine rd_var0 ?_); refine ⟨_, rfl, ?_⟩)
  | with_reducible refine rd_c ?_
  | with_reducible refine rd_op ?_
  | with_reducible refine rd_un ?_
  | with_reducible refine rd_I0 ?_
  | with_reducible refine rd_U ?_
  | ((with_reducible refine rd_I ?c ?_); (case c => walk_at "side"))
  | with_reducible refine rd_ipI ?_
  | with_reducible refine rd_eqI ?_
  | with_reducible refine rd_neI ?_
  | with_reducible refine rd_test ?_
  | with_reducible refine rd_tB ?_
  | with_reducible refine rd_bl ?_
  | with_reducible refine rd_not ?_
  | with_reducible refine rd_and ?_
  | with_reducible refine rd_or ?_
  | with_reducible refine rd_andV ?_
  | with_reducible refine rd_orV ?_
  | with_reducible refine rd_notV ?_
  | with_reducible refine rd_ifE ?_
  | with_reducible refine rd_chain ?_
  | with_reducible refine rd_chain3 ?_
  | with_reducible refine rd_nil ?_
  | with_reducible refine rd_cons ?_
  | with_reducible refine rd_call ?_
  | with_reducible refine rd_CB ?_
  | with_reducible refine rd_par ?_
  | with_reducible refine rd_par2 ?_
  | with_reducible refine rd_par3 ?_
  | with_reducible refine rd_par4 ?_
  | ((with_reducible refine rd_aug0 ?_); refine ⟨_, rfl, ?_⟩)
  | with_reducible refine rd_gname ?_
  | with_reducible refine rd_gcons ?_
  | with_reducible refine rd_gnil ?_
  | with_reducible refine rd_max ?_
  | with_reducible refine rd_min ?_
  | with_reducible refine rd_int1 ?_
  | with_reducible refine rd_abs ?_
  | with_reducible refine rd_lst ?_
  | with_reducible refine rd_tup ?_
  | with_reducible refine rd_bm ?_
  | with_reducible refine rd_fld0 ?_
  | with_reducible refine rd_sl0 ?_
  | with_reducible refine rd_noP ?_
  | with_reducible refine rd_part ?_
  | with_reducible refine rd_part2 ?_
  | with_reducible refine rd_meth0 ?_
  | with_reducible refine rd_star ?_
  | with_reducible refine rd_for ?_
  | with_reducible refine rd_rng1 ?_
  | with_reducible refine rd_rng2 ?_
  | with_reducible refine rd_rng3 ?_
  | with_reducible refine rd_iList ?_
  | with_reducible refine rd_iTup ?_
  | with_reducible refine rd_iEnum ?_
  | with_reducible refine rd_lc ?_
  | with_reducible refine rd_yes ?_
  | with_reducible refine rd_augS ?_
  | with_reducible refine rd_drawNew ?_
  | with_reducible refine rd_make0 ?_
  | with_reducible refine rd_next ?_
  | with_reducible refine rd_break ?_
  | with_reducible refine rd_cont ?_
  | with_reducible refine rd_iteTT ?_
  | with_reducible refine rd_iteFF ?_
  | with_reducible refine rd_iteNTT ?_
  | with_reducible refine rd_iteNFF ?_
  | with_reducible refine rd_con0 ?_
  | with_reducible refine rd_truO0 ?_
  | with_reducible refine rd_gfld0 ?_
  | with_reducible refine rd_dc ?_
  | with_reducible refine rd_iKeys ?_
  | with_reducible refine rd_dget0 ?_
  | with_reducible refine rd_dput0 ?_
  | with_reducible refine rd_dnot0 ?_
  | with_reducible refine rd_iEnumT ?_
  | with_reducible refine rd_raP0 ?_
  | with_reducible refine rd_xf0 ?_
  | with_reducible refine rd_cKw ?_
  | with_reducible refine rd_iStr ?_
  | with_reducible refine rd_gSub ?_
  | with_reducible refine rd_asgG ?_)
local macro_rules | `(tactic| walk_at "rd") => `(tactic| repeat walk_at "rd1")
local macro_rules | `(tactic| walk_at "len") => `(tactic| first
  | (intro vs H Q E h; obtain ⟨h2, _⟩ := h; rw [h2]; rfl)
  | (intro vs H Q E h; obtain ⟨_, h2, _⟩ := h; rw [h2]; rfl)
  | (intro vs H Q E h; obtain ⟨_, _, h2, _⟩ := h; rw [h2]; rfl)
  | (intro vs H Q E h; obtain ⟨_, _, _, h2, _⟩ := h; rw [h2]; rfl)
  | (intro vs H Q E h; obtain ⟨_, _, _, _, h2, _⟩ := h; rw [h2]; rfl)
  | (intro vs H Q E h; obtain ⟨_, _, _, _, _, h2, _⟩ := h; rw [h2]; rfl)
  | (intro vs H Q E h; obtain ⟨_, _, _, _, _, _, h2, _⟩ := h; rw [h2]; rfl)
  | (intro vs H Q E h; obtain ⟨_, _, _, _, _, _, _, h2, _⟩ := h; rw [h2]; rfl)
  | (intro vs H Q E h; obtain ⟨_, _, _, _, _, _, _, _, h2, _⟩ := h; rw [h2]; rfl)
  | (intro vs H Q E h; obtain ⟨_, _, _, _, _, _, _, _, _, h2, _⟩ := h; rw [h2]; rfl)
  | (intro vs H Q E h; obtain ⟨_, _, _, _, _, _, _, _, _, _, h2, _⟩ := h; rw [h2]; rfl)
  | (intro vs H Q E h; obtain ⟨_, _, _, _, _, _, _, _, _, _, _, h2, _⟩ := h; rw [h2]; rfl)
  | (intro vs H Q E h; obtain ⟨_, _, _, _, _, _, _, _, _, _, _, _, h2, _⟩ := h; rw [h2]; rfl))
/-! ### data as such -/
def tyD : PyData → String
  | .none => "NoneType"
  | .bool _ => "bool"
  | .int _ => "int"
  | .str _ => "str"
  | .list _ => "list"
  | .tuple _ => "tuple"
  | _ => "?"
theorem Dt.ty {K : PySem.W.Frag} {H : Hp} {v : V} {d : PyData} (h : Dt H v d) : TyOf K H v (.type (tyD d)) := by
  cases h with
  | non => exact .non
  | bl b => exact .bl b
  | int i => exact .int i
  | str x => exact .str x
  | lst e _ => exact .lst e
  | tup e _ => exact .tup e
theorem rd_isiDt {K : PySem.W.Frag} {H : Hp} {Q : VK} {v : V} {d : PyData} {b : String} {r : Bool} (e : Dt H v d) (h2 : kitB (tyD d) b = some r) (h : Q (.bl r) H) : rIsi K [v, .ty b] H Q := ⟨_, _, _, _, r, rfl, .ty _, .base e.ty, kit_ty h2, h⟩
def wholeD : PyData → Bool
  | .int _ => true
  | _ => false
def isTupD : PyData → Bool
  | .tuple _ => true
  | _ => false
def isBoolD : PyData → Bool
  | .bool _ => true
  | _ => false
theorem kit_tup {K : PySem.W.Frag} {H : Hp} {v : V} {d : PyData} (h : Dt H v d) : kitB (tyD d) "tuple" = some (isTupD d) := by
  cases h with
  | non => exact (by decide +kernel : kitB "NoneType" "tuple" = some false)
  | bl b => exact (by decide +kernel : kitB "bool" "tuple" = some false)
  | int i => exact (by decide +kernel : kitB "int" "tuple" = some false)
  | str x => exact (by decide +kernel : kitB "str" "tuple" = some false)
  | lst e r => exact (by decide +kernel : kitB "list" "tuple" = some false)
  | tup e r => exact (by decide +kernel : kitB "tuple" "tuple" = some true)
theorem kit_int {K : PySem.W.Frag} {H : Hp} {v : V} {d : PyData} (h : Dt H v d) : kitB (tyD d) "int" = some (wholeD d || isBoolD d) := by
  cases h with
  | non => exact (by decide +kernel : kitB "NoneType" "int" = some false)
  | bl b => exact (by decide +kernel : kitB "bool" "int" = some true)
  | int i => exact (by decide +kernel : kitB "int" "int" = some true)
  | str x => exact (by decide +kernel : kitB "str" "int" = some false)
  | lst e r => exact (by decide +kernel : kitB "list" "int" = some false)
  | tup e r => exact (by decide +kernel : kitB "tuple" "int" = some false)
theorem kit_bool {K : PySem.W.Frag} {H : Hp} {v : V} {d : PyData} (h : Dt H v d) : kitB (tyD d) "bool" = some (isBoolD d) := by
  cases h with
  | non => exact (by decide +kernel : kitB "NoneType" "bool" = some false)
  | bl b => exact (by decide +kernel : kitB "bool" "bool" = some true)
  | int i => exact (by decide +kernel : kitB "int" "bool" = some false)
  | str x => exact (by decide +kernel : kitB "str" "bool" = some false)
  | lst e r => exact (by decide +kernel : kitB "list" "bool" = some false)
  | tup e r => exact (by decide +kernel : kitB "tuple" "bool" = some false)
theorem Dt.int_inv {H : Hp} {v : V} {i : Int} (h : Dt H v (.int i)) : v = .int i := by cases h; rfl
theorem Dt.bool_inv {H : Hp} {v : V} {i : Bool} (h : Dt H v (.bool i)) : v = .bl i := by cases h; rfl
theorem Dt.str_inv {H : Hp} {v : V} {i : Str} (h : Dt H v (.str i)) : v = .str i := by cases h; rfl
theorem Dt.tup_inv {H : Hp} {v : V} {ds : List PyData} (h : Dt H v (.tuple ds)) : ∃ a xs, v = .ref a ∧ H a = some (.tup xs) ∧ DtAll H xs ds := by
  cases h with
  | tup e r => exact ⟨_, _, rfl, e, r⟩
theorem eqv_nilT (ds : List PyData) : PyData.eqv (.tuple ds) (.tuple []) = ds.isEmpty := by
  cases ds <;> simp [PyData.eqv, PyData.eqvAll]
theorem rd_eqDp {K : PySem.W.Frag} {H : Hp} {Q : VK} {x y : V} {d e : PyData} (h1 : Dt H x d) (h2 : Dp K H y e) (s1 : SeqAt.shaped d = true) (s2 : SeqAt.shaped e = true) (h : Q (.bl (PyData.eqv d e)) H) : rEqD K x y H Q := ⟨d, e, h1.dp, h2, s1, s2, h⟩
theorem rd_neDp {K : PySem.W.Frag} {H : Hp} {Q : VK} {x y : V} {d e : PyData} (h1 : Dt H x d) (h2 : Dp K H y e) (s1 : SeqAt.shaped d = true) (s2 : SeqAt.shaped e = true) (h : Q (.bl (!PyData.eqv d e)) H) : rNeD K x y H Q := ⟨d, e, h1.dp, h2, s1, s2, h⟩
theorem DtAll.at {H : Hp} {vs : List V} {ds : List PyData} {i : Nat} {v : V} (h : DtAll H vs ds) (hv : vs[i]? = some v) : ∃ d, ds[i]? = some d ∧ Dt H v d := DtAll.getV h hv
/-- a list or a tuple in the heap -/
def SeqP (H : Hp) (a : Addr) (xs : List V) : Prop := H a = some (.lst xs) ∨ H a = some (.tup xs)
theorem SeqP.mono {H H' : Hp} {a : Addr} {xs : List V} (s : Same H H') (h : SeqP H a xs) : SeqP H' a xs := h.imp (s _ _) (s _ _)
theorem SeqP.q {K : PySem.W.Frag} {H : Hp} {a : Addr} {xs : List V} (h : SeqP H a xs) : SqQ K H a xs := h.imp SqL.of SqT.of
section
variable {K : PySem.W.Frag} {σ : L2.St} {H : Hp} {Q : VK}
theorem altIx {n m j : Nat} {a : Addr} {xs : List V} {v : V} (hn : σ[n]? = some (some (.ref a))) (hm : σ[m]? = some (some (.int (j : Int)))) (e : SeqP H a xs) (hv : xs[j]? = some v) (h : Q v H) : tOp (rIxL K) (tVar n) (tVar m) σ H Q ∨ tOp (rIxT K) (tVar n) (tVar m) σ H Q :=
  e.elim (fun z => .inl ⟨_, hn, _, hm, rd_ixL z (atI_nat' hv) h⟩) fun z => .inr ⟨_, hn, _, hm, rd_ixT z (atI_nat' hv) h⟩
theorem altSl {n m j : Nat} {a : Addr} {xs : List V} (hn : σ[n]? = some (some (.ref a))) (hm : σ[m]? = some (some (.int (j : Int)))) (e : SeqP H a xs) (h : ∀ p H', Same H H' → SeqP H' p (xs.take j) → Q (.ref p) H') : tSl (rSlL K) (tVar n) tNoPart (tPart (tVar m)) σ H Q ∨ tSl (rSlA K) (tVar n) tNoPart (tPart (tVar m)) σ H Q := by
  rcases e with z | z
  · refine .inl ⟨_, hn, ⟨_, hm, j, rfl, ?_⟩⟩
    refine rd_slL (SqL.of z) fun p H' _ s e _ => ?_
    rw [cutN_take] at e
    exact h p H' s (.inl e)
  · refine .inr ⟨_, hn, ⟨_, hm, j, rfl, ?_⟩⟩
    refine rd_slA z fun p H' s e => ?_
    rw [cutN_take] at e
    exact h p H' s (.inr e)
end
theorem altIxF {K : PySem.W.Frag} {σ : L2.St} {H : Hp} {Q : VK} {n j : Nat} {a : Addr} {xs : List V} {v : V} {th : TE} (hn : σ[n]? = some (some (.ref a))) (hth : ∀ R : VK, R (.int (j : Int)) H → th σ H R) (e : SeqP H a xs) (hv : xs[j]? = some v) (h : Q v H) : tOp (rIxL K) (tVar n) th σ H Q ∨ tOp (rIxT K) (tVar n) th σ H Q :=
  e.elim (fun z => .inl ⟨_, hn, hth _ (rd_ixL z (atI_nat' hv) h)⟩) fun z => .inr ⟨_, hn, hth _ (rd_ixT z (atI_nat' hv) h)⟩
def spIsWD : Sp := fun vs H Q _ => ∃ v d, vs = [v] ∧ Dt H v d ∧ Q (.bl (wholeD d)) H
def intV (l : List Int) : List V := l.map V.int
theorem intV_at {l : List Int} {i : Nat} {v : V} (h : (intV l)[i]? = some v) : ∃ m, l[i]? = some m ∧ v = .int m := by
  unfold intV at h
  rw [List.getElem?_map] at h
  cases q : l[i]? with
  | none => rw [q] at h; cases h
  | some m => rw [q] at h; exact ⟨m, rfl, (Option.some.inj h).symm⟩
/-- whether a pinned day needs a version -/
def needB (d l : Int) (pins : List Int) : Bool := pins.any fun q => decide (d ≤ q) && decide (q < l)
def spPins : Sp := fun vs H Q _ => ∃ (a : Addr) (pins : List Int), vs = [.ref a] ∧ SeqP H a (intV pins) ∧ pins.length ≤ 1000 ∧ (∀ q ∈ pins, 0 ≤ q) ∧ ∀ H', Same H H' → Q .non H'
def spNeed : Sp := fun vs H Q _ => ∃ (d l : Int) (a : Addr) (pins : List Int), vs = [.int d, .int l, .ref a] ∧ SeqP H a (intV pins) ∧ pins.length ≤ 1000 ∧ ∀ H', Same H H' → Q (.bl (needB d l pins)) H'
theorem any_bs {K : PySem.W.Frag} {H : Hp} {Q : VK} {D : Addr} {bs : List Bool} (e : H D = some (.lst (bs.map V.bl))) (h : Q (.bl (bs.any id)) H) : rAny K [.ref D] H Q := ⟨D, bs, rfl, SqL.of e, h⟩
theorem all_bs {K : PySem.W.Frag} {H : Hp} {Q : VK} {D : Addr} {bs : List Bool} (e : H D = some (.lst (bs.map V.bl))) (h : Q (.bl (bs.all id)) H) : rAll K [.ref D] H Q := ⟨D, bs, rfl, SqL.of e, h⟩
section
variable {P : Program} {w : World} {K : PySem.W.Frag} {mg : Str → Option Value} {base : Heap} {C_Evidence C_Good C_Bad C_KeepsAll C_LosesOne C_KeepsLittle C_KeepsMore C_BadDay C_BadPolicy D_PLAIN D_NUMBERED : Addr}
theorem cal_is_whole (T : TX K mg C_Evidence C_Good C_Bad C_KeepsAll C_LosesOne C_KeepsLittle C_KeepsMore C_BadDay C_BadPolicy D_PLAIN D_NUMBERED) : Cal P w K mg base 1 "is_whole" (spIsWD) [] := by
  obtain ⟨f0, fd, D, dn⟩ := T.d_is_whole
  refine cal0 D (D.fn.binds dn fun _ _ _ _ _ _ us hl => match us, hl with | [_], _ => rfl) .nil sc_is_whole (by walk_at "len") (fun cdv A outer s H vs Q E hr h => ?_)
  obtain ⟨v, d, rfl, e, k⟩ := h
  refine ⟨_, (pss_one (ps_ret (pe_and (pe_callB call_isi (by rfl) T.b_isinstance (by decide +kernel) (pa_cons (pv 0) (pa_cons (pe_bltn (v := .ty "int") (u := .type "int") rfl T.b_int (by decide +kernel) rfl) pa_nil))) (pe_one (pe_not (pe_callB call_isi (by rfl) T.b_isinstance (by decide +kernel) (pa_cons (pv 0) (pa_cons (pe_bltn (v := .ty "bool") (u := .type "bool") rfl T.b_bool (by decide +kernel) rfl) pa_nil)))))))), ?_⟩
  walk_at "rd"
  refine rd_isiDt e (kit_int (K := K) e) ?_
  walk_at "rd"
  cases hi : (wholeD d || isBoolD d)
  · walk_at "rd"
    have : wholeD d = false := (Bool.or_eq_false_iff.mp hi).1
    rw [this] at k
    exact k
  · walk_at "rd"
    refine rd_isiDt e (kit_bool (K := K) e) ?_
    walk_at "rd"
    have : wholeD d = !isBoolD d := by
      cases d <;> first | rfl | cases hi
    rw [this] at k
    exact k
theorem cal_check_pins (T : TX K mg C_Evidence C_Good C_Bad C_KeepsAll C_LosesOne C_KeepsLittle C_KeepsMore C_BadDay C_BadPolicy D_PLAIN D_NUMBERED) : Cal P w K mg base 2 "check_pins" (spPins) [] := by
  obtain ⟨f0, fd, D, dn⟩ := T.d_check_pins
  have G_is_whole := cal_is_whole (P := P) (w := w) (base := base) T
  refine cal0 D (D.fn.binds dn fun _ _ _ _ _ _ us hl => match us, hl with | [_], _ => rfl) .nil sc_check_pins (by walk_at "len") (fun cdv A outer s H vs Q E hr h => ?_)
  obtain ⟨a, pins, rfl, ep, lp, h0, k⟩ := h
  have lx : (intV pins).length = pins.length := List.length_map _
  refine ⟨_, (pss_one (ps_if (PW.pt (pw_or (pt_not (pt_val (pe_callB call_isiT (by rfl) T.b_isinstance (by decide +kernel) (pa_cons (pv 0) (pa_cons (pe_tup (pa_cons (pe_bltn (v := .ty "list") (u := .type "list") rfl T.b_list (by decide +kernel) rfl) (pa_cons (pe_bltn (v := .ty "tuple") (u := .type "tuple") rfl T.b_tuple (by decide +kernel) rfl) pa_nil))) pa_nil))))) (pw_or1 (pt_not (pt_val (pe_callB (cr_all rfl) (by rfl) T.b_all (by decide +kernel) (pa_cons (pe_lc (own := [("one", 1)]) (g := gName 1) (tt := tYes) rfl sc_check_pins.nd (pi_alt (pi_list (pv 0)) (pi_tup (pv 0))) (blkOk_by (own := [("one", 1)]) (N := N_check_pins) (sc := fnScope s_check_pins) (by decide +kernel)) (fun _ _ _ _ _ => (pg_n 1 sc_check_pins.nd)) (fun _ _ _ _ _ => pts_nil) (fun _ _ _ _ _ => (pe_and (pe_c G_is_whole hr (by decide) rfl (pa_cons (pv 1) pa_nil)) (pe_one (pe_cmpR op_ge (pv 1) pe_int (nomark _)))))) pa_nil))))))) (pss_one ps_never) pss_nil)), ?_⟩
  walk_at "rd"
  refine rd_newT (by simp) fun u H1 _ s1 eu _ => ?_
  walk_at "rd"
  refine rd_isiTQ (ep.mono s1).q eu ?_
  walk_at "rd"
  refine altQ rfl (ep.mono s1).q fun J hJ => ?_
  refine lcR_Q hJ (fun W i H' => Same H1 H' ∧ H' W = some (.lst ((List.replicate i true).map V.bl))) (fun W i H' _ ⟨s, _⟩ => s) (fun W H' _ s e _ => ⟨s, e⟩) ?_ ?_
  · rintro W i y H2 hW hy ⟨s2, eW⟩
    have hi := (List.getElem?_eq_some_iff.mp hy).1
    obtain ⟨m, hm, rfl⟩ := intV_at hy
    have := h0 m (List.mem_of_getElem? hm)
    walk_at "rd"
    refine ⟨rfl, ?_⟩
    walk_at "rd"
    refine ⟨_, _, rfl, .int m, ?_⟩
    rw [show wholeD (.int m) = true from rfl]
    walk_at "rd"
    rw [decide_eq_true this]
    refine rd_lcE eW (by rw [List.length_map, List.length_replicate]; omega) fun H3 eH3 eW3 => ?_
    refine ⟨by rw [eH3]; exact Same.mut s2 hW, ?_⟩
    rw [eW3, List.replicate_succ', List.map_append]
    rfl
  rintro W H2 hW ⟨s2, eW⟩
  walk_at "rd"
  refine all_true eW ?_
  refine ⟨true, rfl, ?_⟩
  walk_at "rd"
  exact k _ (s1.trans s2)
theorem cal_is_needed (T : TX K mg C_Evidence C_Good C_Bad C_KeepsAll C_LosesOne C_KeepsLittle C_KeepsMore C_BadDay C_BadPolicy D_PLAIN D_NUMBERED) : Cal P w K mg base 1 "is_needed" (spNeed) [] := by
  obtain ⟨f0, fd, D, dn⟩ := T.d_is_needed
  refine cal0 D (D.fn.binds dn fun _ _ _ _ _ _ us hl => match us, hl with | [_, _, _], _ => rfl) .nil sc_is_needed (by walk_at "len") (fun cdv A outer s H vs Q E hr h => ?_)
  obtain ⟨d, l, a, pins, rfl, ep, lp, k⟩ := h
  have lx : (intV pins).length = pins.length := List.length_map _
  refine ⟨_, (pss_one (ps_ret (pe_callB (cr_any rfl) (by rfl) T.b_any (by decide +kernel) (pa_cons (pe_lc (own := [("pin", 3)]) (g := gName 3) (tt := tYes) rfl sc_is_needed.nd (pi_alt (pi_list (pv 2)) (pi_tup (pv 2))) (blkOk_by (own := [("pin", 3)]) (N := N_is_needed) (sc := fnScope s_is_needed) (by decide +kernel)) (fun _ _ _ _ _ => (pg_n 3 sc_is_needed.nd)) (fun _ _ _ _ _ => pts_nil) (fun _ _ _ _ _ => (pe_chain op_le op_lt (pv 0) (pv 3) (pv 1)))) pa_nil)))), ?_⟩
  walk_at "rd"
  refine altQ rfl ep.q fun J hJ => ?_
  refine lcR_Q hJ (fun W i H' => Same H H' ∧ H' W = some (.lst (((pins.take i).map fun q => decide (d ≤ q) && decide (q < l)).map V.bl))) (fun W i H' _ ⟨s, _⟩ => s) (fun W H' _ s e _ => ⟨s, e⟩) ?_ ?_
  · rintro W i y H2 hW hy ⟨s2, eW⟩
    have hi := (List.getElem?_eq_some_iff.mp hy).1
    obtain ⟨m, hm, rfl⟩ := intV_at hy
    have fin : ∀ b, b = (decide (d ≤ m) && decide (m < l)) → LcE W (fun H' => Same H H' ∧ H' W = some (.lst (((pins.take (i + 1)).map fun q => decide (d ≤ q) && decide (q < l)).map V.bl))) (.bl b) H2 := by
      rintro b rfl
      refine rd_lcE eW (by rw [List.length_map, List.length_map, List.length_take]; omega) fun H3 eH3 eW3 => ?_
      refine ⟨by rw [eH3]; exact Same.mut s2 hW, ?_⟩
      rw [eW3, List.take_add_one, hm, List.map_append, List.map_append]
      rfl
    walk_at "rd"
    refine ⟨rfl, ?_⟩
    walk_at "rd"
    refine rd_ite (fun c => ?_) (fun c => ?_)
    · walk_at "rd"
      exact fin _ (by rw [decide_eq_true c, Bool.true_and])
    · walk_at "rd"
      exact fin _ (by rw [decide_eq_false c, Bool.false_and])
  rintro W H2 hW ⟨s2, eW⟩
  rw [lx, List.take_length] at eW
  walk_at "rd"
  refine any_bs eW ?_
  rw [List.any_map]
  exact k _ s2
end
end Sl

set_option Elab.async false
set_option linter.all false
set_option maxRecDepth 100000
set_option maxHeartbeats 8000000
set_option exponentiation.threshold 9000
namespace Sl
open PySem L2 C8 StX Silt
local macro_rules | `(tactic| walk_at "side") => `(tactic| first
  | exact cdivw (by omega) (by omega)
  | exact cmulw (by omega) (by omega) (by omega) (by omega)
  | exact Or.inr ⟨by omega, by omega⟩
  | exact Or.inl ⟨by omega, by omega⟩
  | omega
  | exact ⟨by omega, by omega, by decide⟩
  | decide)
local macro_rules | `(tactic| walk_at "rd1") => `(tactic| first
  | with_reducible refine rd_seq ?_
  | with_reducible refine rd_asg ?_
  | with_reducible refine rd_drop ?_
  | with_reducible refine rd_ret ?_
  | with_reducible refine rd_retN ?_
  | with_reducible refine rd_ifS ?_
  | ((with_reducible refine rd_var0 ?_); refine ⟨_, rfl, ?_⟩)
  | with_reducible refine rd_c ?_
  | with_reducible refine rd_op ?_
  | with_reducible refine rd_un ?_
  | with_reducible refine rd_I0 ?_
  | with_reducible refine rd_U ?_
  | ((with_reducible refine rd_I ?c ?_); (case c => walk_at "side"))
  | with_reducible refine rd_ipI ?_
  | with_reducible refine rd_eqI ?_
  | with_reducible refine rd_neI ?_
  | with_reducible refine rd_test ?_
  | with_reducible refine rd_tB ?_
  | with_reducible refine rd_bl ?_
  | with_reducible refine rd_not ?_
  | with_reducible refine rd_and ?_
  | with_reducible refine rd_or ?_
  | with_reducible refine rd_andV ?_
  | with_reducible refine rd_orV ?_
  | with_reducible refine rd_notV ?_
  | with_reducible refine rd_ifE ?_
  | with_reducible refine rd_chain ?_
  | with_reducible refine rd_chain3 ?_
  | with_reducible refine rd_nil ?_
  | with_reducible refine rd_cons ?_
  | with_reducible refine rd_call ?_
  | with_reducible refine rd_CB ?_
  | with_reducible refine rd_par ?_
  | with_reducible refine rd_par2 ?_
  | with_reducible refine rd_par3 ?_
  | with_reducible refine rd_par4 ?_
  | ((with_reducible refine rd_aug0 ?_); refine ⟨_, rfl, ?_⟩)
  | with_reducible refine rd_gname ?_
  | with_reducible refine rd_gcons ?_
  | with_reducible refine rd_gnil ?_
  | with_reducible refine rd_max ?_
  | with_reducible refine rd_min ?_
  | with_reducible refine rd_int1 ?_
  | with_reducible refine rd_abs ?_
  | with_reducible refine rd_lst ?_
  | with_reducible refine rd_tup ?_
  | with_reducible refine rd_bm ?_
  | with_reducible refine rd_fld0 ?_
  | with_reducible refine rd_sl0 ?_
  | with_reducible refine rd_noP ?_
  | with_reducible refine rd_part ?_
  | with_reducible refine rd_part2 ?_
  | with_reducible refine rd_meth0 ?_
  | with_reducible refine rd_star ?_
  | with_reducible refine rd_for ?_
  | with_reducible refine rd_rng1 ?_
  | with_reducible refine rd_rng2 ?_
  | with_reducible refine rd_rng3 ?_
  | with_reducible refine rd_iList ?_
  | with_reducible refine rd_iTup ?_
  | with_reducible refine rd_iEnum ?_
  | with_reducible refine rd_lc ?_
  | with_reducible refine rd_yes ?_
  | with_reducible refine rd_augS ?_
  | with_reducible refine rd_drawNew ?_
  | with_reducible refine rd_make0 ?_
  | with_reducible refine rd_next ?_
  | with_reducible refine rd_break ?_
  | with_reducible refine rd_cont ?_
  | with_reducible refine rd_iteTT ?_
  | with_reducible refine rd_iteFF ?_
  | with_reducible refine rd_iteNTT ?_
  | with_reducible refine rd_iteNFF ?_
  | with_reducible refine rd_con0 ?_
  | with_reducible refine rd_truO0 ?_
  | with_reducible refine rd_gfld0 ?_
  | with_reducible refine rd_dc ?_
  | with_reducible refine rd_iKeys ?_
  | with_reducible refine rd_dget0 ?_
  | with_reducible refine rd_dput0 ?_
  | with_reducible refine rd_dnot0 ?_
  | with_reducible refine rd_iEnumT ?_
  | with_reducible refine rd_raP0 ?_
  | with_reducible refine rd_xf0 ?_
  | with_reducible refine rd_cKw ?_
  | with_reducible refine rd_iStr ?_
  | with_reducible refine rd_gSub ?_
  | with_reducible refine rd_asgG ?_)
local macro_rules | `(tactic| walk_at "rd") => `(tactic| repeat walk_at "rd1")
local macro_rules | `(tactic| walk_at "len") => `(tactic| first
  | (intro vs H Q E h; obtain ⟨h2, _⟩ := h; rw [h2]; rfl)
  | (intro vs H Q E h; obtain ⟨_, h2, _⟩ := h; rw [h2]; rfl)
  | (intro vs H Q E h; obtain ⟨_, _, h2, _⟩ := h; rw [h2]; rfl)
  | (intro vs H Q E h; obtain ⟨_, _, _, h2, _⟩ := h; rw [h2]; rfl)
  | (intro vs H Q E h; obtain ⟨_, _, _, _, h2, _⟩ := h; rw [h2]; rfl)
  | (intro vs H Q E h; obtain ⟨_, _, _, _, _, h2, _⟩ := h; rw [h2]; rfl)
  | (intro vs H Q E h; obtain ⟨_, _, _, _, _, _, h2, _⟩ := h; rw [h2]; rfl)
  | (intro vs H Q E h; obtain ⟨_, _, _, _, _, _, _, h2, _⟩ := h; rw [h2]; rfl)
  | (intro vs H Q E h; obtain ⟨_, _, _, _, _, _, _, _, h2, _⟩ := h; rw [h2]; rfl)
  | (intro vs H Q E h; obtain ⟨_, _, _, _, _, _, _, _, _, h2, _⟩ := h; rw [h2]; rfl)
  | (intro vs H Q E h; obtain ⟨_, _, _, _, _, _, _, _, _, _, h2, _⟩ := h; rw [h2]; rfl)
  | (intro vs H Q E h; obtain ⟨_, _, _, _, _, _, _, _, _, _, _, h2, _⟩ := h; rw [h2]; rfl)
  | (intro vs H Q E h; obtain ⟨_, _, _, _, _, _, _, _, _, _, _, _, h2, _⟩ := h; rw [h2]; rfl))
/-- a case as a dict -/
def casK (c : Cas) : List (Key × V) := [(Sum.inr "newer", .int c.newer), (Sum.inr "old", .int c.old), (Sum.inr "covered", .int c.covered), (Sum.inr "any", .bl c.anyC), (Sum.inr "pinned", .bl c.pinned), (Sum.inr "after", .bl c.after)]
def CasP (H : Hp) (a : Addr) (c : Cas) : Prop := H a = some (.dK (casK c))
def rDisp6 (p : Addr) (Q : VK) (x1 y1 x2 y2 x3 y3 x4 y4 x5 y5 x6 y6 : V) (H2 : Hp) : Prop := H2 p = some (.dK []) ∧ ∃ kvs : List (Key × V), [(x1, y1), (x2, y2), (x3, y3), (x4, y4), (x5, y5), (x6, y6)] = kvs.map (fun kv => (kV kv.1, kv.2)) ∧ kvs.length ≤ 15 ∧ Q (.ref p) (upd H2 p (.dK (mergeK [] kvs)))
theorem rd_disp6 {σ : L2.St} {H : Hp} {Q : VK} {k1 v1 k2 v2 k3 v3 k4 v4 k5 v5 k6 v6 : TE} (h : ∀ p H1, H p = none → Same H H1 → H1 p = some (.dK []) → k1 σ H1 fun x1 H2 => v1 σ H2 fun y1 H3 => k2 σ H3 fun x2 H4 => v2 σ H4 fun y2 H5 => k3 σ H5 fun x3 H6 => v3 σ H6 fun y3 H7 => k4 σ H7 fun x4 H8 => v4 σ H8 fun y4 H9 => k5 σ H9 fun x5 H10 => v5 σ H10 fun y5 H11 => k6 σ H11 fun x6 H12 => v6 σ H12 fun y6 H13 => rDisp6 p Q x1 y1 x2 y2 x3 y3 x4 y4 x5 y5 x6 y6 H13) : tDisp [(k1, v1), (k2, v2), (k3, v3), (k4, v4), (k5, v5), (k6, v6)] σ H Q :=
  fun p hp => h p _ hp (Same.new (Same.refl H) hp) upd_same
theorem cas_merge (c : Cas) : mergeK [] (casK c) = casK c := by rfl
theorem rd_d6 {Q : VK} {p : Addr} {c : Cas} {H2 : Hp} (e : H2 p = some (.dK [])) (h : ∀ H3, H3 = upd H2 p (.dK (casK c)) → CasP H3 p c → Q (.ref p) H3) : rDisp6 p Q (.str "newer") (.int c.newer) (.str "old") (.int c.old) (.str "covered") (.int c.covered) (.str "any") (.bl c.anyC) (.str "pinned") (.bl c.pinned) (.str "after") (.bl c.after) H2 := by
  refine ⟨e, casK c, rfl, Nat.le_of_lt_succ (by decide : 6 < 16), ?_⟩
  rw [cas_merge]
  exact h _ rfl upd_same
theorem rd_dgetS {H : Hp} {Q : VK} {a : Addr} {kvs : List (Key × V)} {k : Str} {v : V} (e : H a = some (.dK kvs)) (l : valV kvs (Sum.inr k) = some v) (h : Q v H) : rDGet (.ref a) (.str k) H Q := ⟨a, v, rfl, .inl ⟨_, Sum.inr k, .inl e, rfl, l.symm⟩, h⟩
theorem rd_lenP {K : PySem.W.Frag} {H : Hp} {Q : VK} {a : Addr} {xs : List V} (e : SeqP H a xs) (h : Q (.int (xs.length : Int)) H) : rLenS K [.ref a] H Q := e.elim (fun z => rd_lenL z h) fun z => rd_lenT z h
def spCase : Sp := fun vs H Q _ => ∃ (a pa : Addr) (i : Nat) (days pins : List Int) (today : Int), vs = [.ref a, .int (i : Int), .ref pa, .int today] ∧ SeqP H a (intV days) ∧ SeqP H pa (intV pins) ∧ i + 1 < days.length ∧ days.length ≤ 1000 ∧ pins.length ≤ 1000 ∧ ∀ H' c, Same H H' → H c = none → CasP H' c (casF days i pins today) → Q (.ref c) H'
section
variable {P : Program} {w : World} {K : PySem.W.Frag} {mg : Str → Option Value} {base : Heap} {C_Evidence C_Good C_Bad C_KeepsAll C_LosesOne C_KeepsLittle C_KeepsMore C_BadDay C_BadPolicy D_PLAIN D_NUMBERED : Addr}
theorem cal_case_of (T : TX K mg C_Evidence C_Good C_Bad C_KeepsAll C_LosesOne C_KeepsLittle C_KeepsMore C_BadDay C_BadPolicy D_PLAIN D_NUMBERED) : Cal P w K mg base 2 "case_of" (spCase) [] := by
  obtain ⟨f0, fd, D, dn⟩ := T.d_case_of
  have G_is_needed := cal_is_needed (P := P) (w := w) (base := base) T
  refine cal0 D (D.fn.binds dn fun _ _ _ _ _ _ us hl => match us, hl with | [_, _, _, _], _ => rfl) .nil sc_case_of (by walk_at "len") (fun cdv A outer s H vs Q E hr h => ?_)
  obtain ⟨a, pa, i0, days, pins, today, rfl, ed, ep, hi, ld, lp, k⟩ := h
  have lx : (intV days).length = days.length := List.length_map _
  have lp2 : (intV pins).length = pins.length := List.length_map _
  have d1 : (intV days)[i0]? = some (.int (days.getD i0 0)) := by
    unfold intV
    rw [List.getElem?_map, List.getD_eq_getElem?_getD, List.getElem?_eq_getElem (by omega)]
    rfl
  have d2 : (intV days)[i0 + 1]? = some (.int (days.getD (i0 + 1) 0)) := by
    unfold intV
    rw [List.getElem?_map, List.getD_eq_getElem?_getD, List.getElem?_eq_getElem hi]
    rfl
  refine ⟨_, (pss_cons (ps_asg (pe_tup (pa_cons (pe_alt (pe_ix ix_list (pv 0) (pv 1) (fun _ _ => rfl)) (pe_ix ix_tup (pv 0) (pv 1) (fun _ _ => rfl))) (pa_cons (pe_alt (pe_ix ix_list (pv 0) (pe_op op_add (pv 1) pe_int) (fun _ _ => rfl)) (pe_ix ix_tup (pv 0) (pe_op op_add (pv 1) pe_int) (fun _ _ => rfl))) pa_nil))) (pg_tup rfl (pgs_cons (pg_n 4 sc_case_of.nd) (pgs_cons (pg_n 5 sc_case_of.nd) pgs_nil))))
      (pss_one (ps_ret (pe_disp (pps_cons pe_str (pe_op op_sub (pe_op op_sub (pe_callB cr_lenS (by rfl) T.b_len (by decide +kernel) (pa_cons (pv 0) pa_nil)) (pv 1)) pe_int) (pps_cons pe_str (pe_op op_sub (pv 3) (pv 4)) (pps_cons pe_str (pe_op op_sub (pv 3) (pv 5)) (pps_cons pe_str (pe_cmpR op_gt (pe_callB cr_lenS (by rfl) T.b_len (by decide +kernel) (pa_cons (pv 2) pa_nil)) pe_int (nomark _)) (pps_cons pe_str (pe_c G_is_needed hr (by decide) rfl (pa_cons (pv 4) (pa_cons (pv 5) (pa_cons (pv 2) pa_nil)))) (pps_cons pe_str (pe_callB (cr_any rfl) (by rfl) T.b_any (by decide +kernel) (pa_cons (pe_lc (own := [("pin", 6)]) (g := gName 6) (tt := tYes) rfl sc_case_of.nd (pi_alt (pi_list (pv 2)) (pi_tup (pv 2))) (blkOk_by (own := [("pin", 6)]) (N := N_case_of) (sc := fnScope s_case_of) (by decide +kernel)) (fun _ _ _ _ _ => (pg_n 6 sc_case_of.nd)) (fun _ _ _ _ _ => pts_nil) (fun _ _ _ _ _ => (pe_cmpR op_ge (pv 6) (pv 4) (nomark _)))) pa_nil)) pps_nil)))))) rfl rfl (by simp) (by decide))))), ?_⟩
  walk_at "rd"
  refine altIx rfl rfl ed d1 ?_
  walk_at "rd"
  refine altIxF rfl (fun R r => ⟨_, rfl, rd_c (rd_I0 r)⟩) ed d2 ?_
  walk_at "rd"
  refine rd_newT (by simp) fun t0 H1 _ s1 et0 _ => ?_
  refine rd_gtup et0 rfl ?_
  walk_at "rd"
  refine rd_disp6 fun p H2 hp s2 e2 => ?_
  have s02 := s1.trans s2
  walk_at "rd"
  refine rd_lenP (ed.mono s02) ?_
  walk_at "rd"
  refine rd_lenP (ep.mono s02) ?_
  walk_at "rd"
  refine ⟨_, _, pa, pins, rfl, ep.mono s02, lp, fun H3 s3 => ?_⟩
  walk_at "rd"
  refine altQ rfl (ep.mono (s02.trans s3)).q fun J hJ => ?_
  refine lcR_Q hJ (fun W i H' => Same H3 H' ∧ H' W = some (.lst (((pins.take i).map fun q => decide (q ≥ days.getD i0 0)).map V.bl))) (fun W i H' _ ⟨s, _⟩ => s) (fun W H' _ s e _ => ⟨s, e⟩) ?_ ?_
  · rintro W i y H4 hW hy ⟨s4, eW⟩
    have hi := (List.getElem?_eq_some_iff.mp hy).1
    obtain ⟨m, hm, rfl⟩ := intV_at hy
    walk_at "rd"
    refine ⟨rfl, ?_⟩
    walk_at "rd"
    refine rd_lcE eW (by rw [List.length_map, List.length_map, List.length_take]; omega) fun H5 eH5 eW5 => ?_
    refine ⟨by rw [eH5]; exact Same.mut s4 hW, ?_⟩
    rw [eW5, List.take_add_one, hm, List.map_append, List.map_append]
    rfl
  rintro W H4 hW ⟨s4, eW⟩
  rw [lp2, List.take_length] at eW
  walk_at "rd"
  refine any_bs eW ?_
  rw [List.any_map]
  have s24 := s3.trans s4
  have hp0 : H p = none := none_back s1 hp
  have e1 : ((intV days).length : Int) - (i0 : Int) - 1 = (casF days i0 pins today).newer := by rw [lx]; rfl
  have e2' : (decide ((0 : Int) < ((intV pins).length : Int))) = (casF days i0 pins today).anyC := by
    show _ = !pins.isEmpty
    rw [lp2]
    cases pins <;> simp
  rw [e1, e2']
  refine rd_d6 (c := casF days i0 pins today) (s24 _ _ e2) fun H5 eH5 eC => ?_
  exact k H5 p (by rw [eH5]; exact Same.mut (s02.trans s24) hp0) hp0 eC
end
end Sl

set_option Elab.async false
set_option linter.all false
set_option maxRecDepth 100000
set_option maxHeartbeats 8000000
set_option exponentiation.threshold 9000
namespace Sl
open PySem L2 C8 StX Silt
local macro_rules | `(tactic| walk_at "side") => `(tactic| first
  | exact cdivw (by omega) (by omega)
  | exact cmulw (by omega) (by omega) (by omega) (by omega)
  | exact Or.inr ⟨by omega, by omega⟩
  | exact Or.inl ⟨by omega, by omega⟩
  | omega
  | exact ⟨by omega, by omega, by decide⟩
  | decide)
local macro_rules | `(tactic| walk_at "rd1") => `(tactic| first
  | with_reducible refine rd_seq ?_
  | with_reducible refine rd_asg ?_
  | with_reducible refine rd_drop ?_
  | with_reducible refine rd_ret ?_
  | with_reducible refine rd_retN ?_
  | with_reducible refine rd_ifS ?_
  | ((with_reducible refine rd_var0 ?_); refine ⟨_, rfl, ?_⟩)
  | with_reducible refine rd_c ?_
  | with_reducible refine rd_op ?_
  | with_reducible refine rd_un ?_
  | with_reducible refine rd_I0 ?_
  | with_reducible refine rd_U ?_
  | ((with_reducible refine rd_I ?c ?_); (case c => walk_at "side"))
  | with_reducible refine rd_ipI ?_
  | with_reducible refine rd_eqI ?_
  | with_reducible refine rd_neI ?_
  | with_reducible refine rd_test ?_
  | with_reducible refine rd_tB ?_
  | with_reducible refine rd_bl ?_
  | with_reducible refine rd_not ?_
  | with_reducible refine rd_and ?_
  | with_reducible refine rd_or ?_
  | with_reducible refine rd_andV ?_
  | with_reducible refine rd_orV ?_
  | with_reducible refine rd_notV ?_
  | with_reducible refine rd_ifE ?_
  | with_reducible refine rd_chain ?_
  | with_reducible refine rd_chain3 ?_
  | with_reducible refine rd_nil ?_
  | with_reducible refine rd_cons ?_
  | with_reducible refine rd_call ?_
  | with_reducible refine rd_CB ?_
  | with_reducible refine rd_par ?_
  | with_reducible refine rd_par2 ?_
  | with_reducible refine rd_par3 ?_
  | with_reducible refine rd_par4 ?_
  | ((with_reducible refine rd_aug0 ?_); refine ⟨_, rfl, ?_⟩)
  | with_reducible refine rd_gname ?_
  | with_reducible refine rd_gcons ?_
  | with_reducible refine rd_gnil ?_
  | with_reducible refine rd_max ?_
  | with_reducible refine rd_min ?_
  | with_reducible refine rd_int1 ?_
  | with_reducible refine rd_abs ?_
  | with_reducible refine rd_lst ?_
  | with_reducible refine rd_tup ?_
  | with_reducible refine rd_bm ?_
  | with_reducible refine rd_fld0 ?_
  | with_reducible refine rd_sl0 ?_
  | with_reducible refine rd_noP ?_
  | with_reducible refine rd_part ?_
  | with_reducible refine rd_part2 ?_
  | with_reducible refine rd_meth0 ?_
  | with_reducible refine rd_star ?_
  | with_reducible refine rd_for ?_
  | with_reducible refine rd_rng1 ?_
  | with_reducible refine rd_rng2 ?_
  | with_reducible refine rd_rng3 ?_
  | with_reducible refine rd_iList ?_
  | with_reducible refine rd_iTup ?_
  | with_reducible refine rd_iEnum ?_
  | with_reducible refine rd_lc ?_
  | with_reducible refine rd_yes ?_
  | with_reducible refine rd_augS ?_
  | with_reducible refine rd_drawNew ?_
  | with_reducible refine rd_make0 ?_
  | with_reducible refine rd_next ?_
  | with_reducible refine rd_break ?_
  | with_reducible refine rd_cont ?_
  | with_reducible refine rd_iteTT ?_
  | with_reducible refine rd_iteFF ?_
  | with_reducible refine rd_iteNTT ?_
  | with_reducible refine rd_iteNFF ?_
  | with_reducible refine rd_con0 ?_
  | with_reducible refine rd_truO0 ?_
  | with_reducible refine rd_gfld0 ?_
  | with_reducible refine rd_dc ?_
  | with_reducible refine rd_iKeys ?_
  | with_reducible refine rd_dget0 ?_
  | with_reducible refine rd_dput0 ?_
  | with_reducible refine rd_dnot0 ?_
  | with_reducible refine rd_iEnumT ?_
  | with_reducible refine rd_raP0 ?_
  | with_reducible refine rd_xf0 ?_
  | with_reducible refine rd_cKw ?_
  | with_reducible refine rd_iStr ?_
  | with_reducible refine rd_gSub ?_
  | with_reducible refine rd_asgG ?_)
local macro_rules | `(tactic| walk_at "rd") => `(tactic| repeat walk_at "rd1")
local macro_rules | `(tactic| walk_at "len") => `(tactic| first
  | (intro vs H Q E h; obtain ⟨h2, _⟩ := h; rw [h2]; rfl)
  | (intro vs H Q E h; obtain ⟨_, h2, _⟩ := h; rw [h2]; rfl)
  | (intro vs H Q E h; obtain ⟨_, _, h2, _⟩ := h; rw [h2]; rfl)
  | (intro vs H Q E h; obtain ⟨_, _, _, h2, _⟩ := h; rw [h2]; rfl)
  | (intro vs H Q E h; obtain ⟨_, _, _, _, h2, _⟩ := h; rw [h2]; rfl)
  | (intro vs H Q E h; obtain ⟨_, _, _, _, _, h2, _⟩ := h; rw [h2]; rfl)
  | (intro vs H Q E h; obtain ⟨_, _, _, _, _, _, h2, _⟩ := h; rw [h2]; rfl)
  | (intro vs H Q E h; obtain ⟨_, _, _, _, _, _, _, h2, _⟩ := h; rw [h2]; rfl)
  | (intro vs H Q E h; obtain ⟨_, _, _, _, _, _, _, _, h2, _⟩ := h; rw [h2]; rfl)
  | (intro vs H Q E h; obtain ⟨_, _, _, _, _, _, _, _, _, h2, _⟩ := h; rw [h2]; rfl)
  | (intro vs H Q E h; obtain ⟨_, _, _, _, _, _, _, _, _, _, h2, _⟩ := h; rw [h2]; rfl)
  | (intro vs H Q E h; obtain ⟨_, _, _, _, _, _, _, _, _, _, _, h2, _⟩ := h; rw [h2]; rfl)
  | (intro vs H Q E h; obtain ⟨_, _, _, _, _, _, _, _, _, _, _, _, h2, _⟩ := h; rw [h2]; rfl))
/-- a policy as data -/
def polL : Pol → List PyData
  | .pinned => [.str "pinned"]
  | .after => [.str "after"]
  | .anyP => [.str "any"]
  | .newest k => [.str "newest", .int (k : Int)]
  | .young k => [.str "young", .int (k : Int)]
  | .fresh k => [.str "fresh", .int (k : Int)]
  | .neg p => [.str "not", .tuple (polL p)]
  | .both p q => [.str "and", .tuple (polL p), .tuple (polL q)]
  | .either p q => [.str "or", .tuple (polL p), .tuple (polL q)]
def polD (p : Pol) : PyData := .tuple (polL p)
def PolP (H : Hp) (v : V) (p : Pol) : Prop := Dn H v (polD p)
theorem PolP.mono {H H' : Hp} {v : V} {p : Pol} (s : Same H H') (h : PolP H v p) : PolP H' v p := Dn.mono s h
theorem PolP.inv {H : Hp} {v : V} {p : Pol} (h : PolP H v p) : ∃ t xs, v = .ref t ∧ H t = some (.tup xs) ∧ DnAll H xs (polL p) := by
  unfold PolP polD at h
  cases h with
  | tup e r => exact ⟨_, _, rfl, e, r⟩
theorem Dn.str_inv {H : Hp} {v : V} {z : Str} (h : Dn H v (.str z)) : v = .str z := by cases h; rfl
theorem Dn.int_inv {H : Hp} {v : V} {z : Int} (h : Dn H v (.int z)) : v = .int z := by cases h; rfl
theorem inv1 {H : Hp} {xs : List V} {z : Str} (h : DnAll H xs [.str z]) : xs = [.str z] := by
  cases h with
  | cons a r =>
    cases r
    rw [a.str_inv]
theorem inv2 {H : Hp} {xs : List V} {z : Str} {i : Int} (h : DnAll H xs [.str z, .int i]) : xs = [.str z, .int i] := by
  cases h with
  | cons a r =>
    cases r with
    | cons b r =>
      cases r
      rw [a.str_inv, b.int_inv]
theorem inv3 {H : Hp} {xs : List V} {z : Str} {p : Pol} (h : DnAll H xs [.str z, .tuple (polL p)]) : ∃ x, xs = [.str z, x] ∧ PolP H x p := by
  cases h with
  | cons a r =>
    cases r with
    | cons b r =>
      cases r
      rw [a.str_inv]
      exact ⟨_, rfl, b⟩
theorem inv4 {H : Hp} {xs : List V} {z : Str} {p q : Pol} (h : DnAll H xs [.str z, .tuple (polL p), .tuple (polL q)]) : ∃ x y, xs = [.str z, x, y] ∧ PolP H x p ∧ PolP H y q := by
  cases h with
  | cons a r =>
    cases r with
    | cons b r =>
      cases r with
      | cons c r =>
        cases r
        rw [a.str_inv]
        exact ⟨_, _, rfl, b, c⟩
theorem flat_strs (zs : List Str) : (zs.map V.str).all flatV = true := by
  rw [List.all_eq_true]
  intro v hv
  obtain ⟨n, _, rfl⟩ := List.mem_map.mp hv
  rfl
theorem rd_inT {K : PySem.W.Frag} {D : Addr} {zs : List Str} {z : Str} {H : Hp} {Q : VK} {b : Bool} (e : tupS (K.lookup D) = some zs) (hl : zs.length ≤ 1000) (hb : inV (.str z) (zs.map V.str) = b) (h : Q (.bl b) H) : rIn K false (.str z) (.ref D) H Q := by
  refine ⟨D, _, rfl, .inr (tupS_sq e hl H), rfl, flat_strs zs, ?_⟩
  rw [hb]
  cases b <;> exact h
theorem rd_eqSt {H : Hp} {Q : VK} {z : Str} (h : Q (.bl true) H) : rEq (.str z) (.str z) H Q := by
  refine rd_eq rfl ?_
  rw [decide_eq_true rfl]
  exact h
theorem rd_eqSf {H : Hp} {Q : VK} {z y : Str} (ne : z ≠ y) (h : Q (.bl false) H) : rEq (.str z) (.str y) H Q := by
  refine rd_eq rfl ?_
  rw [decide_eq_false (fun e => ne (V.str.inj e))]
  exact h
theorem pol_at {H : Hp} {xs : List V} {ps : List Pol} {i : Nat} {v : V} (d : DnAll H xs (ps.map polD)) (h : xs[i]? = some v) : ∃ r, ps[i]? = some r ∧ PolP H v r := by
  induction ps generalizing xs i with
  | nil => cases d; simp at h
  | cons p ps ih =>
    cases d with
    | cons a r =>
      cases i with
      | zero => cases h; exact ⟨p, rfl, a⟩
      | succ i => exact ih r (by simpa using h)
theorem pol_two {p q r : Pol} {i : Nat} (h : [p, q][i]? = some r) : r = p ∨ r = q := by
  match i, h with
  | 0, h => cases h; exact .inl rfl
  | 1, h => cases h; exact .inr rfl
theorem DnAll.mono' {H H' : Hp} {vs : List V} {ds : List PyData} (s : Same H H') (h : DnAll H vs ds) : DnAll H' vs ds := h.mono s
def spHolds (d : Nat) : Sp := fun vs H Q _ => ∃ (v : V) (c : Addr) (p : Pol) (cs : Cas), vs = [v, .ref c] ∧ PolP H v p ∧ CasP H c cs ∧ hgt p < d ∧ ∀ H', Same H H' → Q (.bl (holdsF p cs)) H'
section
variable {P : Program} {w : World} {K : PySem.W.Frag} {mg : Str → Option Value} {base : Heap} {C_Evidence C_Good C_Bad C_KeepsAll C_LosesOne C_KeepsLittle C_KeepsMore C_BadDay C_BadPolicy D_PLAIN D_NUMBERED : Addr}
theorem calF_holds (T : TX K mg C_Evidence C_Good C_Bad C_KeepsAll C_LosesOne C_KeepsLittle C_KeepsMore C_BadDay C_BadPolicy D_PLAIN D_NUMBERED) {k : Nat} {SP : Sp} (hz : ∀ vs H Q E, ¬ SP vs H Q E) : Cal P w K mg base (k + 1) "holds" SP [] := by
  obtain ⟨f0, fd, D, dn⟩ := T.d_holds
  exact cal0 D (D.fn.binds dn fun _ _ _ _ _ _ us hl => match us, hl with | [_, _], _ => rfl) .nil sc_holds (fun vs H Q E h => (hz _ _ _ _ h).elim) (fun cdv A outer s H vs Q E hr h => (hz _ _ _ _ h).elim)
theorem calS_holds (T : TX K mg C_Evidence C_Good C_Bad C_KeepsAll C_LosesOne C_KeepsLittle C_KeepsMore C_BadDay C_BadPolicy D_PLAIN D_NUMBERED) {dd : Nat} (G_holds : Cal P w K mg base (1 + dd) "holds" ((spHolds) dd) []) : Cal P w K mg base (1 + dd + 1) "holds" ((spHolds) (dd + 1)) [] := by
  obtain ⟨f0, fd, D, dn⟩ := T.d_holds
  refine cal0 D (D.fn.binds dn fun _ _ _ _ _ _ us hl => match us, hl with | [_, _], _ => rfl) .nil sc_holds (by walk_at "len") (fun cdv A outer s H vs Q E hr h => ?_)
  obtain ⟨v, c, p, cs, rfl, hp, hc, hh, k⟩ := h
  obtain ⟨t, xs, rfl, et, ed⟩ := hp.inv
  refine ⟨_, (pss_cons (ps_s 2 sc_holds.nd (pe_ix ix_tup (pv 0) pe_int (fun _ _ => rfl)))
      (pss_cons (ps_if (pt_cmpR op_in_seq (pv 2) (pe_gc rfl T.gt_PLAIN) (by with_unfolding_all rfl)) (pss_one (ps_ret (pe_dget (hu_of hr) (pv 1) (pv 2) (fun _ _ => rfl)))) pss_nil)
      (pss_cons (ps_if (pt_cmpR op_eq (pv 2) pe_str (nomark _)) (pss_one (ps_ret (pe_cmpR op_lt (pe_dget (hu_of hr) (pv 1) pe_str (fun _ _ => rfl)) (pe_ix ix_tup (pv 0) pe_int (fun _ _ => rfl)) (nomark _)))) pss_nil)
      (pss_cons (ps_if (pt_cmpR op_eq (pv 2) pe_str (nomark _)) (pss_one (ps_ret (pe_cmpR op_le (pe_dget (hu_of hr) (pv 1) pe_str (fun _ _ => rfl)) (pe_ix ix_tup (pv 0) pe_int (fun _ _ => rfl)) (nomark _)))) pss_nil)
      (pss_cons (ps_if (pt_cmpR op_eq (pv 2) pe_str (nomark _)) (pss_one (ps_ret (pe_cmpR op_le (pe_dget (hu_of hr) (pv 1) pe_str (fun _ _ => rfl)) (pe_ix ix_tup (pv 0) pe_int (fun _ _ => rfl)) (nomark _)))) pss_nil)
      (pss_cons (ps_if (pt_cmpR op_eq (pv 2) pe_str (nomark _)) (pss_one (ps_ret (pe_not (pe_c G_holds hr (by omega) rfl (pa_cons (pe_ix ix_tup (pv 0) pe_int (fun _ _ => rfl)) (pa_cons (pv 1) pa_nil)))))) pss_nil)
      (pss_cons (ps_setLc (i := 3) (own := [("one", 4)]) (g := gName 4) (tt := tYes) rfl sc_holds.nd rfl rfl (sw_true rfl rfl rfl (by decide +kernel)) (pi_tup (pe_slice sl_tupA (pv 0) (po_some pe_int) po_none)) (blkOk_by (own := [("one", 4)]) (N := N_holds) (sc := fnScope s_holds) (by decide +kernel)) (fun _ _ _ _ _ => (pg_n 4 sc_holds.nd)) (fun _ _ _ _ _ => pts_nil) (fun _ _ _ _ _ => (pe_c G_holds hr (by omega) rfl (pa_cons (pv 4) (pa_cons (pv 1) pa_nil)))))
      (pss_one (ps_ret (pe_ifExp (pt_cmpR op_eq (pv 2) pe_str (nomark _)) (pe_callB (cr_all rfl) (by rfl) T.b_all (by decide +kernel) (pa_cons (pv 3) pa_nil)) (pe_callB (cr_any rfl) (by rfl) T.b_any (by decide +kernel) (pa_cons (pv 3) pa_nil)))))))))))), ?_⟩
  walk_at "rd"
  cases p with
  | pinned =>
    obtain rfl := inv1 ed
    refine rd_ixT et rfl ?_
    walk_at "rd"
    refine rd_inT T.e_PLAIN (by decide) (b := true) (by decide +kernel) ⟨true, rfl, ?_⟩
    walk_at "rd"
    exact rd_dgetS hc rfl (k H (Same.refl H))
  | after =>
    obtain rfl := inv1 ed
    refine rd_ixT et rfl ?_
    walk_at "rd"
    refine rd_inT T.e_PLAIN (by decide) (b := true) (by decide +kernel) ⟨true, rfl, ?_⟩
    walk_at "rd"
    exact rd_dgetS hc rfl (k H (Same.refl H))
  | anyP =>
    obtain rfl := inv1 ed
    refine rd_ixT et rfl ?_
    walk_at "rd"
    refine rd_inT T.e_PLAIN (by decide) (b := true) (by decide +kernel) ⟨true, rfl, ?_⟩
    walk_at "rd"
    exact rd_dgetS hc rfl (k H (Same.refl H))
  | newest n =>
    obtain rfl := inv2 ed
    refine rd_ixT et rfl ?_
    walk_at "rd"
    refine rd_inT T.e_PLAIN (by decide) (b := false) (by decide +kernel) ⟨false, rfl, ?_⟩
    walk_at "rd"
    refine rd_eqSt ⟨true, rfl, ?_⟩
    walk_at "rd"
    refine rd_dgetS hc (v := .int cs.newer) rfl ?_
    walk_at "rd"
    refine rd_ixT et rfl ?_
    walk_at "rd"
    exact k H (Same.refl H)
  | young n =>
    obtain rfl := inv2 ed
    refine rd_ixT et rfl ?_
    walk_at "rd"
    refine rd_inT T.e_PLAIN (by decide) (b := false) (by decide +kernel) ⟨false, rfl, ?_⟩
    walk_at "rd"
    refine rd_eqSf (by decide +kernel) ⟨false, rfl, ?_⟩
    walk_at "rd"
    refine rd_eqSt ⟨true, rfl, ?_⟩
    walk_at "rd"
    refine rd_dgetS hc (v := .int cs.old) rfl ?_
    walk_at "rd"
    refine rd_ixT et rfl ?_
    walk_at "rd"
    exact k H (Same.refl H)
  | fresh n =>
    obtain rfl := inv2 ed
    refine rd_ixT et rfl ?_
    walk_at "rd"
    refine rd_inT T.e_PLAIN (by decide) (b := false) (by decide +kernel) ⟨false, rfl, ?_⟩
    walk_at "rd"
    refine rd_eqSf (by decide +kernel) ⟨false, rfl, ?_⟩
    walk_at "rd"
    refine rd_eqSf (by decide +kernel) ⟨false, rfl, ?_⟩
    walk_at "rd"
    refine rd_eqSt ⟨true, rfl, ?_⟩
    walk_at "rd"
    refine rd_dgetS hc (v := .int cs.covered) rfl ?_
    walk_at "rd"
    refine rd_ixT et rfl ?_
    walk_at "rd"
    exact k H (Same.refl H)
  | neg p =>
    obtain ⟨x, rfl, hx⟩ := inv3 ed
    refine rd_ixT et rfl ?_
    walk_at "rd"
    refine rd_inT T.e_PLAIN (by decide) (b := false) (by decide +kernel) ⟨false, rfl, ?_⟩
    walk_at "rd"
    refine rd_eqSf (by decide +kernel) ⟨false, rfl, ?_⟩
    walk_at "rd"
    refine rd_eqSf (by decide +kernel) ⟨false, rfl, ?_⟩
    walk_at "rd"
    refine rd_eqSf (by decide +kernel) ⟨false, rfl, ?_⟩
    walk_at "rd"
    refine rd_eqSt ⟨true, rfl, ?_⟩
    walk_at "rd"
    refine rd_ixT et rfl ?_
    walk_at "rd"
    refine ⟨x, c, p, cs, rfl, hx, hc, Nat.lt_of_succ_lt_succ hh, fun H1 s1 => ?_⟩
    walk_at "rd"
    exact k H1 s1
  | both p q =>
    obtain ⟨x, y, rfl, hx, hy⟩ := inv4 ed
    refine rd_ixT et rfl ?_
    walk_at "rd"
    refine rd_inT T.e_PLAIN (by decide) (b := false) (by decide +kernel) ⟨false, rfl, ?_⟩
    walk_at "rd"
    refine rd_eqSf (by decide +kernel) ⟨false, rfl, ?_⟩
    walk_at "rd"
    refine rd_eqSf (by decide +kernel) ⟨false, rfl, ?_⟩
    walk_at "rd"
    refine rd_eqSf (by decide +kernel) ⟨false, rfl, ?_⟩
    walk_at "rd"
    refine rd_eqSf (by decide +kernel) ⟨false, rfl, ?_⟩
    walk_at "rd"
    refine rd_slA et fun P1 H1 s1 e1 => ?_
    rw [show cutV [V.str "and", x, y] (some 1) none = [x, y] from cutN_drop (m := 1)] at e1
    have dd2 : DnAll H1 [x, y] ([p, q].map polD) := .cons (hx.mono s1) (.cons (hy.mono s1) .nil)
    refine rd_tpR (SqT.of e1) ?_
    refine lcR_tup (xs := [x, y]) (fun W i H' => Same H1 H' ∧ H' W = some (.lst ((([p, q].take i).map fun r => holdsF r cs).map V.bl))) (fun W i H' _ ⟨s, _⟩ => SqT.of (s _ _ e1)) (fun W H' _ s e _ => ⟨s, e⟩) ?_ ?_
    · rintro W i z H2 hW hz ⟨s2, eW⟩
      obtain ⟨r, hr2, dr⟩ := pol_at (dd2.mono s2) hz
      have hi := (List.getElem?_eq_some_iff.mp hz).1
      have hr3 : hgt r < dd := by
        have hh : max (hgt p) (hgt q) + 1 < dd + 1 := hh
        have := pol_two hr2
        rcases this with rfl | rfl <;> omega
      walk_at "rd"
      refine ⟨rfl, ?_⟩
      walk_at "rd"
      refine ⟨z, c, r, cs, rfl, dr, (s1.trans s2) _ _ hc, hr3, fun H3 s3 => ?_⟩
      refine rd_lcE (s3 _ _ eW) (by rw [List.length_map, List.length_map, List.length_take]; simp at hi ⊢; omega) fun H4 eH4 eW4 => ?_
      refine ⟨by rw [eH4]; exact Same.mut (s2.trans s3) hW, ?_⟩
      rw [eW4, List.take_add_one, hr2, List.map_append, List.map_append]
      rfl
    rintro W H2 hW ⟨s2, eW⟩
    walk_at "rd"
    refine rd_eqSt ⟨true, rfl, ?_⟩
    walk_at "rd"
    refine all_bs eW ?_
    have := k H2 (s1.trans s2)
    simpa [holdsF] using this
  | either p q =>
    obtain ⟨x, y, rfl, hx, hy⟩ := inv4 ed
    refine rd_ixT et rfl ?_
    walk_at "rd"
    refine rd_inT T.e_PLAIN (by decide) (b := false) (by decide +kernel) ⟨false, rfl, ?_⟩
    walk_at "rd"
    refine rd_eqSf (by decide +kernel) ⟨false, rfl, ?_⟩
    walk_at "rd"
    refine rd_eqSf (by decide +kernel) ⟨false, rfl, ?_⟩
    walk_at "rd"
    refine rd_eqSf (by decide +kernel) ⟨false, rfl, ?_⟩
    walk_at "rd"
    refine rd_eqSf (by decide +kernel) ⟨false, rfl, ?_⟩
    walk_at "rd"
    refine rd_slA et fun P1 H1 s1 e1 => ?_
    rw [show cutV [V.str "or", x, y] (some 1) none = [x, y] from cutN_drop (m := 1)] at e1
    have dd2 : DnAll H1 [x, y] ([p, q].map polD) := .cons (hx.mono s1) (.cons (hy.mono s1) .nil)
    refine rd_tpR (SqT.of e1) ?_
    refine lcR_tup (xs := [x, y]) (fun W i H' => Same H1 H' ∧ H' W = some (.lst ((([p, q].take i).map fun r => holdsF r cs).map V.bl))) (fun W i H' _ ⟨s, _⟩ => SqT.of (s _ _ e1)) (fun W H' _ s e _ => ⟨s, e⟩) ?_ ?_
    · rintro W i z H2 hW hz ⟨s2, eW⟩
      obtain ⟨r, hr2, dr⟩ := pol_at (dd2.mono s2) hz
      have hi := (List.getElem?_eq_some_iff.mp hz).1
      have hr3 : hgt r < dd := by
        have hh : max (hgt p) (hgt q) + 1 < dd + 1 := hh
        have := pol_two hr2
        rcases this with rfl | rfl <;> omega
      walk_at "rd"
      refine ⟨rfl, ?_⟩
      walk_at "rd"
      refine ⟨z, c, r, cs, rfl, dr, (s1.trans s2) _ _ hc, hr3, fun H3 s3 => ?_⟩
      refine rd_lcE (s3 _ _ eW) (by rw [List.length_map, List.length_map, List.length_take]; simp at hi ⊢; omega) fun H4 eH4 eW4 => ?_
      refine ⟨by rw [eH4]; exact Same.mut (s2.trans s3) hW, ?_⟩
      rw [eW4, List.take_add_one, hr2, List.map_append, List.map_append]
      rfl
    rintro W H2 hW ⟨s2, eW⟩
    walk_at "rd"
    refine rd_eqSf (by decide +kernel) ⟨false, rfl, ?_⟩
    walk_at "rd"
    refine any_bs eW ?_
    have := k H2 (s1.trans s2)
    simpa [holdsF] using this
end
end Sl

set_option Elab.async false
set_option linter.all false
set_option maxRecDepth 100000
set_option maxHeartbeats 8000000
set_option exponentiation.threshold 9000
namespace Sl
open PySem L2 C8 StX Silt
local macro_rules | `(tactic| walk_at "side") => `(tactic| first
  | exact cdivw (by omega) (by omega)
  | exact cmulw (by omega) (by omega) (by omega) (by omega)
  | exact Or.inr ⟨by omega, by omega⟩
  | exact Or.inl ⟨by omega, by omega⟩
  | omega
  | exact ⟨by omega, by omega, by decide⟩
  | decide)
local macro_rules | `(tactic| walk_at "rd1") => `(tactic| first
  | with_reducible refine rd_seq ?_
  | with_reducible refine rd_asg ?_
  | with_reducible refine rd_drop ?_
  | with_reducible refine rd_ret ?_
  | with_reducible refine rd_retN ?_
  | with_reducible refine rd_ifS ?_
  | ((with_reducible refine rd_var0 ?_); refine ⟨_, rfl, ?_⟩)
  | with_reducible refine rd_c ?_
  | with_reducible refine rd_op ?_
  | with_reducible refine rd_un ?_
  | with_reducible refine rd_I0 ?_
  | with_reducible refine rd_U ?_
  | ((with_reducible refine rd_I ?c ?_); (case c => walk_at "side"))
  | with_reducible refine rd_ipI ?_
  | with_reducible refine rd_eqI ?_
  | with_reducible refine rd_neI ?_
  | with_reducible refine rd_test ?_
  | with_reducible refine rd_tB ?_
  | with_reducible refine rd_bl ?_
  | with_reducible refine rd_not ?_
  | with_reducible refine rd_and ?_
  | with_reducible refine rd_or ?_
  | with_reducible refine rd_andV ?_
  | with_reducible refine rd_orV ?_
  | with_reducible refine rd_notV ?_
  | with_reducible refine rd_ifE ?_
  | with_reducible refine rd_chain ?_
  | with_reducible refine rd_chain3 ?_
  | with_reducible refine rd_nil ?_
  | with_reducible refine rd_cons ?_
  | with_reducible refine rd_call ?_
  | with_reducible refine rd_CB ?_
  | with_reducible refine rd_par ?_
  | with_reducible refine rd_par2 ?_
  | with_reducible refine rd_par3 ?_
  | with_reducible refine rd_par4 ?_
  | ((with_reducible refine rd_aug0 ?_); refine ⟨_, rfl, ?_⟩)
  | with_reducible refine rd_gname ?_
  | with_reducible refine rd_gcons ?_
  | with_reducible refine rd_gnil ?_
  | with_reducible refine rd_max ?_
  | with_reducible refine rd_min ?_
  | with_reducible refine rd_int1 ?_
  | with_reducible refine rd_abs ?_
  | with_reducible refine rd_lst ?_
  | with_reducible refine rd_tup ?_
  | with_reducible refine rd_bm ?_
  | with_reducible refine rd_fld0 ?_
  | with_reducible refine rd_sl0 ?_
  | with_reducible refine rd_noP ?_
  | with_reducible refine rd_part ?_
  | with_reducible refine rd_part2 ?_
  | with_reducible refine rd_meth0 ?_
  | with_reducible refine rd_star ?_
  | with_reducible refine rd_for ?_
  | with_reducible refine rd_rng1 ?_
  | with_reducible refine rd_rng2 ?_
  | with_reducible refine rd_rng3 ?_
  | with_reducible refine rd_iList ?_
  | with_reducible refine rd_iTup ?_
  | with_reducible refine rd_iEnum ?_
  | with_reducible refine rd_lc ?_
  | with_reducible refine rd_yes ?_
  | with_reducible refine rd_augS ?_
  | with_reducible refine rd_drawNew ?_
  | with_reducible refine rd_make0 ?_
  | with_reducible refine rd_next ?_
  | with_reducible refine rd_break ?_
  | with_reducible refine rd_cont ?_
  | with_reducible refine rd_iteTT ?_
  | with_reducible refine rd_iteFF ?_
  | with_reducible refine rd_iteNTT ?_
  | with_reducible refine rd_iteNFF ?_
  | with_reducible refine rd_con0 ?_
  | with_reducible refine rd_truO0 ?_
  | with_reducible refine rd_gfld0 ?_
  | with_reducible refine rd_dc ?_
  | with_reducible refine rd_iKeys ?_
  | with_reducible refine rd_dget0 ?_
  | with_reducible refine rd_dput0 ?_
  | with_reducible refine rd_dnot0 ?_
  | with_reducible refine rd_iEnumT ?_
  | with_reducible refine rd_raP0 ?_
  | with_reducible refine rd_xf0 ?_
  | with_reducible refine rd_cKw ?_
  | with_reducible refine rd_iStr ?_
  | with_reducible refine rd_gSub ?_
  | with_reducible refine rd_asgG ?_)
local macro_rules | `(tactic| walk_at "rd") => `(tactic| repeat walk_at "rd1")
local macro_rules | `(tactic| walk_at "len") => `(tactic| first
  | (intro vs H Q E h; obtain ⟨h2, _⟩ := h; rw [h2]; rfl)
  | (intro vs H Q E h; obtain ⟨_, h2, _⟩ := h; rw [h2]; rfl)
  | (intro vs H Q E h; obtain ⟨_, _, h2, _⟩ := h; rw [h2]; rfl)
  | (intro vs H Q E h; obtain ⟨_, _, _, h2, _⟩ := h; rw [h2]; rfl)
  | (intro vs H Q E h; obtain ⟨_, _, _, _, h2, _⟩ := h; rw [h2]; rfl)
  | (intro vs H Q E h; obtain ⟨_, _, _, _, _, h2, _⟩ := h; rw [h2]; rfl)
  | (intro vs H Q E h; obtain ⟨_, _, _, _, _, _, h2, _⟩ := h; rw [h2]; rfl)
  | (intro vs H Q E h; obtain ⟨_, _, _, _, _, _, _, h2, _⟩ := h; rw [h2]; rfl)
  | (intro vs H Q E h; obtain ⟨_, _, _, _, _, _, _, _, h2, _⟩ := h; rw [h2]; rfl)
  | (intro vs H Q E h; obtain ⟨_, _, _, _, _, _, _, _, _, h2, _⟩ := h; rw [h2]; rfl)
  | (intro vs H Q E h; obtain ⟨_, _, _, _, _, _, _, _, _, _, h2, _⟩ := h; rw [h2]; rfl)
  | (intro vs H Q E h; obtain ⟨_, _, _, _, _, _, _, _, _, _, _, h2, _⟩ := h; rw [h2]; rfl)
  | (intro vs H Q E h; obtain ⟨_, _, _, _, _, _, _, _, _, _, _, _, h2, _⟩ := h; rw [h2]; rfl))
def spGreat (d : Nat) : Sp := fun vs H Q _ => ∃ (v : V) (p : Pol), vs = [v] ∧ PolP H v p ∧ hgt p < d ∧ ∀ H', Same H H' → Q (.int (numF p : Int)) H'
section
variable {P : Program} {w : World} {K : PySem.W.Frag} {mg : Str → Option Value} {base : Heap} {C_Evidence C_Good C_Bad C_KeepsAll C_LosesOne C_KeepsLittle C_KeepsMore C_BadDay C_BadPolicy D_PLAIN D_NUMBERED : Addr}
theorem cal_holds (T : TX K mg C_Evidence C_Good C_Bad C_KeepsAll C_LosesOne C_KeepsLittle C_KeepsMore C_BadDay C_BadPolicy D_PLAIN D_NUMBERED) : Cal P w K mg base 5 "holds" (spHolds 4) [] := by
  have h : ∀ d, Cal P w K mg base (1 + d) "holds" (spHolds d) [] := fun d => by
    induction d with
    | zero => exact calF_holds T (fun vs H Q E ⟨v, c, p, cs, _, _, _, hh, _⟩ => Nat.not_lt_zero _ hh)
    | succ d ih => exact calS_holds T ih
  exact h 4
theorem calF_greatest_in (T : TX K mg C_Evidence C_Good C_Bad C_KeepsAll C_LosesOne C_KeepsLittle C_KeepsMore C_BadDay C_BadPolicy D_PLAIN D_NUMBERED) {k : Nat} {SP : Sp} (hz : ∀ vs H Q E, ¬ SP vs H Q E) : Cal P w K mg base (k + 1) "greatest_in" SP [] := by
  obtain ⟨f0, fd, D, dn⟩ := T.d_greatest_in
  exact cal0 D (D.fn.binds dn fun _ _ _ _ _ _ us hl => match us, hl with | [_], _ => rfl) .nil sc_greatest_in (fun vs H Q E h => (hz _ _ _ _ h).elim) (fun cdv A outer s H vs Q E hr h => (hz _ _ _ _ h).elim)
theorem calS_greatest_in (T : TX K mg C_Evidence C_Good C_Bad C_KeepsAll C_LosesOne C_KeepsLittle C_KeepsMore C_BadDay C_BadPolicy D_PLAIN D_NUMBERED) {dd : Nat} (G_greatest_in : Cal P w K mg base (1 + dd) "greatest_in" ((spGreat) dd) []) : Cal P w K mg base (1 + dd + 1) "greatest_in" ((spGreat) (dd + 1)) [] := by
  obtain ⟨f0, fd, D, dn⟩ := T.d_greatest_in
  refine cal0 D (D.fn.binds dn fun _ _ _ _ _ _ us hl => match us, hl with | [_], _ => rfl) .nil sc_greatest_in (by walk_at "len") (fun cdv A outer s H vs Q E hr h => ?_)
  obtain ⟨v, p, rfl, hp, hh, k⟩ := h
  obtain ⟨t, xs, rfl, et, ed⟩ := hp.inv
  have cs : (∃ (z : Str) (n : Nat), xs = [.str z, .int (n : Int)] ∧ inV (.str z) (([("newest" : Str), "young", "fresh"] : List Str).map V.str) = true ∧ numF p = n) ∨
      ∃ (z : Str) (ys : List V) (ps : List Pol), xs = .str z :: ys ∧ DnAll H ys (ps.map polD) ∧ (∀ r ∈ ps, hgt r < dd) ∧ ps.length ≤ 2 ∧ inV (.str z) (([("newest" : Str), "young", "fresh"] : List Str).map V.str) = false ∧ ∀ m, m ∈ (0 : Int) :: ps.map (fun r => (numF r : Int)) → (∀ y ∈ (0 : Int) :: ps.map (fun r => (numF r : Int)), y ≤ m) → m = (numF p : Int) := by
    cases p with
    | pinned =>
      obtain rfl := inv1 ed
      exact .inr ⟨_, [], [], rfl, .nil, by simp, by simp, by decide +kernel, fun m h1 h2 => List.mem_singleton.mp h1⟩
    | after =>
      obtain rfl := inv1 ed
      exact .inr ⟨_, [], [], rfl, .nil, by simp, by simp, by decide +kernel, fun m h1 h2 => List.mem_singleton.mp h1⟩
    | anyP =>
      obtain rfl := inv1 ed
      exact .inr ⟨_, [], [], rfl, .nil, by simp, by simp, by decide +kernel, fun m h1 h2 => List.mem_singleton.mp h1⟩
    | newest n =>
      obtain rfl := inv2 ed
      exact .inl ⟨_, n, rfl, by decide +kernel, rfl⟩
    | young n =>
      obtain rfl := inv2 ed
      exact .inl ⟨_, n, rfl, by decide +kernel, rfl⟩
    | fresh n =>
      obtain rfl := inv2 ed
      exact .inl ⟨_, n, rfl, by decide +kernel, rfl⟩
    | neg p =>
      obtain ⟨x, rfl, hx⟩ := inv3 ed
      refine .inr ⟨_, [x], [p], rfl, .cons hx .nil, fun r hr => ?_, by simp, by decide +kernel, fun m h1 h2 => ?_⟩
      · rw [List.mem_singleton.mp hr]
        exact Nat.lt_of_succ_lt_succ hh
      · have a := h2 (numF p : Int) (by simp)
        simp at h1
        show m = (numF p : Int)
        omega
    | both p q =>
      obtain ⟨x, y, rfl, hx, hy⟩ := inv4 ed
      have hh : max (hgt p) (hgt q) + 1 < dd + 1 := hh
      refine .inr ⟨_, [x, y], [p, q], rfl, .cons hx (.cons hy .nil), fun r hr => ?_, by simp, by decide +kernel, fun m h1 h2 => ?_⟩
      · simp at hr
        rcases hr with rfl | rfl <;> omega
      · have a := h2 (numF p : Int) (by simp)
        have b := h2 (numF q : Int) (by simp)
        simp at h1
        show m = ((max (numF p) (numF q) : Nat) : Int)
        omega
    | either p q =>
      obtain ⟨x, y, rfl, hx, hy⟩ := inv4 ed
      have hh : max (hgt p) (hgt q) + 1 < dd + 1 := hh
      refine .inr ⟨_, [x, y], [p, q], rfl, .cons hx (.cons hy .nil), fun r hr => ?_, by simp, by decide +kernel, fun m h1 h2 => ?_⟩
      · simp at hr
        rcases hr with rfl | rfl <;> omega
      · have a := h2 (numF p : Int) (by simp)
        have b := h2 (numF q : Int) (by simp)
        simp at h1
        show m = ((max (numF p) (numF q) : Nat) : Int)
        omega
  refine ⟨_, (pss_cons (ps_if (pt_cmpR op_in_seq (pe_ix ix_tup (pv 0) pe_int (fun _ _ => rfl)) (pe_gc rfl T.gt_NUMBERED) (by with_unfolding_all rfl)) (pss_one (ps_ret (pe_ix ix_tup (pv 0) pe_int (fun _ _ => rfl)))) pss_nil)
      (pss_one (ps_ret (pe_callB (cr_max rfl) (by rfl) T.b_max (by decide +kernel) (pa_cons (pe_lst (pa_cons pe_int (pa_star (pe_lc (own := [("one", 1)]) (g := gName 1) (tt := _) rfl sc_greatest_in.nd (pi_tup (pe_slice sl_tupA (pv 0) (po_some pe_int) po_none)) (blkOk_by (own := [("one", 1)]) (N := N_greatest_in) (sc := fnScope s_greatest_in) (by decide +kernel)) (fun _ _ _ _ _ => (pg_n 1 sc_greatest_in.nd)) (fun _ _ _ _ _ => (pts_one (pt_val (pe_callB (callK rIsi K call_isi) (by rfl) T.b_isinstance (by decide +kernel) (pa_cons (pv 1) (pa_cons (pe_bltn (v := .ty "tuple") (u := .type "tuple") rfl T.b_tuple (by decide +kernel) rfl) pa_nil)))))) (fun _ _ _ _ _ => (pe_c G_greatest_in hr (by omega) rfl (pa_cons (pv 1) pa_nil)))) pa_nil))) pa_nil))))), ?_⟩
  walk_at "rd"
  rcases cs with ⟨z, n, rfl, hin, hn⟩ | ⟨z, ys, ps, rfl, dy, hps, hl2, hin, hmax⟩
  · refine rd_ixT et rfl ?_
    walk_at "rd"
    refine rd_inT T.e_NUMBERED (by decide) (b := true) hin ⟨true, rfl, ?_⟩
    walk_at "rd"
    refine rd_ixT et rfl ?_
    rw [hn] at k
    exact k H (Same.refl H)
  · refine rd_ixT et (atI_nat' (i := 0) rfl) ?_
    walk_at "rd"
    refine rd_inT T.e_NUMBERED (by decide) (b := false) hin ⟨false, rfl, ?_⟩
    walk_at "rd"
    refine rd_slA et fun P1 H1 s1 e1 => ?_
    rw [show cutV (V.str z :: ys) (some 1) none = ys from cutN_drop (m := 1)] at e1
    have lys : ys.length = ps.length := by have := dy.length; rwa [List.length_map] at this
    refine rd_tpR (SqT.of e1) ?_
    refine lcR_tup (xs := ys) (fun W i H' => Same H1 H' ∧ H' W = some (.lst (((ps.take i).map fun r => (numF r : Int)).map V.int))) (fun W i H' _ ⟨s, _⟩ => SqT.of (s _ _ e1)) (fun W H' _ s e _ => ⟨s, e⟩) ?_ ?_
    · rintro W i y H2 hW hy ⟨s2, eW⟩
      obtain ⟨r, hr2, dr⟩ := pol_at (dy.mono (s1.trans s2)) hy
      have hi := (List.getElem?_eq_some_iff.mp hy).1
      obtain ⟨tr, xr, rfl, etr, _⟩ := dr.inv
      walk_at "rd"
      refine ⟨rfl, ?_⟩
      walk_at "rd"
      refine rd_isiDt dr.dt (kit_tup (K := K) dr.dt) ?_
      refine ⟨true, rfl, ?_⟩
      walk_at "rd"
      refine ⟨.ref tr, r, rfl, dr, hps r (List.mem_of_getElem? hr2), fun H3 s3 => ?_⟩
      refine rd_lcE (s3 _ _ eW) (by rw [List.length_map, List.length_map, List.length_take]; omega) fun H4 eH4 eW4 => ?_
      refine ⟨by rw [eH4]; exact Same.mut (s2.trans s3) hW, ?_⟩
      rw [eW4, List.take_add_one, hr2, List.map_append, List.map_append]
      rfl
    rintro W H2 hW ⟨s2, eW⟩
    rw [lys, List.take_length] at eW
    refine ⟨W, _, rfl, .inr (SqL.of eW), ?_⟩
    walk_at "rd"
    refine rd_newL (by simp; omega) fun l H3 _ s3 el _ => ?_
    have el2 : H3 l = some (.lst (((0 : Int) :: ps.map fun r => (numF r : Int)).map V.int)) := by
      rw [el]
      simp
    walk_at "rd"
    refine rd_maxL (m := 0) (SqL.of el2) (by simp) fun mx h1 h2 => ?_
    rw [hmax mx h1 h2]
    exact k _ (s1.trans (s2.trans s3))
theorem cal_greatest_in (T : TX K mg C_Evidence C_Good C_Bad C_KeepsAll C_LosesOne C_KeepsLittle C_KeepsMore C_BadDay C_BadPolicy D_PLAIN D_NUMBERED) : Cal P w K mg base 5 "greatest_in" (spGreat 4) [] := by
  have h : ∀ d, Cal P w K mg base (1 + d) "greatest_in" (spGreat d) [] := fun d => by
    induction d with
    | zero => exact calF_greatest_in T (fun vs H Q E ⟨v, p, _, _, hh, _⟩ => Nat.not_lt_zero _ hh)
    | succ d ih => exact calS_greatest_in T ih
  exact h 4
end
end Sl

set_option Elab.async false
set_option linter.all false
set_option maxRecDepth 100000
set_option maxHeartbeats 8000000
set_option exponentiation.threshold 9000
namespace Sl
open PySem L2 C8 StX Silt
local macro_rules | `(tactic| walk_at "side") => `(tactic| first
  | exact cdivw (by omega) (by omega)
  | exact cmulw (by omega) (by omega) (by omega) (by omega)
  | exact Or.inr ⟨by omega, by omega⟩
  | exact Or.inl ⟨by omega, by omega⟩
  | omega
  | exact ⟨by omega, by omega, by decide⟩
  | decide)
local macro_rules | `(tactic| walk_at "rd1") => `(tactic| first
  | with_reducible refine rd_seq ?_
  | with_reducible refine rd_asg ?_
  | with_reducible refine rd_drop ?_
  | with_reducible refine rd_ret ?_
  | with_reducible refine rd_retN ?_
  | with_reducible refine rd_ifS ?_
  | ((with_reducible refine rd_var0 ?_); refine ⟨_, rfl, ?_⟩)
  | with_reducible refine rd_c ?_
  | with_reducible refine rd_op ?_
  | with_reducible refine rd_un ?_
  | with_reducible refine rd_I0 ?_
  | with_reducible refine rd_U ?_
  | ((with_reducible refine rd_I ?c ?_); (case c => walk_at "side"))
  | with_reducible refine rd_ipI ?_
  | with_reducible refine rd_eqI ?_
  | with_reducible refine rd_neI ?_
  | with_reducible refine rd_test ?_
  | with_reducible refine rd_tB ?_
  | with_reducible refine rd_bl ?_
  | with_reducible refine rd_not ?_
  | with_reducible refine rd_and ?_
  | with_reducible refine rd_or ?_
  | with_reducible refine rd_andV ?_
  | with_reducible refine rd_orV ?_
  | with_reducible refine rd_notV ?_
  | with_reducible refine rd_ifE ?_
  | with_reducible refine rd_chain ?_
  | with_reducible refine rd_chain3 ?_
  | with_reducible refine rd_nil ?_
  | with_reducible refine rd_cons ?_
  | with_reducible refine rd_call ?_
  | with_reducible refine rd_CB ?_
  | with_reducible refine rd_par ?_
  | with_reducible refine rd_par2 ?_
  | with_reducible refine rd_par3 ?_
  | with_reducible refine rd_par4 ?_
  | ((with_reducible refine rd_aug0 ?_); refine ⟨_, rfl, ?_⟩)
  | with_reducible refine rd_gname ?_
  | with_reducible refine rd_gcons ?_
  | with_reducible refine rd_gnil ?_
  | with_reducible refine rd_max ?_
  | with_reducible refine rd_min ?_
  | with_reducible refine rd_int1 ?_
  | with_reducible refine rd_abs ?_
  | with_reducible refine rd_lst ?_
  | with_reducible refine rd_tup ?_
  | with_reducible refine rd_bm ?_
  | with_reducible refine rd_fld0 ?_
  | with_reducible refine rd_sl0 ?_
  | with_reducible refine rd_noP ?_
  | with_reducible refine rd_part ?_
  | with_reducible refine rd_part2 ?_
  | with_reducible refine rd_meth0 ?_
  | with_reducible refine rd_star ?_
  | with_reducible refine rd_for ?_
  | with_reducible refine rd_rng1 ?_
  | with_reducible refine rd_rng2 ?_
  | with_reducible refine rd_rng3 ?_
  | with_reducible refine rd_iList ?_
  | with_reducible refine rd_iTup ?_
  | with_reducible refine rd_iEnum ?_
  | with_reducible refine rd_lc ?_
  | with_reducible refine rd_yes ?_
  | with_reducible refine rd_augS ?_
  | with_reducible refine rd_drawNew ?_
  | with_reducible refine rd_make0 ?_
  | with_reducible refine rd_next ?_
  | with_reducible refine rd_break ?_
  | with_reducible refine rd_cont ?_
  | with_reducible refine rd_iteTT ?_
  | with_reducible refine rd_iteFF ?_
  | with_reducible refine rd_iteNTT ?_
  | with_reducible refine rd_iteNFF ?_
  | with_reducible refine rd_con0 ?_
  | with_reducible refine rd_truO0 ?_
  | with_reducible refine rd_gfld0 ?_
  | with_reducible refine rd_dc ?_
  | with_reducible refine rd_iKeys ?_
  | with_reducible refine rd_dget0 ?_
  | with_reducible refine rd_dput0 ?_
  | with_reducible refine rd_dnot0 ?_
  | with_reducible refine rd_iEnumT ?_
  | with_reducible refine rd_raP0 ?_
  | with_reducible refine rd_xf0 ?_
  | with_reducible refine rd_cKw ?_
  | with_reducible refine rd_iStr ?_
  | with_reducible refine rd_gSub ?_
  | with_reducible refine rd_asgG ?_)
local macro_rules | `(tactic| walk_at "rd") => `(tactic| repeat walk_at "rd1")
local macro_rules | `(tactic| walk_at "len") => `(tactic| first
  | (intro vs H Q E h; obtain ⟨h2, _⟩ := h; rw [h2]; rfl)
  | (intro vs H Q E h; obtain ⟨_, h2, _⟩ := h; rw [h2]; rfl)
  | (intro vs H Q E h; obtain ⟨_, _, h2, _⟩ := h; rw [h2]; rfl)
  | (intro vs H Q E h; obtain ⟨_, _, _, h2, _⟩ := h; rw [h2]; rfl)
  | (intro vs H Q E h; obtain ⟨_, _, _, _, h2, _⟩ := h; rw [h2]; rfl)
  | (intro vs H Q E h; obtain ⟨_, _, _, _, _, h2, _⟩ := h; rw [h2]; rfl)
  | (intro vs H Q E h; obtain ⟨_, _, _, _, _, _, h2, _⟩ := h; rw [h2]; rfl)
  | (intro vs H Q E h; obtain ⟨_, _, _, _, _, _, _, h2, _⟩ := h; rw [h2]; rfl)
  | (intro vs H Q E h; obtain ⟨_, _, _, _, _, _, _, _, h2, _⟩ := h; rw [h2]; rfl)
  | (intro vs H Q E h; obtain ⟨_, _, _, _, _, _, _, _, _, h2, _⟩ := h; rw [h2]; rfl)
  | (intro vs H Q E h; obtain ⟨_, _, _, _, _, _, _, _, _, _, h2, _⟩ := h; rw [h2]; rfl)
  | (intro vs H Q E h; obtain ⟨_, _, _, _, _, _, _, _, _, _, _, h2, _⟩ := h; rw [h2]; rfl)
  | (intro vs H Q E h; obtain ⟨_, _, _, _, _, _, _, _, _, _, _, _, h2, _⟩ := h; rw [h2]; rfl))
def plB (z : Str) : Bool := inV (.str z) (([("pinned" : Str), "after", "any"] : List Str).map V.str)
def nbB (z : Str) : Bool := inV (.str z) (([("newest" : Str), "young", "fresh"] : List Str).map V.str)
def aoB (z : Str) : Bool := inV (.str z) [.str "and", .str "or"]
/-- what is no tuple -/
def Flat1 (H : Hp) (v : V) : Prop := v = .non ∨ (∃ s, v = .str s) ∨ ∃ a, v = .ref a ∧ H a = some (.lst [])
/-- what is no policy -/
def BadPl (H : Hp) (v : V) : Prop := Flat1 H v ∨ ∃ t z r ds, v = .ref t ∧ H t = some (.tup (.str z :: r)) ∧ DtAll H (.str z :: r) ds ∧ SeqAt.shaped (.tuple ds) = true ∧
  ((plB z = true ∧ r ≠ []) ∨ (plB z = false ∧ nbB z = true ∧ (r.length ≠ 1 ∨ ∃ y, r = [y] ∧ ((∃ b, y = .bl b) ∨ ∃ i : Int, y = .int i ∧ ¬ (0 ≤ i ∧ i ≤ 12)))) ∨
    (plB z = false ∧ nbB z = false ∧ z = "not" ∧ (r.length ≠ 1 ∨ ∃ y, r = [y] ∧ Flat1 H y)) ∨ (plB z = false ∧ nbB z = false ∧ z ≠ "not" ∧ (aoB z = false ∨ r.length ≠ 2)))
theorem flat_dt {H : Hp} {v : V} (h : Flat1 H v) : ∃ d, Dt H v d ∧ isTupD d = false := by
  rcases h with rfl | ⟨s, rfl⟩ | ⟨a, rfl, ea⟩
  · exact ⟨_, .non, rfl⟩
  · exact ⟨_, .str s, rfl⟩
  · exact ⟨_, .lst ea .nil, rfl⟩
theorem so_1 : PyData.strOk "newest" = true := by decide +kernel
theorem so_2 : PyData.strOk "young" = true := by decide +kernel
theorem so_3 : PyData.strOk "fresh" = true := by decide +kernel
theorem so_4 : PyData.strOk "not" = true := by decide +kernel
theorem so_5 : PyData.strOk "and" = true := by decide +kernel
theorem so_6 : PyData.strOk "or" = true := by decide +kernel
theorem lay_pol : ∀ p : Pol, (polD p).canLay0 = true
  | .pinned => by decide +kernel
  | .after => by decide +kernel
  | .anyP => by decide +kernel
  | .newest k => by simp [polD, polL, PyData.canLay0, PyData.canLayAll0, so_1]
  | .young k => by simp [polD, polL, PyData.canLay0, PyData.canLayAll0, so_2]
  | .fresh k => by simp [polD, polL, PyData.canLay0, PyData.canLayAll0, so_3]
  | .neg p => by
    have := lay_pol p
    simp [polD, polL, PyData.canLay0, PyData.canLayAll0] at this ⊢
    exact ⟨so_4, this⟩
  | .both p q => by
    have h1 := lay_pol p
    have h2 := lay_pol q
    simp [polD, polL, PyData.canLay0, PyData.canLayAll0] at h1 h2 ⊢
    exact ⟨so_5, h1, h2⟩
  | .either p q => by
    have h1 := lay_pol p
    have h2 := lay_pol q
    simp [polD, polL, PyData.canLay0, PyData.canLayAll0] at h1 h2 ⊢
    exact ⟨so_6, h1, h2⟩
theorem depth_pol : ∀ p : Pol, (polD p).depth ≤ hgt p + 1
  | .pinned => by decide +kernel
  | .after => by decide +kernel
  | .anyP => by decide +kernel
  | .newest k => by simp [polD, polL, PyData.depth, PyData.depthAll, hgt]
  | .young k => by simp [polD, polL, PyData.depth, PyData.depthAll, hgt]
  | .fresh k => by simp [polD, polL, PyData.depth, PyData.depthAll, hgt]
  | .neg p => by
    have := depth_pol p
    simp [polD, polL, PyData.depth, PyData.depthAll, hgt] at this ⊢
    omega
  | .both p q => by
    have h1 := depth_pol p
    have h2 := depth_pol q
    simp [polD, polL, PyData.depth, PyData.depthAll, hgt] at h1 h2 ⊢
    omega
  | .either p q => by
    have h1 := depth_pol p
    have h2 := depth_pol q
    simp [polD, polL, PyData.depth, PyData.depthAll, hgt] at h1 h2 ⊢
    omega
theorem shaped_pol {p : Pol} (h : hgt p ≤ 20) : SeqAt.shaped (polD p) = true := by
  have h1 := lay_pol p
  have h2 := depth_pol p
  simp [SeqAt.shaped, h1]
  omega
def spIsPol (d : Nat) : Sp := fun vs H Q _ => ∃ (v : V) (deep : Int) (b : Bool), vs = [v, .int deep] ∧ d ≤ 9 ∧ 0 < deep ∧ deep ≤ 8 ∧ ((b = true ∧ ∃ p, PolP H v p ∧ okP p ∧ hgt p < d ∧ (hgt p : Int) < deep) ∨ (b = false ∧ Flat1 H v ∧ 0 < d) ∨ (b = false ∧ BadPl H v ∧ 1 < d ∧ 1 < deep)) ∧ ∀ H', Same H H' → Q (.bl b) H'
theorem Flat1.mono {H H' : Hp} {v : V} (s : Same H H') (h : Flat1 H v) : Flat1 H' v := by
  rcases h with rfl | ⟨z, rfl⟩ | ⟨a, rfl, ea⟩
  · exact .inl rfl
  · exact .inr (.inl ⟨_, rfl⟩)
  · exact .inr (.inr ⟨_, rfl, s _ _ ea⟩)
/-- what is asked of a part -/
def SubA (H : Hp) (dd : Nat) (deep : Int) (y : V) (b : Bool) : Prop := 0 < deep - 1 ∧ ((b = true ∧ ∃ p, PolP H y p ∧ okP p ∧ hgt p < dd ∧ (hgt p : Int) < deep - 1) ∨ (b = false ∧ Flat1 H y ∧ 0 < dd))
theorem SubA.mono {H H' : Hp} {dd : Nat} {deep : Int} {y : V} {b : Bool} (s : Same H H') (h : SubA H dd deep y b) : SubA H' dd deep y b := by
  obtain ⟨h0, h⟩ := h
  refine ⟨h0, ?_⟩
  rcases h with ⟨rfl, p, hp, h1, h2⟩ | ⟨rfl, hf, h1⟩
  · exact .inl ⟨rfl, p, hp.mono s, h1, h2⟩
  · exact .inr ⟨rfl, hf.mono s, h1⟩
def TupA (H : Hp) (dd : Nat) (deep : Int) (z : Str) (r : List V) (b : Bool) : Prop :=
  (plB z = true ∧ b = decide (r.length = 0)) ∨ (plB z = false ∧ nbB z = true ∧ ((r.length ≠ 1 ∧ b = false) ∨ (∃ b0, r = [.bl b0] ∧ b = false) ∨ ∃ i : Int, r = [.int i] ∧ b = decide (0 ≤ i ∧ i ≤ 12))) ∨
  (plB z = false ∧ nbB z = false ∧ z = "not" ∧ ((r.length ≠ 1 ∧ b = false) ∨ ∃ y, r = [y] ∧ SubA H dd deep y b)) ∨
  (plB z = false ∧ nbB z = false ∧ z ≠ "not" ∧ (((aoB z = false ∨ r.length ≠ 2) ∧ b = false) ∨ (aoB z = true ∧ b = true ∧ ∃ x y, r = [x, y] ∧ SubA H dd deep x true ∧ SubA H dd deep y true)))
theorem pol_tupA {H : Hp} {dd : Nat} {deep : Int} {p : Pol} {xs : List V} (ed : DnAll H xs (polL p)) (ok : okP p) (h1 : hgt p < dd + 1) (h2 : (hgt p : Int) < deep) : ∃ z r, xs = .str z :: r ∧ TupA H dd deep z r true := by
  cases p with
  | pinned => exact ⟨_, _, inv1 ed, .inl ⟨by decide +kernel, rfl⟩⟩
  | after => exact ⟨_, _, inv1 ed, .inl ⟨by decide +kernel, rfl⟩⟩
  | anyP => exact ⟨_, _, inv1 ed, .inl ⟨by decide +kernel, rfl⟩⟩
  | newest k =>
    have ok : k ≤ 12 := ok
    exact ⟨_, _, inv2 ed, .inr (.inl ⟨by decide +kernel, by decide +kernel, .inr (.inr ⟨_, rfl, (decide_eq_true (by omega)).symm⟩)⟩)⟩
  | young k =>
    have ok : k ≤ 12 := ok
    exact ⟨_, _, inv2 ed, .inr (.inl ⟨by decide +kernel, by decide +kernel, .inr (.inr ⟨_, rfl, (decide_eq_true (by omega)).symm⟩)⟩)⟩
  | fresh k =>
    have ok : k ≤ 12 := ok
    exact ⟨_, _, inv2 ed, .inr (.inl ⟨by decide +kernel, by decide +kernel, .inr (.inr ⟨_, rfl, (decide_eq_true (by omega)).symm⟩)⟩)⟩
  | neg p =>
    obtain ⟨x, rfl, hx⟩ := inv3 ed
    have h1 : hgt p + 1 < dd + 1 := h1
    have h2 : ((hgt p + 1 : Nat) : Int) < deep := h2
    exact ⟨_, _, rfl, .inr (.inr (.inl ⟨by decide +kernel, by decide +kernel, rfl, .inr ⟨x, rfl, by omega, .inl ⟨rfl, p, hx, ok, by omega, by omega⟩⟩⟩))⟩
  | both p q =>
    obtain ⟨x, y, rfl, hx, hy⟩ := inv4 ed
    have h1 : max (hgt p) (hgt q) + 1 < dd + 1 := h1
    have h2 : ((max (hgt p) (hgt q) + 1 : Nat) : Int) < deep := h2
    exact ⟨_, _, rfl, .inr (.inr (.inr ⟨by decide +kernel, by decide +kernel, by decide +kernel, .inr ⟨by decide +kernel, rfl, x, y, rfl, ⟨by omega, .inl ⟨rfl, p, hx, ok.1, by omega, by omega⟩⟩, by omega, .inl ⟨rfl, q, hy, ok.2, by omega, by omega⟩⟩⟩))⟩
  | either p q =>
    obtain ⟨x, y, rfl, hx, hy⟩ := inv4 ed
    have h1 : max (hgt p) (hgt q) + 1 < dd + 1 := h1
    have h2 : ((max (hgt p) (hgt q) + 1 : Nat) : Int) < deep := h2
    exact ⟨_, _, rfl, .inr (.inr (.inr ⟨by decide +kernel, by decide +kernel, by decide +kernel, .inr ⟨by decide +kernel, rfl, x, y, rfl, ⟨by omega, .inl ⟨rfl, p, hx, ok.1, by omega, by omega⟩⟩, by omega, .inl ⟨rfl, q, hy, ok.2, by omega, by omega⟩⟩⟩))⟩
section
variable {P : Program} {w : World} {K : PySem.W.Frag} {mg : Str → Option Value} {base : Heap} {C_Evidence C_Good C_Bad C_KeepsAll C_LosesOne C_KeepsLittle C_KeepsMore C_BadDay C_BadPolicy D_PLAIN D_NUMBERED : Addr}
theorem calF_is_policy (T : TX K mg C_Evidence C_Good C_Bad C_KeepsAll C_LosesOne C_KeepsLittle C_KeepsMore C_BadDay C_BadPolicy D_PLAIN D_NUMBERED) {k : Nat} {SP : Sp} (hz : ∀ vs H Q E, ¬ SP vs H Q E) : Cal P w K mg base (k + 1) "is_policy" SP [] := by
  obtain ⟨f0, fd, D, ⟨ds, v, b⟩, _⟩ := T.d_is_policy
  exact ⟨f0, fd, _, ds, fn0 D.fn sc_is_policy (fun vs H Q E h => (hz _ _ _ _ h).elim) (fun cdv A outer s H vs Q E hr h => (hz _ _ _ _ h).elim), D.mgf, D.kp, b, v⟩
theorem cal2S_is_policy (T : TX K mg C_Evidence C_Good C_Bad C_KeepsAll C_LosesOne C_KeepsLittle C_KeepsMore C_BadDay C_BadPolicy D_PLAIN D_NUMBERED) {dd : Nat} (G_is_policy_2 : Cal P w K mg base (2 + dd) "is_policy" ((spIsPol) dd) []) : ∃ f fd, C8.Def K mg "is_policy" s_is_policy f fd ∧ (∃ ds, Vals [] ds ∧ Binds K fd P_is_policy ds) ∧ (∃ ds, Vals [.int 8] ds ∧ Binds K fd P_is_policy ds) ∧ FnOk P w K mg base C8.CX0 (2 + dd + 1) f fd P_is_policy ((spIsPol) (dd + 1)) := by
  obtain ⟨f0, fd, D, b0, b1⟩ := T.d_is_policy
  have G_is_whole := cal_is_whole (P := P) (w := w) (base := base) T
  refine ⟨f0, fd, D, b0, b1, fn0 D.fn sc_is_policy (by walk_at "len") (fun cdv A outer s H vs Q E hr h => ?_)⟩
  obtain ⟨v, deep, b, rfl, d9, dp0, dp8, hb, k⟩ := h
  have cs : (Flat1 H v ∧ b = false) ∨ ∃ t z r ds, v = .ref t ∧ H t = some (.tup (.str z :: r)) ∧ DtAll H (.str z :: r) ds ∧ SeqAt.shaped (.tuple ds) = true ∧ TupA H dd deep z r b := by
    rcases hb with ⟨rfl, p, hp, okp, hh, hh2⟩ | ⟨rfl, hf, _⟩ | ⟨rfl, hf | ⟨t, z, r, ds, rfl, et, ed, hs, hc⟩, h1, h2⟩
    · obtain ⟨t, xs, rfl, et, ed⟩ := hp.inv
      obtain ⟨z, r, rfl, ta⟩ := pol_tupA ed okp hh hh2
      exact .inr ⟨t, z, r, _, rfl, et, ed.dt, shaped_pol (p := p) (by omega), ta⟩
    · exact .inl ⟨hf, rfl⟩
    · exact .inl ⟨hf, rfl⟩
    · refine .inr ⟨t, z, r, ds, rfl, et, ed, hs, ?_⟩
      rcases hc with ⟨c1, c2⟩ | ⟨c1, c2, c3⟩ | ⟨c1, c2, c3, c4⟩ | ⟨c1, c2, c3, c4⟩
      · exact .inl ⟨c1, (decide_eq_false (fun z => c2 (List.length_eq_zero_iff.mp z))).symm⟩
      · refine .inr (.inl ⟨c1, c2, ?_⟩)
        rcases c3 with c3 | ⟨y, rfl, ⟨b0, rfl⟩ | ⟨i, rfl, ci⟩⟩
        · exact .inl ⟨c3, rfl⟩
        · exact .inr (.inl ⟨b0, rfl, rfl⟩)
        · exact .inr (.inr ⟨i, rfl, (decide_eq_false ci).symm⟩)
      · refine .inr (.inr (.inl ⟨c1, c2, c3, ?_⟩))
        rcases c4 with c4 | ⟨y, rfl, cf⟩
        · exact .inl ⟨c4, rfl⟩
        · exact .inr ⟨y, rfl, by omega, .inr ⟨rfl, cf, by omega⟩⟩
      · exact .inr (.inr (.inr ⟨c1, c2, c3, .inl ⟨c4, rfl⟩⟩))
  clear hb
  refine ⟨_, (pss_cons (ps_if (PW.pt (pw_or (pt_not (pt_val (pe_callB call_isi (by rfl) T.b_isinstance (by decide +kernel) (pa_cons (pv 0) (pa_cons (pe_bltn (v := .ty "tuple") (u := .type "tuple") rfl T.b_tuple (by decide +kernel) rfl) pa_nil))))) (pw_or (pt_cmpR (op_eqD hr.units) (pv 0) (pe_tup pa_nil) (nomark _)) (pw_or (pt_not (pt_val (pe_callB call_isi (by rfl) T.b_isinstance (by decide +kernel) (pa_cons (pe_ix ix_tup (pv 0) pe_int (fun _ _ => rfl)) (pa_cons (pe_bltn (v := .ty "str") (u := .type "str") rfl T.b_str (by decide +kernel) rfl) pa_nil))))) (pw_or1 (pt_cmpR op_eq (pv 1) pe_int (nomark _))))))) (pss_one (ps_ret pe_bl)) pss_nil)
      (pss_cons (ps_if (pt_cmpR op_in_seq (pe_ix ix_tup (pv 0) pe_int (fun _ _ => rfl)) (pe_gc rfl T.gt_PLAIN) (by with_unfolding_all rfl)) (pss_one (ps_ret (pe_cmpR op_eq (pe_callB cr_lenS (by rfl) T.b_len (by decide +kernel) (pa_cons (pv 0) pa_nil)) pe_int (nomark _)))) pss_nil)
      (pss_cons (ps_if (pt_cmpR op_in_seq (pe_ix ix_tup (pv 0) pe_int (fun _ _ => rfl)) (pe_gc rfl T.gt_NUMBERED) (by with_unfolding_all rfl)) (pss_one (ps_ret (pe_and (pe_cmpR op_eq (pe_callB cr_lenS (by rfl) T.b_len (by decide +kernel) (pa_cons (pv 0) pa_nil)) pe_int (nomark _)) (pe_and (pe_c G_is_whole hr (by omega) rfl (pa_cons (pe_ix ix_tup (pv 0) pe_int (fun _ _ => rfl)) pa_nil)) (pe_one (pe_chain op_le op_le pe_int (pe_ix ix_tup (pv 0) pe_int (fun _ _ => rfl)) (pe_gc rfl T.g_MOST_NUMBER))))))) pss_nil)
      (pss_cons (ps_if (pt_cmpR op_eq (pe_ix ix_tup (pv 0) pe_int (fun _ _ => rfl)) pe_str (nomark _)) (pss_one (ps_ret (pe_and (pe_cmpR op_eq (pe_callB cr_lenS (by rfl) T.b_len (by decide +kernel) (pa_cons (pv 0) pa_nil)) pe_int (nomark _)) (pe_one (pe_c G_is_policy_2 hr (by omega) rfl (pa_cons (pe_ix ix_tup (pv 0) pe_int (fun _ _ => rfl)) (pa_cons (pe_op op_sub (pv 1) pe_int) pa_nil))))))) pss_nil)
      (pss_one (ps_ret (pe_and (pe_cmpR op_in_seq (pe_ix ix_tup (pv 0) pe_int (fun _ _ => rfl)) (pe_tup (pa_cons pe_str (pa_cons pe_str pa_nil))) (by with_unfolding_all rfl)) (pe_and (pe_cmpR op_eq (pe_callB cr_lenS (by rfl) T.b_len (by decide +kernel) (pa_cons (pv 0) pa_nil)) pe_int (nomark _)) (pe_one (pe_callB (cr_all rfl) (by rfl) T.b_all (by decide +kernel) (pa_cons (pe_lc (own := [("one", 2)]) (g := gName 2) (tt := tYes) rfl sc_is_policy.nd (pi_tup (pe_slice sl_tupA (pv 0) (po_some pe_int) po_none)) (blkOk_by (own := [("one", 2)]) (N := N_is_policy) (sc := fnScope s_is_policy) (by decide +kernel)) (fun _ _ _ _ _ => (pg_n 2 sc_is_policy.nd)) (fun _ _ _ _ _ => pts_nil) (fun _ _ _ _ _ => (pe_c G_is_policy_2 hr (by omega) rfl (pa_cons (pv 2) (pa_cons (pe_op op_sub (pv 1) pe_int) pa_nil))))) pa_nil))))))))))), ?_⟩
  walk_at "rd"
  rcases cs with ⟨hf, rfl⟩ | ⟨t, z, r, ds, rfl, et, ed, hs, ta⟩
  · obtain ⟨d, hd, hi⟩ := flat_dt hf
    refine rd_isiDt hd (kit_tup (K := K) hd) ?_
    rw [hi]
    refine ⟨false, rfl, ?_⟩
    walk_at "rd"
    exact k H (Same.refl H)
  refine rd_isiDt (.tup et ed) (kit_tup (K := K) (.tup et ed)) ?_
  refine ⟨true, rfl, ?_⟩
  walk_at "rd"
  refine rd_newT (by simp) fun u H1 _ s1 eu _ => ?_
  refine rd_eqD (.tup (s1 _ _ et) (ed.mono s1)) (.tup eu .nil) hs (by rfl) ?_
  rw [eqv_nilT]
  have hne : ds.isEmpty = false := by cases ed; rfl
  rw [hne]
  refine ⟨false, rfl, ?_⟩
  walk_at "rd"
  have et1 := s1 _ _ et
  refine rd_ixT et1 (atI_nat' (i := 0) rfl) ?_
  walk_at "rd"
  refine rd_isiDt (.str z) (r := true) (by decide +kernel : kitB "str" "str" = some true) ?_
  refine ⟨true, rfl, ?_⟩
  walk_at "rd"
  refine rd_iteF (by omega) ?_
  walk_at "rd"
  refine rd_ixT et1 (atI_nat' (i := 0) rfl) ?_
  walk_at "rd"
  have ta := ta
  rcases ta with ⟨c1, rfl⟩ | ⟨c1, c2, c3⟩ | ⟨c1, c2, rfl, c4⟩ | ⟨c1, c2, c3, c4⟩
  · refine rd_inT T.e_PLAIN (by decide) (b := true) c1 ⟨true, rfl, ?_⟩
    walk_at "rd"
    refine rd_lenT et1 ?_
    walk_at "rd"
    have e1 : decide (((V.str z :: r).length : Int) = 1) = decide (r.length = 0) := decide_eq_decide.mpr (by rw [List.length_cons]; omega)
    rw [e1]
    exact k H1 s1
  · refine rd_inT T.e_PLAIN (by decide) (b := false) c1 ⟨false, rfl, ?_⟩
    walk_at "rd"
    refine rd_ixT et1 (atI_nat' (i := 0) rfl) ?_
    walk_at "rd"
    refine rd_inT T.e_NUMBERED (by decide) (b := true) c2 ⟨true, rfl, ?_⟩
    walk_at "rd"
    refine rd_lenT et1 ?_
    walk_at "rd"
    rcases c3 with ⟨c3, rfl⟩ | ⟨b0, rfl, rfl⟩ | ⟨i, rfl, rfl⟩
    · refine rd_iteF (by rw [List.length_cons]; omega) ?_
      exact k H1 s1
    · refine rd_iteT (by rfl) ?_
      walk_at "rd"
      refine rd_ixT et1 (atI_nat' (i := 1) rfl) ?_
      walk_at "rd"
      refine ⟨_, _, rfl, .bl b0, ?_⟩
      rw [show wholeD (.bool b0) = false from rfl]
      walk_at "rd"
      exact k H1 s1
    · refine rd_iteT (by rfl) ?_
      walk_at "rd"
      refine rd_ixT et1 (atI_nat' (i := 1) rfl) ?_
      walk_at "rd"
      refine ⟨_, _, rfl, .int i, ?_⟩
      rw [show wholeD (.int i) = true from rfl]
      walk_at "rd"
      refine rd_ixT et1 (atI_nat' (i := 1) rfl) ?_
      walk_at "rd"
      refine rd_ite (fun c => ?_) (fun c => ?_)
      · walk_at "rd"
        rw [show decide (i ≤ 12) = decide (0 ≤ i ∧ i ≤ 12) from decide_eq_decide.mpr ⟨fun q => ⟨c, q⟩, fun q => q.2⟩]
        exact k H1 s1
      · walk_at "rd"
        have := k H1 s1
        rw [decide_eq_false (fun q => c q.1)] at this
        exact this
  · refine rd_inT T.e_PLAIN (by decide) (b := false) c1 ⟨false, rfl, ?_⟩
    walk_at "rd"
    refine rd_ixT et1 (atI_nat' (i := 0) rfl) ?_
    walk_at "rd"
    refine rd_inT T.e_NUMBERED (by decide) (b := false) c2 ⟨false, rfl, ?_⟩
    walk_at "rd"
    refine rd_ixT et1 (atI_nat' (i := 0) rfl) ?_
    walk_at "rd"
    refine rd_eqSt ⟨true, rfl, ?_⟩
    walk_at "rd"
    refine rd_lenT et1 ?_
    walk_at "rd"
    rcases c4 with ⟨c4, rfl⟩ | ⟨y, rfl, sa⟩
    · refine rd_iteF (by rw [List.length_cons]; omega) ?_
      exact k H1 s1
    · refine rd_iteT (by rfl) ?_
      walk_at "rd"
      refine rd_ixT et1 (atI_nat' (i := 1) rfl) ?_
      walk_at "rd"
      obtain ⟨s0, sa⟩ := sa.mono s1
      refine ⟨y, deep - 1, b, rfl, by omega, s0, by omega, sa.imp id .inl, fun H2 s2 => ?_⟩
      exact k H2 (s1.trans s2)
  · refine rd_inT T.e_PLAIN (by decide) (b := false) c1 ⟨false, rfl, ?_⟩
    walk_at "rd"
    refine rd_ixT et1 (atI_nat' (i := 0) rfl) ?_
    walk_at "rd"
    refine rd_inT T.e_NUMBERED (by decide) (b := false) c2 ⟨false, rfl, ?_⟩
    walk_at "rd"
    refine rd_ixT et1 (atI_nat' (i := 0) rfl) ?_
    walk_at "rd"
    refine rd_eqSf c3 ⟨false, rfl, ?_⟩
    walk_at "rd"
    refine rd_ixT et1 (atI_nat' (i := 0) rfl) ?_
    walk_at "rd"
    refine rd_newT (by simp) fun u2 H2 _ s2 eu2 _ => ?_
    have et2 := s2 _ _ et1
    refine ⟨u2, _, rfl, .inr (SqT.of eu2), rfl, rfl, ?_⟩
    have s12 := s1.trans s2
    have nd : ∀ b' : Bool, Bool.xor false b' = b' := fun b' => by cases b' <;> rfl
    rcases c4 with ⟨c4, rfl⟩ | ⟨c4, rfl, x, y, rfl, sx, sy⟩
    · cases hz : inV (.str z) [.str "and", .str "or"] with
      | false =>
        refine ⟨false, rfl, ?_⟩
        walk_at "rd"
        exact k H2 s12
      | true =>
        refine ⟨true, rfl, ?_⟩
        walk_at "rd"
        refine rd_lenT et2 ?_
        walk_at "rd"
        have : r.length ≠ 2 := c4.elim (fun q => by rw [show aoB z = true from hz] at q; cases q) id
        refine rd_iteF (by rw [List.length_cons]; omega) ?_
        exact k H2 s12
    · rw [show inV (.str z) [.str "and", .str "or"] = true from c4]
      refine ⟨true, rfl, ?_⟩
      walk_at "rd"
      refine rd_lenT et2 ?_
      walk_at "rd"
      refine rd_iteT (by rfl) ?_
      walk_at "rd"
      refine rd_slA et2 fun P1 H3 s3 e1 => ?_
      rw [show cutV [V.str z, x, y] (some 1) none = [x, y] from cutN_drop (m := 1)] at e1
      have s13 := s12.trans s3
      refine rd_tpR (SqT.of e1) ?_
      refine lcR_tup (xs := [x, y]) (fun W i H' => Same H3 H' ∧ H' W = some (.lst ((List.replicate i true).map V.bl))) (fun W i H' _ ⟨s, _⟩ => SqT.of (s _ _ e1)) (fun W H' _ s e _ => ⟨s, e⟩) ?_ ?_
      · rintro W i v H4 hW hv ⟨s4, eW⟩
        have hi := (List.getElem?_eq_some_iff.mp hv).1
        have sv : SubA H4 dd deep v true := by
          have hi2 : i < 2 := hi
          match i, hi2, hv with
          | 0, _, hv => cases hv; exact sx.mono (s13.trans s4)
          | 1, _, hv => cases hv; exact sy.mono (s13.trans s4)
        walk_at "rd"
        refine ⟨rfl, ?_⟩
        walk_at "rd"
        obtain ⟨s0, sa⟩ := sv
        refine ⟨v, deep - 1, true, rfl, by omega, s0, by omega, sa.imp id .inl, fun H5 s5 => ?_⟩
        refine rd_lcE (s5 _ _ eW) (by rw [List.length_map, List.length_replicate]; simp at hi; omega) fun H6 eH6 eW6 => ?_
        refine ⟨by rw [eH6]; exact Same.mut (s4.trans s5) hW, ?_⟩
        rw [eW6, List.replicate_succ', List.map_append]
        rfl
      rintro W H4 hW ⟨s4, eW⟩
      walk_at "rd"
      refine all_true eW ?_
      exact k H4 (s13.trans s4)
end
end Sl

set_option Elab.async false
set_option linter.all false
set_option maxRecDepth 100000
set_option maxHeartbeats 8000000
set_option exponentiation.threshold 9000
namespace Sl
open PySem L2 C8 StX Silt
local macro_rules | `(tactic| walk_at "side") => `(tactic| first
  | exact cdivw (by omega) (by omega)
  | exact cmulw (by omega) (by omega) (by omega) (by omega)
  | exact Or.inr ⟨by omega, by omega⟩
  | exact Or.inl ⟨by omega, by omega⟩
  | omega
  | exact ⟨by omega, by omega, by decide⟩
  | decide)
local macro_rules | `(tactic| walk_at "rd1") => `(tactic| first
  | with_reducible refine rd_seq ?_
  | with_reducible refine rd_asg ?_
  | with_reducible refine rd_drop ?_
  | with_reducible refine rd_ret ?_
  | with_reducible refine rd_retN ?_
  | with_reducible refine rd_ifS ?_
  | ((with_reducible refine rd_var0 ?_); refine ⟨_, rfl, ?_⟩)
  | with_reducible refine rd_c ?_
  | with_reducible refine rd_op ?_
  | with_reducible refine rd_un ?_
  | with_reducible refine rd_I0 ?_
  | with_reducible refine rd_U ?_
  | ((with_reducible refine rd_I ?c ?_); (case c => walk_at "side"))
  | with_reducible refine rd_ipI ?_
  | with_reducible refine rd_eqI ?_
  | with_reducible refine rd_neI ?_
  | with_reducible refine rd_test ?_
  | with_reducible refine rd_tB ?_
  | with_reducible refine rd_bl ?_
  | with_reducible refine rd_not ?_
  | with_reducible refine rd_and ?_
  | with_reducible refine rd_or ?_
  | with_reducible refine rd_andV ?_
  | with_reducible refine rd_orV ?_
  | with_reducible refine rd_notV ?_
  | with_reducible refine rd_ifE ?_
  | with_reducible refine rd_chain ?_
  | with_reducible refine rd_chain3 ?_
  | with_reducible refine rd_nil ?_
  | with_reducible refine rd_cons ?_
  | with_reducible refine rd_call ?_
  | with_reducible refine rd_CB ?_
  | with_reducible refine rd_par ?_
  | with_reducible refine rd_par2 ?_
  | with_reducible refine rd_par3 ?_
  | with_reducible refine rd_par4 ?_
  | ((with_reducible refine rd_aug0 ?_); refine ⟨_, rfl, ?_⟩)
  | with_reducible refine rd_gname ?_
  | with_reducible refine rd_gcons ?_
  | with_reducible refine rd_gnil ?_
  | with_reducible refine rd_max ?_
  | with_reducible refine rd_min ?_
  | with_reducible refine rd_int1 ?_
  | with_reducible refine rd_abs ?_
  | with_reducible refine rd_lst ?_
  | with_reducible refine rd_tup ?_
  | with_reducible refine rd_bm ?_
  | with_reducible refine rd_fld0 ?_
  | with_reducible refine rd_sl0 ?_
  | with_reducible refine rd_noP ?_
  | with_reducible refine rd_part ?_
  | with_reducible refine rd_part2 ?_
  | with_reducible refine rd_meth0 ?_
  | with_reducible refine rd_star ?_
  | with_reducible refine rd_for ?_
  | with_reducible refine rd_rng1 ?_
  | with_reducible refine rd_rng2 ?_
  | with_reducible refine rd_rng3 ?_
  | with_reducible refine rd_iList ?_
  | with_reducible refine rd_iTup ?_
  | with_reducible refine rd_iEnum ?_
  | with_reducible refine rd_lc ?_
  | with_reducible refine rd_yes ?_
  | with_reducible refine rd_augS ?_
  | with_reducible refine rd_drawNew ?_
  | with_reducible refine rd_make0 ?_
  | with_reducible refine rd_next ?_
  | with_reducible refine rd_break ?_
  | with_reducible refine rd_cont ?_
  | with_reducible refine rd_iteTT ?_
  | with_reducible refine rd_iteFF ?_
  | with_reducible refine rd_iteNTT ?_
  | with_reducible refine rd_iteNFF ?_
  | with_reducible refine rd_con0 ?_
  | with_reducible refine rd_truO0 ?_
  | with_reducible refine rd_gfld0 ?_
  | with_reducible refine rd_dc ?_
  | with_reducible refine rd_iKeys ?_
  | with_reducible refine rd_dget0 ?_
  | with_reducible refine rd_dput0 ?_
  | with_reducible refine rd_dnot0 ?_
  | with_reducible refine rd_iEnumT ?_
  | with_reducible refine rd_raP0 ?_
  | with_reducible refine rd_xf0 ?_
  | with_reducible refine rd_cKw ?_
  | with_reducible refine rd_iStr ?_
  | with_reducible refine rd_gSub ?_
  | with_reducible refine rd_asgG ?_)
local macro_rules | `(tactic| walk_at "rd") => `(tactic| repeat walk_at "rd1")
local macro_rules | `(tactic| walk_at "len") => `(tactic| first
  | (intro vs H Q E h; obtain ⟨h2, _⟩ := h; rw [h2]; rfl)
  | (intro vs H Q E h; obtain ⟨_, h2, _⟩ := h; rw [h2]; rfl)
  | (intro vs H Q E h; obtain ⟨_, _, h2, _⟩ := h; rw [h2]; rfl)
  | (intro vs H Q E h; obtain ⟨_, _, _, h2, _⟩ := h; rw [h2]; rfl)
  | (intro vs H Q E h; obtain ⟨_, _, _, _, h2, _⟩ := h; rw [h2]; rfl)
  | (intro vs H Q E h; obtain ⟨_, _, _, _, _, h2, _⟩ := h; rw [h2]; rfl)
  | (intro vs H Q E h; obtain ⟨_, _, _, _, _, _, h2, _⟩ := h; rw [h2]; rfl)
  | (intro vs H Q E h; obtain ⟨_, _, _, _, _, _, _, h2, _⟩ := h; rw [h2]; rfl)
  | (intro vs H Q E h; obtain ⟨_, _, _, _, _, _, _, _, h2, _⟩ := h; rw [h2]; rfl)
  | (intro vs H Q E h; obtain ⟨_, _, _, _, _, _, _, _, _, h2, _⟩ := h; rw [h2]; rfl)
  | (intro vs H Q E h; obtain ⟨_, _, _, _, _, _, _, _, _, _, h2, _⟩ := h; rw [h2]; rfl)
  | (intro vs H Q E h; obtain ⟨_, _, _, _, _, _, _, _, _, _, _, h2, _⟩ := h; rw [h2]; rfl)
  | (intro vs H Q E h; obtain ⟨_, _, _, _, _, _, _, _, _, _, _, _, h2, _⟩ := h; rw [h2]; rfl))
section
variable {σ : L2.St} {H : Hp} {Q : VK} {K : PySem.W.Frag} {g : TG} {tt : TT} {te : TE} {vs : List Nat}
theorem lcR_zip {a b : Addr} {xs ys : List V} (n : Nat) (hn : n = min xs.length ys.length) (Pv : Addr → Nat → Hp → Prop) (hl : ∀ D i H', H D = none → Pv D i H' → SqL K H' a xs ∧ SqL K H' b ys) (h0 : ∀ D H', H D = none → Same H H' → H' D = some (.lst []) → H' = upd H D (.lst []) → Pv D 0 H')
    (hs : ∀ D (i : Nat) x y H' t H2, H D = none → i < n → xs[i]? = some x → ys[i]? = some y → Pv D i H' → H' t = none → Same H' H2 → H2 t = some (.tup [x, y]) → g (.ref t) (wipe σ vs) H2 fun σ2 H2 => wipe σ2 vs = wipe σ vs ∧ tt σ2 H2 fun b H3 => if b = true then te σ2 H3 fun y H4 => LcE D (Pv D (i + 1)) y H4 else Pv D (i + 1) H3)
    (hd : ∀ D H', H D = none → Pv D n H' → Q (.ref D) H') : LcR (Itz K a b) g tt te vs σ H Q :=
  lcR_gen _ n Pv h0 (fun D i H' hD h p => ⟨xs, ys, xs[i]'(by omega), ys[i]'(by omega), (hl D i H' hD p).1, (hl D i H' hD p).2, by simp, by simp⟩) (fun D H' hD p => ⟨xs, ys, (hl D _ H' hD p).1, (hl D _ H' hD p).2, by omega⟩)
    (fun D i H' x H2 hD hi p ⟨t, x1, y1, e1, e2, e3, e4, e5⟩ => by subst e1; subst e3; exact hs D i x1 y1 H' t _ hD hi (e4 xs (hl D i _ hD p).1) (e5 ys (hl D i _ hD p).2) p e2 (Same.new (Same.refl H') e2) upd_same) hd
theorem lcR_zipT {a b : Addr} {xs ys : List V} (n : Nat) (hn : n = min xs.length ys.length) (Pv : Addr → Nat → Hp → Prop) (hl : ∀ D i H', H D = none → Pv D i H' → SqT K H' a xs ∧ SqT K H' b ys) (h0 : ∀ D H', H D = none → Same H H' → H' D = some (.lst []) → H' = upd H D (.lst []) → Pv D 0 H')
    (hs : ∀ D (i : Nat) x y H' t H2, H D = none → i < n → xs[i]? = some x → ys[i]? = some y → Pv D i H' → H' t = none → Same H' H2 → H2 t = some (.tup [x, y]) → g (.ref t) (wipe σ vs) H2 fun σ2 H2 => wipe σ2 vs = wipe σ vs ∧ tt σ2 H2 fun b H3 => if b = true then te σ2 H3 fun y H4 => LcE D (Pv D (i + 1)) y H4 else Pv D (i + 1) H3)
    (hd : ∀ D H', H D = none → Pv D n H' → Q (.ref D) H') : LcR (RZ.ItzT K a b) g tt te vs σ H Q :=
  lcR_gen _ n Pv h0 (fun D i H' hD h p => ⟨xs, ys, xs[i]'(by omega), ys[i]'(by omega), (hl D i H' hD p).1, (hl D i H' hD p).2, by simp, by simp⟩) (fun D H' hD p => ⟨xs, ys, (hl D _ H' hD p).1, (hl D _ H' hD p).2, by omega⟩)
    (fun D i H' x H2 hD hi p ⟨t, x1, y1, e1, e2, e3, e4, e5⟩ => by subst e1; subst e3; exact hs D i x1 y1 H' t _ hD hi (e4 xs (hl D i _ hD p).1) (e5 ys (hl D i _ hD p).2) p e2 (Same.new (Same.refl H') e2) upd_same) hd
def zpAR (K : PySem.W.Frag) (R : It → Hp → Prop) (vs : List V) (H1 : Hp) : Prop := ∃ a b xs ys, vs = [.ref a, .ref b] ∧ ((SqL K H1 a xs ∧ SqL K H1 b ys ∧ R (Itz K a b) H1) ∨ (SqT K H1 a xs ∧ SqT K H1 b ys ∧ R (RZ.ItzT K a b) H1))
theorem rd_iZipA {ta : TA} {R : It → Hp → Prop} (h : ta σ H fun vs H1 => zpAR K R vs H1) : RZ.iZipA K ta σ H R := h
def spChkPol : Sp := fun vs H Q _ => ∃ (v : V) (p : Pol), vs = [v] ∧ PolP H v p ∧ okP p ∧ hgt p < 4 ∧ ∀ H', Same H H' → Q .non H'
/-- days of versions -/
structure DaysOk (days : List Int) (today : Int) : Prop where
  t1 : 1 ≤ today
  lo : ∀ d ∈ days, 1 ≤ d ∧ d ≤ today
  asc : days.Pairwise (· < ·)
  len : days.length ≤ 1000
def spChkDays : Sp := fun vs H Q _ => ∃ (a : Addr) (days : List Int) (today : Int), vs = [.ref a, .int today] ∧ SeqP H a (intV days) ∧ DaysOk days today ∧ ∀ H', Same H H' → Q .non H'
end
local macro_rules | `(tactic| walk_at "rd1") => `(tactic| first
  | with_reducible refine rd_iZipA ?_)
section
variable {P : Program} {w : World} {K : PySem.W.Frag} {mg : Str → Option Value} {base : Heap} {C_Evidence C_Good C_Bad C_KeepsAll C_LosesOne C_KeepsLittle C_KeepsMore C_BadDay C_BadPolicy D_PLAIN D_NUMBERED : Addr}
theorem cal_is_policy_2 (T : TX K mg C_Evidence C_Good C_Bad C_KeepsAll C_LosesOne C_KeepsLittle C_KeepsMore C_BadDay C_BadPolicy D_PLAIN D_NUMBERED) : ∀ d, Cal P w K mg base (2 + d) "is_policy" (spIsPol d) [] := fun d => by
  induction d with
  | zero =>
    refine calF_is_policy T (fun vs H Q E ⟨v, deep, b, _, _, _, _, hb, _⟩ => ?_)
    rcases hb with ⟨_, p, _, _, hh, _⟩ | ⟨_, _, hh⟩ | ⟨_, _, hh, _⟩
    · exact Nat.not_lt_zero _ hh
    · exact Nat.not_lt_zero _ hh
    · exact Nat.not_lt_zero _ hh
  | succ d ih =>
    obtain ⟨f, fd, D, ⟨ds, v, b⟩, _, F⟩ := cal2S_is_policy (P := P) (w := w) (base := base) T ih
    exact ⟨f, fd, _, ds, F, D.mgf, D.kp, b, v⟩
theorem cal_is_policy (T : TX K mg C_Evidence C_Good C_Bad C_KeepsAll C_LosesOne C_KeepsLittle C_KeepsMore C_BadDay C_BadPolicy D_PLAIN D_NUMBERED) : Cal P w K mg base 7 "is_policy" (spIsPol 5) [.int 8] := by
  obtain ⟨f, fd, D, _, ⟨ds, v, b⟩, F⟩ := cal2S_is_policy (P := P) (w := w) (base := base) T (cal_is_policy_2 T 4)
  exact ⟨f, fd, _, ds, F, D.mgf, D.kp, b, v⟩
theorem cal_check_policy (T : TX K mg C_Evidence C_Good C_Bad C_KeepsAll C_LosesOne C_KeepsLittle C_KeepsMore C_BadDay C_BadPolicy D_PLAIN D_NUMBERED) : Cal P w K mg base 8 "check_policy" (spChkPol) [] := by
  obtain ⟨f0, fd, D, dn⟩ := T.d_check_policy
  have G_is_policy := cal_is_policy (P := P) (w := w) (base := base) T
  refine cal0 D (D.fn.binds dn fun _ _ _ _ _ _ us hl => match us, hl with | [_], _ => rfl) .nil sc_check_policy (by walk_at "len") (fun cdv A outer s H vs Q E hr h => ?_)
  obtain ⟨v, p, rfl, hp, ok, hh, k⟩ := h
  refine ⟨_, (pss_one (ps_if (pt_not (pt_val (pe_c G_is_policy hr (by decide) rfl (pa_cons (pv 0) pa_nil)))) (pss_one ps_never) pss_nil)), ?_⟩
  walk_at "rd"
  refine ⟨v, 8, true, rfl, by omega, by omega, by omega, .inl ⟨rfl, p, hp, ok, by omega, by omega⟩, fun H1 s1 => ?_⟩
  refine ⟨true, rfl, ?_⟩
  walk_at "rd"
  exact k H1 s1
theorem cal_check_days (T : TX K mg C_Evidence C_Good C_Bad C_KeepsAll C_LosesOne C_KeepsLittle C_KeepsMore C_BadDay C_BadPolicy D_PLAIN D_NUMBERED) : Cal P w K mg base 2 "check_days" (spChkDays) [] := by
  obtain ⟨f0, fd, D, dn⟩ := T.d_check_days
  have G_is_whole := cal_is_whole (P := P) (w := w) (base := base) T
  refine cal0 D (D.fn.binds dn fun _ _ _ _ _ _ us hl => match us, hl with | [_, _], _ => rfl) .nil sc_check_days (by walk_at "len") (fun cdv A outer s H vs Q E hr h => ?_)
  obtain ⟨a, days, today, rfl, ep, dok, k⟩ := h
  have lx : (intV days).length = days.length := List.length_map _
  have ll := dok.len
  refine ⟨_, (pss_cons (ps_if (PW.pt (pw_or (pt_not (pt_val (pe_c G_is_whole hr (by decide) rfl (pa_cons (pv 1) pa_nil)))) (pw_or (pt_cmpR op_lt (pv 1) pe_int (nomark _)) (pw_or1 (pt_not (pt_val (pe_callB call_isiT (by rfl) T.b_isinstance (by decide +kernel) (pa_cons (pv 0) (pa_cons (pe_tup (pa_cons (pe_bltn (v := .ty "list") (u := .type "list") rfl T.b_list (by decide +kernel) rfl) (pa_cons (pe_bltn (v := .ty "tuple") (u := .type "tuple") rfl T.b_tuple (by decide +kernel) rfl) pa_nil))) pa_nil))))))))) (pss_one ps_never) pss_nil)
      (pss_cons (ps_if (pt_not (pt_val (pe_callB (cr_all rfl) (by rfl) T.b_all (by decide +kernel) (pa_cons (pe_lc (own := [("day", 2)]) (g := gName 2) (tt := tYes) rfl sc_check_days.nd (pi_alt (pi_list (pv 0)) (pi_tup (pv 0))) (blkOk_by (own := [("day", 2)]) (N := N_check_days) (sc := fnScope s_check_days) (by decide +kernel)) (fun _ _ _ _ _ => (pg_n 2 sc_check_days.nd)) (fun _ _ _ _ _ => pts_nil) (fun _ _ _ _ _ => (pe_and (pe_c G_is_whole hr (by decide) rfl (pa_cons (pv 2) pa_nil)) (pe_one (pe_chain op_le op_le pe_int (pv 2) (pv 1)))))) pa_nil)))) (pss_one ps_never) pss_nil)
      (pss_one (ps_if (pt_not (pt_val (pe_callB (cr_all rfl) (by rfl) T.b_all (by decide +kernel) (pa_cons (pe_lc (own := [("one", 3), ("late", 4)]) (g := gTup _ 2 (gCons (gName 3) (gCons (gName 4) gNil))) (tt := tYes) rfl sc_check_days.nd (RZ.pi_zipA rfl T.b_zip (pa_cons (pv 0) (pa_cons (pe_alt (pe_slice sl_list (pv 0) (po_some pe_int) po_none) (pe_slice sl_tupA (pv 0) (po_some pe_int) po_none)) pa_nil))) (blkOk_by (own := [("one", 3), ("late", 4)]) (N := N_check_days) (sc := fnScope s_check_days) (by decide +kernel)) (fun _ _ _ _ _ => (pg_tup rfl (pgs_cons (pg_n 3 sc_check_days.nd) (pgs_cons (pg_n 4 sc_check_days.nd) pgs_nil)))) (fun _ _ _ _ _ => pts_nil) (fun _ _ _ _ _ => (pe_cmpR op_lt (pv 3) (pv 4) (nomark _)))) pa_nil)))) (pss_one ps_never) pss_nil)))), ?_⟩
  walk_at "rd"
  refine ⟨_, _, rfl, .int today, ?_⟩
  refine ⟨true, rfl, ?_⟩
  walk_at "rd"
  have h1 := dok.t1
  refine rd_iteF (by omega) ?_
  walk_at "rd"
  refine rd_newT (by simp) fun u H1 _ s1 eu _ => ?_
  walk_at "rd"
  refine rd_isiTQ (ep.mono s1).q eu ?_
  refine ⟨true, rfl, ?_⟩
  walk_at "rd"
  refine altQ rfl (ep.mono s1).q fun J hJ => ?_
  refine lcR_Q hJ (fun W i H' => Same H1 H' ∧ H' W = some (.lst ((List.replicate i true).map V.bl))) (fun W i H' _ ⟨s, _⟩ => s) (fun W H' _ s e _ => ⟨s, e⟩) ?_ ?_
  · rintro W i y H2 hW hy ⟨s2, eW⟩
    have hi := (List.getElem?_eq_some_iff.mp hy).1
    obtain ⟨m, hm, rfl⟩ := intV_at hy
    obtain ⟨m1, m2⟩ := dok.lo m (List.mem_of_getElem? hm)
    walk_at "rd"
    refine ⟨rfl, ?_⟩
    walk_at "rd"
    refine ⟨_, _, rfl, .int m, ?_⟩
    rw [show wholeD (.int m) = true from rfl]
    walk_at "rd"
    refine rd_iteT m1 ?_
    walk_at "rd"
    rw [decide_eq_true m2]
    refine rd_lcE eW (by rw [List.length_map, List.length_replicate]; omega) fun H3 eH3 eW3 => ?_
    refine ⟨by rw [eH3]; exact Same.mut s2 hW, ?_⟩
    rw [eW3, List.replicate_succ', List.map_append]
    rfl
  rintro W H2 hW ⟨s2, eW⟩
  walk_at "rd"
  refine all_true eW ?_
  refine ⟨true, rfl, ?_⟩
  walk_at "rd"
  have s12 := s1.trans s2
  have lt : ∀ (i : Nat) (x y : V), (intV days)[i]? = some x → ((intV days).drop 1)[i]? = some y → ∃ m1 m2 : Int, x = V.int m1 ∧ y = V.int m2 ∧ m1 < m2 := by
    intro i x y hx hy
    obtain ⟨m1, hm1, rfl⟩ := intV_at hx
    rw [List.getElem?_drop] at hy
    obtain ⟨m2, hm2, rfl⟩ := intV_at hy
    refine ⟨m1, m2, rfl, rfl, ?_⟩
    obtain ⟨q1, e1⟩ := List.getElem?_eq_some_iff.mp hm1
    obtain ⟨q2, e2⟩ := List.getElem?_eq_some_iff.mp hm2
    rw [← e1, ← e2]
    exact List.pairwise_iff_getElem.mp dok.asc _ _ _ _ (by omega)
  rcases ep with ep | ep
  ·
    have e2 := s12 _ _ ep
    walk_at "rd"
    refine .inl ?_
    walk_at "rd"
    refine rd_slL (SqL.of e2) fun P1 H3 _ s3 e3 _ => ?_
    rw [show cutV (intV days) (some 1) none = (intV days).drop 1 from cutN_drop (m := 1)] at e3
    walk_at "rd"
    refine ⟨a, P1, _, _, rfl, .inl ⟨SqL.of (s3 _ _ e2), SqL.of e3, ?_⟩⟩
    refine lcR_zip (xs := intV days) (ys := (intV days).drop 1) (days.length - 1) (by rw [List.length_drop, lx]; omega) (fun W i H' => Same H3 H' ∧ H' W = some (.lst ((List.replicate i true).map V.bl))) (fun W i H' _ ⟨s, _⟩ => ⟨SqL.of ((s3.trans s) _ _ e2), SqL.of (s _ _ e3)⟩) (fun W H' _ s e _ => ⟨s, e⟩) ?_ ?_
    · rintro W i x y H4 t H5 hW hi hx hy ⟨s4, eW⟩ _ s5 et
      obtain ⟨m1, m2, rfl, rfl, hlt⟩ := lt i x y hx hy
      refine rd_gtup et rfl ?_
      walk_at "rd"
      refine ⟨rfl, ?_⟩
      walk_at "rd"
      rw [decide_eq_true hlt]
      refine rd_lcE (s5 _ _ eW) (by rw [List.length_map, List.length_replicate]; omega) fun H6 eH6 eW6 => ?_
      refine ⟨by rw [eH6]; exact Same.mut (s4.trans s5) hW, ?_⟩
      rw [eW6, List.replicate_succ', List.map_append]
      rfl
    rintro W H4 hW ⟨s4, eW⟩
    walk_at "rd"
    refine all_true eW ?_
    refine ⟨true, rfl, ?_⟩
    walk_at "rd"
    exact k _ (s12.trans (s3.trans s4))
  ·
    have e2 := s12 _ _ ep
    walk_at "rd"
    refine .inr ?_
    walk_at "rd"
    refine rd_slA e2 fun P1 H3 s3 e3 => ?_
    rw [show cutV (intV days) (some 1) none = (intV days).drop 1 from cutN_drop (m := 1)] at e3
    walk_at "rd"
    refine ⟨a, P1, _, _, rfl, .inr ⟨SqT.of (s3 _ _ e2), SqT.of e3, ?_⟩⟩
    refine lcR_zipT (xs := intV days) (ys := (intV days).drop 1) (days.length - 1) (by rw [List.length_drop, lx]; omega) (fun W i H' => Same H3 H' ∧ H' W = some (.lst ((List.replicate i true).map V.bl))) (fun W i H' _ ⟨s, _⟩ => ⟨SqT.of ((s3.trans s) _ _ e2), SqT.of (s _ _ e3)⟩) (fun W H' _ s e _ => ⟨s, e⟩) ?_ ?_
    · rintro W i x y H4 t H5 hW hi hx hy ⟨s4, eW⟩ _ s5 et
      obtain ⟨m1, m2, rfl, rfl, hlt⟩ := lt i x y hx hy
      refine rd_gtup et rfl ?_
      walk_at "rd"
      refine ⟨rfl, ?_⟩
      walk_at "rd"
      rw [decide_eq_true hlt]
      refine rd_lcE (s5 _ _ eW) (by rw [List.length_map, List.length_replicate]; omega) fun H6 eH6 eW6 => ?_
      refine ⟨by rw [eH6]; exact Same.mut (s4.trans s5) hW, ?_⟩
      rw [eW6, List.replicate_succ', List.map_append]
      rfl
    rintro W H4 hW ⟨s4, eW⟩
    walk_at "rd"
    refine all_true eW ?_
    refine ⟨true, rfl, ?_⟩
    walk_at "rd"
    exact k _ (s12.trans (s3.trans s4))
end
end Sl

set_option Elab.async false
set_option linter.all false
set_option maxRecDepth 100000
set_option maxHeartbeats 8000000
set_option exponentiation.threshold 9000
namespace Sl
open PySem L2 C8 StX Silt
local macro_rules | `(tactic| walk_at "side") => `(tactic| first
  | exact cdivw (by omega) (by omega)
  | exact cmulw (by omega) (by omega) (by omega) (by omega)
  | exact Or.inr ⟨by omega, by omega⟩
  | exact Or.inl ⟨by omega, by omega⟩
  | omega
  | exact ⟨by omega, by omega, by decide⟩
  | decide)
local macro_rules | `(tactic| walk_at "rd1") => `(tactic| first
  | with_reducible refine rd_seq ?_
  | with_reducible refine rd_asg ?_
  | with_reducible refine rd_drop ?_
  | with_reducible refine rd_ret ?_
  | with_reducible refine rd_retN ?_
  | with_reducible refine rd_ifS ?_
  | ((with_reducible refine rd_var0 ?_); refine ⟨_, rfl, ?_⟩)
  | with_reducible refine rd_c ?_
  | with_reducible refine rd_op ?_
  | with_reducible refine rd_un ?_
  | with_reducible refine rd_I0 ?_
  | with_reducible refine rd_U ?_
  | ((with_reducible refine rd_I ?c ?_); (case c => walk_at "side"))
  | with_reducible refine rd_ipI ?_
  | with_reducible refine rd_eqI ?_
  | with_reducible refine rd_neI ?_
  | with_reducible refine rd_test ?_
  | with_reducible refine rd_tB ?_
  | with_reducible refine rd_bl ?_
  | with_reducible refine rd_not ?_
  | with_reducible refine rd_and ?_
  | with_reducible refine rd_or ?_
  | with_reducible refine rd_andV ?_
  | with_reducible refine rd_orV ?_
  | with_reducible refine rd_notV ?_
  | with_reducible refine rd_ifE ?_
  | with_reducible refine rd_chain ?_
  | with_reducible refine rd_chain3 ?_
  | with_reducible refine rd_nil ?_
  | with_reducible refine rd_cons ?_
  | with_reducible refine rd_call ?_
  | with_reducible refine rd_CB ?_
  | with_reducible refine rd_par ?_
  | with_reducible refine rd_par2 ?_
  | with_reducible refine rd_par3 ?_
  | with_reducible refine rd_par4 ?_
  | ((with_reducible refine rd_aug0 ?_); refine ⟨_, rfl, ?_⟩)
  | with_reducible refine rd_gname ?_
  | with_reducible refine rd_gcons ?_
  | with_reducible refine rd_gnil ?_
  | with_reducible refine rd_max ?_
  | with_reducible refine rd_min ?_
  | with_reducible refine rd_int1 ?_
  | with_reducible refine rd_abs ?_
  | with_reducible refine rd_lst ?_
  | with_reducible refine rd_tup ?_
  | with_reducible refine rd_bm ?_
  | with_reducible refine rd_fld0 ?_
  | with_reducible refine rd_sl0 ?_
  | with_reducible refine rd_noP ?_
  | with_reducible refine rd_part ?_
  | with_reducible refine rd_part2 ?_
  | with_reducible refine rd_meth0 ?_
  | with_reducible refine rd_star ?_
  | with_reducible refine rd_for ?_
  | with_reducible refine rd_rng1 ?_
  | with_reducible refine rd_rng2 ?_
  | with_reducible refine rd_rng3 ?_
  | with_reducible refine rd_iList ?_
  | with_reducible refine rd_iTup ?_
  | with_reducible refine rd_iEnum ?_
  | with_reducible refine rd_lc ?_
  | with_reducible refine rd_yes ?_
  | with_reducible refine rd_augS ?_
  | with_reducible refine rd_drawNew ?_
  | with_reducible refine rd_make0 ?_
  | with_reducible refine rd_next ?_
  | with_reducible refine rd_break ?_
  | with_reducible refine rd_cont ?_
  | with_reducible refine rd_iteTT ?_
  | with_reducible refine rd_iteFF ?_
  | with_reducible refine rd_iteNTT ?_
  | with_reducible refine rd_iteNFF ?_
  | with_reducible refine rd_con0 ?_
  | with_reducible refine rd_truO0 ?_
  | with_reducible refine rd_gfld0 ?_
  | with_reducible refine rd_dc ?_
  | with_reducible refine rd_iKeys ?_
  | with_reducible refine rd_dget0 ?_
  | with_reducible refine rd_dput0 ?_
  | with_reducible refine rd_dnot0 ?_
  | with_reducible refine rd_iEnumT ?_
  | with_reducible refine rd_raP0 ?_
  | with_reducible refine rd_xf0 ?_
  | with_reducible refine rd_cKw ?_
  | with_reducible refine rd_iStr ?_
  | with_reducible refine rd_gSub ?_
  | with_reducible refine rd_asgG ?_)
local macro_rules | `(tactic| walk_at "rd") => `(tactic| repeat walk_at "rd1")
local macro_rules | `(tactic| walk_at "len") => `(tactic| first
  | (intro vs H Q E h; obtain ⟨h2, _⟩ := h; rw [h2]; rfl)
  | (intro vs H Q E h; obtain ⟨_, h2, _⟩ := h; rw [h2]; rfl)
  | (intro vs H Q E h; obtain ⟨_, _, h2, _⟩ := h; rw [h2]; rfl)
  | (intro vs H Q E h; obtain ⟨_, _, _, h2, _⟩ := h; rw [h2]; rfl)
  | (intro vs H Q E h; obtain ⟨_, _, _, _, h2, _⟩ := h; rw [h2]; rfl)
  | (intro vs H Q E h; obtain ⟨_, _, _, _, _, h2, _⟩ := h; rw [h2]; rfl)
  | (intro vs H Q E h; obtain ⟨_, _, _, _, _, _, h2, _⟩ := h; rw [h2]; rfl)
  | (intro vs H Q E h; obtain ⟨_, _, _, _, _, _, _, h2, _⟩ := h; rw [h2]; rfl)
  | (intro vs H Q E h; obtain ⟨_, _, _, _, _, _, _, _, h2, _⟩ := h; rw [h2]; rfl)
  | (intro vs H Q E h; obtain ⟨_, _, _, _, _, _, _, _, _, h2, _⟩ := h; rw [h2]; rfl)
  | (intro vs H Q E h; obtain ⟨_, _, _, _, _, _, _, _, _, _, h2, _⟩ := h; rw [h2]; rfl)
  | (intro vs H Q E h; obtain ⟨_, _, _, _, _, _, _, _, _, _, _, h2, _⟩ := h; rw [h2]; rfl)
  | (intro vs H Q E h; obtain ⟨_, _, _, _, _, _, _, _, _, _, _, _, h2, _⟩ := h; rw [h2]; rfl))
theorem cut_init (xs : List V) : cutV xs none (some (-1)) = xs.take (xs.length - 1) := by
  unfold cutV
  have e1 : HT.sIx xs.length 0 none = 0 := rfl
  have e2 : HT.sIx xs.length xs.length (some (-1)) = xs.length - 1 := by
    show (if (-1 : Int) < 0 then ((-1 : Int) + xs.length).toNat else min (-1 : Int).toNat xs.length) = _
    rw [if_pos (by decide)]
    omega
  rw [e1, e2, List.drop_zero, Nat.sub_zero]
theorem cut_last (xs : List V) : cutV xs (some (-1)) none = xs.drop (xs.length - 1) := by
  unfold cutV
  have e1 : HT.sIx xs.length xs.length none = xs.length := rfl
  have e2 : HT.sIx xs.length 0 (some (-1)) = xs.length - 1 := by
    show (if (-1 : Int) < 0 then ((-1 : Int) + xs.length).toNat else min (-1 : Int).toNat xs.length) = _
    rw [if_pos (by decide)]
    omega
  rw [e1, e2, List.take_of_length_le (by rw [List.length_drop]; exact Nat.le_refl _)]
def spKept : Sp := fun vs H Q _ => ∃ (v : V) (p : Pol) (a pa : Addr) (days pins : List Int) (today : Int), vs = [v, .ref a, .ref pa, .int today] ∧ PolP H v p ∧ okP p ∧ hgt p < 4 ∧ SeqP H a (intV days) ∧ SeqP H pa (intV pins) ∧ DaysOk days today ∧ pins.length ≤ 1000 ∧ (∀ q ∈ pins, 0 ≤ q) ∧
  ∀ H' F, Same H H' → H F = none → H' F = some (.lst (intV (keptF p days pins today))) → Q (.ref F) H'
def spNeeded : Sp := fun vs H Q _ => ∃ (a pa : Addr) (days pins : List Int) (today : Int), vs = [.ref a, .ref pa, .int today] ∧ SeqP H a (intV days) ∧ SeqP H pa (intV pins) ∧ DaysOk days today ∧ pins.length ≤ 1000 ∧ (∀ q ∈ pins, 0 ≤ q) ∧
  ∀ H' F, Same H H' → H F = none → H' F = some (.lst (intV (keptF .pinned days pins today))) → Q (.ref F) H'
section
variable {P : Program} {w : World} {K : PySem.W.Frag} {mg : Str → Option Value} {base : Heap} {C_Evidence C_Good C_Bad C_KeepsAll C_LosesOne C_KeepsLittle C_KeepsMore C_BadDay C_BadPolicy D_PLAIN D_NUMBERED : Addr}
theorem cal_kept_days (T : TX K mg C_Evidence C_Good C_Bad C_KeepsAll C_LosesOne C_KeepsLittle C_KeepsMore C_BadDay C_BadPolicy D_PLAIN D_NUMBERED) : Cal P w K mg base 9 "kept_days" (spKept) [] := by
  obtain ⟨f0, fd, D, dn⟩ := T.d_kept_days
  have G_check_policy := cal_check_policy (P := P) (w := w) (base := base) T
  have G_check_days := cal_check_days (P := P) (w := w) (base := base) T
  have G_check_pins := cal_check_pins (P := P) (w := w) (base := base) T
  have G_case_of := cal_case_of (P := P) (w := w) (base := base) T
  have G_holds := cal_holds (P := P) (w := w) (base := base) T
  refine cal0 D (D.fn.binds dn fun _ _ _ _ _ _ us hl => match us, hl with | [_, _, _, _], _ => rfl) .nil sc_kept_days (by walk_at "len") (fun cdv A outer s H vs Q E hr h => ?_)
  obtain ⟨v, p, a, pa, days, pins, today, rfl, hp, okp, hh, ed, ep, dok, lp, p0, k⟩ := h
  have lx : (intV days).length = days.length := List.length_map _
  have ll := dok.len
  refine ⟨_, (pss_cons (ps_expr (pe_c G_check_policy hr (by decide) rfl (pa_cons (pv 0) pa_nil)))
      (pss_cons (ps_expr (pe_c G_check_days hr (by decide) rfl (pa_cons (pv 1) (pa_cons (pv 3) pa_nil))))
      (pss_cons (ps_expr (pe_c G_check_pins hr (by decide) rfl (pa_cons (pv 2) pa_nil)))
      (pss_cut (ps_setLc (i := 4) (own := [("place", 5), ("day", 6)]) (g := gTup _ 2 (gCons (gName 5) (gCons (gName 6) gNil))) (tt := _) rfl sc_kept_days.nd rfl rfl (sw_true rfl rfl rfl (by decide +kernel)) (pi_alt (pi_enum (by rfl) T.b_enumerate (pa_cons (pe_alt (pe_slice sl_list (pv 1) po_none (po_some (pe_un un_neg pe_int))) (pe_slice sl_tupA (pv 1) po_none (po_some (pe_un un_neg pe_int)))) pa_nil)) (pi_enumT (by rfl) T.b_enumerate (pa_cons (pe_alt (pe_slice sl_list (pv 1) po_none (po_some (pe_un un_neg pe_int))) (pe_slice sl_tupA (pv 1) po_none (po_some (pe_un un_neg pe_int)))) pa_nil))) (blkOk_by (own := [("place", 5), ("day", 6)]) (N := N_kept_days) (sc := fnScope s_kept_days) (by decide +kernel)) (fun _ _ _ _ _ => (pg_tup rfl (pgs_cons (pg_n 5 sc_kept_days.nd) (pgs_cons (pg_n 6 sc_kept_days.nd) pgs_nil)))) (fun _ _ _ _ _ => (pts_one (pt_val (pe_c G_holds hr (by decide) rfl (pa_cons (pv 0) (pa_cons (pe_c G_case_of hr (by decide) rfl (pa_cons (pv 1) (pa_cons (pv 5) (pa_cons (pv 2) (pa_cons (pv 3) pa_nil))))) pa_nil)))))) (fun _ _ _ _ _ => (pv 6)))
      (pss_one (ps_ret (pe_op op_cat (pv 4) (pe_callTy cr_lstOf (by rfl) T.b_list (by decide +kernel) (pa_cons (pe_alt (pe_slice sl_list (pv 1) (po_some (pe_un un_neg pe_int)) po_none) (pe_slice sl_tupA (pv 1) (po_some (pe_un un_neg pe_int)) po_none)) pa_nil))))))))), ?_⟩
  walk_at "rd"
  refine ⟨v, p, rfl, hp, okp, hh, fun H1 s1 => ?_⟩
  walk_at "rd"
  refine ⟨a, days, today, rfl, ed.mono s1, dok, fun H2 s2 => ?_⟩
  have s12 := s1.trans s2
  walk_at "rd"
  refine ⟨pa, pins, rfl, ep.mono s12, lp, p0, fun H3 s3 => ?_⟩
  have s13 := s12.trans s3
  walk_at "rd"
  refine ⟨fun σ H' => ∃ W, Same H H' ∧ H W = none ∧ H' W = some (.lst (intV (keptI p days pins today (days.length - 1)))) ∧ σ = [some v, some (.ref a), some (.ref pa), some (.int today), some (.ref W), none, none], ?_, ?_⟩
  · walk_at "rd"
    rcases ed with ed | ed
    ·
      have e3 := s13 _ _ ed
      refine .inl ?_
      walk_at "rd"
      refine .inl ?_
      walk_at "rd"
      refine rd_slL (SqL.of e3) fun P1 H4 _ s4 e4 _ => ?_
      rw [cut_init, lx] at e4
      walk_at "rd"
      refine rd_enR (SqL.of e4) ?_
      refine lcR_enum (xs := (intV days).take (days.length - 1)) (fun W i H' => Same H4 H' ∧ H' W = some (.lst (intV (keptI p days pins today i)))) (fun W i H' _ ⟨s, _⟩ => SqL.of (s _ _ e4)) (fun W H' _ s e _ => ⟨s, e⟩) ?_ ?_
      · rintro W i y H5 t H6 hW hy ⟨s5, eW⟩ _ s6 et _
        have hi := (List.getElem?_eq_some_iff.mp hy).1
        rw [List.length_take, lx] at hi
        rw [List.getElem?_take_of_lt (by omega)] at hy
        obtain ⟨m, hm, rfl⟩ := intV_at hy
        have em : days.getD i 0 = m := by rw [List.getD_eq_getElem?_getD, hm]; rfl
        have s36 := s13.trans (s4.trans (s5.trans s6))
        refine rd_gtup et rfl ?_
        walk_at "rd"
        refine ⟨rfl, ?_⟩
        walk_at "rd"
        refine ⟨a, pa, i, days, pins, today, rfl, SeqP.mono s36 (.inl ed), ep.mono s36, by omega, ll, lp, fun H7 c s7 hc eC => ?_⟩
        walk_at "rd"
        refine ⟨v, c, p, _, rfl, hp.mono (s36.trans s7), eC, hh, fun H8 s8 => ?_⟩
        refine ⟨_, rfl, ?_⟩
        have s68 := s6.trans (s7.trans s8)
        have kl := keptI_len p days pins today i
        cases hb : holdsF p (casF days i pins today)
        · rw [if_neg Bool.false_ne_true]
          refine ⟨s5.trans s68, ?_⟩
          rw [keptI_succ, hb, if_neg Bool.false_ne_true, List.append_nil]
          exact s68 _ _ eW
        · rw [if_pos rfl]
          walk_at "rd"
          refine rd_lcE (s68 _ _ eW) (by unfold intV; rw [List.length_map]; omega) fun H9 eH9 eW9 => ?_
          refine ⟨by rw [eH9]; exact Same.mut (s5.trans s68) hW, ?_⟩
          rw [eW9, keptI_succ, hb, if_pos rfl, em]
          unfold intV
          rw [List.map_append]
          rfl
      rintro W H5 hW ⟨s5, eW⟩
      rw [List.length_take, lx, Nat.min_eq_left (by omega)] at eW
      walk_at "rd"
      exact ⟨W, s13.trans (s4.trans s5), none_back (s13.trans s4) hW, eW, rfl⟩
    ·
      have e3 := s13 _ _ ed
      refine .inr ?_
      walk_at "rd"
      refine .inr ?_
      walk_at "rd"
      refine rd_slA e3 fun P1 H4 s4 e4 => ?_
      rw [cut_init, lx] at e4
      walk_at "rd"
      refine rd_enRT (SqT.of e4) ?_
      refine lcR_enumT (xs := (intV days).take (days.length - 1)) (fun W i H' => Same H4 H' ∧ H' W = some (.lst (intV (keptI p days pins today i)))) (fun W i H' _ ⟨s, _⟩ => SqT.of (s _ _ e4)) (fun W H' _ s e _ => ⟨s, e⟩) ?_ ?_
      · rintro W i y H5 t H6 hW hy ⟨s5, eW⟩ _ s6 et _
        have hi := (List.getElem?_eq_some_iff.mp hy).1
        rw [List.length_take, lx] at hi
        rw [List.getElem?_take_of_lt (by omega)] at hy
        obtain ⟨m, hm, rfl⟩ := intV_at hy
        have em : days.getD i 0 = m := by rw [List.getD_eq_getElem?_getD, hm]; rfl
        have s36 := s13.trans (s4.trans (s5.trans s6))
        refine rd_gtup et rfl ?_
        walk_at "rd"
        refine ⟨rfl, ?_⟩
        walk_at "rd"
        refine ⟨a, pa, i, days, pins, today, rfl, SeqP.mono s36 (.inr ed), ep.mono s36, by omega, ll, lp, fun H7 c s7 hc eC => ?_⟩
        walk_at "rd"
        refine ⟨v, c, p, _, rfl, hp.mono (s36.trans s7), eC, hh, fun H8 s8 => ?_⟩
        refine ⟨_, rfl, ?_⟩
        have s68 := s6.trans (s7.trans s8)
        have kl := keptI_len p days pins today i
        cases hb : holdsF p (casF days i pins today)
        · rw [if_neg Bool.false_ne_true]
          refine ⟨s5.trans s68, ?_⟩
          rw [keptI_succ, hb, if_neg Bool.false_ne_true, List.append_nil]
          exact s68 _ _ eW
        · rw [if_pos rfl]
          walk_at "rd"
          refine rd_lcE (s68 _ _ eW) (by unfold intV; rw [List.length_map]; omega) fun H9 eH9 eW9 => ?_
          refine ⟨by rw [eH9]; exact Same.mut (s5.trans s68) hW, ?_⟩
          rw [eW9, keptI_succ, hb, if_pos rfl, em]
          unfold intV
          rw [List.map_append]
          rfl
      rintro W H5 hW ⟨s5, eW⟩
      rw [List.length_take, lx, Nat.min_eq_left (by omega)] at eW
      walk_at "rd"
      exact ⟨W, s13.trans (s4.trans s5), none_back (s13.trans s4) hW, eW, rfl⟩
  rintro σ H4 ⟨W, s4, hW, eW, rfl⟩
  walk_at "rd"
  have kl := keptI_len p days pins today (days.length - 1)
  have ek : intV (keptF p days pins today) = intV (keptI p days pins today (days.length - 1)) ++ (intV days).drop (days.length - 1) := by
    unfold intV keptF
    rw [List.map_append, List.map_drop]
  have ll2 : ((intV days).drop (days.length - 1)).length ≤ 1 := by
    rw [List.length_drop, lx]
    omega
  rcases ed with ed | ed
  · have e4 := s4 _ _ ed
    refine .inl ?_
    walk_at "rd"
    refine rd_slL (SqL.of e4) fun P1 H5 _ s5 e5 _ => ?_
    rw [cut_last, lx] at e5
    walk_at "rd"
    refine ⟨P1, _, rfl, .inl (SqL.of e5), fun q hq => ?_⟩
    obtain ⟨H6, eH6⟩ : ∃ H6, H6 = upd H5 q (.lst ((intV days).drop (days.length - 1))) := ⟨_, rfl⟩
    rw [← eH6]
    have s6 : Same H5 H6 := by rw [eH6]; exact Same.new (Same.refl H5) hq
    have e6 : H6 q = some (.lst ((intV days).drop (days.length - 1))) := by rw [eH6]; exact upd_same
    clear eH6
    refine rd_cat ((s5.trans s6) _ _ eW) e6 (by unfold intV at ll2 ⊢; rw [List.length_map]; omega) fun F H7 hF s7 eF _ => ?_
    have s47 := s4.trans (s5.trans (s6.trans s7))
    refine k H7 F s47 (none_back (s4.trans (s5.trans s6)) hF) ?_
    rw [eF, ek]
  · have e4 := s4 _ _ ed
    refine .inr ?_
    walk_at "rd"
    refine rd_slA e4 fun P1 H5 s5 e5 => ?_
    rw [cut_last, lx] at e5
    walk_at "rd"
    refine ⟨P1, _, rfl, .inr (SqT.of e5), fun q hq => ?_⟩
    obtain ⟨H6, eH6⟩ : ∃ H6, H6 = upd H5 q (.lst ((intV days).drop (days.length - 1))) := ⟨_, rfl⟩
    rw [← eH6]
    have s6 : Same H5 H6 := by rw [eH6]; exact Same.new (Same.refl H5) hq
    have e6 : H6 q = some (.lst ((intV days).drop (days.length - 1))) := by rw [eH6]; exact upd_same
    clear eH6
    refine rd_cat ((s5.trans s6) _ _ eW) e6 (by unfold intV at ll2 ⊢; rw [List.length_map]; omega) fun F H7 hF s7 eF _ => ?_
    have s47 := s4.trans (s5.trans (s6.trans s7))
    refine k H7 F s47 (none_back (s4.trans (s5.trans s6)) hF) ?_
    rw [eF, ek]
theorem cal_needed_days (T : TX K mg C_Evidence C_Good C_Bad C_KeepsAll C_LosesOne C_KeepsLittle C_KeepsMore C_BadDay C_BadPolicy D_PLAIN D_NUMBERED) : Cal P w K mg base 10 "needed_days" (spNeeded) [] := by
  obtain ⟨f0, fd, D, dn⟩ := T.d_needed_days
  have G_kept_days := cal_kept_days (P := P) (w := w) (base := base) T
  refine cal0 D (D.fn.binds dn fun _ _ _ _ _ _ us hl => match us, hl with | [_, _, _], _ => rfl) .nil sc_needed_days (by walk_at "len") (fun cdv A outer s H vs Q E hr h => ?_)
  obtain ⟨a, pa, days, pins, today, rfl, ed, ep, dok, lp, p0, k⟩ := h
  refine ⟨_, (pss_one (ps_ret (pe_c G_kept_days hr (by decide) rfl (pa_cons (pe_tup (pa_cons pe_str pa_nil)) (pa_cons (pv 0) (pa_cons (pv 1) (pa_cons (pv 2) pa_nil))))))), ?_⟩
  walk_at "rd"
  refine rd_newT (by simp) fun t H1 _ s1 et _ => ?_
  walk_at "rd"
  refine ⟨.ref t, .pinned, a, pa, days, pins, today, rfl, .tup et (.cons (.str _) .nil), True.intro, by decide, ed.mono s1, ep.mono s1, dok, lp, p0, fun H2 F s2 hF eF => ?_⟩
  exact k H2 F (s1.trans s2) (none_back s1 hF) eF
end
end Sl

set_option Elab.async false
set_option linter.all false
set_option maxRecDepth 100000
set_option maxHeartbeats 8000000
set_option exponentiation.threshold 9000
namespace Sl
open PySem L2 C8 StX Silt
local macro_rules | `(tactic| walk_at "side") => `(tactic| first
  | exact cdivw (by omega) (by omega)
  | exact cmulw (by omega) (by omega) (by omega) (by omega)
  | exact Or.inr ⟨by omega, by omega⟩
  | exact Or.inl ⟨by omega, by omega⟩
  | omega
  | exact ⟨by omega, by omega, by decide⟩
  | decide)
local macro_rules | `(tactic| walk_at "rd1") => `(tactic| first
  | with_reducible refine rd_seq ?_
  | with_reducible refine rd_asg ?_
  | with_reducible refine rd_drop ?_
  | with_reducible refine rd_ret ?_
  | with_reducible refine rd_retN ?_
  | with_reducible refine rd_ifS ?_
  | ((with_reducible refine rd_var0 ?_); refine ⟨_, rfl, ?_⟩)
  | with_reducible refine rd_c ?_
  | with_reducible refine rd_op ?_
  | with_reducible refine rd_un ?_
  | with_reducible refine rd_I0 ?_
  | with_reducible refine rd_U ?_
  | ((with_reducible refine rd_I ?c ?_); (case c => walk_at "side"))
  | with_reducible refine rd_ipI ?_
  | with_reducible refine rd_eqI ?_
  | with_reducible refine rd_neI ?_
  | with_reducible refine rd_test ?_
  | with_reducible refine rd_tB ?_
  | with_reducible refine rd_bl ?_
  | with_reducible refine rd_not ?_
  | with_reducible refine rd_and ?_
  | with_reducible refine rd_or ?_
  | with_reducible refine rd_andV ?_
  | with_reducible refine rd_orV ?_
  | with_reducible refine rd_notV ?_
  | with_reducible refine rd_ifE ?_
  | with_reducible refine rd_chain ?_
  | with_reducible refine rd_chain3 ?_
  | with_reducible refine rd_nil ?_
  | with_reducible refine rd_cons ?_
  | with_reducible refine rd_call ?_
  | with_reducible refine rd_CB ?_
  | with_reducible refine rd_par ?_
  | with_reducible refine rd_par2 ?_
  | with_reducible refine rd_par3 ?_
  | with_reducible refine rd_par4 ?_
  | ((with_reducible refine rd_aug0 ?_); refine ⟨_, rfl, ?_⟩)
  | with_reducible refine rd_gname ?_
  | with_reducible refine rd_gcons ?_
  | with_reducible refine rd_gnil ?_
  | with_reducible refine rd_max ?_
  | with_reducible refine rd_min ?_
  | with_reducible refine rd_int1 ?_
  | with_reducible refine rd_abs ?_
  | with_reducible refine rd_lst ?_
  | with_reducible refine rd_tup ?_
  | with_reducible refine rd_bm ?_
  | with_reducible refine rd_fld0 ?_
  | with_reducible refine rd_sl0 ?_
  | with_reducible refine rd_noP ?_
  | with_reducible refine rd_part ?_
  | with_reducible refine rd_part2 ?_
  | with_reducible refine rd_meth0 ?_
  | with_reducible refine rd_star ?_
  | with_reducible refine rd_for ?_
  | with_reducible refine rd_rng1 ?_
  | with_reducible refine rd_rng2 ?_
  | with_reducible refine rd_rng3 ?_
  | with_reducible refine rd_iList ?_
  | with_reducible refine rd_iTup ?_
  | with_reducible refine rd_iEnum ?_
  | with_reducible refine rd_lc ?_
  | with_reducible refine rd_yes ?_
  | with_reducible refine rd_augS ?_
  | with_reducible refine rd_drawNew ?_
  | with_reducible refine rd_make0 ?_
  | with_reducible refine rd_next ?_
  | with_reducible refine rd_break ?_
  | with_reducible refine rd_cont ?_
  | with_reducible refine rd_iteTT ?_
  | with_reducible refine rd_iteFF ?_
  | with_reducible refine rd_iteNTT ?_
  | with_reducible refine rd_iteNFF ?_
  | with_reducible refine rd_con0 ?_
  | with_reducible refine rd_truO0 ?_
  | with_reducible refine rd_gfld0 ?_
  | with_reducible refine rd_dc ?_
  | with_reducible refine rd_iKeys ?_
  | with_reducible refine rd_dget0 ?_
  | with_reducible refine rd_dput0 ?_
  | with_reducible refine rd_dnot0 ?_
  | with_reducible refine rd_iEnumT ?_
  | with_reducible refine rd_raP0 ?_
  | with_reducible refine rd_xf0 ?_
  | with_reducible refine rd_cKw ?_
  | with_reducible refine rd_iStr ?_
  | with_reducible refine rd_gSub ?_
  | with_reducible refine rd_asgG ?_)
local macro_rules | `(tactic| walk_at "rd") => `(tactic| repeat walk_at "rd1")
local macro_rules | `(tactic| walk_at "len") => `(tactic| first
  | (intro vs H Q E h; obtain ⟨h2, _⟩ := h; rw [h2]; rfl)
  | (intro vs H Q E h; obtain ⟨_, h2, _⟩ := h; rw [h2]; rfl)
  | (intro vs H Q E h; obtain ⟨_, _, h2, _⟩ := h; rw [h2]; rfl)
  | (intro vs H Q E h; obtain ⟨_, _, _, h2, _⟩ := h; rw [h2]; rfl)
  | (intro vs H Q E h; obtain ⟨_, _, _, _, h2, _⟩ := h; rw [h2]; rfl)
  | (intro vs H Q E h; obtain ⟨_, _, _, _, _, h2, _⟩ := h; rw [h2]; rfl)
  | (intro vs H Q E h; obtain ⟨_, _, _, _, _, _, h2, _⟩ := h; rw [h2]; rfl)
  | (intro vs H Q E h; obtain ⟨_, _, _, _, _, _, _, h2, _⟩ := h; rw [h2]; rfl)
  | (intro vs H Q E h; obtain ⟨_, _, _, _, _, _, _, _, h2, _⟩ := h; rw [h2]; rfl)
  | (intro vs H Q E h; obtain ⟨_, _, _, _, _, _, _, _, _, h2, _⟩ := h; rw [h2]; rfl)
  | (intro vs H Q E h; obtain ⟨_, _, _, _, _, _, _, _, _, _, h2, _⟩ := h; rw [h2]; rfl)
  | (intro vs H Q E h; obtain ⟨_, _, _, _, _, _, _, _, _, _, _, h2, _⟩ := h; rw [h2]; rfl)
  | (intro vs H Q E h; obtain ⟨_, _, _, _, _, _, _, _, _, _, _, _, h2, _⟩ := h; rw [h2]; rfl))
theorem rd_tRg2 {ta tb : TE} {σ : L2.St} {H : Hp} {Q : Int → Int → Hp → Prop} (h : ta σ H fun x H1 => tb σ H1 fun y H2 => ∃ i j, x = .int i ∧ y = .int j ∧ Q i j H2) : tRg2 ta tb σ H Q := h
local macro_rules | `(tactic| walk_at "rd1") => `(tactic| first
  | with_reducible refine StarRg.rd_starRg ?_
  | with_reducible refine rd_tRg2 ?_)
theorem kt_size_of : SortD.KeyT s_size_of "row" := ⟨⟨_, _, _, _, _, _, _, _, _, _, _, _, _, _, _, _, _, by rfl⟩, by rfl, by rfl, by rfl, by rfl, by rfl, by decide +kernel, by decide +kernel⟩
theorem hB_len (t w : Int) : ∀ k, (hB t w k).length ≤ k
  | 0 => Nat.le_refl _
  | k + 1 => by
    have ih := hB_len t w k
    unfold hB at ih ⊢
    rw [fm_succ, List.length_append]
    have : (hC t w (2 + (k : Int))).length ≤ 1 := by
      unfold hC
      split <;> simp
    omega
theorem hA_len (m : Nat) (t : Int) : ∀ j, (hA m t j).length ≤ j * (t + 1 - 2).toNat
  | 0 => Nat.zero_le _
  | j + 1 => by
    have ih := hA_len m t j
    have := hB_len t (1 + (j : Int)) (t + 1 - 2).toNat
    unfold hA at ih ⊢
    rw [fm_succ, List.length_append, Nat.succ_mul]
    omega
theorem hH_len (m N : Nat) : ∀ n, n ≤ N → (hH m n).length ≤ n * ((m + 2) * N)
  | 0, _ => Nat.zero_le _
  | n + 1, h => by
    have ih := hH_len m N n (by omega)
    have h1 := hA_len m (2 + (n : Int)) (m + 2)
    have h2 : (m + 2) * (2 + (n : Int) + 1 - 2).toNat ≤ (m + 2) * N := Nat.mul_le_mul_left _ (by omega)
    unfold hH at ih ⊢
    rw [fm_succ, List.length_append, Nat.succ_mul]
    omega
/-- the histories in the heap; none of their lists is F -/
inductive HisAll (H : Hp) (F : Addr) : List Addr → List Hist → Prop
  | nil : HisAll H F [] []
  | cons {r l : Addr} {rs : List Addr} {h : Hist} {hs : List Hist} : H r = some (.tup [.ref l, .int h.2]) → H l = some (.lst (intV h.1)) → l ≠ F → HisAll H F rs hs → HisAll H F (r :: rs) (h :: hs)
theorem HisAll.mono {H H' : Hp} {F : Addr} {rs : List Addr} {hs : List Hist} (s : Same H H') (h : HisAll H F rs hs) : HisAll H' F rs hs := by
  induction h with
  | nil => exact .nil
  | cons a b n _ ih => exact .cons (s _ _ a) (s _ _ b) n ih
theorem HisAll.updL {H : Hp} {F : Addr} {xs ys : List V} {rs : List Addr} {hs : List Hist} (e : H F = some (.lst xs)) (h : HisAll H F rs hs) : HisAll (upd H F (.lst ys)) F rs hs := by
  induction h with
  | nil => exact .nil
  | cons a b n _ ih => exact .cons (by rw [upd_ne (fun z => by rw [z, e] at a; cases a)]; exact a) (by rw [upd_ne n]; exact b) n ih
theorem HisAll.append {H : Hp} {F : Addr} {rs rs2 : List Addr} {hs hs2 : List Hist} (h : HisAll H F rs hs) (h2 : HisAll H F rs2 hs2) : HisAll H F (rs ++ rs2) (hs ++ hs2) := by
  induction h with
  | nil => exact h2
  | cons a b n _ ih => exact .cons a b n ih
theorem HisAll.len {H : Hp} {F : Addr} {rs : List Addr} {hs : List Hist} (h : HisAll H F rs hs) : rs.length = hs.length := by
  induction h with
  | nil => rfl
  | cons a b n _ ih => rw [List.length_cons, List.length_cons, ih]
/-- one history at an address -/
def HisAt (H : Hp) (r : Addr) (h : Hist) : Prop := ∃ l, H r = some (.tup [.ref l, .int h.2]) ∧ H l = some (.lst (intV h.1))
theorem HisAt.mono {H H' : Hp} {r : Addr} {h : Hist} (s : Same H H') (a : HisAt H r h) : HisAt H' r h := by
  obtain ⟨l, e1, e2⟩ := a
  exact ⟨l, s _ _ e1, s _ _ e2⟩
theorem HisAll.fwd {H : Hp} {F : Addr} {rs : List Addr} {hs : List Hist} (a : HisAll H F rs hs) : ∀ r ∈ rs, ∃ h ∈ hs, HisAt H r h := by
  induction a with
  | nil => intro r hr; cases hr
  | cons e1 e2 n _ ih =>
    intro r hr
    rcases List.mem_cons.mp hr with rfl | hr
    · exact ⟨_, List.mem_cons_self, _, e1, e2⟩
    · obtain ⟨h, h1, h2⟩ := ih r hr
      exact ⟨h, List.mem_cons_of_mem _ h1, h2⟩
theorem HisAll.bwd {H : Hp} {F : Addr} {rs : List Addr} {hs : List Hist} (a : HisAll H F rs hs) : ∀ h ∈ hs, ∃ r ∈ rs, HisAt H r h := by
  induction a with
  | nil => intro r hr; cases hr
  | cons e1 e2 n _ ih =>
    intro r hr
    rcases List.mem_cons.mp hr with rfl | hr
    · exact ⟨_, List.mem_cons_self, _, e1, e2⟩
    · obtain ⟨h, h1, h2⟩ := ih r hr
      exact ⟨h, List.mem_cons_of_mem _ h1, h2⟩
theorem rgV_intV (a b : Int) : rgV a b = intV (rgI a b) := by
  unfold rgV intV rgI
  rw [List.map_map]
  rfl
def spHist : Sp := fun vs H Q _ => ∃ (m : Nat), vs = [.int (m : Int)] ∧ m ≤ 13 ∧ ∀ H' F (rs : List Addr), Same H H' → H F = none → H' F = some (.lst (rs.map V.ref)) → rs.length ≤ 100000 → (∀ r ∈ rs, ∃ h ∈ histF m, HisAt H' r h) → (∀ h ∈ histF m, ∃ r ∈ rs, HisAt H' r h) → Q (.ref F) H'
section
variable {P : Program} {w : World} {K : PySem.W.Frag} {mg : Str → Option Value} {base : Heap} {C_Evidence C_Good C_Bad C_KeepsAll C_LosesOne C_KeepsLittle C_KeepsMore C_BadDay C_BadPolicy D_PLAIN D_NUMBERED : Addr}
theorem cal_histories (T : TX K mg C_Evidence C_Good C_Bad C_KeepsAll C_LosesOne C_KeepsLittle C_KeepsMore C_BadDay C_BadPolicy D_PLAIN D_NUMBERED) : Cal P w K mg base 2 "histories" (spHist) [] := by
  obtain ⟨f0, fd, D, dn⟩ := T.d_histories
  obtain ⟨f_size_of, fd_size_of, D_size_of, dn_size_of⟩ := T.d_size_of
  refine cal0 D (D.fn.binds dn fun _ _ _ _ _ _ us hl => match us, hl with | [_], _ => rfl) .nil sc_histories (by walk_at "len") (fun cdv A outer s H vs Q E hr h => ?_)
  obtain ⟨m, rfl, hm, k⟩ := h
  refine ⟨_, (pss_cons (ps_s 1 sc_histories.nd (pe_lst pa_nil))
      (pss_cons (ps_for PassesOwn.never rfl (pi_range2 rfl T.b_range (pa_cons pe_int (pa_cons (pe_op op_add (pe_op op_mul pe_int (pv 0)) pe_int) pa_nil))) (pg_n 2 sc_histories.nd) (pss_one (ps_for PassesOwn.never rfl (pi_range2 rfl T.b_range (pa_cons pe_int (pa_cons (pe_op op_add (pv 0) pe_int) pa_nil))) (pg_n 3 sc_histories.nd) (pss_one (ps_for PassesOwn.never rfl (pi_range2 rfl T.b_range (pa_cons pe_int (pa_cons (pe_op op_add (pv 2) pe_int) pa_nil))) (pg_n 4 sc_histories.nd) (pss_one (ps_if (pt_cmpR op_ge (pe_op op_sub (pv 2) (pv 4)) (pe_op op_sub (pv 3) pe_int) (nomark _)) (pss_one (ps_expr (pe_bm PySem.F.plainAttrs_list PySem.F.slot_list_append PySem.F.type_list_append mt_append (pv 1) (pa_cons (pe_tup (pa_cons (pe_lst (pa_cons pe_int (pa_cons (pv 4) (StarRg.pa_starRg rfl (prg_2 rfl T.b_range (pe_op op_add (pe_op op_sub (pv 2) (pv 3)) pe_int) (pe_op op_add (pv 2) pe_int)) pa_nil)))) (pa_cons (pv 2) pa_nil))) pa_nil)))) pss_nil)))))))
      (pss_one (ps_ret (pe_callBK (SortD.cr_sortD D_size_of.fn (D_size_of.fn.binds dn_size_of fun _ _ _ _ _ _ us hl => match us, hl with | [_], _ => rfl) kt_size_of T.b_len (k := 0) (hr.mono (by decide))) (by rfl) T.b_sorted (by decide +kernel) (pa_cons (pv 1) pa_nil) (pk_cons (pe_gc (v := .ref f_size_of) rfl ⟨_, D_size_of.mgf, rfl⟩) pk_nil)))))), ?_⟩
  walk_at "rd"
  refine rd_newL (by simp) fun F H1 hF s1 eF _ => ?_
  walk_at "rd"
  refine rd_rgR2 (by omega) ?_
  rw [show (2 * (m : Int) + 6 - 2).toNat = 2 * m + 4 by omega]
  refine forR_rng (fun i σ H' => ∃ (rs : List Addr) (v2 v3 v4 : Option V), Same H H' ∧ H' F = some (.lst (rs.map V.ref)) ∧ HisAll H' F rs (hH m i) ∧ σ = [some (.int (m : Int)), some (.ref F), v2, v3, v4]) ⟨[], _, _, _, s1, eF, .nil, rfl⟩ ?_ ?_
  · rintro i σ H2 hi ⟨rs, v2, v3, v4, s2, eF2, ha, rfl⟩
    walk_at "rd"
    refine rd_rgR2 (by omega) ?_
    rw [show ((m : Int) + 3 - 1).toNat = m + 2 by omega]
    refine forR_rng (fun j σ H' => ∃ (rs : List Addr) (v3 v4 : Option V), Same H H' ∧ H' F = some (.lst (rs.map V.ref)) ∧ HisAll H' F rs (hH m i ++ hA m (2 + (i : Int)) j) ∧ σ = [some (.int (m : Int)), some (.ref F), some (.int (2 + (i : Int))), v3, v4]) ⟨rs, _, _, s2, eF2, by rw [show hA m (2 + (i : Int)) 0 = [] from rfl, List.append_nil]; exact ha, rfl⟩ ?_ ?_
    · rintro j σ H3 hj ⟨rs, v3, v4, s3, eF3, ha, rfl⟩
      walk_at "rd"
      refine rd_rgR2 (by omega) ?_
      refine forR_rng (fun q σ H' => ∃ (rs : List Addr) (v4 : Option V), Same H H' ∧ H' F = some (.lst (rs.map V.ref)) ∧ HisAll H' F rs ((hH m i ++ hA m (2 + (i : Int)) j) ++ hB (2 + (i : Int)) (1 + (j : Int)) q) ∧ σ = [some (.int (m : Int)), some (.ref F), some (.int (2 + (i : Int))), some (.int (1 + (j : Int))), v4]) ⟨rs, _, s3, eF3, by rw [show hB (2 + (i : Int)) (1 + (j : Int)) 0 = [] from rfl, List.append_nil]; exact ha, rfl⟩ ?_ ?_
      · rintro q σ H4 hq ⟨rs, v4, s4, eF4, ha, rfl⟩
        have eb : hB (2 + (i : Int)) (1 + (j : Int)) (q + 1) = hB (2 + (i : Int)) (1 + (j : Int)) q ++ hC (2 + (i : Int)) (1 + (j : Int)) (2 + (q : Int)) := by unfold hB; exact fm_succ _ q
        have hlen := ha.len
        have l1 := hH_len m 30 i (by omega)
        have l2 := hA_len m (2 + (i : Int)) j
        have l3 := hB_len (2 + (i : Int)) (1 + (j : Int)) q
        have l4 : i * ((m + 2) * 30) ≤ 30 * (15 * 30) := Nat.mul_le_mul (by omega) (Nat.mul_le_mul (by omega) (Nat.le_refl _))
        have l5 : j * (2 + (i : Int) + 1 - 2).toNat ≤ 15 * 31 := Nat.mul_le_mul (by omega) (by omega)
        rw [List.length_append, List.length_append] at hlen
        have hC1 : hC (2 + (i : Int)) (1 + (j : Int)) (2 + (q : Int)) = if 1 + (j : Int) - 1 ≤ 2 + (i : Int) - (2 + (q : Int)) then [(1 :: (2 + (q : Int)) :: rgI (2 + (i : Int) - (1 + (j : Int)) + 2) (2 + (i : Int) + 1), 2 + (i : Int))] else [] := rfl
        walk_at "rd"
        refine rd_ite (fun c => ?_) (fun c => ?_)
        · rw [if_pos c] at hC1
          walk_at "rd"
          refine rd_tyL eF4 ?_
          walk_at "rd"
          refine ⟨_, _, rfl, rfl, by refine ⟨?_, ?_, ?_, ?_, ?_⟩ <;> omega, ?_⟩
          walk_at "rd"
          rw [rgV_intV]
          refine rd_newL (by unfold intV; simp only [List.length_cons, List.length_append, List.length_map, rgI_len, List.length_nil]; omega) fun l H5 hl s5 el _ => ?_
          walk_at "rd"
          refine rd_newT (by simp) fun t H6 _ s6 et _ => ?_
          walk_at "rd"
          have eF6 := (s5.trans s6) _ _ eF4
          have hlF : l ≠ F := fun z => by rw [z, eF4] at hl; cases hl
          refine rd_app eF6 (by rw [List.length_map]; omega) fun H7 eH7 eF7 => ?_
          have ha6 : HisAll H6 F [t] (hC (2 + (i : Int)) (1 + (j : Int)) (2 + (q : Int))) := by
            rw [hC1]
            refine .cons (l := l) et ?_ hlF .nil
            have el6 := s6 _ _ el
            rw [el6]
            show _ = some (HO.lst (V.int 1 :: V.int (2 + (q : Int)) :: intV (rgI (2 + (i : Int) - (1 + (j : Int)) + 2) (2 + (i : Int) + 1))))
            simp
          have ha7 := ((ha.mono (s5.trans s6)).append ha6).updL (ys := (rs ++ [t]).map V.ref) eF6
          refine ⟨rs ++ [t], _, by rw [eH7]; exact Same.mut (s4.trans (s5.trans s6)) hF, by rw [eF7, List.map_append]; rfl, ?_, rfl⟩
          rw [eb, ← List.append_assoc, eH7, show (rs.map V.ref ++ [V.ref t]) = (rs ++ [t]).map V.ref by rw [List.map_append]; rfl]
          exact ha7
        · rw [if_neg c] at hC1
          walk_at "rd"
          exact ⟨rs, _, s4, eF4, by rw [eb, hC1, List.append_nil]; exact ha, rfl⟩
      · rintro σ H4 ⟨rs, v4, s4, eF4, ha, rfl⟩
        refine ⟨rs, _, _, s4, eF4, ?_, rfl⟩
        rw [show hA m (2 + (i : Int)) (j + 1) = hA m (2 + (i : Int)) j ++ hB (2 + (i : Int)) (1 + (j : Int)) (2 + (i : Int) + 1 - 2).toNat by unfold hA; exact fm_succ _ j, ← List.append_assoc]
        exact ha
    · rintro σ H3 ⟨rs, v3, v4, s3, eF3, ha, rfl⟩
      refine ⟨rs, _, _, _, s3, eF3, ?_, rfl⟩
      rw [show hH m (i + 1) = hH m i ++ hA m (2 + (i : Int)) (m + 2) by unfold hH; exact fm_succ _ i]
      exact ha
  · rintro σ H2 ⟨rs, v2, v3, v4, s2, eF2, ha, rfl⟩
    walk_at "rd"
    have hl := ha.len
    have l1 := hH_len m 30 (2 * m + 4) (by omega)
    have l4 : (2 * m + 4) * ((m + 2) * 30) ≤ 30 * (15 * 30) := Nat.mul_le_mul (by omega) (Nat.mul_le_mul (by omega) (Nat.le_refl _))
    have hx : ∀ r, ∃ g : Addr × List Int × Int, r ∈ rs → (H2 r = some (.tup [.ref g.1, .int g.2.2]) ∧ H2 g.1 = some (.lst (g.2.1.map V.int)) ∧ g.2.1.length ≤ 100000) := fun r => by
      by_cases hr : r ∈ rs
      · obtain ⟨h, hh, l, e1, e2⟩ := ha.fwd r hr
        obtain ⟨t, w, l', h1, h2, h3, h4, h5, h6, h7, rfl⟩ := mem_histF.mp hh
        refine ⟨(l, _, _), fun _ => ⟨e1, e2, ?_⟩⟩
        show (1 :: l' :: rgI (t - w + 2) (t + 1)).length ≤ 100000
        rw [List.length_cons, List.length_cons, rgI_len]
        omega
      · exact ⟨(0, [], 0), fun z => absurd z hr⟩
    refine ⟨F, rs, fun r => Classical.choose (hx r), rfl, rfl, eF2, fun r hr => Classical.choose_spec (hx r) hr, by omega, fun p rs' pm hp => ?_⟩
    obtain ⟨H3, eH3⟩ : ∃ H3, H3 = upd H2 p (.lst (rs'.map V.ref)) := ⟨_, rfl⟩
    rw [← eH3]
    have s3 : Same H2 H3 := by rw [eH3]; exact Same.new (Same.refl H2) hp
    have e3 : H3 p = some (.lst (rs'.map V.ref)) := by rw [eH3]; exact upd_same
    refine k H3 p rs' (s2.trans s3) (none_back s2 hp) e3 (by rw [pm.length_eq]; omega) (fun r hr => ?_) (fun h hh => ?_)
    · obtain ⟨h, h1, h2⟩ := ha.fwd r (pm.mem_iff.mp hr)
      exact ⟨h, h1, h2.mono s3⟩
    · obtain ⟨r, h1, h2⟩ := ha.bwd h hh
      exact ⟨r, pm.mem_iff.mpr h1, h2.mono s3⟩
end
end Sl

set_option Elab.async false
set_option linter.all false
set_option maxRecDepth 100000
set_option maxHeartbeats 8000000
set_option exponentiation.threshold 9000
namespace Sl
open PySem L2 C8 StX Silt
local macro_rules | `(tactic| walk_at "side") => `(tactic| first
  | exact cdivw (by omega) (by omega)
  | exact cmulw (by omega) (by omega) (by omega) (by omega)
  | exact Or.inr ⟨by omega, by omega⟩
  | exact Or.inl ⟨by omega, by omega⟩
  | omega
  | exact ⟨by omega, by omega, by decide⟩
  | decide)
local macro_rules | `(tactic| walk_at "rd1") => `(tactic| first
  | with_reducible refine rd_seq ?_
  | with_reducible refine rd_asg ?_
  | with_reducible refine rd_drop ?_
  | with_reducible refine rd_ret ?_
  | with_reducible refine rd_retN ?_
  | with_reducible refine rd_ifS ?_
  | ((with_reducible refine rd_var0 ?_); refine ⟨_, rfl, ?_⟩)
  | with_reducible refine rd_c ?_
  | with_reducible refine rd_op ?_
  | with_reducible refine rd_un ?_
  | with_reducible refine rd_I0 ?_
  | with_reducible refine rd_U ?_
  | ((with_reducible refine rd_I ?c ?_); (case c => walk_at "side"))
  | with_reducible refine rd_ipI ?_
  | with_reducible refine rd_eqI ?_
  | with_reducible refine rd_neI ?_
  | with_reducible refine rd_test ?_
  | with_reducible refine rd_tB ?_
  | with_reducible refine rd_bl ?_
  | with_reducible refine rd_not ?_
  | with_reducible refine rd_and ?_
  | with_reducible refine rd_or ?_
  | with_reducible refine rd_andV ?_
  | with_reducible refine rd_orV ?_
  | with_reducible refine rd_notV ?_
  | with_reducible refine rd_ifE ?_
  | with_reducible refine rd_chain ?_
  | with_reducible refine rd_chain3 ?_
  | with_reducible refine rd_nil ?_
  | with_reducible refine rd_cons ?_
  | with_reducible refine rd_call ?_
  | with_reducible refine rd_CB ?_
  | with_reducible refine rd_par ?_
  | with_reducible refine rd_par2 ?_
  | with_reducible refine rd_par3 ?_
  | with_reducible refine rd_par4 ?_
  | ((with_reducible refine rd_aug0 ?_); refine ⟨_, rfl, ?_⟩)
  | with_reducible refine rd_gname ?_
  | with_reducible refine rd_gcons ?_
  | with_reducible refine rd_gnil ?_
  | with_reducible refine rd_max ?_
  | with_reducible refine rd_min ?_
  | with_reducible refine rd_int1 ?_
  | with_reducible refine rd_abs ?_
  | with_reducible refine rd_lst ?_
  | with_reducible refine rd_tup ?_
  | with_reducible refine rd_bm ?_
  | with_reducible refine rd_fld0 ?_
  | with_reducible refine rd_sl0 ?_
  | with_reducible refine rd_noP ?_
  | with_reducible refine rd_part ?_
  | with_reducible refine rd_part2 ?_
  | with_reducible refine rd_meth0 ?_
  | with_reducible refine rd_star ?_
  | with_reducible refine rd_for ?_
  | with_reducible refine rd_rng1 ?_
  | with_reducible refine rd_rng2 ?_
  | with_reducible refine rd_rng3 ?_
  | with_reducible refine rd_iList ?_
  | with_reducible refine rd_iTup ?_
  | with_reducible refine rd_iEnum ?_
  | with_reducible refine rd_lc ?_
  | with_reducible refine rd_yes ?_
  | with_reducible refine rd_augS ?_
  | with_reducible refine rd_drawNew ?_
  | with_reducible refine rd_make0 ?_
  | with_reducible refine rd_next ?_
  | with_reducible refine rd_break ?_
  | with_reducible refine rd_cont ?_
  | with_reducible refine rd_iteTT ?_
  | with_reducible refine rd_iteFF ?_
  | with_reducible refine rd_iteNTT ?_
  | with_reducible refine rd_iteNFF ?_
  | with_reducible refine rd_con0 ?_
  | with_reducible refine rd_truO0 ?_
  | with_reducible refine rd_gfld0 ?_
  | with_reducible refine rd_dc ?_
  | with_reducible refine rd_iKeys ?_
  | with_reducible refine rd_dget0 ?_
  | with_reducible refine rd_dput0 ?_
  | with_reducible refine rd_dnot0 ?_
  | with_reducible refine rd_iEnumT ?_
  | with_reducible refine rd_raP0 ?_
  | with_reducible refine rd_xf0 ?_
  | with_reducible refine rd_cKw ?_
  | with_reducible refine rd_iStr ?_
  | with_reducible refine rd_gSub ?_
  | with_reducible refine rd_asgG ?_)
local macro_rules | `(tactic| walk_at "rd") => `(tactic| repeat walk_at "rd1")
local macro_rules | `(tactic| walk_at "len") => `(tactic| first
  | (intro vs H Q E h; obtain ⟨h2, _⟩ := h; rw [h2]; rfl)
  | (intro vs H Q E h; obtain ⟨_, h2, _⟩ := h; rw [h2]; rfl)
  | (intro vs H Q E h; obtain ⟨_, _, h2, _⟩ := h; rw [h2]; rfl)
  | (intro vs H Q E h; obtain ⟨_, _, _, h2, _⟩ := h; rw [h2]; rfl)
  | (intro vs H Q E h; obtain ⟨_, _, _, _, h2, _⟩ := h; rw [h2]; rfl)
  | (intro vs H Q E h; obtain ⟨_, _, _, _, _, h2, _⟩ := h; rw [h2]; rfl)
  | (intro vs H Q E h; obtain ⟨_, _, _, _, _, _, h2, _⟩ := h; rw [h2]; rfl)
  | (intro vs H Q E h; obtain ⟨_, _, _, _, _, _, _, h2, _⟩ := h; rw [h2]; rfl)
  | (intro vs H Q E h; obtain ⟨_, _, _, _, _, _, _, _, h2, _⟩ := h; rw [h2]; rfl)
  | (intro vs H Q E h; obtain ⟨_, _, _, _, _, _, _, _, _, h2, _⟩ := h; rw [h2]; rfl)
  | (intro vs H Q E h; obtain ⟨_, _, _, _, _, _, _, _, _, _, h2, _⟩ := h; rw [h2]; rfl)
  | (intro vs H Q E h; obtain ⟨_, _, _, _, _, _, _, _, _, _, _, h2, _⟩ := h; rw [h2]; rfl)
  | (intro vs H Q E h; obtain ⟨_, _, _, _, _, _, _, _, _, _, _, _, h2, _⟩ := h; rw [h2]; rfl))
local macro_rules | `(tactic| walk_at "rd1") => `(tactic| first
  | with_reducible refine rd_gfld0 ?_)
theorem rgI_asc (a b : Int) : (rgI a b).Pairwise (· < ·) := by
  unfold rgI
  rw [List.pairwise_map]
  exact List.pairwise_lt_range.imp fun h => by omega
theorem mem_rgI {a b x : Int} : x ∈ rgI a b ↔ a ≤ x ∧ x < b := by
  unfold rgI
  rw [List.mem_map]
  constructor
  · rintro ⟨i, hi, rfl⟩
    have := List.mem_range.mp hi
    omega
  · rintro ⟨h1, h2⟩
    exact ⟨(x - a).toNat, List.mem_range.mpr (by omega), by omega⟩
theorem hist_ok {m : Nat} {h : Hist} (hm : m ≤ 13) (hh : h ∈ histF m) : DaysOk h.1 h.2 ∧ ∃ l r, h.1 = 1 :: l :: r ∧ 2 ≤ l := by
  obtain ⟨t, w, l, h1, h2, h3, h4, h5, h6, h7, rfl⟩ := mem_histF.mp hh
  refine ⟨⟨by show (1 : Int) ≤ t; omega, fun d hd => ?_, ?_, ?_⟩, l, _, rfl, h5⟩
  · show 1 ≤ d ∧ d ≤ t
    have hd : d ∈ 1 :: l :: rgI (t - w + 2) (t + 1) := hd
    simp only [List.mem_cons, mem_rgI] at hd
    omega
  · show (1 :: l :: rgI (t - w + 2) (t + 1)).Pairwise (· < ·)
    rw [List.pairwise_cons, List.pairwise_cons]
    refine ⟨fun x hx => ?_, fun x hx => ?_, rgI_asc _ _⟩
    · simp only [List.mem_cons, mem_rgI] at hx
      omega
    · rw [mem_rgI] at hx
      omega
  · show (1 :: l :: rgI (t - w + 2) (t + 1)).length ≤ 1000
    rw [List.length_cons, List.length_cons, rgI_len]
    omega
theorem intV_inj : ∀ {l m : List Int}, intV l = intV m → l = m
  | [], [], _ => rfl
  | [], _ :: _, h => by cases h
  | _ :: _, [], h => by cases h
  | a :: l, b :: m, h => by
    have h : V.int a :: intV l = V.int b :: intV m := h
    rw [List.cons.injEq] at h
    rw [V.int.inj h.1, intV_inj h.2]
def LostP (H : Hp) (p : Pol) (w : V) : Prop := (w = .non ∧ losesB p = false) ∨ ∃ t l h, w = .ref t ∧ H t = some (.tup [.ref l, .int (h.1.getD 0 0), .int h.2]) ∧ H l = some (.lst (intV h.1)) ∧ h ∈ histF (numF p) ∧ L1 p h = false
def SpareP (H : Hp) (p : Pol) (w : V) : Prop := (w = .non ∧ moreB p = false) ∨ ∃ t l q h pins, w = .ref t ∧ H t = some (.tup [.ref l, .ref q, .int h.2]) ∧ H l = some (.lst (intV h.1)) ∧ H q = some (.lst (intV pins)) ∧ h ∈ histF (numF p) ∧ pins ∈ pins3 h ∧ holdsF p (casF h.1 0 pins h.2) = true
theorem LostP.loses {H : Hp} {p : Pol} {w : V} (h : LostP H p w) : decide (w = .non) = !losesB p := by
  rcases h with ⟨rfl, e⟩ | ⟨t, l, h, rfl, _, _, hm, e⟩
  · rw [e, decide_eq_true rfl]
    rfl
  · have : losesB p = true := List.any_eq_true.mpr ⟨h, hm, by rw [e]; rfl⟩
    rw [this, decide_eq_false (fun z => by cases z)]
    rfl
theorem SpareP.more {H : Hp} {p : Pol} {w : V} (h : SpareP H p w) : decide (w = .non) = !moreB p := by
  rcases h with ⟨rfl, e⟩ | ⟨t, l, q, h, pins, rfl, _, _, _, hm, hp, e⟩
  · rw [e, decide_eq_true rfl]
    rfl
  · have : moreB p = true := List.any_eq_true.mpr ⟨h, hm, List.any_eq_true.mpr ⟨pins, hp, e⟩⟩
    rw [this, decide_eq_false (fun z => by cases z)]
    rfl
def spLost : Sp := fun vs H Q _ => ∃ (v : V) (p : Pol), vs = [v] ∧ PolP H v p ∧ okP p ∧ hgt p < 4 ∧ ∀ H' w, Same H H' → LostP H' p w → Q w H'
def spSpare : Sp := fun vs H Q _ => ∃ (v : V) (p : Pol), vs = [v] ∧ PolP H v p ∧ okP p ∧ hgt p < 4 ∧ ∀ H' w, Same H H' → SpareP H' p w → Q w H'
section
variable {P : Program} {w : World} {K : PySem.W.Frag} {mg : Str → Option Value} {base : Heap} {C_Evidence C_Good C_Bad C_KeepsAll C_LosesOne C_KeepsLittle C_KeepsMore C_BadDay C_BadPolicy D_PLAIN D_NUMBERED : Addr}
theorem cal_lost_by (T : TX K mg C_Evidence C_Good C_Bad C_KeepsAll C_LosesOne C_KeepsLittle C_KeepsMore C_BadDay C_BadPolicy D_PLAIN D_NUMBERED) : Cal P w K mg base 6 "lost_by" (spLost) [] := by
  obtain ⟨f0, fd, D, dn⟩ := T.d_lost_by
  have G_greatest_in := cal_greatest_in (P := P) (w := w) (base := base) T
  have G_histories := cal_histories (P := P) (w := w) (base := base) T
  have G_case_of := cal_case_of (P := P) (w := w) (base := base) T
  have G_holds := cal_holds (P := P) (w := w) (base := base) T
  refine cal0 D (D.fn.binds dn fun _ _ _ _ _ _ us hl => match us, hl with | [_], _ => rfl) .nil sc_lost_by (by walk_at "len") (fun cdv A outer s H vs Q E hr h => ?_)
  obtain ⟨v, p, rfl, hp, okp, hh, k⟩ := h
  have n12 := numF_le okp
  refine ⟨_, (pss_cons (ps_for PassesOwn.never rfl (pi_list (pe_c G_histories hr (by decide) rfl (pa_cons (pe_c G_greatest_in hr (by decide) rfl (pa_cons (pv 0) pa_nil)) pa_nil))) (pg_tup rfl (pgs_cons (pg_n 1 sc_lost_by.nd) (pgs_cons (pg_n 2 sc_lost_by.nd) pgs_nil))) (pss_one (ps_if (pt_not (pt_val (pe_c G_holds hr (by decide) rfl (pa_cons (pv 0) (pa_cons (pe_c G_case_of hr (by decide) rfl (pa_cons (pv 1) (pa_cons pe_int (pa_cons (pe_lst (pa_cons (pe_ix ix_list (pv 1) pe_int (fun _ _ => rfl)) pa_nil)) (pa_cons (pv 2) pa_nil))))) pa_nil))))) (pss_one (ps_ret (pe_tup (pa_cons (pv 1) (pa_cons (pe_ix ix_list (pv 1) pe_int (fun _ _ => rfl)) (pa_cons (pv 2) pa_nil)))))) pss_nil)))
      (pss_one (ps_ret pe_non))), ?_⟩
  walk_at "rd"
  refine ⟨v, p, rfl, hp, hh, fun H1 s1 => ?_⟩
  walk_at "rd"
  refine ⟨numF p, rfl, by omega, fun H2 F rs s2 hF eF hl fwd bwd => ?_⟩
  have s12 := s1.trans s2
  walk_at "rd"
  refine rd_lsR (SqL.of eF) ?_
  refine forR_lst (xs := rs.map V.ref) (fun j σ H' => ∃ (v1 v2 : Option V), Same H2 H' ∧ (∀ i r h, i < j → rs[i]? = some r → HisAt H2 r h → L1 p h = true) ∧ σ = [some v, v1, v2]) (fun j σ H' ⟨_, _, s, _⟩ => SqL.of (s _ _ eF)) ⟨_, _, Same.refl H2, (fun i r h hi => by omega), rfl⟩ ?_ ?_
  · rintro j y σ H3 hy ⟨v1, v2, s3, hd, rfl⟩
    obtain ⟨r, hr, rfl⟩ : ∃ r, rs[j]? = some r ∧ y = .ref r := by
      rw [List.getElem?_map] at hy
      cases q : rs[j]? with
      | none => rw [q] at hy; cases hy
      | some r => rw [q] at hy; exact ⟨r, rfl, (Option.some.inj hy).symm⟩
    obtain ⟨h, hm, l, e1, e2⟩ := fwd r (List.mem_of_getElem? hr)
    obtain ⟨dok, l1, rr, eh, h2l⟩ := hist_ok (by omega) hm
    have s23 := s12.trans s3
    refine rd_gtup (s3 _ _ e1) rfl ?_
    walk_at "rd"
    have el3 := s3 _ _ e2
    refine rd_ixL el3 (v := .int (h.1.getD 0 0)) (by rw [eh]; exact atI_nat' (i := 0) rfl) ?_
    walk_at "rd"
    refine rd_newL (by simp) fun pl H4 _ s4 epl _ => ?_
    walk_at "rd"
    refine ⟨l, pl, 0, h.1, [h.1.getD 0 0], h.2, rfl, .inl (s4 _ _ el3), .inl epl, by rw [eh]; simp, dok.len, by simp, fun H5 c s5 hc eC => ?_⟩
    walk_at "rd"
    refine ⟨v, c, p, _, rfl, hp.mono (s23.trans (s4.trans s5)), eC, hh, fun H6 s6 => ?_⟩
    refine ⟨_, rfl, ?_⟩
    have s36 := s4.trans (s5.trans s6)
    cases hb : holdsF p (casF h.1 0 [h.1.getD 0 0] h.2)
    · rw [Bool.not_false]
      walk_at "rd"
      refine rd_ixL (s36 _ _ el3) (v := .int (h.1.getD 0 0)) (by rw [eh]; exact atI_nat' (i := 0) rfl) ?_
      walk_at "rd"
      refine rd_newT (by simp) fun t H7 _ s7 et _ => ?_
      exact k H7 _ (s23.trans (s36.trans s7)) (.inr ⟨t, l, h, rfl, et, (s36.trans s7) _ _ el3, hm, hb⟩)
    · rw [Bool.not_true]
      walk_at "rd"
      refine ⟨_, _, s3.trans s36, fun i r' h' hi hr' hat => ?_, rfl⟩
      by_cases c : i < j
      · exact hd i r' h' c hr' hat
      · obtain rfl : i = j := by omega
        rw [hr] at hr'
        cases hr'
        obtain ⟨l', g1, g2⟩ := hat
        rw [e1] at g1
        have g1 := HO.tup.inj (Option.some.inj g1)
        simp only [List.cons.injEq, V.ref.injEq, V.int.injEq, and_true] at g1
        obtain ⟨rfl, g3⟩ := g1
        rw [e2] at g2
        have g2 : intV h.1 = intV h'.1 := HO.lst.inj (Option.some.inj g2)
        have : h = h' := Prod.ext (intV_inj g2) g3
        rw [← this]
        exact hb
  · rintro σ H3 ⟨v1, v2, s3, hd, rfl⟩
    walk_at "rd"
    refine k H3 .non (s12.trans s3) (.inl ⟨rfl, ?_⟩)
    unfold losesB
    rw [List.any_eq_false]
    intro h hm
    obtain ⟨r, hr, hat⟩ := bwd h hm
    obtain ⟨i, hi⟩ := List.getElem?_of_mem hr
    have := hd i r h (by rw [List.length_map]; exact (List.getElem?_eq_some_iff.mp hi).1) hi hat
    rw [this]
    simp
theorem cal_spared_by (T : TX K mg C_Evidence C_Good C_Bad C_KeepsAll C_LosesOne C_KeepsLittle C_KeepsMore C_BadDay C_BadPolicy D_PLAIN D_NUMBERED) : Cal P w K mg base 6 "spared_by" (spSpare) [] := by
  obtain ⟨f0, fd, D, dn⟩ := T.d_spared_by
  have G_greatest_in := cal_greatest_in (P := P) (w := w) (base := base) T
  have G_histories := cal_histories (P := P) (w := w) (base := base) T
  have G_case_of := cal_case_of (P := P) (w := w) (base := base) T
  have G_holds := cal_holds (P := P) (w := w) (base := base) T
  refine cal0 D (D.fn.binds dn fun _ _ _ _ _ _ us hl => match us, hl with | [_], _ => rfl) .nil sc_spared_by (by walk_at "len") (fun cdv A outer s H vs Q E hr h => ?_)
  obtain ⟨v, p, rfl, hp, okp, hh, k⟩ := h
  have n12 := numF_le okp
  refine ⟨_, (pss_cons (ps_for PassesOwn.never rfl (pi_list (pe_c G_histories hr (by decide) rfl (pa_cons (pe_c G_greatest_in hr (by decide) rfl (pa_cons (pv 0) pa_nil)) pa_nil))) (pg_tup rfl (pgs_cons (pg_n 1 sc_spared_by.nd) (pgs_cons (pg_n 2 sc_spared_by.nd) pgs_nil))) (pss_one (ps_for PassesOwn.never rfl (pi_tup (pe_tup (pa_cons (pe_lst pa_nil) (pa_cons (pe_lst (pa_cons pe_int pa_nil)) (pa_cons (pe_lst (pa_cons (pe_ix ix_list (pv 1) pe_int (fun _ _ => rfl)) pa_nil)) pa_nil))))) (pg_n 3 sc_spared_by.nd) (pss_one (ps_if (pt_val (pe_c G_holds hr (by decide) rfl (pa_cons (pv 0) (pa_cons (pe_c G_case_of hr (by decide) rfl (pa_cons (pv 1) (pa_cons pe_int (pa_cons (pv 3) (pa_cons (pv 2) pa_nil))))) pa_nil)))) (pss_one (ps_ret (pe_tup (pa_cons (pv 1) (pa_cons (pv 3) (pa_cons (pv 2) pa_nil)))))) pss_nil)))))
      (pss_one (ps_ret pe_non))), ?_⟩
  walk_at "rd"
  refine ⟨v, p, rfl, hp, hh, fun H1 s1 => ?_⟩
  walk_at "rd"
  refine ⟨numF p, rfl, by omega, fun H2 F rs s2 hF eF hl fwd bwd => ?_⟩
  have s12 := s1.trans s2
  walk_at "rd"
  refine rd_lsR (SqL.of eF) ?_
  refine forR_lst (xs := rs.map V.ref) (fun j σ H' => ∃ (v1 v2 v3 : Option V), Same H2 H' ∧ (∀ i r h, i < j → rs[i]? = some r → HisAt H2 r h → ((pins3 h).any fun q => holdsF p (casF h.1 0 q h.2)) = false) ∧ σ = [some v, v1, v2, v3]) (fun j σ H' ⟨_, _, _, s, _⟩ => SqL.of (s _ _ eF)) ⟨_, _, _, Same.refl H2, (fun i r h hi => by omega), rfl⟩ ?_ ?_
  · rintro j y σ H3 hy ⟨v1, v2, v3, s3, hd, rfl⟩
    obtain ⟨r, hr, rfl⟩ : ∃ r, rs[j]? = some r ∧ y = .ref r := by
      rw [List.getElem?_map] at hy
      cases q : rs[j]? with
      | none => rw [q] at hy; cases hy
      | some r => rw [q] at hy; exact ⟨r, rfl, (Option.some.inj hy).symm⟩
    obtain ⟨h, hm, l, e1, e2⟩ := fwd r (List.mem_of_getElem? hr)
    obtain ⟨dok, l1, rr, eh, h2l⟩ := hist_ok (by omega) hm
    have s23 := s12.trans s3
    refine rd_gtup (s3 _ _ e1) rfl ?_
    walk_at "rd"
    have el3 := s3 _ _ e2
    refine rd_newL (by simp) fun a0 H4 _ s4 ea0 _ => ?_
    walk_at "rd"
    refine rd_newL (by simp) fun a1 H5 _ s5 ea1 _ => ?_
    walk_at "rd"
    refine rd_ixL ((s4.trans s5) _ _ el3) (v := .int (h.1.getD 1 0)) (by rw [eh]; exact atI_nat' (i := 1) rfl) ?_
    walk_at "rd"
    refine rd_newL (by simp) fun a2 H6 _ s6 ea2 _ => ?_
    walk_at "rd"
    refine rd_newT (by simp) fun tp H7 _ s7 etp _ => ?_
    have s37 := s4.trans (s5.trans (s6.trans s7))
    refine rd_tpR (SqT.of etp) ?_
    have at7 : ∀ (q : Nat) (y : V), ([V.ref a0, .ref a1, .ref a2] : List V)[q]? = some y → ∃ (a : Addr) (pins : List Int), y = .ref a ∧ (pins3 h)[q]? = some pins ∧ H7 a = some (.lst (intV pins)) ∧ pins.length ≤ 1 := by
      intro q y hq
      have hq3 : q < 3 := (List.getElem?_eq_some_iff.mp hq).1
      match q, hq3, hq with
      | 0, _, hq => cases hq; exact ⟨a0, [], rfl, rfl, (s5.trans (s6.trans s7)) _ _ ea0, by simp⟩
      | 1, _, hq => cases hq; exact ⟨a1, [0], rfl, rfl, (s6.trans s7) _ _ ea1, by simp⟩
      | 2, _, hq => cases hq; exact ⟨a2, [h.1.getD 1 0], rfl, rfl, s7 _ _ ea2, by simp⟩
    refine forR_tup (xs := [.ref a0, .ref a1, .ref a2]) (fun q σ H' => ∃ (v3 : Option V), Same H7 H' ∧ (∀ i pins, i < q → (pins3 h)[i]? = some pins → holdsF p (casF h.1 0 pins h.2) = false) ∧ σ = [some v, some (.ref l), some (.int h.2), v3]) (fun q σ H' ⟨_, s, _⟩ => SqT.of (s _ _ etp)) ⟨_, Same.refl H7, (fun i r hi => by omega), rfl⟩ ?_ ?_
    · rintro q y σ H8 hy2 ⟨v3, s8, hd2, rfl⟩
      obtain ⟨a, pins, rfl, hpq, ea, lp⟩ := at7 q y hy2
      walk_at "rd"
      have s38 := s37.trans s8
      refine ⟨l, a, 0, h.1, pins, h.2, rfl, .inl (s38 _ _ el3), .inl (s8 _ _ ea), by rw [eh]; simp, dok.len, by omega, fun H9 c s9 hc eC => ?_⟩
      walk_at "rd"
      refine ⟨v, c, p, _, rfl, hp.mono (s23.trans (s38.trans s9)), eC, hh, fun H10 s10 => ?_⟩
      refine ⟨_, rfl, ?_⟩
      have s810 := s9.trans s10
      cases hb : holdsF p (casF h.1 0 pins h.2)
      · walk_at "rd"
        refine ⟨_, s8.trans s810, fun i pins' hi hp' => ?_, rfl⟩
        by_cases c : i < q
        · exact hd2 i pins' c hp'
        · obtain rfl : i = q := by omega
          rw [hpq] at hp'
          cases hp'
          exact hb
      · walk_at "rd"
        refine rd_newT (by simp) fun t H11 _ s11 et _ => ?_
        have sA := s38.trans (s810.trans s11)
        exact k H11 _ (s23.trans sA) (.inr ⟨t, l, a, h, pins, rfl, et, sA _ _ el3, (s8.trans (s810.trans s11)) _ _ ea, hm, List.mem_of_getElem? hpq, hb⟩)
    · rintro σ H8 ⟨v3, s8, hd2, rfl⟩
      refine ⟨_, _, _, s3.trans (s37.trans s8), fun i r' h' hi hr' hat => ?_, rfl⟩
      by_cases c : i < j
      · exact hd i r' h' c hr' hat
      · obtain rfl : i = j := by omega
        rw [hr] at hr'
        cases hr'
        obtain ⟨l', g1, g2⟩ := hat
        rw [e1] at g1
        have g1 := HO.tup.inj (Option.some.inj g1)
        simp only [List.cons.injEq, V.ref.injEq, V.int.injEq, and_true] at g1
        obtain ⟨rfl, g3⟩ := g1
        rw [e2] at g2
        have g2 : intV h.1 = intV h'.1 := HO.lst.inj (Option.some.inj g2)
        have : h = h' := Prod.ext (intV_inj g2) g3
        rw [← this, List.any_eq_false]
        intro q hq
        obtain ⟨i3, hi3⟩ := List.getElem?_of_mem hq
        rw [hd2 i3 q ((List.getElem?_eq_some_iff.mp hi3).1) hi3]
        simp
  · rintro σ H3 ⟨v1, v2, v3, s3, hd, rfl⟩
    walk_at "rd"
    refine k H3 .non (s12.trans s3) (.inl ⟨rfl, ?_⟩)
    unfold moreB
    rw [List.any_eq_false]
    intro h hm
    obtain ⟨r, hr, hat⟩ := bwd h hm
    obtain ⟨i, hi⟩ := List.getElem?_of_mem hr
    have := hd i r h (by rw [List.length_map]; exact (List.getElem?_eq_some_iff.mp hi).1) hi hat
    rw [this]
    simp
end
end Sl

set_option Elab.async false
set_option linter.all false
set_option maxRecDepth 100000
set_option maxHeartbeats 8000000
set_option exponentiation.threshold 9000
namespace Sl
open PySem L2 C8 StX Silt
local macro_rules | `(tactic| walk_at "side") => `(tactic| first
  | exact cdivw (by omega) (by omega)
  | exact cmulw (by omega) (by omega) (by omega) (by omega)
  | exact Or.inr ⟨by omega, by omega⟩
  | exact Or.inl ⟨by omega, by omega⟩
  | omega
  | exact ⟨by omega, by omega, by decide⟩
  | decide)
local macro_rules | `(tactic| walk_at "rd1") => `(tactic| first
  | with_reducible refine rd_seq ?_
  | with_reducible refine rd_asg ?_
  | with_reducible refine rd_drop ?_
  | with_reducible refine rd_ret ?_
  | with_reducible refine rd_retN ?_
  | with_reducible refine rd_ifS ?_
  | ((with_reducible refine rd_var0 ?_); refine ⟨_, rfl, ?_⟩)
  | with_reducible refine rd_c ?_
  | with_reducible refine rd_op ?_
  | with_reducible refine rd_un ?_
  | with_reducible refine rd_I0 ?_
  | with_reducible refine rd_U ?_
  | ((with_reducible refine rd_I ?c ?_); (case c => walk_at "side"))
  | with_reducible refine rd_ipI ?_
  | with_reducible refine rd_eqI ?_
  | with_reducible refine rd_neI ?_
  | with_reducible refine rd_test ?_
  | with_reducible refine rd_tB ?_
  | with_reducible refine rd_bl ?_
  | with_reducible refine rd_not ?_
  | with_reducible refine rd_and ?_
  | with_reducible refine rd_or ?_
  | with_reducible refine rd_andV ?_
  | with_reducible refine rd_orV ?_
  | with_reducible refine rd_notV ?_
  | with_reducible refine rd_ifE ?_
  | with_reducible refine rd_chain ?_
  | with_reducible refine rd_chain3 ?_
  | with_reducible refine rd_nil ?_
  | with_reducible refine rd_cons ?_
  | with_reducible refine rd_call ?_
  | with_reducible refine rd_CB ?_
  | with_reducible refine rd_par ?_
  | with_reducible refine rd_par2 ?_
  | with_reducible refine rd_par3 ?_
  | with_reducible refine rd_par4 ?_
  | ((with_reducible refine rd_aug0 ?_); refine ⟨_, rfl, ?_⟩)
  | with_reducible refine rd_gname ?_
  | with_reducible refine rd_gcons ?_
  | with_reducible refine rd_gnil ?_
  | with_reducible refine rd_max ?_
  | with_reducible refine rd_min ?_
  | with_reducible refine rd_int1 ?_
  | with_reducible refine rd_abs ?_
  | with_reducible refine rd_lst ?_
  | with_reducible refine rd_tup ?_
  | with_reducible refine rd_bm ?_
  | with_reducible refine rd_fld0 ?_
  | with_reducible refine rd_sl0 ?_
  | with_reducible refine rd_noP ?_
  | with_reducible refine rd_part ?_
  | with_reducible refine rd_part2 ?_
  | with_reducible refine rd_meth0 ?_
  | with_reducible refine rd_star ?_
  | with_reducible refine rd_for ?_
  | with_reducible refine rd_rng1 ?_
  | with_reducible refine rd_rng2 ?_
  | with_reducible refine rd_rng3 ?_
  | with_reducible refine rd_iList ?_
  | with_reducible refine rd_iTup ?_
  | with_reducible refine rd_iEnum ?_
  | with_reducible refine rd_lc ?_
  | with_reducible refine rd_yes ?_
  | with_reducible refine rd_augS ?_
  | with_reducible refine rd_drawNew ?_
  | with_reducible refine rd_make0 ?_
  | with_reducible refine rd_next ?_
  | with_reducible refine rd_break ?_
  | with_reducible refine rd_cont ?_
  | with_reducible refine rd_iteTT ?_
  | with_reducible refine rd_iteFF ?_
  | with_reducible refine rd_iteNTT ?_
  | with_reducible refine rd_iteNFF ?_
  | with_reducible refine rd_con0 ?_
  | with_reducible refine rd_truO0 ?_
  | with_reducible refine rd_gfld0 ?_
  | with_reducible refine rd_dc ?_
  | with_reducible refine rd_iKeys ?_
  | with_reducible refine rd_dget0 ?_
  | with_reducible refine rd_dput0 ?_
  | with_reducible refine rd_dnot0 ?_
  | with_reducible refine rd_iEnumT ?_
  | with_reducible refine rd_raP0 ?_
  | with_reducible refine rd_xf0 ?_
  | with_reducible refine rd_cKw ?_
  | with_reducible refine rd_iStr ?_
  | with_reducible refine rd_gSub ?_
  | with_reducible refine rd_asgG ?_)
local macro_rules | `(tactic| walk_at "rd") => `(tactic| repeat walk_at "rd1")
local macro_rules | `(tactic| walk_at "len") => `(tactic| first
  | (intro vs H Q E h; obtain ⟨h2, _⟩ := h; rw [h2]; rfl)
  | (intro vs H Q E h; obtain ⟨_, h2, _⟩ := h; rw [h2]; rfl)
  | (intro vs H Q E h; obtain ⟨_, _, h2, _⟩ := h; rw [h2]; rfl)
  | (intro vs H Q E h; obtain ⟨_, _, _, h2, _⟩ := h; rw [h2]; rfl)
  | (intro vs H Q E h; obtain ⟨_, _, _, _, h2, _⟩ := h; rw [h2]; rfl)
  | (intro vs H Q E h; obtain ⟨_, _, _, _, _, h2, _⟩ := h; rw [h2]; rfl)
  | (intro vs H Q E h; obtain ⟨_, _, _, _, _, _, h2, _⟩ := h; rw [h2]; rfl)
  | (intro vs H Q E h; obtain ⟨_, _, _, _, _, _, _, h2, _⟩ := h; rw [h2]; rfl)
  | (intro vs H Q E h; obtain ⟨_, _, _, _, _, _, _, _, h2, _⟩ := h; rw [h2]; rfl)
  | (intro vs H Q E h; obtain ⟨_, _, _, _, _, _, _, _, _, h2, _⟩ := h; rw [h2]; rfl)
  | (intro vs H Q E h; obtain ⟨_, _, _, _, _, _, _, _, _, _, h2, _⟩ := h; rw [h2]; rfl)
  | (intro vs H Q E h; obtain ⟨_, _, _, _, _, _, _, _, _, _, _, h2, _⟩ := h; rw [h2]; rfl)
  | (intro vs H Q E h; obtain ⟨_, _, _, _, _, _, _, _, _, _, _, _, h2, _⟩ := h; rw [h2]; rfl))
local macro_rules | `(tactic| walk_at "rd1") => `(tactic| first
  | with_reducible refine rd_gfld0 ?_)
def KAP (C : Addr) (H : Hp) (x : Addr) (m : Int) : Prop := ∃ dx, H x = some (.ins C dx [("most", .int m)])
def LOP (C : Addr) (H : Hp) (x : Addr) (days : List Int) (pin today : Int) : Prop := ∃ dx l, H x = some (.ins C dx [("days", .ref l), ("pin", .int pin), ("today", .int today)]) ∧ H l = some (.lst (intV days))
def KMP (C : Addr) (H : Hp) (x : Addr) (days pins : List Int) (today : Int) : Prop := ∃ dx l q, H x = some (.ins C dx [("days", .ref l), ("pins", .ref q), ("today", .int today)]) ∧ H l = some (.lst (intV days)) ∧ H q = some (.lst (intV pins))
theorem KAP.mono {C : Addr} {H H' : Hp} {x : Addr} {m : Int} (s : Same H H') (h : KAP C H x m) : KAP C H' x m := by
  obtain ⟨dx, e⟩ := h
  exact ⟨dx, s _ _ e⟩
theorem LOP.mono {C : Addr} {H H' : Hp} {x : Addr} {days : List Int} {pin today : Int} (s : Same H H') (h : LOP C H x days pin today) : LOP C H' x days pin today := by
  obtain ⟨dx, l, e, el⟩ := h
  exact ⟨dx, l, s _ _ e, s _ _ el⟩
theorem KMP.mono {C : Addr} {H H' : Hp} {x : Addr} {days pins : List Int} {today : Int} (s : Same H H') (h : KMP C H x days pins today) : KMP C H' x days pins today := by
  obtain ⟨dx, l, q, e, el, eq⟩ := h
  exact ⟨dx, l, q, s _ _ e, s _ _ el, s _ _ eq⟩
def F1 (a : Str) (x : V) : List (Str × V) := [(a, x)]
def F2 (a b : Str) (x y : V) : List (Str × V) := [(a, x), (b, y)]
def F3 (a b c : Str) (x y z : V) : List (Str × V) := [(a, x), (b, y), (c, z)]
theorem put1 (a : Str) (x : V) : putF a x [] = F1 a x := rfl
theorem put2 {a b : Str} (h : a ≠ b) (x y : V) : putF b y (F1 a x) = F2 a b x y := by
  unfold F1 putF
  rw [if_neg h]
  rfl
theorem put3 {a b c : Str} (h : a ≠ c) (h2 : b ≠ c) (x y z : V) : putF c z (F2 a b x y) = F3 a b c x y z := by
  unfold F2 putF
  rw [if_neg h]
  unfold putF
  rw [if_neg h2]
  rfl
def spKInit (C : Addr) : Sp := fun vs H Q _ => ∃ (self dx : Addr) (H0 : Hp) (m : Int), vs = [.ref self, .int m] ∧ Same H0 H ∧ H0 self = none ∧ H self = some (.ins C dx []) ∧ ∀ H', Same H0 H' → KAP C H' self m → Q .non H'
def spLOInit (C : Addr) : Sp := fun vs H Q _ => ∃ (self dx l : Addr) (H0 : Hp) (days : List Int) (pin today : Int), vs = [.ref self, .ref l, .int pin, .int today] ∧ Same H0 H ∧ H0 self = none ∧ H self = some (.ins C dx []) ∧ H0 l = some (.lst (intV days)) ∧ ∀ H', Same H0 H' → LOP C H' self days pin today → Q .non H'
def spKMInit (C : Addr) : Sp := fun vs H Q _ => ∃ (self dx l q : Addr) (H0 : Hp) (days pins : List Int) (today : Int), vs = [.ref self, .ref l, .ref q, .int today] ∧ Same H0 H ∧ H0 self = none ∧ H self = some (.ins C dx []) ∧ H0 l = some (.lst (intV days)) ∧ H0 q = some (.lst (intV pins)) ∧ ∀ H', Same H0 H' → KMP C H' self days pins today → Q .non H'
def spTrueS : Sp := fun vs H Q _ => ∃ (a : Addr), vs = [.ref a] ∧ Q (.bl true) H
def spFalseS : Sp := fun vs H Q _ => ∃ (a : Addr), vs = [.ref a] ∧ Q (.bl false) H
theorem rd_lstL {K : PySem.W.Frag} {H : Hp} {Q : VK} {a : Addr} {xs : List V} (e : H a = some (.lst xs)) (h : ∀ p H', H p = none → Same H H' → H' p = some (.lst xs) → Q (.ref p) H') : rLstOf K [.ref a] H Q :=
  ⟨a, xs, rfl, .inl (SqL.of e), fun p hp => h p _ hp (Same.new (Same.refl H) hp) upd_same⟩
section
variable {P : Program} {w : World} {K : PySem.W.Frag} {mg : Str → Option Value} {base : Heap} {C_Evidence C_Good C_Bad C_KeepsAll C_LosesOne C_KeepsLittle C_KeepsMore C_BadDay C_BadPolicy D_PLAIN D_NUMBERED : Addr}
theorem mak_KeepsAll_init (T : TX K mg C_Evidence C_Good C_Bad C_KeepsAll C_LosesOne C_KeepsLittle C_KeepsMore C_BadDay C_BadPolicy D_PLAIN D_NUMBERED) : Mak P w K mg base 1 "KeepsAll" C_KeepsAll (spKInit C_KeepsAll) [] := by
  obtain ⟨f0, fd, D, dn, mk⟩ := T.m_KeepsAll_init
  refine mak0 mk T.mg_KeepsAll D (D.binds dn fun _ _ _ _ _ _ us hl => match us, hl with | [_, _], _ => rfl) .nil sc_KeepsAll_init (by walk_at "len") (fun cdv A outer s H vs Q E hr h => ?_)
  obtain ⟨self, dx, H0, m, rfl, s0, h0, eS, k⟩ := h
  refine ⟨_, (pss_one (ps_asg (pv 1) (pg_attr (pv 0)))), ?_⟩
  walk_at "rd"
  refine rd_gfld eS T.cl_KeepsAll T.na_KeepsAll_most (by decide) fun H1 e1 e1' => ?_
  rw [put1] at e1 e1'
  walk_at "rd"
  exact k H1 (by rw [e1]; exact Same.mut s0 h0) ⟨dx, e1'⟩
theorem mak_KeepsLittle_init (T : TX K mg C_Evidence C_Good C_Bad C_KeepsAll C_LosesOne C_KeepsLittle C_KeepsMore C_BadDay C_BadPolicy D_PLAIN D_NUMBERED) : Mak P w K mg base 1 "KeepsLittle" C_KeepsLittle (spKInit C_KeepsLittle) [] := by
  obtain ⟨f0, fd, D, dn, mk⟩ := T.m_KeepsLittle_init
  refine mak0 mk T.mg_KeepsLittle D (D.binds dn fun _ _ _ _ _ _ us hl => match us, hl with | [_, _], _ => rfl) .nil sc_KeepsLittle_init (by walk_at "len") (fun cdv A outer s H vs Q E hr h => ?_)
  obtain ⟨self, dx, H0, m, rfl, s0, h0, eS, k⟩ := h
  refine ⟨_, (pss_one (ps_asg (pv 1) (pg_attr (pv 0)))), ?_⟩
  walk_at "rd"
  refine rd_gfld eS T.cl_KeepsLittle T.na_KeepsLittle_most (by decide) fun H1 e1 e1' => ?_
  rw [put1] at e1 e1'
  walk_at "rd"
  exact k H1 (by rw [e1]; exact Same.mut s0 h0) ⟨dx, e1'⟩
theorem mak_LosesOne_init (T : TX K mg C_Evidence C_Good C_Bad C_KeepsAll C_LosesOne C_KeepsLittle C_KeepsMore C_BadDay C_BadPolicy D_PLAIN D_NUMBERED) : Mak P w K mg base 1 "LosesOne" C_LosesOne (spLOInit C_LosesOne) [] := by
  obtain ⟨f0, fd, D, dn, mk⟩ := T.m_LosesOne_init
  refine mak0 mk T.mg_LosesOne D (D.binds dn fun _ _ _ _ _ _ us hl => match us, hl with | [_, _, _, _], _ => rfl) .nil sc_LosesOne_init (by walk_at "len") (fun cdv A outer s H vs Q E hr h => ?_)
  obtain ⟨self, dx, l, H0, days, pin, today, rfl, s0, h0, eS, el, k⟩ := h
  refine ⟨_, (pss_cons (ps_asg (pe_callTy cr_lstOf (by rfl) T.b_list (by decide +kernel) (pa_cons (pv 1) pa_nil)) (pg_attr (pv 0)))
      (pss_cons (ps_asg (pv 2) (pg_attr (pv 0)))
      (pss_one (ps_asg (pv 3) (pg_attr (pv 0)))))), ?_⟩
  walk_at "rd"
  refine rd_lstL (s0 _ _ el) fun W Ha hW sa eW => ?_
  have hWS : W ≠ self := fun z => by rw [z, eS] at hW; cases hW
  walk_at "rd"
  refine rd_gfld (sa _ _ eS) T.cl_LosesOne T.na_LosesOne_days (by decide) fun H1 e1 e1' => ?_
  rw [put1] at e1 e1'
  walk_at "rd"
  refine rd_gfld e1' T.cl_LosesOne T.na_LosesOne_pin (Nat.lt_of_le_of_lt (Nat.le_refl 1) (by decide)) fun H2 e2 e2' => ?_
  rw [put2 (by decide +kernel)] at e2 e2'
  walk_at "rd"
  refine rd_gfld e2' T.cl_LosesOne T.na_LosesOne_today (Nat.lt_of_le_of_lt (Nat.le_refl 2) (by decide)) fun H3 e3 e3' => ?_
  rw [put3 (by decide +kernel) (by decide +kernel)] at e3 e3'
  walk_at "rd"
  have s3 : Same H0 H3 := by
    rw [e3]
    refine Same.mut ?_ h0
    rw [e2]
    refine Same.mut ?_ h0
    rw [e1]
    exact Same.mut (s0.trans sa) h0
  exact k H3 s3 ⟨dx, W, e3', by rw [e3, upd_ne hWS, e2, upd_ne hWS, e1, upd_ne hWS]; exact eW⟩
theorem mak_KeepsMore_init (T : TX K mg C_Evidence C_Good C_Bad C_KeepsAll C_LosesOne C_KeepsLittle C_KeepsMore C_BadDay C_BadPolicy D_PLAIN D_NUMBERED) : Mak P w K mg base 1 "KeepsMore" C_KeepsMore (spKMInit C_KeepsMore) [] := by
  obtain ⟨f0, fd, D, dn, mk⟩ := T.m_KeepsMore_init
  refine mak0 mk T.mg_KeepsMore D (D.binds dn fun _ _ _ _ _ _ us hl => match us, hl with | [_, _, _, _], _ => rfl) .nil sc_KeepsMore_init (by walk_at "len") (fun cdv A outer s H vs Q E hr h => ?_)
  obtain ⟨self, dx, l, q, H0, days, pins, today, rfl, s0, h0, eS, el, eq, k⟩ := h
  refine ⟨_, (pss_cons (ps_asg (pe_callTy cr_lstOf (by rfl) T.b_list (by decide +kernel) (pa_cons (pv 1) pa_nil)) (pg_attr (pv 0)))
      (pss_cons (ps_asg (pe_callTy cr_lstOf (by rfl) T.b_list (by decide +kernel) (pa_cons (pv 2) pa_nil)) (pg_attr (pv 0)))
      (pss_one (ps_asg (pv 3) (pg_attr (pv 0)))))), ?_⟩
  walk_at "rd"
  refine rd_lstL (s0 _ _ el) fun W Ha hW sa eW => ?_
  have hWS : W ≠ self := fun z => by rw [z, eS] at hW; cases hW
  walk_at "rd"
  refine rd_gfld (sa _ _ eS) T.cl_KeepsMore T.na_KeepsMore_days (by decide) fun H1 e1 e1' => ?_
  rw [put1] at e1 e1'
  walk_at "rd"
  have hqS : q ≠ self := fun z => by rw [z, h0] at eq; cases eq
  have eq1 : H1 q = some (.lst (intV pins)) := by rw [e1, upd_ne hqS]; exact (s0.trans sa) _ _ eq
  refine rd_lstL eq1 fun W2 Hb hW2 sb eW2 => ?_
  have hWS2 : W2 ≠ self := fun z => by rw [z, e1'] at hW2; cases hW2
  walk_at "rd"
  refine rd_gfld (sb _ _ e1') T.cl_KeepsMore T.na_KeepsMore_pins (Nat.lt_of_le_of_lt (Nat.le_refl 1) (by decide)) fun H2 e2 e2' => ?_
  rw [put2 (by decide +kernel)] at e2 e2'
  walk_at "rd"
  refine rd_gfld e2' T.cl_KeepsMore T.na_KeepsMore_today (Nat.lt_of_le_of_lt (Nat.le_refl 2) (by decide)) fun H3 e3 e3' => ?_
  rw [put3 (by decide +kernel) (by decide +kernel)] at e3 e3'
  walk_at "rd"
  have s1 : Same H0 H1 := by rw [e1]; exact Same.mut (s0.trans sa) h0
  have s3 : Same H0 H3 := by
    rw [e3]
    refine Same.mut ?_ h0
    rw [e2]
    exact Same.mut (s1.trans sb) h0
  have eW1 : H1 W = some (.lst (intV days)) := by rw [e1, upd_ne hWS]; exact eW
  exact k H3 s3 ⟨dx, W, W2, e3', by rw [e3, upd_ne hWS, e2, upd_ne hWS]; exact sb _ _ eW1, by rw [e3, upd_ne hWS2, e2, upd_ne hWS2]; exact eW2⟩
theorem met_KeepsAll_bool (T : TX K mg C_Evidence C_Good C_Bad C_KeepsAll C_LosesOne C_KeepsLittle C_KeepsMore C_BadDay C_BadPolicy D_PLAIN D_NUMBERED) : Met P w K mg base 1 C_KeepsAll "__bool__" spTrueS [] := by
  obtain ⟨f0, fd, D, dn, me, _⟩ := T.m_KeepsAll_bool
  refine met0 T.cl_KeepsAll me D (D.binds dn fun _ _ _ _ _ _ us hl => match us, hl with | [_], _ => rfl) sc_Good_bool (by walk_at "len") (fun cdv A outer s H vs Q E hr h => ?_)
  obtain ⟨a, rfl, k⟩ := h
  refine ⟨_, (pss_one (ps_ret pe_bl)), ?_⟩
  walk_at "rd"
  exact k
theorem met_LosesOne_bool (T : TX K mg C_Evidence C_Good C_Bad C_KeepsAll C_LosesOne C_KeepsLittle C_KeepsMore C_BadDay C_BadPolicy D_PLAIN D_NUMBERED) : Met P w K mg base 1 C_LosesOne "__bool__" spFalseS [] := by
  obtain ⟨f0, fd, D, dn, me, _⟩ := T.m_LosesOne_bool
  refine met0 T.cl_LosesOne me D (D.binds dn fun _ _ _ _ _ _ us hl => match us, hl with | [_], _ => rfl) sc_Bad_bool (by walk_at "len") (fun cdv A outer s H vs Q E hr h => ?_)
  obtain ⟨a, rfl, k⟩ := h
  refine ⟨_, (pss_one (ps_ret pe_bl)), ?_⟩
  walk_at "rd"
  exact k
theorem met_KeepsLittle_bool (T : TX K mg C_Evidence C_Good C_Bad C_KeepsAll C_LosesOne C_KeepsLittle C_KeepsMore C_BadDay C_BadPolicy D_PLAIN D_NUMBERED) : Met P w K mg base 1 C_KeepsLittle "__bool__" spTrueS [] := by
  obtain ⟨f0, fd, D, dn, me, _⟩ := T.m_KeepsLittle_bool
  refine met0 T.cl_KeepsLittle me D (D.binds dn fun _ _ _ _ _ _ us hl => match us, hl with | [_], _ => rfl) sc_Good_bool (by walk_at "len") (fun cdv A outer s H vs Q E hr h => ?_)
  obtain ⟨a, rfl, k⟩ := h
  refine ⟨_, (pss_one (ps_ret pe_bl)), ?_⟩
  walk_at "rd"
  exact k
theorem met_KeepsMore_bool (T : TX K mg C_Evidence C_Good C_Bad C_KeepsAll C_LosesOne C_KeepsLittle C_KeepsMore C_BadDay C_BadPolicy D_PLAIN D_NUMBERED) : Met P w K mg base 1 C_KeepsMore "__bool__" spFalseS [] := by
  obtain ⟨f0, fd, D, dn, me, _⟩ := T.m_KeepsMore_bool
  refine met0 T.cl_KeepsMore me D (D.binds dn fun _ _ _ _ _ _ us hl => match us, hl with | [_], _ => rfl) sc_Bad_bool (by walk_at "len") (fun cdv A outer s H vs Q E hr h => ?_)
  obtain ⟨a, rfl, k⟩ := h
  refine ⟨_, (pss_one (ps_ret pe_bl)), ?_⟩
  walk_at "rd"
  exact k
end
end Sl

set_option Elab.async false
set_option linter.all false
set_option maxRecDepth 100000
set_option maxHeartbeats 8000000
set_option exponentiation.threshold 9000
namespace Sl
open PySem L2 C8 StX Silt
local macro_rules | `(tactic| walk_at "side") => `(tactic| first
  | exact cdivw (by omega) (by omega)
  | exact cmulw (by omega) (by omega) (by omega) (by omega)
  | exact Or.inr ⟨by omega, by omega⟩
  | exact Or.inl ⟨by omega, by omega⟩
  | omega
  | exact ⟨by omega, by omega, by decide⟩
  | decide)
local macro_rules | `(tactic| walk_at "rd1") => `(tactic| first
  | with_reducible refine rd_seq ?_
  | with_reducible refine rd_asg ?_
  | with_reducible refine rd_drop ?_
  | with_reducible refine rd_ret ?_
  | with_reducible refine rd_retN ?_
  | with_reducible refine rd_ifS ?_
  | ((with_reducible refine rd_var0 ?_); refine ⟨_, rfl, ?_⟩)
  | with_reducible refine rd_c ?_
  | with_reducible refine rd_op ?_
  | with_reducible refine rd_un ?_
  | with_reducible refine rd_I0 ?_
  | with_reducible refine rd_U ?_
  | ((with_reducible refine rd_I ?c ?_); (case c => walk_at "side"))
  | with_reducible refine rd_ipI ?_
  | with_reducible refine rd_eqI ?_
  | with_reducible refine rd_neI ?_
  | with_reducible refine rd_test ?_
  | with_reducible refine rd_tB ?_
  | with_reducible refine rd_bl ?_
  | with_reducible refine rd_not ?_
  | with_reducible refine rd_and ?_
  | with_reducible refine rd_or ?_
  | with_reducible refine rd_andV ?_
  | with_reducible refine rd_orV ?_
  | with_reducible refine rd_notV ?_
  | with_reducible refine rd_ifE ?_
  | with_reducible refine rd_chain ?_
  | with_reducible refine rd_chain3 ?_
  | with_reducible refine rd_nil ?_
  | with_reducible refine rd_cons ?_
  | with_reducible refine rd_call ?_
  | with_reducible refine rd_CB ?_
  | with_reducible refine rd_par ?_
  | with_reducible refine rd_par2 ?_
  | with_reducible refine rd_par3 ?_
  | with_reducible refine rd_par4 ?_
  | ((with_reducible refine rd_aug0 ?_); refine ⟨_, rfl, ?_⟩)
  | with_reducible refine rd_gname ?_
  | with_reducible refine rd_gcons ?_
  | with_reducible refine rd_gnil ?_
  | with_reducible refine rd_max ?_
  | with_reducible refine rd_min ?_
  | with_reducible refine rd_int1 ?_
  | with_reducible refine rd_abs ?_
  | with_reducible refine rd_lst ?_
  | with_reducible refine rd_tup ?_
  | with_reducible refine rd_bm ?_
  | with_reducible refine rd_fld0 ?_
  | with_reducible refine rd_sl0 ?_
  | with_reducible refine rd_noP ?_
  | with_reducible refine rd_part ?_
  | with_reducible refine rd_part2 ?_
  | with_reducible refine rd_meth0 ?_
  | with_reducible refine rd_star ?_
  | with_reducible refine rd_for ?_
  | with_reducible refine rd_rng1 ?_
  | with_reducible refine rd_rng2 ?_
  | with_reducible refine rd_rng3 ?_
  | with_reducible refine rd_iList ?_
  | with_reducible refine rd_iTup ?_
  | with_reducible refine rd_iEnum ?_
  | with_reducible refine rd_lc ?_
  | with_reducible refine rd_yes ?_
  | with_reducible refine rd_augS ?_
  | with_reducible refine rd_drawNew ?_
  | with_reducible refine rd_make0 ?_
  | with_reducible refine rd_next ?_
  | with_reducible refine rd_break ?_
  | with_reducible refine rd_cont ?_
  | with_reducible refine rd_iteTT ?_
  | with_reducible refine rd_iteFF ?_
  | with_reducible refine rd_iteNTT ?_
  | with_reducible refine rd_iteNFF ?_
  | with_reducible refine rd_con0 ?_
  | with_reducible refine rd_truO0 ?_
  | with_reducible refine rd_gfld0 ?_
  | with_reducible refine rd_dc ?_
  | with_reducible refine rd_iKeys ?_
  | with_reducible refine rd_dget0 ?_
  | with_reducible refine rd_dput0 ?_
  | with_reducible refine rd_dnot0 ?_
  | with_reducible refine rd_iEnumT ?_
  | with_reducible refine rd_raP0 ?_
  | with_reducible refine rd_xf0 ?_
  | with_reducible refine rd_cKw ?_
  | with_reducible refine rd_iStr ?_
  | with_reducible refine rd_gSub ?_
  | with_reducible refine rd_asgG ?_)
local macro_rules | `(tactic| walk_at "rd") => `(tactic| repeat walk_at "rd1")
local macro_rules | `(tactic| walk_at "len") => `(tactic| first
  | (intro vs H Q E h; obtain ⟨h2, _⟩ := h; rw [h2]; rfl)
  | (intro vs H Q E h; obtain ⟨_, h2, _⟩ := h; rw [h2]; rfl)
  | (intro vs H Q E h; obtain ⟨_, _, h2, _⟩ := h; rw [h2]; rfl)
  | (intro vs H Q E h; obtain ⟨_, _, _, h2, _⟩ := h; rw [h2]; rfl)
  | (intro vs H Q E h; obtain ⟨_, _, _, _, h2, _⟩ := h; rw [h2]; rfl)
  | (intro vs H Q E h; obtain ⟨_, _, _, _, _, h2, _⟩ := h; rw [h2]; rfl)
  | (intro vs H Q E h; obtain ⟨_, _, _, _, _, _, h2, _⟩ := h; rw [h2]; rfl)
  | (intro vs H Q E h; obtain ⟨_, _, _, _, _, _, _, h2, _⟩ := h; rw [h2]; rfl)
  | (intro vs H Q E h; obtain ⟨_, _, _, _, _, _, _, _, h2, _⟩ := h; rw [h2]; rfl)
  | (intro vs H Q E h; obtain ⟨_, _, _, _, _, _, _, _, _, h2, _⟩ := h; rw [h2]; rfl)
  | (intro vs H Q E h; obtain ⟨_, _, _, _, _, _, _, _, _, _, h2, _⟩ := h; rw [h2]; rfl)
  | (intro vs H Q E h; obtain ⟨_, _, _, _, _, _, _, _, _, _, _, h2, _⟩ := h; rw [h2]; rfl)
  | (intro vs H Q E h; obtain ⟨_, _, _, _, _, _, _, _, _, _, _, _, h2, _⟩ := h; rw [h2]; rfl))
theorem inV_int {d : Int} : ∀ {l : List Int}, inV (.int d) (intV l) = decide (d ∈ l)
  | [] => rfl
  | m :: l => by
    have ih := inV_int (d := d) (l := l)
    have : inV (.int d) (intV (m :: l)) = (eqV (.int m) (.int d) || inV (.int d) (intV l)) := rfl
    rw [this, ih, Bool.eq_iff_iff, Bool.or_eq_true, decide_eq_true_iff, decide_eq_true_iff, List.mem_cons]
    have : eqV (.int m) (.int d) = true ↔ d = m := by
      simp [eqV]
      omega
    rw [this]
theorem flat_int (l : List Int) : (intV l).all flatV = true := by
  rw [List.all_eq_true]
  intro v hv
  obtain ⟨n, _, rfl⟩ := List.mem_map.mp hv
  rfl
theorem rd_inL {K : PySem.W.Frag} {a : Addr} {l : List Int} {d : Int} {H : Hp} {Q : VK} (e : H a = some (.lst (intV l))) (h : Q (.bl (decide (d ∈ l))) H) : rIn K false (.int d) (.ref a) H Q := by
  refine ⟨a, _, rfl, .inl (SqL.of e), rfl, flat_int l, ?_⟩
  rw [inV_int, if_neg Bool.false_ne_true]
  exact h
theorem keptF_len (p : Pol) (days pins : List Int) (today : Int) : (keptF p days pins today).length ≤ days.length := by
  have h := keptI_len p days pins today (days.length - 1)
  unfold keptF
  rw [List.length_append, List.length_drop]
  omega
def spKAShows (C : Addr) : Sp := fun vs H Q _ => ∃ (x : Addr) (v : V) (p : Pol) (m : Int), vs = [.ref x, v] ∧ KAP C H x m ∧ PolP H v p ∧ okP p ∧ hgt p < 4 ∧ ∀ H', Same H H' → Q (.bl (decide (m = (numF p : Int)) && !losesB p)) H'
def spKLShows (C : Addr) : Sp := fun vs H Q _ => ∃ (x : Addr) (v : V) (p : Pol) (m : Int), vs = [.ref x, v] ∧ KAP C H x m ∧ PolP H v p ∧ okP p ∧ hgt p < 4 ∧ ∀ H', Same H H' → Q (.bl (decide (m = (numF p : Int)) && !moreB p)) H'
def spLOShows (C : Addr) : Sp := fun vs H Q _ => ∃ (x : Addr) (v : V) (p : Pol) (days : List Int) (pin today : Int), vs = [.ref x, v] ∧ LOP C H x days pin today ∧ PolP H v p ∧ okP p ∧ hgt p < 4 ∧ DaysOk days today ∧ 0 ≤ pin ∧ ∀ H', Same H H' → Q (.bl (showsLO p days pin today)) H'
def spKMShows (C : Addr) : Sp := fun vs H Q _ => ∃ (x : Addr) (v : V) (p : Pol) (days pins : List Int) (today : Int), vs = [.ref x, v] ∧ KMP C H x days pins today ∧ PolP H v p ∧ okP p ∧ hgt p < 4 ∧ DaysOk days today ∧ pins.length ≤ 1000 ∧ (∀ q ∈ pins, 0 ≤ q) ∧ ∀ H', Same H H' → Q (.bl (showsKM p days pins today)) H'
section
variable {P : Program} {w : World} {K : PySem.W.Frag} {mg : Str → Option Value} {base : Heap} {C_Evidence C_Good C_Bad C_KeepsAll C_LosesOne C_KeepsLittle C_KeepsMore C_BadDay C_BadPolicy D_PLAIN D_NUMBERED : Addr}
theorem met_KeepsAll_shows (T : TX K mg C_Evidence C_Good C_Bad C_KeepsAll C_LosesOne C_KeepsLittle C_KeepsMore C_BadDay C_BadPolicy D_PLAIN D_NUMBERED) : Met P w K mg base 9 C_KeepsAll "shows" (spKAShows C_KeepsAll) [] := by
  obtain ⟨f0, fd, D, dn, me, _⟩ := T.m_KeepsAll_shows
  have G_check_policy := cal_check_policy (P := P) (w := w) (base := base) T
  have G_lost_by := cal_lost_by (P := P) (w := w) (base := base) T
  have G_greatest_in := cal_greatest_in (P := P) (w := w) (base := base) T
  refine met0 T.cl_KeepsAll me D (D.binds dn fun _ _ _ _ _ _ us hl => match us, hl with | [_, _], _ => rfl) sc_KeepsAll_shows (by walk_at "len") (fun cdv A outer s H vs Q E hr h => ?_)
  obtain ⟨x, v, p, m, rfl, ⟨dx, ex⟩, hp, okp, hh, k⟩ := h
  refine ⟨_, (pss_cons (ps_expr (pe_c G_check_policy hr (by decide) rfl (pa_cons (pv 1) pa_nil)))
      (pss_one (ps_ret (pe_and (pe_cmpR op_eq (pe_fld (pv 0) rfl) (pe_c G_greatest_in hr (by decide) rfl (pa_cons (pv 1) pa_nil)) (nomark _)) (pe_one (pe_cmpR op_isNn (pe_c G_lost_by hr (by decide) rfl (pa_cons (pv 1) pa_nil)) pe_non (nomark _))))))), ?_⟩
  walk_at "rd"
  refine ⟨v, p, rfl, hp, okp, hh, fun H1 s1 => ?_⟩
  walk_at "rd"
  refine rd_fld (s1 _ _ ex) T.cl_KeepsAll T.na_KeepsAll_most rfl ?_
  walk_at "rd"
  refine ⟨v, p, rfl, hp.mono s1, hh, fun H2 s2 => ?_⟩
  have s12 := s1.trans s2
  walk_at "rd"
  by_cases c : m = (numF p : Int)
  · rw [decide_eq_true c] at k ⊢
    walk_at "rd"
    refine ⟨v, p, rfl, hp.mono s12, okp, hh, fun H3 w s3 hw => ?_⟩
    walk_at "rd"
    refine rd_isN0 ?_
    rw [hw.loses]
    exact k H3 (s12.trans s3)
  · rw [decide_eq_false c] at k ⊢
    walk_at "rd"
    exact k H2 s12
theorem met_KeepsLittle_shows (T : TX K mg C_Evidence C_Good C_Bad C_KeepsAll C_LosesOne C_KeepsLittle C_KeepsMore C_BadDay C_BadPolicy D_PLAIN D_NUMBERED) : Met P w K mg base 9 C_KeepsLittle "shows" (spKLShows C_KeepsLittle) [] := by
  obtain ⟨f0, fd, D, dn, me, _⟩ := T.m_KeepsLittle_shows
  have G_check_policy := cal_check_policy (P := P) (w := w) (base := base) T
  have G_spared_by := cal_spared_by (P := P) (w := w) (base := base) T
  have G_greatest_in := cal_greatest_in (P := P) (w := w) (base := base) T
  refine met0 T.cl_KeepsLittle me D (D.binds dn fun _ _ _ _ _ _ us hl => match us, hl with | [_, _], _ => rfl) sc_KeepsLittle_shows (by walk_at "len") (fun cdv A outer s H vs Q E hr h => ?_)
  obtain ⟨x, v, p, m, rfl, ⟨dx, ex⟩, hp, okp, hh, k⟩ := h
  refine ⟨_, (pss_cons (ps_expr (pe_c G_check_policy hr (by decide) rfl (pa_cons (pv 1) pa_nil)))
      (pss_one (ps_ret (pe_and (pe_cmpR op_eq (pe_fld (pv 0) rfl) (pe_c G_greatest_in hr (by decide) rfl (pa_cons (pv 1) pa_nil)) (nomark _)) (pe_one (pe_cmpR op_isNn (pe_c G_spared_by hr (by decide) rfl (pa_cons (pv 1) pa_nil)) pe_non (nomark _))))))), ?_⟩
  walk_at "rd"
  refine ⟨v, p, rfl, hp, okp, hh, fun H1 s1 => ?_⟩
  walk_at "rd"
  refine rd_fld (s1 _ _ ex) T.cl_KeepsLittle T.na_KeepsLittle_most rfl ?_
  walk_at "rd"
  refine ⟨v, p, rfl, hp.mono s1, hh, fun H2 s2 => ?_⟩
  have s12 := s1.trans s2
  walk_at "rd"
  by_cases c : m = (numF p : Int)
  · rw [decide_eq_true c] at k ⊢
    walk_at "rd"
    refine ⟨v, p, rfl, hp.mono s12, okp, hh, fun H3 w s3 hw => ?_⟩
    walk_at "rd"
    refine rd_isN0 ?_
    rw [hw.more]
    exact k H3 (s12.trans s3)
  · rw [decide_eq_false c] at k ⊢
    walk_at "rd"
    exact k H2 s12
theorem met_LosesOne_shows (T : TX K mg C_Evidence C_Good C_Bad C_KeepsAll C_LosesOne C_KeepsLittle C_KeepsMore C_BadDay C_BadPolicy D_PLAIN D_NUMBERED) : Met P w K mg base 11 C_LosesOne "shows" (spLOShows C_LosesOne) [] := by
  obtain ⟨f0, fd, D, dn, me, _⟩ := T.m_LosesOne_shows
  have G_check_policy := cal_check_policy (P := P) (w := w) (base := base) T
  have G_check_pins := cal_check_pins (P := P) (w := w) (base := base) T
  have G_kept_days := cal_kept_days (P := P) (w := w) (base := base) T
  have G_needed_days := cal_needed_days (P := P) (w := w) (base := base) T
  refine met0 T.cl_LosesOne me D (D.binds dn fun _ _ _ _ _ _ us hl => match us, hl with | [_, _], _ => rfl) sc_LosesOne_shows (by walk_at "len") (fun cdv A outer s H vs Q E hr h => ?_)
  obtain ⟨x, v, p, days, pin, today, rfl, ⟨dx, l, ex, el⟩, hp, okp, hh, dok, hpin, k⟩ := h
  refine ⟨_, (pss_cons (ps_expr (pe_c G_check_policy hr (by decide) rfl (pa_cons (pv 1) pa_nil)))
      (pss_cons (ps_tryO rfl rfl ⟨rfl, by decide, .inl T.mg_BadDay⟩ takesN (fun W pn xe tk => (pss_cons (ps_expr (pe_c G_check_pins hr (by decide) rfl (pa_cons (pe_lst (pa_cons (pe_fldK K (pe_fld (pv 0) rfl)) pa_nil)) pa_nil)))
      (pss_one (ps_s 2 sc_LosesOne_shows.nd (pe_c G_kept_days hr (by decide) rfl (pa_cons (pv 1) (pa_cons (pe_fldK K (pe_fld (pv 0) rfl)) (pa_cons (pe_lst (pa_cons (pe_fldK K (pe_fld (pv 0) rfl)) pa_nil)) (pa_cons (pe_fldK K (pe_fld (pv 0) rfl)) pa_nil))))))))) (fun a oe cls d pn => (pss_one (ps_ret pe_bl))))
      (pss_one (ps_ret (pe_not (pe_callB (cr_all rfl) (by rfl) T.b_all (by decide +kernel) (pa_cons (pe_lc (own := [("day", 3)]) (g := gName 3) (tt := tYes) rfl sc_LosesOne_shows.nd (pi_list (pe_c G_needed_days hr (by decide) rfl (pa_cons (pe_fld (pv 0) rfl) (pa_cons (pe_lst (pa_cons (pe_fld (pv 0) rfl) pa_nil)) (pa_cons (pe_fld (pv 0) rfl) pa_nil))))) (blkOk_by (own := [("day", 3)]) (N := N_LosesOne_shows) (sc := fnScope s_LosesOne_shows) (by decide +kernel)) (fun _ _ _ _ _ => (pg_n 3 sc_LosesOne_shows.nd)) (fun _ _ _ _ _ => pts_nil) (fun _ _ _ _ _ => (pe_cmpR (opK (fun K => rIn K false) K op_in_seq) (pv 3) (pv 2) (by with_unfolding_all rfl)))) pa_nil))))))), ?_⟩
  walk_at "rd"
  refine ⟨v, p, rfl, hp, okp, hh, fun H1 s1 => ?_⟩
  walk_at "rd"
  refine rd_try ?_
  walk_at "rd"
  have ex1 := s1 _ _ ex
  have el1 := s1 _ _ el
  have pin1 : ∀ q ∈ [pin], 0 ≤ q := fun q hq => by rw [List.mem_singleton.mp hq]; exact hpin
  refine rd_fld ex1 T.cl_LosesOne T.na_LosesOne_pin rfl ?_
  walk_at "rd"
  refine rd_newL (by simp) fun a1 H2 _ s2 ea1 _ => ?_
  walk_at "rd"
  refine ⟨a1, [pin], rfl, .inl ea1, by simp, pin1, fun H3 s3 => ?_⟩
  have s13 := s2.trans s3
  walk_at "rd"
  refine rd_fld (s13 _ _ ex1) T.cl_LosesOne T.na_LosesOne_days rfl ?_
  walk_at "rd"
  refine rd_fld (s13 _ _ ex1) T.cl_LosesOne T.na_LosesOne_pin rfl ?_
  walk_at "rd"
  refine rd_newL (by simp) fun a2 H4 _ s4 ea2 _ => ?_
  have s14 := s13.trans s4
  walk_at "rd"
  refine rd_fld (s14 _ _ ex1) T.cl_LosesOne T.na_LosesOne_today rfl ?_
  walk_at "rd"
  refine ⟨v, p, l, a2, days, [pin], today, rfl, hp.mono (s1.trans s14), okp, hh, .inl (s14 _ _ el1), .inl ea2, dok, by simp, pin1, fun H5 F s5 hF eF => ?_⟩
  have s15 := s14.trans s5
  walk_at "rd"
  refine rd_fld (s15 _ _ ex1) T.cl_LosesOne T.na_LosesOne_days rfl ?_
  walk_at "rd"
  refine rd_fld (s15 _ _ ex1) T.cl_LosesOne T.na_LosesOne_pin rfl ?_
  walk_at "rd"
  refine rd_newL (by simp) fun a3 H6 _ s6 ea3 _ => ?_
  have s16 := s15.trans s6
  walk_at "rd"
  refine rd_fld (s16 _ _ ex1) T.cl_LosesOne T.na_LosesOne_today rfl ?_
  walk_at "rd"
  refine ⟨l, a3, days, [pin], today, rfl, .inl (s16 _ _ el1), .inl ea3, dok, by simp, pin1, fun H7 G s7 hG eG => ?_⟩
  have s17 := s16.trans s7
  walk_at "rd"
  have gl := keptF_len .pinned days [pin] today
  have dl := dok.len
  refine rd_lsR (SqL.of eG) ?_
  refine lcR_lst (xs := intV (keptF .pinned days [pin] today)) (fun W i H' => Same H7 H' ∧ H' W = some (.lst ((((keptF .pinned days [pin] today).take i).map fun d => decide (d ∈ keptF p days [pin] today)).map V.bl))) (fun W i H' _ ⟨s, _⟩ => SqL.of (s _ _ eG)) (fun W H' _ s e _ => ⟨s, e⟩) ?_ ?_
  · rintro W i y H8 hW hy ⟨s8, eW⟩
    have hi := (List.getElem?_eq_some_iff.mp hy).1
    obtain ⟨m, hm, rfl⟩ := intV_at hy
    walk_at "rd"
    refine ⟨rfl, ?_⟩
    walk_at "rd"
    refine rd_inL ((s6.trans (s7.trans s8)) _ _ eF) ?_
    refine rd_lcE eW (by rw [List.length_map, List.length_map, List.length_take]; omega) fun H9 eH9 eW9 => ?_
    refine ⟨by rw [eH9]; exact Same.mut s8 hW, ?_⟩
    rw [eW9, List.take_add_one, hm, List.map_append, List.map_append]
    rfl
  rintro W H8 hW ⟨s8, eW⟩
  rw [show (intV (keptF .pinned days [pin] today)).length = (keptF .pinned days [pin] today).length from List.length_map _, List.take_length] at eW
  walk_at "rd"
  refine all_bs eW ?_
  rw [List.all_map]
  walk_at "rd"
  exact k H8 (s1.trans (s17.trans s8))
theorem met_KeepsMore_shows (T : TX K mg C_Evidence C_Good C_Bad C_KeepsAll C_LosesOne C_KeepsLittle C_KeepsMore C_BadDay C_BadPolicy D_PLAIN D_NUMBERED) : Met P w K mg base 11 C_KeepsMore "shows" (spKMShows C_KeepsMore) [] := by
  obtain ⟨f0, fd, D, dn, me, _⟩ := T.m_KeepsMore_shows
  have G_check_policy := cal_check_policy (P := P) (w := w) (base := base) T
  have G_kept_days := cal_kept_days (P := P) (w := w) (base := base) T
  have G_needed_days := cal_needed_days (P := P) (w := w) (base := base) T
  refine met0 T.cl_KeepsMore me D (D.binds dn fun _ _ _ _ _ _ us hl => match us, hl with | [_, _], _ => rfl) sc_KeepsMore_shows (by walk_at "len") (fun cdv A outer s H vs Q E hr h => ?_)
  obtain ⟨x, v, p, days, pins, today, rfl, ⟨dx, l, q, ex, el, eq⟩, hp, okp, hh, dok, lp, p0, k⟩ := h
  refine ⟨_, (pss_cons (ps_expr (pe_c G_check_policy hr (by decide) rfl (pa_cons (pv 1) pa_nil)))
      (pss_one (ps_tryO rfl rfl ⟨rfl, by decide, .inl T.mg_BadDay⟩ takesN (fun W pn xe tk => (pss_cons (ps_s 2 sc_KeepsMore_shows.nd (pe_c G_kept_days hr (by decide) rfl (pa_cons (pv 1) (pa_cons (pe_fldK K (pe_fld (pv 0) rfl)) (pa_cons (pe_fldK K (pe_fld (pv 0) rfl)) (pa_cons (pe_fldK K (pe_fld (pv 0) rfl)) pa_nil))))))
      (pss_one (ps_ret (pe_not (pe_callB (callK rAll K (cr_all rfl)) (by rfl) T.b_all (by decide +kernel) (by exact (pa_cons (by exact (pe_lc (own := [("day", 3)]) (g := gName 3) (tt := tYes) (wi := iList K _) (by rfl) (by exact sc_KeepsMore_shows.nd) (by exact (pi_list (pv 2))) (by exact blkOk_by (own := [("day", 3)]) (N := N_KeepsMore_shows) (by rfl)) (by exact (fun _ _ _ _ _ => (pg_n 3 sc_KeepsMore_shows.nd))) (by exact (fun _ _ _ _ _ => pts_nil)) (by exact (fun _ _ _ _ _ => (pe_cmpR (opK (fun K => rIn K false) K op_in_seq) (pv 3) (pe_c G_needed_days hr (by decide) rfl (pa_cons (pe_fldK K (pe_fld (pv 0) rfl)) (pa_cons (pe_fldK K (pe_fld (pv 0) rfl)) (pa_cons (pe_fldK K (pe_fld (pv 0) rfl)) pa_nil)))) (by with_unfolding_all rfl)))) (by intro _; rfl))) pa_nil)))))))) (fun a oe cls d pn => (pss_one (ps_ret pe_bl)))))), ?_⟩
  walk_at "rd"
  refine ⟨v, p, rfl, hp, okp, hh, fun H1 s1 => ?_⟩
  walk_at "rd"
  refine rd_try ?_
  walk_at "rd"
  have ex1 := s1 _ _ ex
  have el1 := s1 _ _ el
  have eq1 := s1 _ _ eq
  refine rd_fld ex1 T.cl_KeepsMore T.na_KeepsMore_days rfl ?_
  walk_at "rd"
  refine rd_fld ex1 T.cl_KeepsMore T.na_KeepsMore_pins rfl ?_
  walk_at "rd"
  refine rd_fld ex1 T.cl_KeepsMore T.na_KeepsMore_today rfl ?_
  walk_at "rd"
  refine ⟨v, p, l, q, days, pins, today, rfl, hp.mono s1, okp, hh, .inl el1, .inl eq1, dok, lp, p0, fun H2 F s2 hF eF => ?_⟩
  walk_at "rd"
  have gl := keptF_len p days pins today
  have dl := dok.len
  refine rd_lsR (SqL.of eF) ?_
  refine lcR_lst (xs := intV (keptF p days pins today)) (fun W i H' => Same H2 H' ∧ H' W = some (.lst ((((keptF p days pins today).take i).map fun d => decide (d ∈ keptF .pinned days pins today)).map V.bl))) (fun W i H' _ ⟨s, _⟩ => SqL.of (s _ _ eF)) (fun W H' _ s e _ => ⟨s, e⟩) ?_ ?_
  · rintro W i y H3 hW hy ⟨s3, eW⟩
    have hi := (List.getElem?_eq_some_iff.mp hy).1
    obtain ⟨m, hm, rfl⟩ := intV_at hy
    have s13 := s2.trans s3
    walk_at "rd"
    refine ⟨rfl, ?_⟩
    walk_at "rd"
    refine rd_fld (s13 _ _ ex1) T.cl_KeepsMore T.na_KeepsMore_days rfl ?_
    walk_at "rd"
    refine rd_fld (s13 _ _ ex1) T.cl_KeepsMore T.na_KeepsMore_pins rfl ?_
    walk_at "rd"
    refine rd_fld (s13 _ _ ex1) T.cl_KeepsMore T.na_KeepsMore_today rfl ?_
    walk_at "rd"
    refine ⟨l, q, days, pins, today, rfl, .inl (s13 _ _ el1), .inl (s13 _ _ eq1), dok, lp, p0, fun H4 G s4 hG eG => ?_⟩
    walk_at "rd"
    refine rd_inL eG ?_
    refine rd_lcE (s4 _ _ eW) (by rw [List.length_map, List.length_map, List.length_take]; omega) fun H5 eH5 eW5 => ?_
    refine ⟨by rw [eH5]; exact Same.mut (s3.trans s4) hW, ?_⟩
    rw [eW5, List.take_add_one, hm, List.map_append, List.map_append]
    rfl
  rintro W H3 hW ⟨s3, eW⟩
  rw [show (intV (keptF p days pins today)).length = (keptF p days pins today).length from List.length_map _, List.take_length] at eW
  walk_at "rd"
  refine all_bs eW ?_
  rw [List.all_map]
  walk_at "rd"
  exact k H3 (s1.trans (s2.trans s3))
end
end Sl

set_option Elab.async false
set_option linter.all false
set_option maxRecDepth 100000
set_option maxHeartbeats 8000000
set_option exponentiation.threshold 9000
namespace Sl
open PySem L2 C8 StX Silt
local macro_rules | `(tactic| walk_at "side") => `(tactic| first
  | exact cdivw (by omega) (by omega)
  | exact cmulw (by omega) (by omega) (by omega) (by omega)
  | exact Or.inr ⟨by omega, by omega⟩
  | exact Or.inl ⟨by omega, by omega⟩
  | omega
  | exact ⟨by omega, by omega, by decide⟩
  | decide)
local macro_rules | `(tactic| walk_at "rd1") => `(tactic| first
  | with_reducible refine rd_seq ?_
  | with_reducible refine rd_asg ?_
  | with_reducible refine rd_drop ?_
  | with_reducible refine rd_ret ?_
  | with_reducible refine rd_retN ?_
  | with_reducible refine rd_ifS ?_
  | ((with_reducible refine rd_var0 ?_); refine ⟨_, rfl, ?_⟩)
  | with_reducible refine rd_c ?_
  | with_reducible refine rd_op ?_
  | with_reducible refine rd_un ?_
  | with_reducible refine rd_I0 ?_
  | with_reducible refine rd_U ?_
  | ((with_reducible refine rd_I ?c ?_); (case c => walk_at "side"))
  | with_reducible refine rd_ipI ?_
  | with_reducible refine rd_eqI ?_
  | with_reducible refine rd_neI ?_
  | with_reducible refine rd_test ?_
  | with_reducible refine rd_tB ?_
  | with_reducible refine rd_bl ?_
  | with_reducible refine rd_not ?_
  | with_reducible refine rd_and ?_
  | with_reducible refine rd_or ?_
  | with_reducible refine rd_andV ?_
  | with_reducible refine rd_orV ?_
  | with_reducible refine rd_notV ?_
  | with_reducible refine rd_ifE ?_
  | with_reducible refine rd_chain ?_
  | with_reducible refine rd_chain3 ?_
  | with_reducible refine rd_nil ?_
  | with_reducible refine rd_cons ?_
  | with_reducible refine rd_call ?_
  | with_reducible refine rd_CB ?_
  | with_reducible refine rd_par ?_
  | with_reducible refine rd_par2 ?_
  | with_reducible refine rd_par3 ?_
  | with_reducible refine rd_par4 ?_
  | ((with_reducible refine rd_aug0 ?_); refine ⟨_, rfl, ?_⟩)
  | with_reducible refine rd_gname ?_
  | with_reducible refine rd_gcons ?_
  | with_reducible refine rd_gnil ?_
  | with_reducible refine rd_max ?_
  | with_reducible refine rd_min ?_
  | with_reducible refine rd_int1 ?_
  | with_reducible refine rd_abs ?_
  | with_reducible refine rd_lst ?_
  | with_reducible refine rd_tup ?_
  | with_reducible refine rd_bm ?_
  | with_reducible refine rd_fld0 ?_
  | with_reducible refine rd_sl0 ?_
  | with_reducible refine rd_noP ?_
  | with_reducible refine rd_part ?_
  | with_reducible refine rd_part2 ?_
  | with_reducible refine rd_meth0 ?_
  | with_reducible refine rd_star ?_
  | with_reducible refine rd_for ?_
  | with_reducible refine rd_rng1 ?_
  | with_reducible refine rd_rng2 ?_
  | with_reducible refine rd_rng3 ?_
  | with_reducible refine rd_iList ?_
  | with_reducible refine rd_iTup ?_
  | with_reducible refine rd_iEnum ?_
  | with_reducible refine rd_lc ?_
  | with_reducible refine rd_yes ?_
  | with_reducible refine rd_augS ?_
  | with_reducible refine rd_drawNew ?_
  | with_reducible refine rd_make0 ?_
  | with_reducible refine rd_next ?_
  | with_reducible refine rd_break ?_
  | with_reducible refine rd_cont ?_
  | with_reducible refine rd_iteTT ?_
  | with_reducible refine rd_iteFF ?_
  | with_reducible refine rd_iteNTT ?_
  | with_reducible refine rd_iteNFF ?_
  | with_reducible refine rd_con0 ?_
  | with_reducible refine rd_truO0 ?_
  | with_reducible refine rd_gfld0 ?_
  | with_reducible refine rd_dc ?_
  | with_reducible refine rd_iKeys ?_
  | with_reducible refine rd_dget0 ?_
  | with_reducible refine rd_dput0 ?_
  | with_reducible refine rd_dnot0 ?_
  | with_reducible refine rd_iEnumT ?_
  | with_reducible refine rd_raP0 ?_
  | with_reducible refine rd_xf0 ?_
  | with_reducible refine rd_cKw ?_
  | with_reducible refine rd_iStr ?_
  | with_reducible refine rd_gSub ?_
  | with_reducible refine rd_asgG ?_)
local macro_rules | `(tactic| walk_at "rd") => `(tactic| repeat walk_at "rd1")
local macro_rules | `(tactic| walk_at "len") => `(tactic| first
  | (intro vs H Q E h; obtain ⟨h2, _⟩ := h; rw [h2]; rfl)
  | (intro vs H Q E h; obtain ⟨_, h2, _⟩ := h; rw [h2]; rfl)
  | (intro vs H Q E h; obtain ⟨_, _, h2, _⟩ := h; rw [h2]; rfl)
  | (intro vs H Q E h; obtain ⟨_, _, _, h2, _⟩ := h; rw [h2]; rfl)
  | (intro vs H Q E h; obtain ⟨_, _, _, _, h2, _⟩ := h; rw [h2]; rfl)
  | (intro vs H Q E h; obtain ⟨_, _, _, _, _, h2, _⟩ := h; rw [h2]; rfl)
  | (intro vs H Q E h; obtain ⟨_, _, _, _, _, _, h2, _⟩ := h; rw [h2]; rfl)
  | (intro vs H Q E h; obtain ⟨_, _, _, _, _, _, _, h2, _⟩ := h; rw [h2]; rfl)
  | (intro vs H Q E h; obtain ⟨_, _, _, _, _, _, _, _, h2, _⟩ := h; rw [h2]; rfl)
  | (intro vs H Q E h; obtain ⟨_, _, _, _, _, _, _, _, _, h2, _⟩ := h; rw [h2]; rfl)
  | (intro vs H Q E h; obtain ⟨_, _, _, _, _, _, _, _, _, _, h2, _⟩ := h; rw [h2]; rfl)
  | (intro vs H Q E h; obtain ⟨_, _, _, _, _, _, _, _, _, _, _, h2, _⟩ := h; rw [h2]; rfl)
  | (intro vs H Q E h; obtain ⟨_, _, _, _, _, _, _, _, _, _, _, _, h2, _⟩ := h; rw [h2]; rfl))
/-- what judge_policy returns -/
def JudgeP (C1 C2 : Addr) (H : Hp) (x : Addr) (p : Pol) : Prop := (losesB p = false ∧ KAP C1 H x (numF p : Int)) ∨ ∃ h ∈ histF (numF p), L1 p h = false ∧ LOP C2 H x h.1 (h.1.getD 0 0) h.2
def JudgeL (C1 C2 : Addr) (H : Hp) (x : Addr) (p : Pol) : Prop := (moreB p = false ∧ KAP C1 H x (numF p : Int)) ∨ ∃ h ∈ histF (numF p), ∃ pins ∈ pins3 h, holdsF p (casF h.1 0 pins h.2) = true ∧ KMP C2 H x h.1 pins h.2
def spJudgeP (C1 C2 : Addr) : Sp := fun vs H Q _ => ∃ (v : V) (p : Pol), vs = [v] ∧ PolP H v p ∧ okP p ∧ hgt p < 4 ∧ ∀ H' x, Same H H' → JudgeP C1 C2 H' x p → Q (.ref x) H'
def spJudgeL (C1 C2 : Addr) : Sp := fun vs H Q _ => ∃ (v : V) (p : Pol), vs = [v] ∧ PolP H v p ∧ okP p ∧ hgt p < 4 ∧ ∀ H' x, Same H H' → JudgeL C1 C2 H' x p → Q (.ref x) H'
section
variable {K : PySem.W.Frag} {H : Hp} {Q : VK} {E : XK} {C : Addr}
theorem kitS {a : String} (h : a = "NoneType" ∨ a = "str") : PySem.W.kitAny K (.type a) [.type "list", .type "tuple"] = some false := by
  rcases h with rfl | rfl <;> exact kitAny_cons (b := false) (kit_ty (by decide +kernel)) (fun _ => kitAny_cons (b := false) (kit_ty (by decide +kernel)) (fun _ => rfl) (fun h => nomatch h)) (fun h => nomatch h)
theorem rd_isiNs {u : Addr} {v : V} (hv : v = .non ∨ ∃ s, v = .str s) (eu : H u = some (.tup [.ty "list", .ty "tuple"])) (h : Q (.bl false) H) : rIsiT K [v, .ref u] H Q := by
  rcases hv with rfl | ⟨s, rfl⟩
  · exact ⟨_, u, _, _, [.type "list", .type "tuple"], false, rfl, eu, .cons (.ty _) (.cons (.ty _) .nil), .base .non, kitS (.inl rfl), h⟩
  · exact ⟨_, u, _, _, [.type "list", .type "tuple"], false, rfl, eu, .cons (.ty _) (.cons (.ty _) .nil), .base (.str _), kitS (.inr rfl), h⟩
theorem rd_newKA {m : Int} (h : ∀ x H', Same H H' → KAP C H' x m → Q (.ref x) H') : rMake C (spKInit C) [] E Q [.int m] H :=
  rd_make fun x dx H2 s hx ex => ⟨x, dx, H, m, rfl, s, hx, ex, fun H' s' rp => ⟨rfl, h x H' s' rp⟩⟩
theorem rd_newLO {l : Addr} {days : List Int} {pin today : Int} (el : H l = some (.lst (intV days))) (h : ∀ x H', Same H H' → LOP C H' x days pin today → Q (.ref x) H') : rMake C (spLOInit C) [] E Q [.ref l, .int pin, .int today] H :=
  rd_make fun x dx H2 s hx ex => ⟨x, dx, l, H, days, pin, today, rfl, s, hx, ex, el, fun H' s' rp => ⟨rfl, h x H' s' rp⟩⟩
theorem rd_newKM {l q : Addr} {days pins : List Int} {today : Int} (el : H l = some (.lst (intV days))) (eq : H q = some (.lst (intV pins))) (h : ∀ x H', Same H H' → KMP C H' x days pins today → Q (.ref x) H') : rMake C (spKMInit C) [] E Q [.ref l, .ref q, .int today] H :=
  rd_make fun x dx H2 s hx ex => ⟨x, dx, l, q, H, days, pins, today, rfl, s, hx, ex, el, eq, fun H' s' rp => ⟨rfl, h x H' s' rp⟩⟩
end
def ascB (days : List Int) : Bool := ((List.range (days.length - 1)).map fun i => decide (days.getD i 0 < days.getD (i + 1) 0)).all id
def loB (days : List Int) (today : Int) : Bool := days.all fun d => decide (1 ≤ d) && decide (d ≤ today)
/-- what are no days -/
def BadDy (H : Hp) (v t : V) : Prop := t = .non ∨ (∃ i : Int, t = .int i ∧ i < 1) ∨ ∃ i : Int, t = .int i ∧ 1 ≤ i ∧ (v = .non ∨ ∃ a days, v = .ref a ∧ H a = some (.lst (intV days)) ∧ days.length ≤ 100 ∧ (loB days i = false ∨ (loB days i = true ∧ ascB days = false)))
/-- what are no pins -/
def BadPn (H : Hp) (v : V) : Prop := v = .non ∨ ∃ a pins, v = .ref a ∧ H a = some (.lst (intV pins)) ∧ pins.length ≤ 100 ∧ (pins.all fun q => decide (0 ≤ q)) = false
def spChkPolX (C : Addr) : Sp := fun vs H Q E => ∃ (v : V), vs = [v] ∧ BadPl H v ∧ ∀ H', Same H H' → E (.ref C) none H'
def spDaysX (C : Addr) : Sp := fun vs H Q E => ∃ (v t : V), vs = [v, t] ∧ BadDy H v t ∧ ∀ H', Same H H' → E (.ref C) none H'
def spPinsX (C : Addr) : Sp := fun vs H Q E => ∃ (v : V), vs = [v] ∧ BadPn H v ∧ ∀ H', Same H H' → E (.ref C) none H'
def spKeptX (C : Addr) : Sp := fun vs H Q E => ∃ (v : V) (p : Pol) (va vp vt : V), vs = [v, va, vp, vt] ∧ PolP H v p ∧ okP p ∧ hgt p < 4 ∧ (BadDy H va vt ∨ ∃ a days today, va = .ref a ∧ vt = .int today ∧ SeqP H a (intV days) ∧ DaysOk days today ∧ BadPn H vp) ∧ ∀ H', Same H H' → E (.ref C) none H'
theorem BadDy.mono {H H' : Hp} {v t : V} (s : Same H H') (h : BadDy H v t) : BadDy H' v t := by
  rcases h with h | h | ⟨i, h1, h2, h | ⟨a, days, h3, h4, h5⟩⟩
  · exact .inl h
  · exact .inr (.inl h)
  · exact .inr (.inr ⟨i, h1, h2, .inl h⟩)
  · exact .inr (.inr ⟨i, h1, h2, .inr ⟨a, days, h3, s _ _ h4, h5⟩⟩)
theorem BadPn.mono {H H' : Hp} {v : V} (s : Same H H') (h : BadPn H v) : BadPn H' v := by
  rcases h with h | ⟨a, pins, h1, h2, h3⟩
  · exact .inl h
  · exact .inr ⟨a, pins, h1, s _ _ h2, h3⟩
local macro_rules | `(tactic| walk_at "rd1") => `(tactic| first
  | with_reducible refine rd_iZipA ?_)
section
variable {P : Program} {w : World} {K : PySem.W.Frag} {mg : Str → Option Value} {base : Heap} {C_Evidence C_Good C_Bad C_KeepsAll C_LosesOne C_KeepsLittle C_KeepsMore C_BadDay C_BadPolicy D_PLAIN D_NUMBERED : Addr}
theorem cal_judge_policy (T : TX K mg C_Evidence C_Good C_Bad C_KeepsAll C_LosesOne C_KeepsLittle C_KeepsMore C_BadDay C_BadPolicy D_PLAIN D_NUMBERED) : Cal P w K mg base 9 "judge_policy" (spJudgeP C_KeepsAll C_LosesOne) [] := by
  obtain ⟨f0, fd, D, dn⟩ := T.d_judge_policy
  have G_check_policy := cal_check_policy (P := P) (w := w) (base := base) T
  have G_lost_by := cal_lost_by (P := P) (w := w) (base := base) T
  have G_KeepsAll_init := mak_KeepsAll_init (P := P) (w := w) (base := base) T
  have G_greatest_in := cal_greatest_in (P := P) (w := w) (base := base) T
  have G_LosesOne_init := mak_LosesOne_init (P := P) (w := w) (base := base) T
  refine cal0 D (D.fn.binds dn fun _ _ _ _ _ _ us hl => match us, hl with | [_], _ => rfl) .nil sc_judge_policy (by walk_at "len") (fun cdv A outer s H vs Q E hr h => ?_)
  obtain ⟨v, p, rfl, hp, okp, hh, k⟩ := h
  refine ⟨_, (pss_cons (ps_expr (pe_c G_check_policy hr (by decide) rfl (pa_cons (pv 0) pa_nil)))
      (pss_cons (ps_s 1 sc_judge_policy.nd (pe_c G_lost_by hr (by decide) rfl (pa_cons (pv 0) pa_nil)))
      (pss_one (ps_ret (pe_ifExp (pt_cmpR op_isNn (pv 1) pe_non (nomark _)) (pe_mk G_KeepsAll_init hr (by decide) rfl (pa_cons (pe_c G_greatest_in hr (by decide) rfl (pa_cons (pv 0) pa_nil)) pa_nil)) (pe_mk G_LosesOne_init hr (by decide) rfl (pa_cons (pe_ix ix_tup (pv 1) pe_int (fun _ _ => rfl)) (pa_cons (pe_ix ix_tup (pv 1) pe_int (fun _ _ => rfl)) (pa_cons (pe_ix ix_tup (pv 1) pe_int (fun _ _ => rfl)) pa_nil))))))))), ?_⟩
  walk_at "rd"
  refine ⟨v, p, rfl, hp, okp, hh, fun H1 s1 => ?_⟩
  walk_at "rd"
  refine ⟨v, p, rfl, hp.mono s1, okp, hh, fun H2 w s2 hw => ?_⟩
  have s12 := s1.trans s2
  walk_at "rd"
  refine rd_isN0 ?_
  refine ⟨_, rfl, ?_⟩
  rcases hw with ⟨rfl, hl⟩ | ⟨t, l, h, rfl, et, el, hm, hl⟩
  · rw [decide_eq_true rfl]
    walk_at "rd"
    refine ⟨v, p, rfl, hp.mono s12, hh, fun H3 s3 => ?_⟩
    walk_at "rd"
    refine rd_newKA fun x H4 s4 hx => ?_
    exact k H4 x (s12.trans (s3.trans s4)) (.inl ⟨hl, hx⟩)
  · rw [decide_eq_false (show ¬ V.ref t = .non from fun z => by cases z)]
    walk_at "rd"
    refine rd_ixT et rfl ?_
    walk_at "rd"
    refine rd_ixT et rfl ?_
    walk_at "rd"
    refine rd_ixT et rfl ?_
    walk_at "rd"
    refine rd_newLO el fun x H4 s4 hx => ?_
    exact k H4 x (s12.trans s4) (.inr ⟨h, hm, hl, hx⟩)
theorem cal_judge_lean (T : TX K mg C_Evidence C_Good C_Bad C_KeepsAll C_LosesOne C_KeepsLittle C_KeepsMore C_BadDay C_BadPolicy D_PLAIN D_NUMBERED) : Cal P w K mg base 9 "judge_lean" (spJudgeL C_KeepsLittle C_KeepsMore) [] := by
  obtain ⟨f0, fd, D, dn⟩ := T.d_judge_lean
  have G_check_policy := cal_check_policy (P := P) (w := w) (base := base) T
  have G_spared_by := cal_spared_by (P := P) (w := w) (base := base) T
  have G_KeepsLittle_init := mak_KeepsLittle_init (P := P) (w := w) (base := base) T
  have G_greatest_in := cal_greatest_in (P := P) (w := w) (base := base) T
  have G_KeepsMore_init := mak_KeepsMore_init (P := P) (w := w) (base := base) T
  refine cal0 D (D.fn.binds dn fun _ _ _ _ _ _ us hl => match us, hl with | [_], _ => rfl) .nil sc_judge_lean (by walk_at "len") (fun cdv A outer s H vs Q E hr h => ?_)
  obtain ⟨v, p, rfl, hp, okp, hh, k⟩ := h
  refine ⟨_, (pss_cons (ps_expr (pe_c G_check_policy hr (by decide) rfl (pa_cons (pv 0) pa_nil)))
      (pss_cons (ps_s 1 sc_judge_lean.nd (pe_c G_spared_by hr (by decide) rfl (pa_cons (pv 0) pa_nil)))
      (pss_one (ps_ret (pe_ifExp (pt_cmpR op_isNn (pv 1) pe_non (nomark _)) (pe_mk G_KeepsLittle_init hr (by decide) rfl (pa_cons (pe_c G_greatest_in hr (by decide) rfl (pa_cons (pv 0) pa_nil)) pa_nil)) (pe_mk G_KeepsMore_init hr (by decide) rfl (pa_cons (pe_ix ix_tup (pv 1) pe_int (fun _ _ => rfl)) (pa_cons (pe_ix ix_tup (pv 1) pe_int (fun _ _ => rfl)) (pa_cons (pe_ix ix_tup (pv 1) pe_int (fun _ _ => rfl)) pa_nil))))))))), ?_⟩
  walk_at "rd"
  refine ⟨v, p, rfl, hp, okp, hh, fun H1 s1 => ?_⟩
  walk_at "rd"
  refine ⟨v, p, rfl, hp.mono s1, okp, hh, fun H2 w s2 hw => ?_⟩
  have s12 := s1.trans s2
  walk_at "rd"
  refine rd_isN0 ?_
  refine ⟨_, rfl, ?_⟩
  rcases hw with ⟨rfl, hl⟩ | ⟨t, l, q, h, pins, rfl, et, el, eq, hm, hp3, hl⟩
  · rw [decide_eq_true rfl]
    walk_at "rd"
    refine ⟨v, p, rfl, hp.mono s12, hh, fun H3 s3 => ?_⟩
    walk_at "rd"
    refine rd_newKA fun x H4 s4 hx => ?_
    exact k H4 x (s12.trans (s3.trans s4)) (.inl ⟨hl, hx⟩)
  · rw [decide_eq_false (show ¬ V.ref t = .non from fun z => by cases z)]
    walk_at "rd"
    refine rd_ixT et rfl ?_
    walk_at "rd"
    refine rd_ixT et rfl ?_
    walk_at "rd"
    refine rd_ixT et rfl ?_
    walk_at "rd"
    refine rd_newKM el eq fun x H4 s4 hx => ?_
    exact k H4 x (s12.trans s4) (.inr ⟨h, hm, pins, hp3, hl, hx⟩)
theorem xal_check_policy (T : TX K mg C_Evidence C_Good C_Bad C_KeepsAll C_LosesOne C_KeepsLittle C_KeepsMore C_BadDay C_BadPolicy D_PLAIN D_NUMBERED) : CalX P w K mg base 8 "check_policy" (spChkPolX C_BadPolicy) [] := by
  obtain ⟨f0, fd, D, dn⟩ := T.d_check_policy
  have G_is_policy := cal_is_policy (P := P) (w := w) (base := base) T
  refine calX0 D (D.fn.binds dn fun _ _ _ _ _ _ us hl => match us, hl with | [_], _ => rfl) .nil sc_check_policy (by walk_at "len") (fun cdv A outer s H vs Q E hr h => ?_)
  obtain ⟨v, rfl, hb, k⟩ := h
  refine ⟨_, (pss_one (ps_if (pt_not (pt_val (pe_c G_is_policy hr (by decide) rfl (pa_cons (pv 0) pa_nil)))) (pss_one (ps_raiseO rfl (takes_of rfl rfl rfl rfl) T.x_BadPolicy T.mg_BadPolicy rfl)) pss_nil)), ?_⟩
  walk_at "rd"
  refine ⟨v, 8, false, rfl, by omega, by omega, by omega, .inr (.inr ⟨rfl, hb, by omega, by omega⟩), fun H1 s1 => ?_⟩
  refine ⟨false, rfl, ?_⟩
  walk_at "rd"
  exact rd_raise (k H1 s1)
theorem xal_judge_policy (T : TX K mg C_Evidence C_Good C_Bad C_KeepsAll C_LosesOne C_KeepsLittle C_KeepsMore C_BadDay C_BadPolicy D_PLAIN D_NUMBERED) : CalX P w K mg base 9 "judge_policy" (spChkPolX C_BadPolicy) [] := by
  obtain ⟨f0, fd, D, dn⟩ := T.d_judge_policy
  have X_check_policy := xal_check_policy (P := P) (w := w) (base := base) T
  refine calX0 D (D.fn.binds dn fun _ _ _ _ _ _ us hl => match us, hl with | [_], _ => rfl) .nil sc_judge_policy (by walk_at "len") (fun cdv A outer s H vs Q E hr h => ?_)
  obtain ⟨v, rfl, hb, k⟩ := h
  refine ⟨_, (pss_cons (ps_expr (pe_cX X_check_policy hr (by decide) rfl (fun σ => passAt (takes_of rfl rfl rfl rfl) σ) (pa_cons (pv 0) pa_nil)))
      (pss_cons ps_never
      (pss_one ps_never))), ?_⟩
  walk_at "rd"
  refine rd_callSd ?_
  walk_at "rd"
  exact rd_callSd2 ⟨v, rfl, hb, k⟩
theorem xal_check_pins (T : TX K mg C_Evidence C_Good C_Bad C_KeepsAll C_LosesOne C_KeepsLittle C_KeepsMore C_BadDay C_BadPolicy D_PLAIN D_NUMBERED) : CalX P w K mg base 2 "check_pins" (spPinsX C_BadDay) [] := by
  obtain ⟨f0, fd, D, dn⟩ := T.d_check_pins
  have G_is_whole := cal_is_whole (P := P) (w := w) (base := base) T
  refine calX0 D (D.fn.binds dn fun _ _ _ _ _ _ us hl => match us, hl with | [_], _ => rfl) .nil sc_check_pins (by walk_at "len") (fun cdv A outer s H vs Q E hr h => ?_)
  obtain ⟨v, rfl, hb, k⟩ := h
  refine ⟨_, (pss_one (ps_if (PW.pt (pw_or (pt_not (pt_val (pe_callB call_isiT (by rfl) T.b_isinstance (by decide +kernel) (pa_cons (pv 0) (pa_cons (pe_tup (pa_cons (pe_bltn (v := .ty "list") (u := .type "list") rfl T.b_list (by decide +kernel) rfl) (pa_cons (pe_bltn (v := .ty "tuple") (u := .type "tuple") rfl T.b_tuple (by decide +kernel) rfl) pa_nil))) pa_nil))))) (pw_or1 (pt_not (pt_val (pe_callB (cr_all rfl) (by rfl) T.b_all (by decide +kernel) (pa_cons (pe_lc (own := [("one", 1)]) (g := gName 1) (tt := tYes) rfl sc_check_pins.nd (pi_alt (pi_list (pv 0)) (pi_tup (pv 0))) (blkOk_by (own := [("one", 1)]) (N := N_check_pins) (sc := fnScope s_check_pins) (by decide +kernel)) (fun _ _ _ _ _ => (pg_n 1 sc_check_pins.nd)) (fun _ _ _ _ _ => pts_nil) (fun _ _ _ _ _ => (pe_and (pe_c G_is_whole hr (by decide) rfl (pa_cons (pv 1) pa_nil)) (pe_one (pe_cmpR op_ge (pv 1) pe_int (nomark _)))))) pa_nil))))))) (pss_one (ps_raiseO rfl (takes_of rfl rfl rfl rfl) T.x_BadDay T.mg_BadDay rfl)) pss_nil)), ?_⟩
  walk_at "rd"
  refine rd_newT (by simp) fun u H1 _ s1 eu _ => ?_
  walk_at "rd"
  rcases hb with rfl | ⟨a, pins, rfl, ea, lp, hb⟩
  · refine rd_isiNs (.inl rfl) eu ?_
    refine ⟨false, rfl, ?_⟩
    walk_at "rd"
    exact rd_raise (k H1 s1)
  · refine rd_isiTL (s1 _ _ ea) eu ?_
    refine ⟨true, rfl, ?_⟩
    walk_at "rd"
    refine .inl ?_
    walk_at "rd"
    refine rd_lsR (SqL.of (s1 _ _ ea)) ?_
    refine lcR_lst (xs := intV pins) (fun W i H' => Same H1 H' ∧ H' W = some (.lst (((pins.take i).map fun q => decide (0 ≤ q)).map V.bl))) (fun W i H' _ ⟨s, _⟩ => SqL.of ((s1.trans s) _ _ ea)) (fun W H' _ s e _ => ⟨s, e⟩) ?_ ?_
    · rintro W i y H2 hW hy ⟨s2, eW⟩
      have hi := (List.getElem?_eq_some_iff.mp hy).1
      obtain ⟨m, hm, rfl⟩ := intV_at hy
      walk_at "rd"
      refine ⟨rfl, ?_⟩
      walk_at "rd"
      refine ⟨_, _, rfl, .int m, ?_⟩
      rw [show wholeD (.int m) = true from rfl]
      walk_at "rd"
      refine rd_lcE eW (by rw [List.length_map, List.length_map, List.length_take]; omega) fun H3 eH3 eW3 => ?_
      refine ⟨by rw [eH3]; exact Same.mut s2 hW, ?_⟩
      rw [eW3, List.take_add_one, hm, List.map_append, List.map_append]
      rfl
    rintro W H2 hW ⟨s2, eW⟩
    rw [show (intV pins).length = pins.length from List.length_map _, List.take_length] at eW
    walk_at "rd"
    refine all_bs eW ?_
    rw [List.all_map]
    refine ⟨false, by rw [← hb]; rfl, ?_⟩
    walk_at "rd"
    exact rd_raise (k H2 (s1.trans s2))
theorem xal_check_days (T : TX K mg C_Evidence C_Good C_Bad C_KeepsAll C_LosesOne C_KeepsLittle C_KeepsMore C_BadDay C_BadPolicy D_PLAIN D_NUMBERED) : CalX P w K mg base 2 "check_days" (spDaysX C_BadDay) [] := by
  obtain ⟨f0, fd, D, dn⟩ := T.d_check_days
  have G_is_whole := cal_is_whole (P := P) (w := w) (base := base) T
  refine calX0 D (D.fn.binds dn fun _ _ _ _ _ _ us hl => match us, hl with | [_, _], _ => rfl) .nil sc_check_days (by walk_at "len") (fun cdv A outer s H vs Q E hr h => ?_)
  obtain ⟨v, t, rfl, hb, k⟩ := h
  refine ⟨_, (pss_cons (ps_if (PW.pt (pw_or (pt_not (pt_val (pe_c G_is_whole hr (by decide) rfl (pa_cons (pv 1) pa_nil)))) (pw_or (pt_cmpR op_lt (pv 1) pe_int (nomark _)) (pw_or1 (pt_not (pt_val (pe_callB call_isiT (by rfl) T.b_isinstance (by decide +kernel) (pa_cons (pv 0) (pa_cons (pe_tup (pa_cons (pe_bltn (v := .ty "list") (u := .type "list") rfl T.b_list (by decide +kernel) rfl) (pa_cons (pe_bltn (v := .ty "tuple") (u := .type "tuple") rfl T.b_tuple (by decide +kernel) rfl) pa_nil))) pa_nil))))))))) (pss_one (ps_raiseO rfl (takes_of rfl rfl rfl rfl) T.x_BadDay T.mg_BadDay rfl)) pss_nil)
      (pss_cons (ps_if (pt_not (pt_val (pe_callB (cr_all rfl) (by rfl) T.b_all (by decide +kernel) (pa_cons (pe_lc (own := [("day", 2)]) (g := gName 2) (tt := tYes) rfl sc_check_days.nd (pi_alt (pi_list (pv 0)) (pi_tup (pv 0))) (blkOk_by (own := [("day", 2)]) (N := N_check_days) (sc := fnScope s_check_days) (by decide +kernel)) (fun _ _ _ _ _ => (pg_n 2 sc_check_days.nd)) (fun _ _ _ _ _ => pts_nil) (fun _ _ _ _ _ => (pe_and (pe_c G_is_whole hr (by decide) rfl (pa_cons (pv 2) pa_nil)) (pe_one (pe_chain op_le op_le pe_int (pv 2) (pv 1)))))) pa_nil)))) (pss_one (ps_raiseO rfl (takes_of rfl rfl rfl rfl) T.x_BadDay T.mg_BadDay rfl)) pss_nil)
      (pss_one (ps_if (pt_not (pt_val (pe_callB (cr_all rfl) (by rfl) T.b_all (by decide +kernel) (pa_cons (pe_lc (own := [("one", 3), ("late", 4)]) (g := gTup _ 2 (gCons (gName 3) (gCons (gName 4) gNil))) (tt := tYes) rfl sc_check_days.nd (RZ.pi_zipA rfl T.b_zip (pa_cons (pv 0) (pa_cons (pe_alt (pe_slice sl_list (pv 0) (po_some pe_int) po_none) (pe_slice sl_tupA (pv 0) (po_some pe_int) po_none)) pa_nil))) (blkOk_by (own := [("one", 3), ("late", 4)]) (N := N_check_days) (sc := fnScope s_check_days) (by decide +kernel)) (fun _ _ _ _ _ => (pg_tup rfl (pgs_cons (pg_n 3 sc_check_days.nd) (pgs_cons (pg_n 4 sc_check_days.nd) pgs_nil)))) (fun _ _ _ _ _ => pts_nil) (fun _ _ _ _ _ => (pe_cmpR op_lt (pv 3) (pv 4) (nomark _)))) pa_nil)))) (pss_one (ps_raiseO rfl (takes_of rfl rfl rfl rfl) T.x_BadDay T.mg_BadDay rfl)) pss_nil)))), ?_⟩
  walk_at "rd"
  rcases hb with rfl | ⟨i, rfl, hi⟩ | ⟨i, rfl, hi, hb⟩
  · refine ⟨_, _, rfl, .non, ?_⟩
    refine ⟨false, rfl, ?_⟩
    walk_at "rd"
    exact rd_raise (k H (Same.refl H))
  · refine ⟨_, _, rfl, .int i, ?_⟩
    refine ⟨true, rfl, ?_⟩
    walk_at "rd"
    refine rd_iteT hi ?_
    walk_at "rd"
    exact rd_raise (k H (Same.refl H))
  refine ⟨_, _, rfl, .int i, ?_⟩
  refine ⟨true, rfl, ?_⟩
  walk_at "rd"
  refine rd_iteF (by omega) ?_
  walk_at "rd"
  refine rd_newT (by simp) fun u H1 _ s1 eu _ => ?_
  walk_at "rd"
  rcases hb with rfl | ⟨a, days, rfl, ea, ld, hb⟩
  · refine rd_isiNs (.inl rfl) eu ?_
    refine ⟨false, rfl, ?_⟩
    walk_at "rd"
    exact rd_raise (k H1 s1)
  refine rd_isiTL (s1 _ _ ea) eu ?_
  refine ⟨true, rfl, ?_⟩
  walk_at "rd"
  have lx : (intV days).length = days.length := List.length_map _
  refine .inl ?_
  walk_at "rd"
  refine rd_lsR (SqL.of (s1 _ _ ea)) ?_
  refine lcR_lst (xs := intV days) (fun W j H' => Same H1 H' ∧ H' W = some (.lst (((days.take j).map fun d => decide (1 ≤ d) && decide (d ≤ i)).map V.bl))) (fun W i H' _ ⟨s, _⟩ => SqL.of ((s1.trans s) _ _ ea)) (fun W H' _ s e _ => ⟨s, e⟩) ?_ ?_
  · rintro W j y H2 hW hy ⟨s2, eW⟩
    have hi := (List.getElem?_eq_some_iff.mp hy).1
    obtain ⟨m, hm, rfl⟩ := intV_at hy
    have fin : ∀ b, b = (decide (1 ≤ m) && decide (m ≤ i)) → LcE W (fun H' => Same H1 H' ∧ H' W = some (.lst (((days.take (j + 1)).map fun d => decide (1 ≤ d) && decide (d ≤ i)).map V.bl))) (.bl b) H2 := by
      rintro b rfl
      refine rd_lcE eW (by rw [List.length_map, List.length_map, List.length_take]; omega) fun H3 eH3 eW3 => ?_
      refine ⟨by rw [eH3]; exact Same.mut s2 hW, ?_⟩
      rw [eW3, List.take_add_one, hm, List.map_append, List.map_append]
      rfl
    walk_at "rd"
    refine ⟨rfl, ?_⟩
    walk_at "rd"
    refine ⟨_, _, rfl, .int m, ?_⟩
    rw [show wholeD (.int m) = true from rfl]
    walk_at "rd"
    refine rd_ite (fun c => ?_) (fun c => ?_)
    · walk_at "rd"
      exact fin _ (by rw [decide_eq_true c, Bool.true_and])
    · walk_at "rd"
      exact fin _ (by rw [decide_eq_false c, Bool.false_and])
  rintro W H2 hW ⟨s2, eW⟩
  rw [lx, List.take_length] at eW
  walk_at "rd"
  refine all_bs eW ?_
  rw [List.all_map]
  have s12 := s1.trans s2
  rcases hb with hb | ⟨hl, hb⟩
  · refine ⟨false, by rw [← hb]; rfl, ?_⟩
    walk_at "rd"
    exact rd_raise (k H2 s12)
  refine ⟨true, by rw [← hl]; rfl, ?_⟩
  walk_at "rd"
  have e2 := s12 _ _ ea
  refine .inl ?_
  walk_at "rd"
  refine rd_slL (SqL.of e2) fun P1 H3 _ s3 e3 _ => ?_
  rw [show cutV (intV days) (some 1) none = (intV days).drop 1 from cutN_drop (m := 1)] at e3
  walk_at "rd"
  refine ⟨a, P1, _, _, rfl, .inl ⟨SqL.of (s3 _ _ e2), SqL.of e3, ?_⟩⟩
  refine lcR_zip (xs := intV days) (ys := (intV days).drop 1) (days.length - 1) (by rw [List.length_drop, lx]; omega) (fun W j H' => Same H3 H' ∧ H' W = some (.lst (((List.range j).map fun i => decide (days.getD i 0 < days.getD (i + 1) 0)).map V.bl))) (fun W i H' _ ⟨s, _⟩ => ⟨SqL.of ((s3.trans s) _ _ e2), SqL.of (s _ _ e3)⟩) (fun W H' _ s e _ => ⟨s, e⟩) ?_ ?_
  · rintro W j x y H4 t H5 hW hi hx hy ⟨s4, eW⟩ _ s5 et
    obtain ⟨m1, hm1, rfl⟩ := intV_at hx
    rw [List.getElem?_drop, Nat.add_comm] at hy
    obtain ⟨m2, hm2, rfl⟩ := intV_at hy
    refine rd_gtup et rfl ?_
    walk_at "rd"
    refine ⟨rfl, ?_⟩
    walk_at "rd"
    refine rd_lcE (s5 _ _ eW) (by rw [List.length_map, List.length_map, List.length_range]; omega) fun H6 eH6 eW6 => ?_
    refine ⟨by rw [eH6]; exact Same.mut (s4.trans s5) hW, ?_⟩
    have g1 : days.getD j 0 = m1 := by rw [List.getD_eq_getElem?_getD, hm1]; rfl
    have g2 : days.getD (j + 1) 0 = m2 := by rw [List.getD_eq_getElem?_getD, hm2]; rfl
    rw [eW6, List.range_succ, List.map_append, List.map_append, List.map_cons, List.map_nil, g1, g2]
    rfl
  rintro W H4 hW ⟨s4, eW⟩
  walk_at "rd"
  refine all_bs eW ?_
  refine ⟨false, by rw [← hb]; rfl, ?_⟩
  walk_at "rd"
  exact rd_raise (k H4 (s12.trans (s3.trans s4)))
theorem xal_kept_days (T : TX K mg C_Evidence C_Good C_Bad C_KeepsAll C_LosesOne C_KeepsLittle C_KeepsMore C_BadDay C_BadPolicy D_PLAIN D_NUMBERED) : CalX P w K mg base 9 "kept_days" (spKeptX C_BadDay) [] := by
  obtain ⟨f0, fd, D, dn⟩ := T.d_kept_days
  have G_check_policy := cal_check_policy (P := P) (w := w) (base := base) T
  have G_check_days := cal_check_days (P := P) (w := w) (base := base) T
  have X_check_days := xal_check_days (P := P) (w := w) (base := base) T
  have X_check_pins := xal_check_pins (P := P) (w := w) (base := base) T
  refine calX0 D (D.fn.binds dn fun _ _ _ _ _ _ us hl => match us, hl with | [_, _, _, _], _ => rfl) .nil sc_kept_days (by walk_at "len") (fun cdv A outer s H vs Q E hr h => ?_)
  obtain ⟨v, p, va, vp, vt, rfl, hp, okp, hh, hb, k⟩ := h
  rcases hb with hb | ⟨a, days, today, rfl, rfl, ed, dok, hb⟩
  · refine ⟨_, (pss_cons (ps_expr (pe_c G_check_policy hr (by decide) rfl (pa_cons (pv 0) pa_nil)))
      (pss_cons (ps_expr (pe_cX X_check_days hr (by decide) rfl (fun σ => passAt (takes_of rfl rfl rfl rfl) σ) (pa_cons (pv 1) (pa_cons (pv 3) pa_nil))))
      (pss_cons ps_never
      (pss_cons ps_never
      (pss_one ps_never))))), ?_⟩
    walk_at "rd"
    refine ⟨v, p, rfl, hp, okp, hh, fun H1 s1 => ?_⟩
    walk_at "rd"
    refine rd_callSd ?_
    walk_at "rd"
    exact rd_callSd2 ⟨va, vt, rfl, hb.mono s1, fun H' s => k H' (s1.trans s)⟩
  · refine ⟨_, (pss_cons (ps_expr (pe_c G_check_policy hr (by decide) rfl (pa_cons (pv 0) pa_nil)))
      (pss_cons (ps_expr (pe_c G_check_days hr (by decide) rfl (pa_cons (pv 1) (pa_cons (pv 3) pa_nil))))
      (pss_cons (ps_expr (pe_cX X_check_pins hr (by decide) rfl (fun σ => passAt (takes_of rfl rfl rfl rfl) σ) (pa_cons (pv 2) pa_nil)))
      (pss_cons ps_never
      (pss_one ps_never))))), ?_⟩
    walk_at "rd"
    refine ⟨v, p, rfl, hp, okp, hh, fun H1 s1 => ?_⟩
    walk_at "rd"
    refine ⟨a, days, today, rfl, ed.mono s1, dok, fun H2 s2 => ?_⟩
    walk_at "rd"
    refine rd_callSd ?_
    walk_at "rd"
    exact rd_callSd2 ⟨vp, rfl, hb.mono (s1.trans s2), fun H' s => k H' ((s1.trans s2).trans s)⟩
end
end Sl

set_option Elab.async false
set_option linter.all false
set_option maxRecDepth 100000
set_option maxHeartbeats 8000000
set_option exponentiation.threshold 9000
namespace Sl
open PySem L2 C8 StX Silt
local macro_rules | `(tactic| walk_at "side") => `(tactic| first
  | exact cdivw (by omega) (by omega)
  | exact cmulw (by omega) (by omega) (by omega) (by omega)
  | exact Or.inr ⟨by omega, by omega⟩
  | exact Or.inl ⟨by omega, by omega⟩
  | omega
  | exact ⟨by omega, by omega, by decide⟩
  | decide)
local macro_rules | `(tactic| walk_at "rd1") => `(tactic| first
  | with_reducible refine rd_seq ?_
  | with_reducible refine rd_asg ?_
  | with_reducible refine rd_drop ?_
  | with_reducible refine rd_ret ?_
  | with_reducible refine rd_retN ?_
  | with_reducible refine rd_ifS ?_
  | ((with_reducible refine rd_var0 ?_); refine ⟨_, rfl, ?_⟩)
  | with_reducible refine rd_c ?_
  | with_reducible refine rd_op ?_
  | with_reducible refine rd_un ?_
  | with_reducible refine rd_I0 ?_
  | with_reducible refine rd_U ?_
  | ((with_reducible refine rd_I ?c ?_); (case c => walk_at "side"))
  | with_reducible refine rd_ipI ?_
  | with_reducible refine rd_eqI ?_
  | with_reducible refine rd_neI ?_
  | with_reducible refine rd_test ?_
  | with_reducible refine rd_tB ?_
  | with_reducible refine rd_bl ?_
  | with_reducible refine rd_not ?_
  | with_reducible refine rd_and ?_
  | with_reducible refine rd_or ?_
  | with_reducible refine rd_andV ?_
  | with_reducible refine rd_orV ?_
  | with_reducible refine rd_notV ?_
  | with_reducible refine rd_ifE ?_
  | with_reducible refine rd_chain ?_
  | with_reducible refine rd_chain3 ?_
  | with_reducible refine rd_nil ?_
  | with_reducible refine rd_cons ?_
  | with_reducible refine rd_call ?_
  | with_reducible refine rd_CB ?_
  | with_reducible refine rd_par ?_
  | with_reducible refine rd_par2 ?_
  | with_reducible refine rd_par3 ?_
  | with_reducible refine rd_par4 ?_
  | ((with_reducible refine rd_aug0 ?_); refine ⟨_, rfl, ?_⟩)
  | with_reducible refine rd_gname ?_
  | with_reducible refine rd_gcons ?_
  | with_reducible refine rd_gnil ?_
  | with_reducible refine rd_max ?_
  | with_reducible refine rd_min ?_
  | with_reducible refine rd_int1 ?_
  | with_reducible refine rd_abs ?_
  | with_reducible refine rd_lst ?_
  | with_reducible refine rd_tup ?_
  | with_reducible refine rd_bm ?_
  | with_reducible refine rd_fld0 ?_
  | with_reducible refine rd_sl0 ?_
  | with_reducible refine rd_noP ?_
  | with_reducible refine rd_part ?_
  | with_reducible refine rd_part2 ?_
  | with_reducible refine rd_meth0 ?_
  | with_reducible refine rd_star ?_
  | with_reducible refine rd_for ?_
  | with_reducible refine rd_rng1 ?_
  | with_reducible refine rd_rng2 ?_
  | with_reducible refine rd_rng3 ?_
  | with_reducible refine rd_iList ?_
  | with_reducible refine rd_iTup ?_
  | with_reducible refine rd_iEnum ?_
  | with_reducible refine rd_lc ?_
  | with_reducible refine rd_yes ?_
  | with_reducible refine rd_augS ?_
  | with_reducible refine rd_drawNew ?_
  | with_reducible refine rd_make0 ?_
  | with_reducible refine rd_next ?_
  | with_reducible refine rd_break ?_
  | with_reducible refine rd_cont ?_
  | with_reducible refine rd_iteTT ?_
  | with_reducible refine rd_iteFF ?_
  | with_reducible refine rd_iteNTT ?_
  | with_reducible refine rd_iteNFF ?_
  | with_reducible refine rd_con0 ?_
  | with_reducible refine rd_truO0 ?_
  | with_reducible refine rd_gfld0 ?_
  | with_reducible refine rd_dc ?_
  | with_reducible refine rd_iKeys ?_
  | with_reducible refine rd_dget0 ?_
  | with_reducible refine rd_dput0 ?_
  | with_reducible refine rd_dnot0 ?_
  | with_reducible refine rd_iEnumT ?_
  | with_reducible refine rd_raP0 ?_
  | with_reducible refine rd_xf0 ?_
  | with_reducible refine rd_cKw ?_
  | with_reducible refine rd_iStr ?_
  | with_reducible refine rd_gSub ?_
  | with_reducible refine rd_asgG ?_)
local macro_rules | `(tactic| walk_at "rd") => `(tactic| repeat walk_at "rd1")
local macro_rules | `(tactic| walk_at "len") => `(tactic| first
  | (intro vs H Q E h; obtain ⟨h2, _⟩ := h; rw [h2]; rfl)
  | (intro vs H Q E h; obtain ⟨_, h2, _⟩ := h; rw [h2]; rfl)
  | (intro vs H Q E h; obtain ⟨_, _, h2, _⟩ := h; rw [h2]; rfl)
  | (intro vs H Q E h; obtain ⟨_, _, _, h2, _⟩ := h; rw [h2]; rfl)
  | (intro vs H Q E h; obtain ⟨_, _, _, _, h2, _⟩ := h; rw [h2]; rfl)
  | (intro vs H Q E h; obtain ⟨_, _, _, _, _, h2, _⟩ := h; rw [h2]; rfl)
  | (intro vs H Q E h; obtain ⟨_, _, _, _, _, _, h2, _⟩ := h; rw [h2]; rfl)
  | (intro vs H Q E h; obtain ⟨_, _, _, _, _, _, _, h2, _⟩ := h; rw [h2]; rfl)
  | (intro vs H Q E h; obtain ⟨_, _, _, _, _, _, _, _, h2, _⟩ := h; rw [h2]; rfl)
  | (intro vs H Q E h; obtain ⟨_, _, _, _, _, _, _, _, _, h2, _⟩ := h; rw [h2]; rfl)
  | (intro vs H Q E h; obtain ⟨_, _, _, _, _, _, _, _, _, _, h2, _⟩ := h; rw [h2]; rfl)
  | (intro vs H Q E h; obtain ⟨_, _, _, _, _, _, _, _, _, _, _, h2, _⟩ := h; rw [h2]; rfl)
  | (intro vs H Q E h; obtain ⟨_, _, _, _, _, _, _, _, _, _, _, _, h2, _⟩ := h; rw [h2]; rfl))
def spLPol (K : PySem.W.Frag) (d : Nat) : Sp := fun vs H Q _ => ∃ (sc : Addr) (ns : List Int) (i e : Nat), vs = [.ref sc, .int (i : Int), .int (e : Int)] ∧ SqL K H sc (ns.map V.int) ∧ ns.length ≤ 63 ∧ e < d ∧ (i + 9) * 2 ^ e ≤ 1000 ∧ ∀ H' v p, Same H H' → PolP H' v p → okP p → hgt p ≤ e → Q v H'
def spLKeeps (d : Nat) : Sp := fun vs H Q _ => ∃ (v : V) (p : Pol) (a pa : Addr) (days pins : List Int) (i : Nat) (today : Int), vs = [v, .ref a, .int (i : Int), .ref pa, .int today] ∧ PolP H v p ∧ hgt p < d ∧ H a = some (.lst (intV days)) ∧ H pa = some (.lst (intV pins)) ∧ i + 1 < days.length ∧ days.length ≤ 1000 ∧ pins.length ≤ 1000 ∧ ∀ H', Same H H' → Q (.bl (holdsF p (casF days i pins today))) H'
section
variable {P : Program} {w : World} {K : PySem.W.Frag} {mg : Str → Option Value} {base : Heap} {C_Evidence C_Good C_Bad C_KeepsAll C_LosesOne C_KeepsLittle C_KeepsMore C_BadDay C_BadPolicy D_PLAIN D_NUMBERED : Addr}
theorem calF__law_policy (T : TX K mg C_Evidence C_Good C_Bad C_KeepsAll C_LosesOne C_KeepsLittle C_KeepsMore C_BadDay C_BadPolicy D_PLAIN D_NUMBERED) {k : Nat} {SP : Sp} (hz : ∀ vs H Q E, ¬ SP vs H Q E) : Cal P w K mg base (k + 1) "_law_policy" SP [] := by
  obtain ⟨f0, fd, D, dn⟩ := T.d__law_policy
  exact cal0 D (D.fn.binds dn fun _ _ _ _ _ _ us hl => match us, hl with | [_, _, _], _ => rfl) .nil sc__law_policy (fun vs H Q E h => (hz _ _ _ _ h).elim) (fun cdv A outer s H vs Q E hr h => (hz _ _ _ _ h).elim)
theorem calS__law_policy (T : TX K mg C_Evidence C_Good C_Bad C_KeepsAll C_LosesOne C_KeepsLittle C_KeepsMore C_BadDay C_BadPolicy D_PLAIN D_NUMBERED) {dd : Nat} (G__law_policy : Cal P w K mg base (2 + dd) "_law_policy" ((spLPol K) dd) []) : Cal P w K mg base (2 + dd + 1) "_law_policy" ((spLPol K) (dd + 1)) [] := by
  obtain ⟨f0, fd, D, dn⟩ := T.d__law_policy
  have G__law_draw := cal__law_draw (P := P) (w := w) (base := base) T
  refine cal0 D (D.fn.binds dn fun _ _ _ _ _ _ us hl => match us, hl with | [_, _, _], _ => rfl) .nil sc__law_policy (by walk_at "len") (fun cdv A outer s H vs Q E hr h => ?_)
  obtain ⟨sc, ns, i, e, rfl, hsc, hns, he, hb, k⟩ := h
  have hb0 : i + 9 ≤ 1000 := by
    have := Nat.le_mul_of_pos_right (i + 9) (Nat.two_pow_pos e)
    omega
  refine ⟨_, (pss_cut (ps_s 3 sc__law_policy.nd (pe_ifExp (pt_cmpR op_gt (pv 2) pe_int (nomark _)) (pe_c G__law_draw hr (by omega) rfl (pa_cons (pv 0) (pa_cons (pv 1) (pa_cons pe_int pa_nil)))) (pe_c G__law_draw hr (by omega) rfl (pa_cons (pv 0) (pa_cons (pv 1) (pa_cons pe_int pa_nil))))))
      (pss_cons (ps_if (pt_cmpR op_lt (pv 3) pe_int (nomark _)) (pss_one (ps_ret (pe_ix ix_tup (pe_tup (pa_cons (pe_tup (pa_cons pe_str pa_nil)) (pa_cons (pe_tup (pa_cons pe_str pa_nil)) (pa_cons (pe_tup (pa_cons pe_str pa_nil)) pa_nil)))) (pv 3) (fun _ _ => rfl)))) pss_nil)
      (pss_cons (ps_if (pt_cmpR op_lt (pv 3) pe_int (nomark _)) (pss_one (ps_ret (pe_tup (pa_cons (pe_ix ix_tup (pe_tup (pa_cons pe_str (pa_cons pe_str (pa_cons pe_str pa_nil)))) (pe_op op_sub (pv 3) pe_int) (fun _ _ => rfl)) (pa_cons (pe_c G__law_draw hr (by omega) rfl (pa_cons (pv 0) (pa_cons (pe_op op_add (pv 1) pe_int) (pa_cons pe_int pa_nil)))) pa_nil))))) pss_nil)
      (pss_cons (ps_if (pt_cmpR op_eq (pv 3) pe_int (nomark _)) (pss_one (ps_ret (pe_tup (pa_cons pe_str (pa_cons (pe_c G__law_policy hr (by omega) rfl (pa_cons (pv 0) (pa_cons (pe_op op_add (pe_op op_mul pe_int (pv 1)) pe_int) (pa_cons (pe_op op_sub (pv 2) pe_int) pa_nil)))) pa_nil))))) pss_nil)
      (pss_one (ps_ret (pe_tup (pa_cons (pe_ix ix_tup (pe_tup (pa_cons pe_str (pa_cons pe_str (pa_cons pe_str pa_nil)))) (pe_op op_sub (pv 3) pe_int) (fun _ _ => rfl)) (pa_cons (pe_c G__law_policy hr (by omega) rfl (pa_cons (pv 0) (pa_cons (pe_op op_add (pe_op op_mul pe_int (pv 1)) pe_int) (pa_cons (pe_op op_sub (pv 2) pe_int) pa_nil)))) (pa_cons (pe_c G__law_policy hr (by omega) rfl (pa_cons (pv 0) (pa_cons (pe_op op_add (pe_op op_mul pe_int (pv 1)) pe_int) (pa_cons (pe_op op_sub (pv 2) pe_int) pa_nil)))) pa_nil)))))))))), ?_⟩
  walk_at "rd"
  refine ⟨fun σ H' => ∃ n : Int, Same H H' ∧ 0 ≤ n ∧ n < 10 ∧ (e = 0 → n < 6) ∧ σ = [some (.ref sc), some (.int (i : Int)), some (.int (e : Int)), some (.int n)], ?_, ?_⟩
  · walk_at "rd"
    refine rd_ite (fun c => ?_) (fun c => ?_)
    · walk_at "rd"
      refine ⟨sc, ns, _, _, rfl, hsc, hns, by omega, by omega, fun H1 n s1 n0 n1 => ?_⟩
      walk_at "rd"
      exact ⟨n, s1, n0, n1, fun z => by omega, rfl⟩
    · walk_at "rd"
      refine ⟨sc, ns, _, _, rfl, hsc, hns, by omega, by omega, fun H1 n s1 n0 n1 => ?_⟩
      walk_at "rd"
      exact ⟨n, s1, n0, by omega, fun z => n1, rfl⟩
  rintro σ H1 ⟨n, s1, n0, n10, n6, rfl⟩
  have hsc1 := L2.Same.seq s1 hsc
  walk_at "rd"
  refine rd_ite (fun c3 => ?_) (fun c3 => ?_)
  · walk_at "rd"
    refine rd_newT (by simp) fun t1 H2 _ s2 et1 _ => ?_
    walk_at "rd"
    refine rd_newT (by simp) fun t2 H3 _ s3 et2 _ => ?_
    walk_at "rd"
    refine rd_newT (by simp) fun t3 H4 _ s4 et3 _ => ?_
    walk_at "rd"
    refine rd_newT (by simp) fun t4 H5 _ s5 et4 _ => ?_
    walk_at "rd"
    have s15 := s1.trans (s2.trans (s3.trans (s4.trans s5)))
    rcases (by omega : n = 0 ∨ n = 1 ∨ n = 2) with rfl | rfl | rfl
    · refine rd_ixT et4 rfl ?_
      exact k H5 _ .pinned s15 (.tup ((s3.trans (s4.trans s5)) _ _ et1) (.cons (.str _) .nil)) True.intro (Nat.zero_le _)
    · refine rd_ixT et4 rfl ?_
      exact k H5 _ .after s15 (.tup ((s4.trans s5) _ _ et2) (.cons (.str _) .nil)) True.intro (Nat.zero_le _)
    · refine rd_ixT et4 rfl ?_
      exact k H5 _ .anyP s15 (.tup (s5 _ _ et3) (.cons (.str _) .nil)) True.intro (Nat.zero_le _)
  walk_at "rd"
  refine rd_ite (fun c6 => ?_) (fun c6 => ?_)
  · walk_at "rd"
    refine rd_newT (by simp) fun t1 H2 _ s2 et1 _ => ?_
    walk_at "rd"
    have nm : ∃ (z : Str) (f : Nat → Pol), atI [V.str "newest", .str "young", .str "fresh"] (n - 3) = some (.str z) ∧ (∀ m : Nat, polL (f m) = [.str z, .int (m : Int)] ∧ (m ≤ 12 → okP (f m)) ∧ hgt (f m) = 0) := by
      rcases (by omega : n = 3 ∨ n = 4 ∨ n = 5) with rfl | rfl | rfl
      · exact ⟨_, .newest, rfl, fun m => ⟨rfl, fun h => h, rfl⟩⟩
      · exact ⟨_, .young, rfl, fun m => ⟨rfl, fun h => h, rfl⟩⟩
      · exact ⟨_, .fresh, rfl, fun m => ⟨rfl, fun h => h, rfl⟩⟩
    obtain ⟨z, f, hz, hf⟩ := nm
    refine rd_ixT et1 hz ?_
    walk_at "rd"
    refine ⟨sc, ns, _, _, rfl, L2.Same.seq s2 hsc1, hns, by omega, by omega, fun H3 q s3 q0 q1 => ?_⟩
    obtain ⟨m, rfl⟩ : ∃ m : Nat, q = (m : Int) := ⟨q.toNat, by omega⟩
    walk_at "rd"
    refine rd_newT (by simp) fun t2 H4 _ s4 et2 _ => ?_
    obtain ⟨h1, h2, h3⟩ := hf m
    refine k H4 _ (f m) (s1.trans (s2.trans (s3.trans s4))) ?_ (h2 (by omega)) (by omega)
    unfold PolP polD
    rw [h1]
    exact .tup et2 (.cons (.str _) (.cons (.int _) .nil))
  obtain ⟨e, rfl⟩ : ∃ e', e = e' + 1 := ⟨e - 1, by
    have : e ≠ 0 := fun z => by have := n6 z; omega
    omega⟩
  have hb1 : (2 * i + 3 + 9) * 2 ^ e ≤ 1000 := by
    refine Nat.le_trans ?_ hb
    rw [Nat.pow_succ, Nat.mul_comm (2 ^ e) 2, ← Nat.mul_assoc]
    exact Nat.mul_le_mul_right _ (by omega)
  have hb2 : (2 * i + 9 + 9) * 2 ^ e ≤ 1000 := by
    refine Nat.le_trans ?_ hb
    rw [Nat.pow_succ, Nat.mul_comm (2 ^ e) 2, ← Nat.mul_assoc]
    exact Nat.mul_le_mul_right _ (by omega)
  have he2 : e < dd := by omega
  have ei : ((e + 1 : Nat) : Int) - 1 = (e : Int) := by omega
  have v1 : ∀ j : Nat, [V.ref sc, .int (2 * (i : Int) + (j : Int)), .int (((e + 1 : Nat) : Int) - 1)] = [V.ref sc, .int ((2 * i + j : Nat) : Int), .int (e : Int)] := fun j => by
    rw [ei, show (2 * (i : Int) + (j : Int)) = ((2 * i + j : Nat) : Int) by omega]
  walk_at "rd"
  refine rd_ite (fun c7 => ?_) (fun c7 => ?_)
  · walk_at "rd"
    refine ⟨sc, ns, 2 * i + 3, e, v1 3, hsc1, hns, he2, hb1, fun H2 v p s2 hp okp hh => ?_⟩
    walk_at "rd"
    refine rd_newT (by simp) fun t2 H3 _ s3 et2 _ => ?_
    exact k H3 _ (.neg p) (s1.trans (s2.trans s3)) (.tup et2 (.cons (.str _) (.cons (hp.mono s3) .nil))) okp (Nat.succ_le_succ hh)
  · walk_at "rd"
    refine rd_newT (by simp) fun t1 H2 _ s2 et1 _ => ?_
    walk_at "rd"
    have nm : ∃ (z : Str) (f : Pol → Pol → Pol), atI [V.str "and", .str "or", .str "or"] (n - 7) = some (.str z) ∧ (∀ p q : Pol, polL (f p q) = [.str z, polD p, polD q] ∧ (okP p → okP q → okP (f p q)) ∧ hgt (f p q) = max (hgt p) (hgt q) + 1) := by
      rcases (by omega : n = 7 ∨ n = 8 ∨ n = 9) with rfl | rfl | rfl
      · exact ⟨_, .both, rfl, fun p q => ⟨rfl, fun a b => ⟨a, b⟩, rfl⟩⟩
      · exact ⟨_, .either, rfl, fun p q => ⟨rfl, fun a b => ⟨a, b⟩, rfl⟩⟩
      · exact ⟨_, .either, rfl, fun p q => ⟨rfl, fun a b => ⟨a, b⟩, rfl⟩⟩
    obtain ⟨z, f, hz, hf⟩ := nm
    refine rd_ixT et1 hz ?_
    walk_at "rd"
    refine ⟨sc, ns, 2 * i + 3, e, v1 3, L2.Same.seq s2 hsc1, hns, he2, hb1, fun H3 v p s3 hp okp hh => ?_⟩
    walk_at "rd"
    refine ⟨sc, ns, 2 * i + 9, e, v1 9, L2.Same.seq (s2.trans s3) hsc1, hns, he2, hb2, fun H4 v2 q s4 hq okq hh2 => ?_⟩
    walk_at "rd"
    refine rd_newT (by simp) fun t2 H5 _ s5 et2 _ => ?_
    obtain ⟨h1, h2, h3⟩ := hf p q
    refine k H5 _ (f p q) (s1.trans (s2.trans (s3.trans (s4.trans s5)))) ?_ (h2 okp okq) (by omega)
    unfold PolP polD
    rw [h1]
    exact .tup et2 (.cons (.str _) (.cons (hp.mono (s4.trans s5)) (.cons (hq.mono s5) .nil)))
theorem cal__law_policy (T : TX K mg C_Evidence C_Good C_Bad C_KeepsAll C_LosesOne C_KeepsLittle C_KeepsMore C_BadDay C_BadPolicy D_PLAIN D_NUMBERED) : Cal P w K mg base 6 "_law_policy" (spLPol K 4) [] := by
  have h : ∀ d, Cal P w K mg base (2 + d) "_law_policy" (spLPol K d) [] := fun d => by
    induction d with
    | zero => exact calF__law_policy T (fun vs H Q E ⟨_, _, _, _, _, _, _, hh, _⟩ => Nat.not_lt_zero _ hh)
    | succ d ih => exact calS__law_policy T ih
  exact h 4
end
end Sl

set_option Elab.async false
set_option linter.all false
set_option maxRecDepth 100000
set_option maxHeartbeats 8000000
set_option exponentiation.threshold 9000
namespace Sl
open PySem L2 C8 StX Silt
local macro_rules | `(tactic| walk_at "side") => `(tactic| first
  | exact cdivw (by omega) (by omega)
  | exact cmulw (by omega) (by omega) (by omega) (by omega)
  | exact Or.inr ⟨by omega, by omega⟩
  | exact Or.inl ⟨by omega, by omega⟩
  | omega
  | exact ⟨by omega, by omega, by decide⟩
  | decide)
local macro_rules | `(tactic| walk_at "rd1") => `(tactic| first
  | with_reducible refine rd_seq ?_
  | with_reducible refine rd_asg ?_
  | with_reducible refine rd_drop ?_
  | with_reducible refine rd_ret ?_
  | with_reducible refine rd_retN ?_
  | with_reducible refine rd_ifS ?_
  | ((with_reducible refine rd_var0 ?_); refine ⟨_, rfl, ?_⟩)
  | with_reducible refine rd_c ?_
  | with_reducible refine rd_op ?_
  | with_reducible refine rd_un ?_
  | with_reducible refine rd_I0 ?_
  | with_reducible refine rd_U ?_
  | ((with_reducible refine rd_I ?c ?_); (case c => walk_at "side"))
  | with_reducible refine rd_ipI ?_
  | with_reducible refine rd_eqI ?_
  | with_reducible refine rd_neI ?_
  | with_reducible refine rd_test ?_
  | with_reducible refine rd_tB ?_
  | with_reducible refine rd_bl ?_
  | with_reducible refine rd_not ?_
  | with_reducible refine rd_and ?_
  | with_reducible refine rd_or ?_
  | with_reducible refine rd_andV ?_
  | with_reducible refine rd_orV ?_
  | with_reducible refine rd_notV ?_
  | with_reducible refine rd_ifE ?_
  | with_reducible refine rd_chain ?_
  | with_reducible refine rd_chain3 ?_
  | with_reducible refine rd_nil ?_
  | with_reducible refine rd_cons ?_
  | with_reducible refine rd_call ?_
  | with_reducible refine rd_CB ?_
  | with_reducible refine rd_par ?_
  | with_reducible refine rd_par2 ?_
  | with_reducible refine rd_par3 ?_
  | with_reducible refine rd_par4 ?_
  | ((with_reducible refine rd_aug0 ?_); refine ⟨_, rfl, ?_⟩)
  | with_reducible refine rd_gname ?_
  | with_reducible refine rd_gcons ?_
  | with_reducible refine rd_gnil ?_
  | with_reducible refine rd_max ?_
  | with_reducible refine rd_min ?_
  | with_reducible refine rd_int1 ?_
  | with_reducible refine rd_abs ?_
  | with_reducible refine rd_lst ?_
  | with_reducible refine rd_tup ?_
  | with_reducible refine rd_bm ?_
  | with_reducible refine rd_fld0 ?_
  | with_reducible refine rd_sl0 ?_
  | with_reducible refine rd_noP ?_
  | with_reducible refine rd_part ?_
  | with_reducible refine rd_part2 ?_
  | with_reducible refine rd_meth0 ?_
  | with_reducible refine rd_star ?_
  | with_reducible refine rd_for ?_
  | with_reducible refine rd_rng1 ?_
  | with_reducible refine rd_rng2 ?_
  | with_reducible refine rd_rng3 ?_
  | with_reducible refine rd_iList ?_
  | with_reducible refine rd_iTup ?_
  | with_reducible refine rd_iEnum ?_
  | with_reducible refine rd_lc ?_
  | with_reducible refine rd_yes ?_
  | with_reducible refine rd_augS ?_
  | with_reducible refine rd_drawNew ?_
  | with_reducible refine rd_make0 ?_
  | with_reducible refine rd_next ?_
  | with_reducible refine rd_break ?_
  | with_reducible refine rd_cont ?_
  | with_reducible refine rd_iteTT ?_
  | with_reducible refine rd_iteFF ?_
  | with_reducible refine rd_iteNTT ?_
  | with_reducible refine rd_iteNFF ?_
  | with_reducible refine rd_con0 ?_
  | with_reducible refine rd_truO0 ?_
  | with_reducible refine rd_gfld0 ?_
  | with_reducible refine rd_dc ?_
  | with_reducible refine rd_iKeys ?_
  | with_reducible refine rd_dget0 ?_
  | with_reducible refine rd_dput0 ?_
  | with_reducible refine rd_dnot0 ?_
  | with_reducible refine rd_iEnumT ?_
  | with_reducible refine rd_raP0 ?_
  | with_reducible refine rd_xf0 ?_
  | with_reducible refine rd_cKw ?_
  | with_reducible refine rd_iStr ?_
  | with_reducible refine rd_gSub ?_
  | with_reducible refine rd_asgG ?_)
local macro_rules | `(tactic| walk_at "rd") => `(tactic| repeat walk_at "rd1")
local macro_rules | `(tactic| walk_at "len") => `(tactic| first
  | (intro vs H Q E h; obtain ⟨h2, _⟩ := h; rw [h2]; rfl)
  | (intro vs H Q E h; obtain ⟨_, h2, _⟩ := h; rw [h2]; rfl)
  | (intro vs H Q E h; obtain ⟨_, _, h2, _⟩ := h; rw [h2]; rfl)
  | (intro vs H Q E h; obtain ⟨_, _, _, h2, _⟩ := h; rw [h2]; rfl)
  | (intro vs H Q E h; obtain ⟨_, _, _, _, h2, _⟩ := h; rw [h2]; rfl)
  | (intro vs H Q E h; obtain ⟨_, _, _, _, _, h2, _⟩ := h; rw [h2]; rfl)
  | (intro vs H Q E h; obtain ⟨_, _, _, _, _, _, h2, _⟩ := h; rw [h2]; rfl)
  | (intro vs H Q E h; obtain ⟨_, _, _, _, _, _, _, h2, _⟩ := h; rw [h2]; rfl)
  | (intro vs H Q E h; obtain ⟨_, _, _, _, _, _, _, _, h2, _⟩ := h; rw [h2]; rfl)
  | (intro vs H Q E h; obtain ⟨_, _, _, _, _, _, _, _, _, h2, _⟩ := h; rw [h2]; rfl)
  | (intro vs H Q E h; obtain ⟨_, _, _, _, _, _, _, _, _, _, h2, _⟩ := h; rw [h2]; rfl)
  | (intro vs H Q E h; obtain ⟨_, _, _, _, _, _, _, _, _, _, _, h2, _⟩ := h; rw [h2]; rfl)
  | (intro vs H Q E h; obtain ⟨_, _, _, _, _, _, _, _, _, _, _, _, h2, _⟩ := h; rw [h2]; rfl))
theorem eqv_emp (ds : List PyData) : PyData.eqv (.list ds) (.list []) = ds.isEmpty := by cases ds <;> simp [PyData.eqv, PyData.eqvAll]
theorem dt_ints {H : Hp} : ∀ l : List Int, DtAll H (intV l) (l.map PyData.int)
  | [] => .nil
  | a :: l => .cons (.int a) (dt_ints l)
theorem shaped_intsL (l : List Int) : SeqAt.shaped (.list (l.map PyData.int)) = true :=
  shaped_listMap (fun _ => by simp [PyData.canLay0]) (fun _ => by simp [PyData.depth]) l
section
variable {P : Program} {w : World} {K : PySem.W.Frag} {mg : Str → Option Value} {base : Heap} {C_Evidence C_Good C_Bad C_KeepsAll C_LosesOne C_KeepsLittle C_KeepsMore C_BadDay C_BadPolicy D_PLAIN D_NUMBERED : Addr}
theorem calF__law_keeps (T : TX K mg C_Evidence C_Good C_Bad C_KeepsAll C_LosesOne C_KeepsLittle C_KeepsMore C_BadDay C_BadPolicy D_PLAIN D_NUMBERED) {k : Nat} {SP : Sp} (hz : ∀ vs H Q E, ¬ SP vs H Q E) : Cal P w K mg base (k + 1) "_law_keeps" SP [] := by
  obtain ⟨f0, fd, D, dn⟩ := T.d__law_keeps
  exact cal0 D (D.fn.binds dn fun _ _ _ _ _ _ us hl => match us, hl with | [_, _, _, _, _], _ => rfl) .nil sc__law_keeps (fun vs H Q E h => (hz _ _ _ _ h).elim) (fun cdv A outer s H vs Q E hr h => (hz _ _ _ _ h).elim)
theorem calS__law_keeps (T : TX K mg C_Evidence C_Good C_Bad C_KeepsAll C_LosesOne C_KeepsLittle C_KeepsMore C_BadDay C_BadPolicy D_PLAIN D_NUMBERED) {dd : Nat} (G__law_keeps : Cal P w K mg base (1 + dd) "_law_keeps" ((spLKeeps) dd) []) : Cal P w K mg base (1 + dd + 1) "_law_keeps" ((spLKeeps) (dd + 1)) [] := by
  obtain ⟨f0, fd, D, dn⟩ := T.d__law_keeps
  refine cal0 D (D.fn.binds dn fun _ _ _ _ _ _ us hl => match us, hl with | [_, _, _, _, _], _ => rfl) .nil sc__law_keeps (by walk_at "len") (fun cdv A outer s H vs Q E hr h => ?_)
  obtain ⟨v, p, a, pa, days, pins, i0, today, rfl, hp, hh, ed, ep, hi, ld, lp, k⟩ := h
  obtain ⟨t, xs, rfl, et, edx⟩ := hp.inv
  have lx : (intV days).length = days.length := List.length_map _
  have lp2 : (intV pins).length = pins.length := List.length_map _
  have d1 : atI (intV days) (i0 : Int) = some (.int (days.getD i0 0)) := by
    refine atI_nat' ?_
    unfold intV
    rw [List.getElem?_map, List.getD_eq_getElem?_getD, List.getElem?_eq_getElem (by omega)]
    rfl
  have d2 : atI (intV days) ((i0 : Int) + 1) = some (.int (days.getD (i0 + 1) 0)) := by
    rw [show (i0 : Int) + 1 = ((i0 + 1 : Nat) : Int) by omega]
    refine atI_nat' ?_
    unfold intV
    rw [List.getElem?_map, List.getD_eq_getElem?_getD, List.getElem?_eq_getElem hi]
    rfl
  refine ⟨_, (pss_cons (ps_s 5 sc__law_keeps.nd (pe_ix ix_tup (pv 0) pe_int (fun _ _ => rfl)))
      (pss_cons (ps_if (pt_cmpR op_eq (pv 5) pe_str (nomark _)) (pss_one (ps_ret (pe_callB (cr_any rfl) (by rfl) T.b_any (by decide +kernel) (pa_cons (pe_lc (own := [("_law_pin", 6)]) (g := gName 6) (tt := tYes) rfl sc__law_keeps.nd (pi_list (pv 3)) (blkOk_by (own := [("_law_pin", 6)]) (N := N__law_keeps) (sc := fnScope s__law_keeps) (by decide +kernel)) (fun _ _ _ _ _ => (pg_n 6 sc__law_keeps.nd)) (fun _ _ _ _ _ => pts_nil) (fun _ _ _ _ _ => (pe_chain op_le op_lt (pe_ix (ixK rIxL K ix_list) (pv 1) (pv 2) (fun _ _ => rfl)) (pv 6) (pe_ix (ixK rIxL K ix_list) (pv 1) (pe_op op_add (pv 2) pe_int) (fun _ _ => rfl))))) pa_nil)))) pss_nil)
      (pss_cons (ps_if (pt_cmpR op_eq (pv 5) pe_str (nomark _)) (pss_one (ps_ret (pe_callB (cr_any rfl) (by rfl) T.b_any (by decide +kernel) (pa_cons (pe_lc (own := [("_law_pin", 6)]) (g := gName 6) (tt := tYes) rfl sc__law_keeps.nd (pi_list (pv 3)) (blkOk_by (own := [("_law_pin", 6)]) (N := N__law_keeps) (sc := fnScope s__law_keeps) (by decide +kernel)) (fun _ _ _ _ _ => (pg_n 6 sc__law_keeps.nd)) (fun _ _ _ _ _ => pts_nil) (fun _ _ _ _ _ => (pe_cmpR op_ge (pv 6) (pe_ix (ixK rIxL K ix_list) (pv 1) (pv 2) (fun _ _ => rfl)) (nomark _)))) pa_nil)))) pss_nil)
      (pss_cons (ps_if (pt_cmpR op_eq (pv 5) pe_str (nomark _)) (pss_one (ps_ret (pe_cmpR (op_neD hr.units) (pv 3) (pe_lst pa_nil) (nomark _)))) pss_nil)
      (pss_cons (ps_if (pt_cmpR op_eq (pv 5) pe_str (nomark _)) (pss_one (ps_ret (pe_cmpR op_lt (pe_op op_sub (pe_op op_sub (pe_callB cr_lenS (by rfl) T.b_len (by decide +kernel) (pa_cons (pv 1) pa_nil)) (pv 2)) pe_int) (pe_ix ix_tup (pv 0) pe_int (fun _ _ => rfl)) (nomark _)))) pss_nil)
      (pss_cons (ps_if (pt_cmpR op_eq (pv 5) pe_str (nomark _)) (pss_one (ps_ret (pe_cmpR op_le (pe_op op_sub (pv 4) (pe_ix ix_list (pv 1) (pv 2) (fun _ _ => rfl))) (pe_ix ix_tup (pv 0) pe_int (fun _ _ => rfl)) (nomark _)))) pss_nil)
      (pss_cons (ps_if (pt_cmpR op_eq (pv 5) pe_str (nomark _)) (pss_one (ps_ret (pe_cmpR op_le (pe_op op_sub (pv 4) (pe_ix ix_list (pv 1) (pe_op op_add (pv 2) pe_int) (fun _ _ => rfl))) (pe_ix ix_tup (pv 0) pe_int (fun _ _ => rfl)) (nomark _)))) pss_nil)
      (pss_cons (ps_setLc (i := 7) (own := [("_law_one", 8)]) (g := gName 8) (tt := tYes) rfl sc__law_keeps.nd rfl rfl (sw_true rfl rfl rfl (by decide +kernel)) (pi_tup (pe_slice sl_tupA (pv 0) (po_some pe_int) po_none)) (blkOk_by (own := [("_law_one", 8)]) (N := N__law_keeps) (sc := fnScope s__law_keeps) (by decide +kernel)) (fun _ _ _ _ _ => (pg_n 8 sc__law_keeps.nd)) (fun _ _ _ _ _ => pts_nil) (fun _ _ _ _ _ => (pe_c G__law_keeps hr (by omega) rfl (pa_cons (pv 8) (pa_cons (pv 1) (pa_cons (pv 2) (pa_cons (pv 3) (pa_cons (pv 4) pa_nil))))))))
      (pss_one (ps_ret (pe_ifExp (pt_cmpR op_eq (pv 5) pe_str (nomark _)) (pe_not (pe_ix ix_list (pv 7) pe_int (fun _ _ => rfl))) (pe_ifExp (pt_cmpR op_eq (pv 5) pe_str (nomark _)) (pe_callB (cr_all rfl) (by rfl) T.b_all (by decide +kernel) (pa_cons (pv 7) pa_nil)) (pe_callB (cr_any rfl) (by rfl) T.b_any (by decide +kernel) (pa_cons (pv 7) pa_nil)))))))))))))), ?_⟩
  walk_at "rd"
  cases p with
  | pinned =>
    obtain rfl := inv1 edx
    refine rd_ixT et rfl ?_
    walk_at "rd"
    refine rd_eqSt ⟨true, rfl, ?_⟩
    walk_at "rd"
    refine rd_lsR (SqL.of ep) ?_
    refine lcR_lst (xs := intV pins) (fun W i H' => Same H H' ∧ H' W = some (.lst (((pins.take i).map fun q => decide (days.getD i0 0 ≤ q) && decide (q < days.getD (i0 + 1) 0)).map V.bl))) (fun W i H' _ ⟨s, _⟩ => SqL.of (s _ _ ep)) (fun W H' _ s e _ => ⟨s, e⟩) ?_ ?_
    · rintro W i y H2 hW hy ⟨s2, eW⟩
      have hi := (List.getElem?_eq_some_iff.mp hy).1
      obtain ⟨m, hm, rfl⟩ := intV_at hy
      have fin : ∀ b, b = (fun q => decide (days.getD i0 0 ≤ q) && decide (q < days.getD (i0 + 1) 0)) m → LcE W (fun H' => Same H H' ∧ H' W = some (.lst (((pins.take (i + 1)).map fun q => decide (days.getD i0 0 ≤ q) && decide (q < days.getD (i0 + 1) 0)).map V.bl))) (.bl b) H2 := by
        rintro b rfl
        refine rd_lcE eW (by rw [List.length_map, List.length_map, List.length_take]; omega) fun H3 eH3 eW3 => ?_
        refine ⟨by rw [eH3]; exact Same.mut s2 hW, ?_⟩
        rw [eW3, List.take_add_one, hm, List.map_append, List.map_append]
        rfl
      walk_at "rd"
      refine ⟨rfl, ?_⟩
      walk_at "rd"
      refine rd_ixL (s2 _ _ ed) d1 ?_
      walk_at "rd"
      refine rd_ite (fun c => ?_) (fun c => ?_)
      · walk_at "rd"
        refine rd_ixL (s2 _ _ ed) d2 ?_
        walk_at "rd"
        refine fin _ ?_
        show _ = (decide (days.getD i0 0 ≤ m) && decide (m < days.getD (i0 + 1) 0))
        rw [decide_eq_true c, Bool.true_and]
      · walk_at "rd"
        refine fin _ ?_
        show _ = (decide (days.getD i0 0 ≤ m) && decide (m < days.getD (i0 + 1) 0))
        rw [decide_eq_false c, Bool.false_and]
    rintro W H2 hW ⟨s2, eW⟩
    rw [lp2, List.take_length] at eW
    walk_at "rd"
    refine any_bs eW ?_
    rw [List.any_map]
    exact k H2 s2
  | after =>
    obtain rfl := inv1 edx
    refine rd_ixT et rfl ?_
    walk_at "rd"
    refine rd_eqSf (by decide +kernel) ⟨false, rfl, ?_⟩
    walk_at "rd"
    refine rd_eqSt ⟨true, rfl, ?_⟩
    walk_at "rd"
    refine rd_lsR (SqL.of ep) ?_
    refine lcR_lst (xs := intV pins) (fun W i H' => Same H H' ∧ H' W = some (.lst (((pins.take i).map fun q => decide (q ≥ days.getD i0 0)).map V.bl))) (fun W i H' _ ⟨s, _⟩ => SqL.of (s _ _ ep)) (fun W H' _ s e _ => ⟨s, e⟩) ?_ ?_
    · rintro W i y H2 hW hy ⟨s2, eW⟩
      have hi := (List.getElem?_eq_some_iff.mp hy).1
      obtain ⟨m, hm, rfl⟩ := intV_at hy
      have fin : ∀ b, b = (fun q => decide (q ≥ days.getD i0 0)) m → LcE W (fun H' => Same H H' ∧ H' W = some (.lst (((pins.take (i + 1)).map fun q => decide (q ≥ days.getD i0 0)).map V.bl))) (.bl b) H2 := by
        rintro b rfl
        refine rd_lcE eW (by rw [List.length_map, List.length_map, List.length_take]; omega) fun H3 eH3 eW3 => ?_
        refine ⟨by rw [eH3]; exact Same.mut s2 hW, ?_⟩
        rw [eW3, List.take_add_one, hm, List.map_append, List.map_append]
        rfl
      walk_at "rd"
      refine ⟨rfl, ?_⟩
      walk_at "rd"
      refine rd_ixL (s2 _ _ ed) d1 ?_
      walk_at "rd"
      exact fin _ rfl
    rintro W H2 hW ⟨s2, eW⟩
    rw [lp2, List.take_length] at eW
    walk_at "rd"
    refine any_bs eW ?_
    rw [List.any_map]
    exact k H2 s2
  | anyP =>
    obtain rfl := inv1 edx
    refine rd_ixT et rfl ?_
    walk_at "rd"
    refine rd_eqSf (by decide +kernel) ⟨false, rfl, ?_⟩
    walk_at "rd"
    refine rd_eqSf (by decide +kernel) ⟨false, rfl, ?_⟩
    walk_at "rd"
    refine rd_eqSt ⟨true, rfl, ?_⟩
    walk_at "rd"
    refine rd_newL (by simp) fun el H1 _ s1 eel _ => ?_
    refine rd_neD (.lst (s1 _ _ ep) (dt_ints pins)) (.lst eel .nil) (shaped_intsL pins) (by rfl) ?_
    rw [eqv_emp, List.isEmpty_map]
    exact k H1 s1
  | newest n =>
    obtain rfl := inv2 edx
    refine rd_ixT et rfl ?_
    walk_at "rd"
    refine rd_eqSf (by decide +kernel) ⟨false, rfl, ?_⟩
    walk_at "rd"
    refine rd_eqSf (by decide +kernel) ⟨false, rfl, ?_⟩
    walk_at "rd"
    refine rd_eqSf (by decide +kernel) ⟨false, rfl, ?_⟩
    walk_at "rd"
    refine rd_eqSt ⟨true, rfl, ?_⟩
    walk_at "rd"
    refine rd_lenL ed ?_
    walk_at "rd"
    refine rd_ixT et rfl ?_
    walk_at "rd"
    rw [lx]
    exact k H (Same.refl H)
  | young n =>
    obtain rfl := inv2 edx
    refine rd_ixT et rfl ?_
    walk_at "rd"
    refine rd_eqSf (by decide +kernel) ⟨false, rfl, ?_⟩
    walk_at "rd"
    refine rd_eqSf (by decide +kernel) ⟨false, rfl, ?_⟩
    walk_at "rd"
    refine rd_eqSf (by decide +kernel) ⟨false, rfl, ?_⟩
    walk_at "rd"
    refine rd_eqSf (by decide +kernel) ⟨false, rfl, ?_⟩
    walk_at "rd"
    refine rd_eqSt ⟨true, rfl, ?_⟩
    walk_at "rd"
    refine rd_ixL ed d1 ?_
    walk_at "rd"
    refine rd_ixT et rfl ?_
    walk_at "rd"
    exact k H (Same.refl H)
  | fresh n =>
    obtain rfl := inv2 edx
    refine rd_ixT et rfl ?_
    walk_at "rd"
    refine rd_eqSf (by decide +kernel) ⟨false, rfl, ?_⟩
    walk_at "rd"
    refine rd_eqSf (by decide +kernel) ⟨false, rfl, ?_⟩
    walk_at "rd"
    refine rd_eqSf (by decide +kernel) ⟨false, rfl, ?_⟩
    walk_at "rd"
    refine rd_eqSf (by decide +kernel) ⟨false, rfl, ?_⟩
    walk_at "rd"
    refine rd_eqSf (by decide +kernel) ⟨false, rfl, ?_⟩
    walk_at "rd"
    refine rd_eqSt ⟨true, rfl, ?_⟩
    walk_at "rd"
    refine rd_ixL ed d2 ?_
    walk_at "rd"
    refine rd_ixT et rfl ?_
    walk_at "rd"
    exact k H (Same.refl H)
  | neg p =>
    obtain ⟨x, rfl, hx⟩ := inv3 edx
    refine rd_ixT et rfl ?_
    walk_at "rd"
    refine rd_eqSf (by decide +kernel) ⟨false, rfl, ?_⟩
    walk_at "rd"
    refine rd_eqSf (by decide +kernel) ⟨false, rfl, ?_⟩
    walk_at "rd"
    refine rd_eqSf (by decide +kernel) ⟨false, rfl, ?_⟩
    walk_at "rd"
    refine rd_eqSf (by decide +kernel) ⟨false, rfl, ?_⟩
    walk_at "rd"
    refine rd_eqSf (by decide +kernel) ⟨false, rfl, ?_⟩
    walk_at "rd"
    refine rd_eqSf (by decide +kernel) ⟨false, rfl, ?_⟩
    walk_at "rd"
    refine rd_slA et fun P1 H1 s1 e1 => ?_
    rw [show cutV [V.str "not", x] (some 1) none = [x] from cutN_drop (m := 1)] at e1
    have dd2 : DnAll H1 [x] ([p].map polD) := .cons (hx.mono s1) .nil
    refine rd_tpR (SqT.of e1) ?_
    refine lcR_tup (xs := [x]) (fun W i H' => Same H1 H' ∧ H' W = some (.lst ((([p].take i).map fun r => holdsF r (casF days i0 pins today)).map V.bl))) (fun W i H' _ ⟨s, _⟩ => SqT.of (s _ _ e1)) (fun W H' _ s e _ => ⟨s, e⟩) ?_ ?_
    · rintro W i z H2 hW hz ⟨s2, eW⟩
      obtain ⟨r, hr2, dr⟩ := pol_at (dd2.mono s2) hz
      have hi2 := (List.getElem?_eq_some_iff.mp hz).1
      have hr3 : hgt r < dd := by
        have := List.mem_singleton.mp (List.mem_of_getElem? hr2)
        rw [this]
        exact Nat.lt_of_succ_lt_succ hh
      walk_at "rd"
      refine ⟨rfl, ?_⟩
      walk_at "rd"
      refine ⟨z, r, a, pa, days, pins, i0, today, rfl, dr, hr3, (s1.trans s2) _ _ ed, (s1.trans s2) _ _ ep, hi, ld, lp, fun H3 s3 => ?_⟩
      refine rd_lcE (s3 _ _ eW) (by rw [List.length_map, List.length_map, List.length_take]; simp at hi2 ⊢; omega) fun H4 eH4 eW4 => ?_
      refine ⟨by rw [eH4]; exact Same.mut (s2.trans s3) hW, ?_⟩
      rw [eW4, List.take_add_one, hr2, List.map_append, List.map_append]
      rfl
    rintro W H2 hW ⟨s2, eW⟩
    walk_at "rd"
    refine rd_eqSt ⟨true, rfl, ?_⟩
    walk_at "rd"
    refine rd_ixL eW (atI_nat' (i := 0) rfl) ?_
    walk_at "rd"
    exact k H2 (s1.trans s2)
  | both p q =>
    obtain ⟨x, y, rfl, hx, hy⟩ := inv4 edx
    refine rd_ixT et rfl ?_
    walk_at "rd"
    refine rd_eqSf (by decide +kernel) ⟨false, rfl, ?_⟩
    walk_at "rd"
    refine rd_eqSf (by decide +kernel) ⟨false, rfl, ?_⟩
    walk_at "rd"
    refine rd_eqSf (by decide +kernel) ⟨false, rfl, ?_⟩
    walk_at "rd"
    refine rd_eqSf (by decide +kernel) ⟨false, rfl, ?_⟩
    walk_at "rd"
    refine rd_eqSf (by decide +kernel) ⟨false, rfl, ?_⟩
    walk_at "rd"
    refine rd_eqSf (by decide +kernel) ⟨false, rfl, ?_⟩
    walk_at "rd"
    refine rd_slA et fun P1 H1 s1 e1 => ?_
    rw [show cutV [V.str "and", x, y] (some 1) none = [x, y] from cutN_drop (m := 1)] at e1
    have dd2 : DnAll H1 [x, y] ([p, q].map polD) := .cons (hx.mono s1) (.cons (hy.mono s1) .nil)
    refine rd_tpR (SqT.of e1) ?_
    refine lcR_tup (xs := [x, y]) (fun W i H' => Same H1 H' ∧ H' W = some (.lst ((([p, q].take i).map fun r => holdsF r (casF days i0 pins today)).map V.bl))) (fun W i H' _ ⟨s, _⟩ => SqT.of (s _ _ e1)) (fun W H' _ s e _ => ⟨s, e⟩) ?_ ?_
    · rintro W i z H2 hW hz ⟨s2, eW⟩
      obtain ⟨r, hr2, dr⟩ := pol_at (dd2.mono s2) hz
      have hi2 := (List.getElem?_eq_some_iff.mp hz).1
      have hr3 : hgt r < dd := by
        have hh : max (hgt p) (hgt q) + 1 < dd + 1 := hh
        have := pol_two hr2
        rcases this with rfl | rfl <;> omega
      walk_at "rd"
      refine ⟨rfl, ?_⟩
      walk_at "rd"
      refine ⟨z, r, a, pa, days, pins, i0, today, rfl, dr, hr3, (s1.trans s2) _ _ ed, (s1.trans s2) _ _ ep, hi, ld, lp, fun H3 s3 => ?_⟩
      refine rd_lcE (s3 _ _ eW) (by rw [List.length_map, List.length_map, List.length_take]; simp at hi2 ⊢; omega) fun H4 eH4 eW4 => ?_
      refine ⟨by rw [eH4]; exact Same.mut (s2.trans s3) hW, ?_⟩
      rw [eW4, List.take_add_one, hr2, List.map_append, List.map_append]
      rfl
    rintro W H2 hW ⟨s2, eW⟩
    walk_at "rd"
    refine rd_eqSf (by decide +kernel) ⟨false, rfl, ?_⟩
    walk_at "rd"
    refine rd_eqSt ⟨true, rfl, ?_⟩
    walk_at "rd"
    refine all_bs eW ?_
    have := k H2 (s1.trans s2)
    simpa [holdsF] using this
  | either p q =>
    obtain ⟨x, y, rfl, hx, hy⟩ := inv4 edx
    refine rd_ixT et rfl ?_
    walk_at "rd"
    refine rd_eqSf (by decide +kernel) ⟨false, rfl, ?_⟩
    walk_at "rd"
    refine rd_eqSf (by decide +kernel) ⟨false, rfl, ?_⟩
    walk_at "rd"
    refine rd_eqSf (by decide +kernel) ⟨false, rfl, ?_⟩
    walk_at "rd"
    refine rd_eqSf (by decide +kernel) ⟨false, rfl, ?_⟩
    walk_at "rd"
    refine rd_eqSf (by decide +kernel) ⟨false, rfl, ?_⟩
    walk_at "rd"
    refine rd_eqSf (by decide +kernel) ⟨false, rfl, ?_⟩
    walk_at "rd"
    refine rd_slA et fun P1 H1 s1 e1 => ?_
    rw [show cutV [V.str "or", x, y] (some 1) none = [x, y] from cutN_drop (m := 1)] at e1
    have dd2 : DnAll H1 [x, y] ([p, q].map polD) := .cons (hx.mono s1) (.cons (hy.mono s1) .nil)
    refine rd_tpR (SqT.of e1) ?_
    refine lcR_tup (xs := [x, y]) (fun W i H' => Same H1 H' ∧ H' W = some (.lst ((([p, q].take i).map fun r => holdsF r (casF days i0 pins today)).map V.bl))) (fun W i H' _ ⟨s, _⟩ => SqT.of (s _ _ e1)) (fun W H' _ s e _ => ⟨s, e⟩) ?_ ?_
    · rintro W i z H2 hW hz ⟨s2, eW⟩
      obtain ⟨r, hr2, dr⟩ := pol_at (dd2.mono s2) hz
      have hi2 := (List.getElem?_eq_some_iff.mp hz).1
      have hr3 : hgt r < dd := by
        have hh : max (hgt p) (hgt q) + 1 < dd + 1 := hh
        have := pol_two hr2
        rcases this with rfl | rfl <;> omega
      walk_at "rd"
      refine ⟨rfl, ?_⟩
      walk_at "rd"
      refine ⟨z, r, a, pa, days, pins, i0, today, rfl, dr, hr3, (s1.trans s2) _ _ ed, (s1.trans s2) _ _ ep, hi, ld, lp, fun H3 s3 => ?_⟩
      refine rd_lcE (s3 _ _ eW) (by rw [List.length_map, List.length_map, List.length_take]; simp at hi2 ⊢; omega) fun H4 eH4 eW4 => ?_
      refine ⟨by rw [eH4]; exact Same.mut (s2.trans s3) hW, ?_⟩
      rw [eW4, List.take_add_one, hr2, List.map_append, List.map_append]
      rfl
    rintro W H2 hW ⟨s2, eW⟩
    walk_at "rd"
    refine rd_eqSf (by decide +kernel) ⟨false, rfl, ?_⟩
    walk_at "rd"
    refine rd_eqSf (by decide +kernel) ⟨false, rfl, ?_⟩
    walk_at "rd"
    refine any_bs eW ?_
    have := k H2 (s1.trans s2)
    simpa [holdsF] using this
theorem cal__law_keeps (T : TX K mg C_Evidence C_Good C_Bad C_KeepsAll C_LosesOne C_KeepsLittle C_KeepsMore C_BadDay C_BadPolicy D_PLAIN D_NUMBERED) : Cal P w K mg base 5 "_law_keeps" (spLKeeps 4) [] := by
  have h : ∀ d, Cal P w K mg base (1 + d) "_law_keeps" (spLKeeps d) [] := fun d => by
    induction d with
    | zero => exact calF__law_keeps T (fun vs H Q E ⟨_, _, _, _, _, _, _, _, _, _, hh, _⟩ => Nat.not_lt_zero _ hh)
    | succ d ih => exact calS__law_keeps T ih
  exact h 4
end
end Sl

set_option Elab.async false
set_option linter.all false
set_option maxRecDepth 100000
set_option maxHeartbeats 8000000
set_option exponentiation.threshold 9000
namespace Sl
open PySem L2 C8 StX Silt
local macro_rules | `(tactic| walk_at "side") => `(tactic| first
  | exact cdivw (by omega) (by omega)
  | exact cmulw (by omega) (by omega) (by omega) (by omega)
  | exact Or.inr ⟨by omega, by omega⟩
  | exact Or.inl ⟨by omega, by omega⟩
  | omega
  | exact ⟨by omega, by omega, by decide⟩
  | decide)
local macro_rules | `(tactic| walk_at "rd1") => `(tactic| first
  | with_reducible refine rd_seq ?_
  | with_reducible refine rd_asg ?_
  | with_reducible refine rd_drop ?_
  | with_reducible refine rd_ret ?_
  | with_reducible refine rd_retN ?_
  | with_reducible refine rd_ifS ?_
  | ((with_reducible refine rd_var0 ?_); refine ⟨_, rfl, ?_⟩)
  | with_reducible refine rd_c ?_
  | with_reducible refine rd_op ?_
  | with_reducible refine rd_un ?_
  | with_reducible refine rd_I0 ?_
  | with_reducible refine rd_U ?_
  | ((with_reducible refine rd_I ?c ?_); (case c => walk_at "side"))
  | with_reducible refine rd_ipI ?_
  | with_reducible refine rd_eqI ?_
  | with_reducible refine rd_neI ?_
  | with_reducible refine rd_test ?_
  | with_reducible refine rd_tB ?_
  | with_reducible refine rd_bl ?_
  | with_reducible refine rd_not ?_
  | with_reducible refine rd_and ?_
  | with_reducible refine rd_or ?_
  | with_reducible refine rd_andV ?_
  | with_reducible refine rd_orV ?_
  | with_reducible refine rd_notV ?_
  | with_reducible refine rd_ifE ?_
  | with_reducible refine rd_chain ?_
  | with_reducible refine rd_chain3 ?_
  | with_reducible refine rd_nil ?_
  | with_reducible refine rd_cons ?_
  | with_reducible refine rd_call ?_
  | with_reducible refine rd_CB ?_
  | with_reducible refine rd_par ?_
  | with_reducible refine rd_par2 ?_
  | with_reducible refine rd_par3 ?_
  | with_reducible refine rd_par4 ?_
  | ((with_reducible refine rd_aug0 ?_); refine ⟨_, rfl, ?_⟩)
  | with_reducible refine rd_gname ?_
  | with_reducible refine rd_gcons ?_
  | with_reducible refine rd_gnil ?_
  | with_reducible refine rd_max ?_
  | with_reducible refine rd_min ?_
  | with_reducible refine rd_int1 ?_
  | with_reducible refine rd_abs ?_
  | with_reducible refine rd_lst ?_
  | with_reducible refine rd_tup ?_
  | with_reducible refine rd_bm ?_
  | with_reducible refine rd_fld0 ?_
  | with_reducible refine rd_sl0 ?_
  | with_reducible refine rd_noP ?_
  | with_reducible refine rd_part ?_
  | with_reducible refine rd_part2 ?_
  | with_reducible refine rd_meth0 ?_
  | with_reducible refine rd_star ?_
  | with_reducible refine rd_for ?_
  | with_reducible refine rd_rng1 ?_
  | with_reducible refine rd_rng2 ?_
  | with_reducible refine rd_rng3 ?_
  | with_reducible refine rd_iList ?_
  | with_reducible refine rd_iTup ?_
  | with_reducible refine rd_iEnum ?_
  | with_reducible refine rd_lc ?_
  | with_reducible refine rd_yes ?_
  | with_reducible refine rd_augS ?_
  | with_reducible refine rd_drawNew ?_
  | with_reducible refine rd_make0 ?_
  | with_reducible refine rd_next ?_
  | with_reducible refine rd_break ?_
  | with_reducible refine rd_cont ?_
  | with_reducible refine rd_iteTT ?_
  | with_reducible refine rd_iteFF ?_
  | with_reducible refine rd_iteNTT ?_
  | with_reducible refine rd_iteNFF ?_
  | with_reducible refine rd_con0 ?_
  | with_reducible refine rd_truO0 ?_
  | with_reducible refine rd_gfld0 ?_
  | with_reducible refine rd_dc ?_
  | with_reducible refine rd_iKeys ?_
  | with_reducible refine rd_dget0 ?_
  | with_reducible refine rd_dput0 ?_
  | with_reducible refine rd_dnot0 ?_
  | with_reducible refine rd_iEnumT ?_
  | with_reducible refine rd_raP0 ?_
  | with_reducible refine rd_xf0 ?_
  | with_reducible refine rd_cKw ?_
  | with_reducible refine rd_iStr ?_
  | with_reducible refine rd_gSub ?_
  | with_reducible refine rd_asgG ?_)
local macro_rules | `(tactic| walk_at "rd") => `(tactic| repeat walk_at "rd1")
local macro_rules | `(tactic| walk_at "len") => `(tactic| first
  | (intro vs H Q E h; obtain ⟨h2, _⟩ := h; rw [h2]; rfl)
  | (intro vs H Q E h; obtain ⟨_, h2, _⟩ := h; rw [h2]; rfl)
  | (intro vs H Q E h; obtain ⟨_, _, h2, _⟩ := h; rw [h2]; rfl)
  | (intro vs H Q E h; obtain ⟨_, _, _, h2, _⟩ := h; rw [h2]; rfl)
  | (intro vs H Q E h; obtain ⟨_, _, _, _, h2, _⟩ := h; rw [h2]; rfl)
  | (intro vs H Q E h; obtain ⟨_, _, _, _, _, h2, _⟩ := h; rw [h2]; rfl)
  | (intro vs H Q E h; obtain ⟨_, _, _, _, _, _, h2, _⟩ := h; rw [h2]; rfl)
  | (intro vs H Q E h; obtain ⟨_, _, _, _, _, _, _, h2, _⟩ := h; rw [h2]; rfl)
  | (intro vs H Q E h; obtain ⟨_, _, _, _, _, _, _, _, h2, _⟩ := h; rw [h2]; rfl)
  | (intro vs H Q E h; obtain ⟨_, _, _, _, _, _, _, _, _, h2, _⟩ := h; rw [h2]; rfl)
  | (intro vs H Q E h; obtain ⟨_, _, _, _, _, _, _, _, _, _, h2, _⟩ := h; rw [h2]; rfl)
  | (intro vs H Q E h; obtain ⟨_, _, _, _, _, _, _, _, _, _, _, h2, _⟩ := h; rw [h2]; rfl)
  | (intro vs H Q E h; obtain ⟨_, _, _, _, _, _, _, _, _, _, _, _, h2, _⟩ := h; rw [h2]; rfl))
local macro_rules | `(tactic| walk_at "rd1") => `(tactic| first
  | with_reducible refine rd_listRg0 ?_
  | with_reducible refine rd_tRg2 ?_)
theorem rd_inTup {K : PySem.W.Frag} {a : Addr} {xs : List V} {z : Str} {H : Hp} {Q : VK} {b : Bool} (e : H a = some (.tup xs)) (hf : xs.all flatV = true) (hb : inV (.str z) xs = b) (h : Q (.bl b) H) : rIn K false (.str z) (.ref a) H Q := by
  refine ⟨a, _, rfl, .inr (SqT.of e), rfl, hf, ?_⟩
  rw [hb, if_neg Bool.false_ne_true]
  exact h
theorem gB_len (t l : Int) : ∀ k, (gB t l k).length = k
  | 0 => rfl
  | k + 1 => by
    have ih := gB_len t l k
    unfold gB at ih ⊢
    rw [fm_succ, List.length_append, ih]
    rfl
theorem gA_len (t : Int) (N : Nat) (hN : (t + 1).toNat ≤ N) : ∀ j, (gA t j).length ≤ j * N
  | 0 => Nat.zero_le _
  | j + 1 => by
    have ih := gA_len t N hN j
    have := gB_len t (2 + (j : Int)) (t - (2 + (j : Int)) + 1).toNat
    unfold gA at ih ⊢
    rw [fm_succ, List.length_append, Nat.succ_mul]
    omega
theorem gH_len (N : Nat) : ∀ n, n + 3 ≤ N → (gH n).length ≤ n * (N * N)
  | 0, _ => Nat.zero_le _
  | n + 1, h => by
    have ih := gH_len N n (by omega)
    have h1 := gA_len (2 + (n : Int)) N (by omega) (2 + (n : Int) + 1 - 2).toNat
    have h2 : (2 + (n : Int) + 1 - 2).toNat * N ≤ N * N := Nat.mul_le_mul_right _ (by omega)
    unfold gH at ih ⊢
    rw [fm_succ, List.length_append, Nat.succ_mul]
    omega
def spLNum (d : Nat) : Sp := fun vs H Q _ => ∃ (v : V) (p : Pol), vs = [v] ∧ PolP H v p ∧ hgt p < d ∧ ∀ H', Same H H' → Q (.int (numF p : Int)) H'
def spLHist : Sp := fun vs H Q _ => ∃ (m : Nat), vs = [.int (m : Int)] ∧ m ≤ 13 ∧ ∀ H' F (rs : List Addr), Same H H' → H F = none → H' F = some (.lst (rs.map V.ref)) → HisAll H' F rs (histG m) → Q (.ref F) H'
section
variable {P : Program} {w : World} {K : PySem.W.Frag} {mg : Str → Option Value} {base : Heap} {C_Evidence C_Good C_Bad C_KeepsAll C_LosesOne C_KeepsLittle C_KeepsMore C_BadDay C_BadPolicy D_PLAIN D_NUMBERED : Addr}
theorem calF__law_number (T : TX K mg C_Evidence C_Good C_Bad C_KeepsAll C_LosesOne C_KeepsLittle C_KeepsMore C_BadDay C_BadPolicy D_PLAIN D_NUMBERED) {k : Nat} {SP : Sp} (hz : ∀ vs H Q E, ¬ SP vs H Q E) : Cal P w K mg base (k + 1) "_law_number" SP [] := by
  obtain ⟨f0, fd, D, dn⟩ := T.d__law_number
  exact cal0 D (D.fn.binds dn fun _ _ _ _ _ _ us hl => match us, hl with | [_], _ => rfl) .nil sc__law_number (fun vs H Q E h => (hz _ _ _ _ h).elim) (fun cdv A outer s H vs Q E hr h => (hz _ _ _ _ h).elim)
theorem calS__law_number (T : TX K mg C_Evidence C_Good C_Bad C_KeepsAll C_LosesOne C_KeepsLittle C_KeepsMore C_BadDay C_BadPolicy D_PLAIN D_NUMBERED) {dd : Nat} (G__law_number : Cal P w K mg base (1 + dd) "_law_number" ((spLNum) dd) []) : Cal P w K mg base (1 + dd + 1) "_law_number" ((spLNum) (dd + 1)) [] := by
  obtain ⟨f0, fd, D, dn⟩ := T.d__law_number
  refine cal0 D (D.fn.binds dn fun _ _ _ _ _ _ us hl => match us, hl with | [_], _ => rfl) .nil sc__law_number (by walk_at "len") (fun cdv A outer s H vs Q E hr h => ?_)
  obtain ⟨v, p, rfl, hp, hh, k⟩ := h
  obtain ⟨t, xs, rfl, et, ed⟩ := hp.inv
  have cs : (∃ z : Str, xs = [.str z] ∧ numF p = 0) ∨ (∃ (z : Str) (n : Nat), xs = [.str z, .int (n : Int)] ∧ inV (.str z) [.str "newest", .str "young", .str "fresh"] = true ∧ numF p = n) ∨
      ∃ (z : Str) (ys : List V) (ps : List Pol), xs = .str z :: ys ∧ DnAll H ys (ps.map polD) ∧ (∀ r ∈ ps, hgt r < dd) ∧ 0 < ps.length ∧ ps.length ≤ 2 ∧ inV (.str z) [.str "newest", .str "young", .str "fresh"] = false ∧ ∀ m, m ∈ ps.map (fun r => (numF r : Int)) → (∀ y ∈ ps.map (fun r => (numF r : Int)), y ≤ m) → m = (numF p : Int) := by
    cases p with
    | pinned => exact .inl ⟨_, inv1 ed, rfl⟩
    | after => exact .inl ⟨_, inv1 ed, rfl⟩
    | anyP => exact .inl ⟨_, inv1 ed, rfl⟩
    | newest n => exact .inr (.inl ⟨_, n, inv2 ed, by decide +kernel, rfl⟩)
    | young n => exact .inr (.inl ⟨_, n, inv2 ed, by decide +kernel, rfl⟩)
    | fresh n => exact .inr (.inl ⟨_, n, inv2 ed, by decide +kernel, rfl⟩)
    | neg p =>
      obtain ⟨x, rfl, hx⟩ := inv3 ed
      refine .inr (.inr ⟨_, [x], [p], rfl, .cons hx .nil, fun r hr => ?_, by simp, by simp, by decide +kernel, fun m h1 h2 => ?_⟩)
      · rw [List.mem_singleton.mp hr]
        exact Nat.lt_of_succ_lt_succ hh
      · exact List.mem_singleton.mp h1
    | both p q =>
      obtain ⟨x, y, rfl, hx, hy⟩ := inv4 ed
      have hh : max (hgt p) (hgt q) + 1 < dd + 1 := hh
      refine .inr (.inr ⟨_, [x, y], [p, q], rfl, .cons hx (.cons hy .nil), fun r hr => ?_, by simp, by simp, by decide +kernel, fun m h1 h2 => ?_⟩)
      · simp at hr
        rcases hr with rfl | rfl <;> omega
      · have a := h2 (numF p : Int) (by simp)
        have b := h2 (numF q : Int) (by simp)
        simp at h1
        show m = ((max (numF p) (numF q) : Nat) : Int)
        omega
    | either p q =>
      obtain ⟨x, y, rfl, hx, hy⟩ := inv4 ed
      have hh : max (hgt p) (hgt q) + 1 < dd + 1 := hh
      refine .inr (.inr ⟨_, [x, y], [p, q], rfl, .cons hx (.cons hy .nil), fun r hr => ?_, by simp, by simp, by decide +kernel, fun m h1 h2 => ?_⟩)
      · simp at hr
        rcases hr with rfl | rfl <;> omega
      · have a := h2 (numF p : Int) (by simp)
        have b := h2 (numF q : Int) (by simp)
        simp at h1
        show m = ((max (numF p) (numF q) : Nat) : Int)
        omega
  refine ⟨_, (pss_cons (ps_if (pt_cmpR op_eq (pe_callB cr_lenS (by rfl) T.b_len (by decide +kernel) (pa_cons (pv 0) pa_nil)) pe_int (nomark _)) (pss_one (ps_ret pe_int)) pss_nil)
      (pss_cons (ps_if (pt_cmpR op_in_seq (pe_ix ix_tup (pv 0) pe_int (fun _ _ => rfl)) (pe_tup (pa_cons pe_str (pa_cons pe_str (pa_cons pe_str pa_nil)))) (by with_unfolding_all rfl)) (pss_one (ps_ret (pe_ix ix_tup (pv 0) pe_int (fun _ _ => rfl)))) pss_nil)
      (pss_one (ps_ret (pe_callB (cr_max rfl) (by rfl) T.b_max (by decide +kernel) (pa_cons (pe_lc (own := [("_law_one", 1)]) (g := gName 1) (tt := tYes) rfl sc__law_number.nd (pi_tup (pe_slice sl_tupA (pv 0) (po_some pe_int) po_none)) (blkOk_by (own := [("_law_one", 1)]) (N := N__law_number) (sc := fnScope s__law_number) (by decide +kernel)) (fun _ _ _ _ _ => (pg_n 1 sc__law_number.nd)) (fun _ _ _ _ _ => pts_nil) (fun _ _ _ _ _ => (pe_c G__law_number hr (by omega) rfl (pa_cons (pv 1) pa_nil)))) pa_nil)))))), ?_⟩
  walk_at "rd"
  refine rd_lenT et ?_
  walk_at "rd"
  rcases cs with ⟨z, rfl, hn⟩ | ⟨z, n, rfl, hin, hn⟩ | ⟨z, ys, ps, rfl, dy, hps, hl1, hl2, hin, hmax⟩
  · refine rd_iteT (by rfl) ?_
    walk_at "rd"
    rw [hn] at k
    exact k H (Same.refl H)
  · refine rd_iteF (by simp) ?_
    walk_at "rd"
    refine rd_ixT et rfl ?_
    walk_at "rd"
    refine rd_newT (by simp) fun u H1 _ s1 eu _ => ?_
    refine rd_inTup eu rfl hin ⟨true, rfl, ?_⟩
    walk_at "rd"
    refine rd_ixT (s1 _ _ et) rfl ?_
    rw [hn] at k
    exact k H1 s1
  · have lys : ys.length = ps.length := by have := dy.length; rwa [List.length_map] at this
    refine rd_iteF (by rw [List.length_cons]; omega) ?_
    walk_at "rd"
    refine rd_ixT et (atI_nat' (i := 0) rfl) ?_
    walk_at "rd"
    refine rd_newT (by simp) fun u H0 _ s0 eu _ => ?_
    refine rd_inTup eu rfl hin ⟨false, rfl, ?_⟩
    walk_at "rd"
    refine rd_slA (s0 _ _ et) fun P1 H1 s1 e1 => ?_
    rw [show cutV (V.str z :: ys) (some 1) none = ys from cutN_drop (m := 1)] at e1
    refine rd_tpR (SqT.of e1) ?_
    refine lcR_tup (xs := ys) (fun W i H' => Same H1 H' ∧ H' W = some (.lst (((ps.take i).map fun r => (numF r : Int)).map V.int))) (fun W i H' _ ⟨s, _⟩ => SqT.of (s _ _ e1)) (fun W H' _ s e _ => ⟨s, e⟩) ?_ ?_
    · rintro W i y H2 hW hy ⟨s2, eW⟩
      obtain ⟨r, hr2, dr⟩ := pol_at (dy.mono (s0.trans (s1.trans s2))) hy
      have hi := (List.getElem?_eq_some_iff.mp hy).1
      walk_at "rd"
      refine ⟨rfl, ?_⟩
      walk_at "rd"
      refine ⟨y, r, rfl, dr, hps r (List.mem_of_getElem? hr2), fun H3 s3 => ?_⟩
      refine rd_lcE (s3 _ _ eW) (by rw [List.length_map, List.length_map, List.length_take]; omega) fun H4 eH4 eW4 => ?_
      refine ⟨by rw [eH4]; exact Same.mut (s2.trans s3) hW, ?_⟩
      rw [eW4, List.take_add_one, hr2, List.map_append, List.map_append]
      rfl
    rintro W H2 hW ⟨s2, eW⟩
    rw [lys, List.take_length] at eW
    walk_at "rd"
    refine rd_maxL (m := 0) (SqL.of eW) (by rw [List.length_map]; exact hl1) fun mx h1 h2 => ?_
    rw [hmax mx h1 h2]
    exact k _ (s0.trans (s1.trans s2))
theorem cal__law_number (T : TX K mg C_Evidence C_Good C_Bad C_KeepsAll C_LosesOne C_KeepsLittle C_KeepsMore C_BadDay C_BadPolicy D_PLAIN D_NUMBERED) : Cal P w K mg base 5 "_law_number" (spLNum 4) [] := by
  have h : ∀ d, Cal P w K mg base (1 + d) "_law_number" (spLNum d) [] := fun d => by
    induction d with
    | zero => exact calF__law_number T (fun vs H Q E ⟨_, _, _, _, hh, _⟩ => Nat.not_lt_zero _ hh)
    | succ d ih => exact calS__law_number T ih
  exact h 4
theorem cal__law_histories (T : TX K mg C_Evidence C_Good C_Bad C_KeepsAll C_LosesOne C_KeepsLittle C_KeepsMore C_BadDay C_BadPolicy D_PLAIN D_NUMBERED) : Cal P w K mg base 1 "_law_histories" (spLHist) [] := by
  obtain ⟨f0, fd, D, dn⟩ := T.d__law_histories
  refine cal0 D (D.fn.binds dn fun _ _ _ _ _ _ us hl => match us, hl with | [_], _ => rfl) .nil sc__law_histories (by walk_at "len") (fun cdv A outer s H vs Q E hr h => ?_)
  obtain ⟨m, rfl, hm, k⟩ := h
  refine ⟨_, (pss_cons (ps_s 1 sc__law_histories.nd (pe_lst pa_nil))
      (pss_cons (ps_for PassesOwn.never rfl (pi_range2 rfl T.b_range (pa_cons pe_int (pa_cons (pe_op op_add (pe_op op_mul pe_int (pv 0)) pe_int) pa_nil))) (pg_n 2 sc__law_histories.nd) (pss_one (ps_for PassesOwn.never rfl (pi_range2 rfl T.b_range (pa_cons pe_int (pa_cons (pe_op op_add (pv 2) pe_int) pa_nil))) (pg_n 3 sc__law_histories.nd) (pss_one (ps_for PassesOwn.never rfl (pi_range1 rfl T.b_range (pa_cons (pe_op op_add (pe_op op_sub (pv 2) (pv 3)) pe_int) pa_nil)) (pg_n 4 sc__law_histories.nd) (pss_one (ps_expr (pe_bm PySem.F.plainAttrs_list PySem.F.slot_list_append PySem.F.type_list_append mt_append (pv 1) (pa_cons (pe_tup (pa_cons (pe_op op_cat (pe_lst (pa_cons pe_int (pa_cons (pv 3) pa_nil))) (pe_listRg rfl rfl T.b_list (prg_2 rfl T.b_range (pe_op op_add (pe_op op_sub (pv 2) (pv 4)) pe_int) (pe_op op_add (pv 2) pe_int)))) (pa_cons (pv 2) pa_nil))) pa_nil)))))))))
      (pss_one (ps_ret (pv 1))))), ?_⟩
  walk_at "rd"
  refine rd_newL (by simp) fun F H1 hF s1 eF _ => ?_
  walk_at "rd"
  refine rd_rgR2 (by omega) ?_
  rw [show (2 * (m : Int) + 5 - 2).toNat = 2 * m + 3 by omega]
  refine forR_rng (fun i σ H' => ∃ (rs : List Addr) (v2 v3 v4 : Option V), Same H H' ∧ H' F = some (.lst (rs.map V.ref)) ∧ HisAll H' F rs (gH i) ∧ σ = [some (.int (m : Int)), some (.ref F), v2, v3, v4]) ⟨[], _, _, _, s1, eF, .nil, rfl⟩ ?_ ?_
  · rintro i σ H2 hi ⟨rs, v2, v3, v4, s2, eF2, ha, rfl⟩
    walk_at "rd"
    refine rd_rgR2 (by omega) ?_
    refine forR_rng (fun j σ H' => ∃ (rs : List Addr) (v3 v4 : Option V), Same H H' ∧ H' F = some (.lst (rs.map V.ref)) ∧ HisAll H' F rs (gH i ++ gA (2 + (i : Int)) j) ∧ σ = [some (.int (m : Int)), some (.ref F), some (.int (2 + (i : Int))), v3, v4]) ⟨rs, _, _, s2, eF2, by rw [show gA (2 + (i : Int)) 0 = [] from rfl, List.append_nil]; exact ha, rfl⟩ ?_ ?_
    · rintro j σ H3 hj ⟨rs, v3, v4, s3, eF3, ha, rfl⟩
      walk_at "rd"
      refine rd_rgR1 (by omega) (by omega) ?_
      refine forR_rng (fun q σ H' => ∃ (rs : List Addr) (v4 : Option V), Same H H' ∧ H' F = some (.lst (rs.map V.ref)) ∧ HisAll H' F rs ((gH i ++ gA (2 + (i : Int)) j) ++ gB (2 + (i : Int)) (2 + (j : Int)) q) ∧ σ = [some (.int (m : Int)), some (.ref F), some (.int (2 + (i : Int))), some (.int (2 + (j : Int))), v4]) ⟨rs, _, s3, eF3, by rw [show gB (2 + (i : Int)) (2 + (j : Int)) 0 = [] from rfl, List.append_nil]; exact ha, rfl⟩ ?_ ?_
      · rintro q σ H4 hq ⟨rs, v4, s4, eF4, ha, rfl⟩
        have eb : gB (2 + (i : Int)) (2 + (j : Int)) (q + 1) = gB (2 + (i : Int)) (2 + (j : Int)) q ++ [gC (2 + (i : Int)) (2 + (j : Int)) (q : Int)] := by unfold gB; exact fm_succ _ q
        have hlen := ha.len
        have l1 := gH_len 32 i (by omega)
        have l2 := gA_len (2 + (i : Int)) 32 (by omega) j
        have l3 := gB_len (2 + (i : Int)) (2 + (j : Int)) q
        have l4 : i * (32 * 32) ≤ 29 * (32 * 32) := Nat.mul_le_mul (by omega) (Nat.le_refl _)
        have l5 : j * 32 ≤ 32 * 32 := Nat.mul_le_mul (by omega) (Nat.le_refl _)
        rw [List.length_append, List.length_append] at hlen
        walk_at "rd"
        refine rd_tyL eF4 ?_
        walk_at "rd"
        refine rd_newL (by simp) fun l0 H5 _ s5 el0 _ => ?_
        walk_at "rd"
        refine ⟨_, _, rfl, rfl, by refine ⟨?_, ?_, ?_, ?_, ?_⟩ <;> omega, fun l1 hl1 => ?_⟩
        obtain ⟨H6, eH6⟩ : ∃ H6, H6 = upd H5 l1 (.lst (rgV (2 + (i : Int) - (0 + (q : Int)) + 1) (2 + (i : Int) + 1))) := ⟨_, rfl⟩
        rw [← eH6]
        have s6 : Same H5 H6 := by rw [eH6]; exact Same.new (Same.refl H5) hl1
        have el1 : H6 l1 = some (.lst (rgV (2 + (i : Int) - (0 + (q : Int)) + 1) (2 + (i : Int) + 1))) := by rw [eH6]; exact upd_same
        clear eH6
        rw [rgV_intV] at el1
        refine rd_cat (s6 _ _ el0) el1 (by unfold intV; simp only [List.length_cons, List.length_map, rgI_len, List.length_nil]; omega) fun l H7 hl s7 el _ => ?_
        walk_at "rd"
        refine rd_newT (by simp) fun t H8 _ s8 et _ => ?_
        walk_at "rd"
        have s48 := s5.trans (s6.trans (s7.trans s8))
        have eF8 := s48 _ _ eF4
        have hlF : l ≠ F := fun z => by rw [z, (s5.trans s6) _ _ eF4] at hl; cases hl
        refine rd_app eF8 (by rw [List.length_map]; omega) fun H9 eH9 eF9 => ?_
        have ha8 : HisAll H8 F [t] [gC (2 + (i : Int)) (2 + (j : Int)) (q : Int)] := by
          refine .cons (l := l) et ?_ hlF .nil
          rw [s8 _ _ el, Int.zero_add]
          rfl
        have ha9 := ((ha.mono s48).append ha8).updL (ys := (rs ++ [t]).map V.ref) eF8
        refine ⟨rs ++ [t], _, by rw [eH9]; exact Same.mut (s4.trans s48) hF, by rw [eF9, List.map_append]; rfl, ?_, rfl⟩
        rw [eb, ← List.append_assoc, eH9, show (rs.map V.ref ++ [V.ref t]) = (rs ++ [t]).map V.ref by rw [List.map_append]; rfl]
        exact ha9
      · rintro σ H4 ⟨rs, v4, s4, eF4, ha, rfl⟩
        refine ⟨rs, _, _, s4, eF4, ?_, rfl⟩
        rw [show gA (2 + (i : Int)) (j + 1) = gA (2 + (i : Int)) j ++ gB (2 + (i : Int)) (2 + (j : Int)) (2 + (i : Int) - (2 + (j : Int)) + 1).toNat by unfold gA; exact fm_succ _ j, ← List.append_assoc]
        exact ha
    · rintro σ H3 ⟨rs, v3, v4, s3, eF3, ha, rfl⟩
      refine ⟨rs, _, _, _, s3, eF3, ?_, rfl⟩
      rw [show gH (i + 1) = gH i ++ gA (2 + (i : Int)) (2 + (i : Int) + 1 - 2).toNat by unfold gH; exact fm_succ _ i]
      exact ha
  · rintro σ H2 ⟨rs, v2, v3, v4, s2, eF2, ha, rfl⟩
    walk_at "rd"
    exact k H2 F rs s2 hF eF2 ha
end
end Sl

set_option Elab.async false
set_option linter.all false
set_option maxRecDepth 100000
set_option maxHeartbeats 8000000
set_option exponentiation.threshold 9000
namespace Sl
open PySem L2 C8 StX Silt
local macro_rules | `(tactic| walk_at "side") => `(tactic| first
  | exact cdivw (by omega) (by omega)
  | exact cmulw (by omega) (by omega) (by omega) (by omega)
  | exact Or.inr ⟨by omega, by omega⟩
  | exact Or.inl ⟨by omega, by omega⟩
  | omega
  | exact ⟨by omega, by omega, by decide⟩
  | decide)
local macro_rules | `(tactic| walk_at "rd1") => `(tactic| first
  | with_reducible refine rd_seq ?_
  | with_reducible refine rd_asg ?_
  | with_reducible refine rd_drop ?_
  | with_reducible refine rd_ret ?_
  | with_reducible refine rd_retN ?_
  | with_reducible refine rd_ifS ?_
  | ((with_reducible refine rd_var0 ?_); refine ⟨_, rfl, ?_⟩)
  | with_reducible refine rd_c ?_
  | with_reducible refine rd_op ?_
  | with_reducible refine rd_un ?_
  | with_reducible refine rd_I0 ?_
  | with_reducible refine rd_U ?_
  | ((with_reducible refine rd_I ?c ?_); (case c => walk_at "side"))
  | with_reducible refine rd_ipI ?_
  | with_reducible refine rd_eqI ?_
  | with_reducible refine rd_neI ?_
  | with_reducible refine rd_test ?_
  | with_reducible refine rd_tB ?_
  | with_reducible refine rd_bl ?_
  | with_reducible refine rd_not ?_
  | with_reducible refine rd_and ?_
  | with_reducible refine rd_or ?_
  | with_reducible refine rd_andV ?_
  | with_reducible refine rd_orV ?_
  | with_reducible refine rd_notV ?_
  | with_reducible refine rd_ifE ?_
  | with_reducible refine rd_chain ?_
  | with_reducible refine rd_chain3 ?_
  | with_reducible refine rd_nil ?_
  | with_reducible refine rd_cons ?_
  | with_reducible refine rd_call ?_
  | with_reducible refine rd_CB ?_
  | with_reducible refine rd_par ?_
  | with_reducible refine rd_par2 ?_
  | with_reducible refine rd_par3 ?_
  | with_reducible refine rd_par4 ?_
  | ((with_reducible refine rd_aug0 ?_); refine ⟨_, rfl, ?_⟩)
  | with_reducible refine rd_gname ?_
  | with_reducible refine rd_gcons ?_
  | with_reducible refine rd_gnil ?_
  | with_reducible refine rd_max ?_
  | with_reducible refine rd_min ?_
  | with_reducible refine rd_int1 ?_
  | with_reducible refine rd_abs ?_
  | with_reducible refine rd_lst ?_
  | with_reducible refine rd_tup ?_
  | with_reducible refine rd_bm ?_
  | with_reducible refine rd_fld0 ?_
  | with_reducible refine rd_sl0 ?_
  | with_reducible refine rd_noP ?_
  | with_reducible refine rd_part ?_
  | with_reducible refine rd_part2 ?_
  | with_reducible refine rd_meth0 ?_
  | with_reducible refine rd_star ?_
  | with_reducible refine rd_for ?_
  | with_reducible refine rd_rng1 ?_
  | with_reducible refine rd_rng2 ?_
  | with_reducible refine rd_rng3 ?_
  | with_reducible refine rd_iList ?_
  | with_reducible refine rd_iTup ?_
  | with_reducible refine rd_iEnum ?_
  | with_reducible refine rd_lc ?_
  | with_reducible refine rd_yes ?_
  | with_reducible refine rd_augS ?_
  | with_reducible refine rd_drawNew ?_
  | with_reducible refine rd_make0 ?_
  | with_reducible refine rd_next ?_
  | with_reducible refine rd_break ?_
  | with_reducible refine rd_cont ?_
  | with_reducible refine rd_iteTT ?_
  | with_reducible refine rd_iteFF ?_
  | with_reducible refine rd_iteNTT ?_
  | with_reducible refine rd_iteNFF ?_
  | with_reducible refine rd_con0 ?_
  | with_reducible refine rd_truO0 ?_
  | with_reducible refine rd_gfld0 ?_
  | with_reducible refine rd_dc ?_
  | with_reducible refine rd_iKeys ?_
  | with_reducible refine rd_dget0 ?_
  | with_reducible refine rd_dput0 ?_
  | with_reducible refine rd_dnot0 ?_
  | with_reducible refine rd_iEnumT ?_
  | with_reducible refine rd_raP0 ?_
  | with_reducible refine rd_xf0 ?_
  | with_reducible refine rd_cKw ?_
  | with_reducible refine rd_iStr ?_
  | with_reducible refine rd_gSub ?_
  | with_reducible refine rd_asgG ?_)
local macro_rules | `(tactic| walk_at "rd") => `(tactic| repeat walk_at "rd1")
local macro_rules | `(tactic| walk_at "len") => `(tactic| first
  | (intro vs H Q E h; obtain ⟨h2, _⟩ := h; rw [h2]; rfl)
  | (intro vs H Q E h; obtain ⟨_, h2, _⟩ := h; rw [h2]; rfl)
  | (intro vs H Q E h; obtain ⟨_, _, h2, _⟩ := h; rw [h2]; rfl)
  | (intro vs H Q E h; obtain ⟨_, _, _, h2, _⟩ := h; rw [h2]; rfl)
  | (intro vs H Q E h; obtain ⟨_, _, _, _, h2, _⟩ := h; rw [h2]; rfl)
  | (intro vs H Q E h; obtain ⟨_, _, _, _, _, h2, _⟩ := h; rw [h2]; rfl)
  | (intro vs H Q E h; obtain ⟨_, _, _, _, _, _, h2, _⟩ := h; rw [h2]; rfl)
  | (intro vs H Q E h; obtain ⟨_, _, _, _, _, _, _, h2, _⟩ := h; rw [h2]; rfl)
  | (intro vs H Q E h; obtain ⟨_, _, _, _, _, _, _, _, h2, _⟩ := h; rw [h2]; rfl)
  | (intro vs H Q E h; obtain ⟨_, _, _, _, _, _, _, _, _, h2, _⟩ := h; rw [h2]; rfl)
  | (intro vs H Q E h; obtain ⟨_, _, _, _, _, _, _, _, _, _, h2, _⟩ := h; rw [h2]; rfl)
  | (intro vs H Q E h; obtain ⟨_, _, _, _, _, _, _, _, _, _, _, h2, _⟩ := h; rw [h2]; rfl)
  | (intro vs H Q E h; obtain ⟨_, _, _, _, _, _, _, _, _, _, _, _, h2, _⟩ := h; rw [h2]; rfl))
def spLaw (K : PySem.W.Frag) : Sp := fun vs H Q _ => ∃ (a : Addr) (ns : List Int), vs = [.ref a] ∧ SqL K H a (ns.map V.int) ∧ ns.length ≤ 63 ∧ ∀ H', Q (.bl true) H'
theorem JudgeP.mono {C1 C2 : Addr} {H H' : Hp} {x : Addr} {p : Pol} (s : Same H H') (h : JudgeP C1 C2 H x p) : JudgeP C1 C2 H' x p := by
  rcases h with ⟨h1, h2⟩ | ⟨h, h1, h2, h3⟩
  · exact .inl ⟨h1, h2.mono s⟩
  · exact .inr ⟨h, h1, h2, h3.mono s⟩
theorem JudgeL.mono {C1 C2 : Addr} {H H' : Hp} {x : Addr} {p : Pol} (s : Same H H') (h : JudgeL C1 C2 H x p) : JudgeL C1 C2 H' x p := by
  rcases h with ⟨h1, h2⟩ | ⟨h, h1, pins, h2, h3, h4⟩
  · exact .inl ⟨h1, h2.mono s⟩
  · exact .inr ⟨h, h1, pins, h2, h3, h4.mono s⟩
theorem eqv_ints : ∀ l : List Int, PyData.eqvAll (l.map PyData.int) (l.map PyData.int) = true
  | [] => by simp [PyData.eqvAll]
  | a :: l => by simp [PyData.eqvAll, PyData.eqv, eqv_ints l]
theorem rd_neInts {K : PySem.W.Frag} {H : Hp} {Q : VK} {a b : Addr} {l : List Int} (e1 : H a = some (.lst (intV l))) (e2 : H b = some (.lst (intV l))) (h : Q (.bl false) H) : rNeD K (.ref a) (.ref b) H Q := by
  refine rd_neD (.lst e1 (dt_ints l)) (.lst e2 (dt_ints l)) (shaped_intsL l) (shaped_intsL l) ?_
  rw [show PyData.eqv (.list (l.map PyData.int)) (.list (l.map PyData.int)) = true by simp [PyData.eqv, eqv_ints]]
  exact h
theorem rd_isiCf {K : PySem.W.Frag} {H : Hp} {Q : VK} {C C2 a dx : Addr} {fs : List (Str × V)} (c : InsC K C2) (n : PySem.W.kitOne K (.ref C2) (.ref C) = some false) (e : H a = some (.ins C2 dx fs)) (h : Q (.bl false) H) : rIsi K [.ref a, .ref C] H Q := ⟨_, _, _, _, false, rfl, .own C, .base (TyOf.ins e c.cl c.ha c.hn c.htk c.hm), n, h⟩
theorem HisAll.at {H : Hp} {F : Addr} {rs : List Addr} {hs : List Hist} (a : HisAll H F rs hs) : ∀ {j : Nat} {r : Addr}, rs[j]? = some r → ∃ h, hs[j]? = some h ∧ HisAt H r h := by
  induction a with
  | nil => intro j r hr; simp at hr
  | cons e1 e2 n _ ih =>
    intro j r hr
    cases j with
    | zero => cases hr; exact ⟨_, rfl, _, e1, e2⟩
    | succ j => exact ih (by simpa using hr)
theorem hist_okG {m : Nat} {h : Hist} (hm : m ≤ 13) (hh : h ∈ histG m) : ∃ l r, h.1 = 1 :: l :: r ∧ 2 ≤ l ∧ h.1.length ≤ 1000 := by
  obtain ⟨t, w, l, h1, h2, h3, h4, h5, h6, rfl⟩ := mem_histG.mp hh
  refine ⟨l, _, rfl, h5, ?_⟩
  show (1 :: l :: rgI (t - w + 1) (t + 1)).length ≤ 1000
  rw [List.length_cons, List.length_cons, rgI_len]
  omega
theorem rd_eqB {H : Hp} {Q : VK} {a b : Bool} (h : Q (.bl (a == b)) H) : rEq (.bl a) (.bl b) H Q := by
  refine rd_eq rfl ?_
  have : decide (V.bl a = V.bl b) = (a == b) := by cases a <;> cases b <;> rfl
  rw [this]
  exact h
theorem pins3_ok {h : Hist} {l : Int} {r : List Int} {q : List Int} (e : h.1 = 1 :: l :: r) (h2 : 2 ≤ l) (hq : q ∈ pins3 h) : q.length ≤ 1000 ∧ ∀ z ∈ q, 0 ≤ z := by
  have e1 : h.1.getD 1 0 = l := by rw [e]; rfl
  unfold pins3 at hq
  rw [e1] at hq
  simp only [List.mem_cons, List.not_mem_nil, or_false] at hq
  rcases hq with rfl | rfl | rfl
  · exact ⟨by decide, fun z hz => by cases hz⟩
  · exact ⟨by decide, fun z hz => by rw [List.mem_singleton.mp hz]; exact Int.le_refl _⟩
  · exact ⟨by show 1 ≤ 1000; decide, fun z hz => by rw [List.mem_singleton.mp hz]; omega⟩
theorem BadPl.mono {H H' : Hp} {v : V} (s : Same H H') (h : BadPl H v) : BadPl H' v := by
  rcases h with h | ⟨t, z, r, ds, h1, h2, h3, h4, h5⟩
  · exact .inl (h.mono s)
  · refine .inr ⟨t, z, r, ds, h1, s _ _ h2, h3.mono s, h4, ?_⟩
    rcases h5 with h5 | h5 | ⟨a, b, c, h5 | ⟨y, e, h5⟩⟩ | h5
    · exact .inl h5
    · exact .inr (.inl h5)
    · exact .inr (.inr (.inl ⟨a, b, c, .inl h5⟩))
    · exact .inr (.inr (.inl ⟨a, b, c, .inr ⟨y, e, h5.mono s⟩⟩))
    · exact .inr (.inr (.inr h5))
/-- arguments that kept_days refuses -/
def KBad (H : Hp) (y : V) : Prop := ∃ t va vp vt, y = .ref t ∧ H t = some (.tup [va, vp, vt]) ∧ (BadDy H va vt ∨ ∃ a days today, va = .ref a ∧ vt = .int today ∧ SeqP H a (intV days) ∧ DaysOk days today ∧ BadPn H vp)
theorem KBad.mono {H H' : Hp} {y : V} (s : Same H H') (h : KBad H y) : KBad H' y := by
  obtain ⟨t, va, vp, vt, h1, h2, h3 | ⟨a, days, today, h3, h4, h5, h6, h7⟩⟩ := h
  · exact ⟨t, va, vp, vt, h1, s _ _ h2, .inl (h3.mono s)⟩
  · exact ⟨t, va, vp, vt, h1, s _ _ h2, .inr ⟨a, days, today, h3, h4, h5.mono s, h6, h7.mono s⟩⟩
theorem shaped_1 {z : Str} {p : Pol} (hz : PyData.strOk z = true) (h : hgt p ≤ 20) : SeqAt.shaped (.tuple [.str z, polD p]) = true := by
  have h1 := lay_pol p
  have h2 := depth_pol p
  simp [SeqAt.shaped, PyData.canLay0, PyData.canLayAll0, PyData.depth, PyData.depthAll, h1, hz]
  omega
theorem shaped_2 {z : Str} {p : Pol} (hz : PyData.strOk z = true) (h : hgt p ≤ 20) : SeqAt.shaped (.tuple [.str z, polD p, polD p]) = true := by
  have h1 := lay_pol p
  have h2 := depth_pol p
  simp [SeqAt.shaped, PyData.canLay0, PyData.canLayAll0, PyData.depth, PyData.depthAll, h1, hz]
  omega
/-- ascending days up to a day -/
def Days1 (days : List Int) (j : Nat) : Prop := days.Pairwise (· < ·) ∧ (∀ d ∈ days, 1 ≤ d ∧ d ≤ (j : Int)) ∧ days.length ≤ j
theorem Days1.snoc {days : List Int} {j : Nat} (h : Days1 days j) : Days1 (days ++ [1 + (j : Int)]) (j + 1) := by
  obtain ⟨h1, h2, h3⟩ := h
  refine ⟨?_, fun d hd => ?_, by rw [List.length_append]; simp; exact h3⟩
  · rw [List.pairwise_append]
    refine ⟨h1, List.pairwise_singleton _ _, fun x hx y hy => ?_⟩
    have := h2 x hx
    rw [List.mem_singleton.mp hy]
    omega
  · rcases List.mem_append.mp hd with z | z
    · have := h2 d z
      omega
    · rw [List.mem_singleton.mp z]
      omega
theorem Days1.le {days : List Int} {j : Nat} (h : Days1 days j) : Days1 days (j + 1) := by
  obtain ⟨h1, h2, h3⟩ := h
  exact ⟨h1, fun d hd => by have := h2 d hd; omega, by omega⟩
section
variable {P : Program} {w : World} {K : PySem.W.Frag} {mg : Str → Option Value} {base : Heap} {C_Evidence C_Good C_Bad C_KeepsAll C_LosesOne C_KeepsLittle C_KeepsMore C_BadDay C_BadPolicy D_PLAIN D_NUMBERED : Addr}
theorem fn_law (T : TX K mg C_Evidence C_Good C_Bad C_KeepsAll C_LosesOne C_KeepsLittle C_KeepsMore C_BadDay C_BadPolicy D_PLAIN D_NUMBERED) {f0 : Addr} {fd : FuncData} (D : C8.Def K mg "law" s_law f0 fd) : FnOk P w K mg base C8.CX0 12 f0 fd P_law (spLaw K) := by
  have G__law_policy := cal__law_policy (P := P) (w := w) (base := base) T
  have G__law_number := cal__law_number (P := P) (w := w) (base := base) T
  have G__law_draw := cal__law_draw (P := P) (w := w) (base := base) T
  have G__law_keeps := cal__law_keeps (P := P) (w := w) (base := base) T
  have G_needed_days := cal_needed_days (P := P) (w := w) (base := base) T
  have G_kept_days := cal_kept_days (P := P) (w := w) (base := base) T
  have G__law_histories := cal__law_histories (P := P) (w := w) (base := base) T
  have G_judge_policy := cal_judge_policy (P := P) (w := w) (base := base) T
  have G_judge_lean := cal_judge_lean (P := P) (w := w) (base := base) T
  have G_KeepsLittle_shows := met_KeepsLittle_shows (P := P) (w := w) (base := base) T
  have G_KeepsMore_shows := met_KeepsMore_shows (P := P) (w := w) (base := base) T
  have G_KeepsAll_shows := met_KeepsAll_shows (P := P) (w := w) (base := base) T
  have G_LosesOne_shows := met_LosesOne_shows (P := P) (w := w) (base := base) T
  have G_KeepsLittle_bool := met_KeepsLittle_bool (P := P) (w := w) (base := base) T
  have G_KeepsMore_bool := met_KeepsMore_bool (P := P) (w := w) (base := base) T
  have G_KeepsAll_bool := met_KeepsAll_bool (P := P) (w := w) (base := base) T
  have G_LosesOne_bool := met_LosesOne_bool (P := P) (w := w) (base := base) T
  have G_KeepsAll_init := mak_KeepsAll_init (P := P) (w := w) (base := base) T
  have G_LosesOne_init := mak_LosesOne_init (P := P) (w := w) (base := base) T
  have G_KeepsLittle_init := mak_KeepsLittle_init (P := P) (w := w) (base := base) T
  have G_KeepsMore_init := mak_KeepsMore_init (P := P) (w := w) (base := base) T
  have X_judge_policy := xal_judge_policy (P := P) (w := w) (base := base) T
  have X_kept_days := xal_kept_days (P := P) (w := w) (base := base) T
  refine fn0 D.fn sc_law (by walk_at "len") (fun cdv A outer s H vs Q E hr h => ?_)
  obtain ⟨sc, ns, rfl, hsc, hns, k⟩ := h
  refine ⟨_, (pss_cons (ps_s 1 sc_law.nd (pe_c G__law_policy hr (by decide) rfl (pa_cons (pv 0) (pa_cons pe_int (pa_cons pe_int pa_nil)))))
      (pss_cons (ps_s 2 sc_law.nd (pe_c G__law_number hr (by decide) rfl (pa_cons (pv 1) pa_nil)))
      (pss_cons (ps_s 3 sc_law.nd (pe_op op_add pe_int (pe_c G__law_draw hr (by decide) rfl (pa_cons (pv 0) (pa_cons pe_int (pa_cons pe_int pa_nil))))))
      (pss_cut (ps_s 4 sc_law.nd (pe_lc (own := [("_law_day", 5)]) (g := gName 5) (tt := _) rfl sc_law.nd (pi_range2 rfl T.b_range (pa_cons pe_int (pa_cons (pe_op op_add (pv 3) pe_int) pa_nil))) (blkOk_by (own := [("_law_day", 5)]) (N := N_law) (sc := fnScope s_law) (by decide +kernel)) (fun _ _ _ _ _ => (pg_n 5 sc_law.nd)) (fun _ _ _ _ _ => (pts_one (pt_cmpR op_eq (pe_c G__law_draw hr (by decide) rfl (pa_cons (pv 0) (pa_cons (pe_op op_add pe_int (pv 5)) (pa_cons pe_int pa_nil)))) pe_int (nomark _)))) (fun _ _ _ _ _ => (pv 5))))
      (pss_cut (ps_s 6 sc_law.nd (pe_lc (own := [("_law_turn", 7)]) (g := gName 7) (tt := tYes) rfl sc_law.nd (pi_range1 rfl T.b_range (pa_cons (pe_c G__law_draw hr (by decide) rfl (pa_cons (pv 0) (pa_cons pe_int (pa_cons pe_int pa_nil)))) pa_nil)) (blkOk_by (own := [("_law_turn", 7)]) (N := N_law) (sc := fnScope s_law) (by decide +kernel)) (fun _ _ _ _ _ => (pg_n 7 sc_law.nd)) (fun _ _ _ _ _ => pts_nil) (fun _ _ _ _ _ => (pe_c G__law_draw hr (by decide) rfl (pa_cons (pv 0) (pa_cons (pe_op op_add pe_int (pv 7)) (pa_cons (pe_op op_add (pv 3) pe_int) pa_nil)))))))
      (pss_cut (ps_s 8 sc_law.nd (pe_op op_cat (pe_lc (own := [("_law_place", 9), ("_law_day", 5)]) (g := gTup _ 2 (gCons (gName 9) (gCons (gName 5) gNil))) (tt := _) rfl sc_law.nd (pi_enum (by rfl) T.b_enumerate (pa_cons (pe_slice sl_list (pv 4) po_none (po_some (pe_un un_neg pe_int))) pa_nil)) (blkOk_by (own := [("_law_place", 9), ("_law_day", 5)]) (N := N_law) (sc := fnScope s_law) (by decide +kernel)) (fun _ _ _ _ _ => (pg_tup rfl (pgs_cons (pg_n 9 sc_law.nd) (pgs_cons (pg_n 5 sc_law.nd) pgs_nil)))) (fun _ _ _ _ _ => (pts_one (pt_val (pe_c G__law_keeps hr (by decide) rfl (pa_cons (pv 1) (pa_cons (pv 4) (pa_cons (pv 9) (pa_cons (pv 6) (pa_cons (pv 3) pa_nil))))))))) (fun _ _ _ _ _ => (pv 5))) (pe_slice sl_list (pv 4) (po_some (pe_un un_neg pe_int)) po_none)))
      (pss_cut (ps_s 10 sc_law.nd (pe_op op_cat (pe_lc (own := [("_law_place", 9), ("_law_day", 5)]) (g := gTup _ 2 (gCons (gName 9) (gCons (gName 5) gNil))) (tt := _) rfl sc_law.nd (pi_enum (by rfl) T.b_enumerate (pa_cons (pe_slice sl_list (pv 4) po_none (po_some (pe_un un_neg pe_int))) pa_nil)) (blkOk_by (own := [("_law_place", 9), ("_law_day", 5)]) (N := N_law) (sc := fnScope s_law) (by decide +kernel)) (fun _ _ _ _ _ => (pg_tup rfl (pgs_cons (pg_n 9 sc_law.nd) (pgs_cons (pg_n 5 sc_law.nd) pgs_nil)))) (fun _ _ _ _ _ => (pts_one (pt_val (pe_c G__law_keeps hr (by decide) rfl (pa_cons (pe_tup (pa_cons pe_str pa_nil)) (pa_cons (pv 4) (pa_cons (pv 9) (pa_cons (pv 6) (pa_cons (pv 3) pa_nil))))))))) (fun _ _ _ _ _ => (pv 5))) (pe_slice sl_list (pv 4) (po_some (pe_un un_neg pe_int)) po_none)))
      (pss_cut (ps_if (PW.pt (pw_or (pt_cmpR (op_neD hr.units) (pe_c G_kept_days hr (by decide) rfl (pa_cons (pv 1) (pa_cons (pv 4) (pa_cons (pe_callTy cr_tupOf (by rfl) T.b_tuple (by decide +kernel) (pa_cons (pv 6) pa_nil)) (pa_cons (pv 3) pa_nil))))) (pv 8) (nomark _)) (pw_or1 (pt_cmpR (op_neD hr.units) (pe_c G_needed_days hr (by decide) rfl (pa_cons (pe_callTy cr_tupOf (by rfl) T.b_tuple (by decide +kernel) (pa_cons (pv 4) pa_nil)) (pa_cons (pv 6) (pa_cons (pv 3) pa_nil)))) (pv 10) (nomark _))))) (pss_one (ps_ret pe_bl)) pss_nil)
      (pss_cut (ps_asg (pe_tup (pa_cons pe_bl (pa_cons pe_bl pa_nil))) (pg_tup rfl (pgs_cons (pg_n 11 sc_law.nd) (pgs_cons (pg_n 12 sc_law.nd) pgs_nil))))
      (pss_cut (ps_for PassesOwn.never rfl (pi_list (pe_c G__law_histories hr (by decide) rfl (pa_cons (pv 2) pa_nil))) (pg_tup rfl (pgs_cons (pg_n 13 sc_law.nd) (pgs_cons (pg_n 14 sc_law.nd) pgs_nil))) (pss_cut (ps_if (pt_not (pt_val (pe_c G__law_keeps hr (by decide) rfl (pa_cons (pv 1) (pa_cons (pv 13) (pa_cons pe_int (pa_cons (pe_lst (pa_cons pe_int pa_nil)) (pa_cons (pv 14) pa_nil)))))))) (pss_one (ps_s 11 sc_law.nd pe_bl)) pss_nil)
      (pss_one (ps_for PassesOwn.never rfl (pi_tup (pe_tup (pa_cons (pe_lst pa_nil) (pa_cons (pe_lst (pa_cons pe_int pa_nil)) (pa_cons (pe_lst (pa_cons (pe_ix ix_list (pv 13) pe_int (fun _ _ => rfl)) pa_nil)) pa_nil))))) (pg_n 15 sc_law.nd) (pss_one (ps_if (pt_val (pe_c G__law_keeps hr (by decide) rfl (pa_cons (pv 1) (pa_cons (pv 13) (pa_cons pe_int (pa_cons (pv 15) (pa_cons (pv 14) pa_nil))))))) (pss_one (ps_s 12 sc_law.nd pe_bl)) pss_nil))))))
      (pss_cut (ps_asg (pe_tup (pa_cons (pe_c G_judge_policy hr (by decide) rfl (pa_cons (pv 1) pa_nil)) (pa_cons (pe_c G_judge_lean hr (by decide) rfl (pa_cons (pv 1) pa_nil)) pa_nil))) (pg_tup rfl (pgs_cons (pg_n 16 sc_law.nd) (pgs_cons (pg_n 17 sc_law.nd) pgs_nil))))
      (pss_cut (ps_if (PW.pt (pw_or (pt_cmpR op_eq (pe_callTy (cr_alt (cr_boolO G_KeepsAll_bool hr (by decide)) (cr_boolO G_LosesOne_bool hr (by decide))) (by rfl) T.b_bool (by decide +kernel) (pa_cons (pv 16) pa_nil)) (pv 11) (nomark _)) (pw_or (pt_cmpR op_eq (pe_callTy (cr_alt (cr_boolO G_KeepsLittle_bool hr (by decide)) (cr_boolO G_KeepsMore_bool hr (by decide))) (by rfl) T.b_bool (by decide +kernel) (pa_cons (pv 17) pa_nil)) (pv 12) (nomark _)) (pw_or (pt_not (pt_val (pe_alt (pe_mt G_KeepsAll_shows hr (by decide) (pv 16) (pa_cons (pv 1) pa_nil)) (pe_mt G_LosesOne_shows hr (by decide) (pv 16) (pa_cons (pv 1) pa_nil))))) (pw_or1 (pt_not (pt_val (pe_alt (pe_mt G_KeepsLittle_shows hr (by decide) (pv 17) (pa_cons (pv 1) pa_nil)) (pe_mt G_KeepsMore_shows hr (by decide) (pv 17) (pa_cons (pv 1) pa_nil)))))))))) (pss_one (ps_ret pe_bl)) pss_nil)
      (pss_cut (ps_if (pt_val (pe_callB call_isi (by rfl) T.b_isinstance (by decide +kernel) (pa_cons (pv 16) (pa_cons (pe_gc rfl T.g_LosesOne) pa_nil)))) (pss_cut (ps_s 10 sc_law.nd (pe_c G_needed_days hr (by decide) rfl (pa_cons (pe_fld (pv 16) rfl) (pa_cons (pe_lst (pa_cons (pe_fld (pv 16) rfl) pa_nil)) (pa_cons (pe_fld (pv 16) rfl) pa_nil)))))
      (pss_cut (ps_if (PW.pt (pw_or (pt_val (pe_callB (cr_all rfl) (by rfl) T.b_all (by decide +kernel) (pa_cons (pe_lc (own := [("_law_day", 5)]) (g := gName 5) (tt := tYes) rfl sc_law.nd (pi_list (pv 10)) (blkOk_by (own := [("_law_day", 5)]) (N := N_law) (sc := fnScope s_law) (by decide +kernel)) (fun _ _ _ _ _ => (pg_n 5 sc_law.nd)) (fun _ _ _ _ _ => pts_nil) (fun _ _ _ _ _ => (pe_cmpR (opK (fun K => rIn K false) K op_in_seq) (pv 5) (pe_c G_kept_days hr (by decide) rfl (pa_cons (pv 1) (pa_cons (pe_fldK K (pe_fld (pv 16) rfl)) (pa_cons (pe_lst (pa_cons (pe_fldK K (pe_fld (pv 16) rfl)) pa_nil)) (pa_cons (pe_fldK K (pe_fld (pv 16) rfl)) pa_nil))))) (by with_unfolding_all rfl)))) pa_nil))) (pw_or1 (pt_val (pe_mt G_KeepsAll_shows hr (by decide) (pe_mk G_KeepsAll_init hr (by decide) rfl (pa_cons (pv 2) pa_nil)) (pa_cons (pv 1) pa_nil)))))) (pss_one (ps_ret pe_bl)) pss_nil)
      (pss_one (ps_if (pt_val (pe_mt G_LosesOne_shows hr (by decide) (pe_mk G_LosesOne_init hr (by decide) rfl (pa_cons (pe_fld (pv 16) rfl) (pa_cons (pe_fld (pv 16) rfl) (pa_cons (pe_fld (pv 16) rfl) pa_nil)))) (pa_cons (pv 1) pa_nil))) (pss_one (ps_ret pe_bl)) pss_nil)))) (pss_one (ps_if (PW.pt (pw_or (pt_cmpR op_ne (pe_fld (pv 16) rfl) (pv 2) (nomark _)) (pw_or (pt_val (pe_mt G_KeepsAll_shows hr (by decide) (pe_mk G_KeepsAll_init hr (by decide) rfl (pa_cons (pe_op op_add (pv 2) pe_int) pa_nil)) (pa_cons (pv 1) pa_nil))) (pw_or1 (pt_val (pe_mt G_LosesOne_shows hr (by decide) (pe_mk G_LosesOne_init hr (by decide) rfl (pa_cons (pe_lst (pa_cons pe_int (pa_cons pe_int pa_nil))) (pa_cons pe_int (pa_cons pe_int pa_nil)))) (pa_cons (pv 1) pa_nil))))))) (pss_one (ps_ret pe_bl)) pss_nil)))
      (pss_cut (ps_if (pt_val (pe_callB call_isi (by rfl) T.b_isinstance (by decide +kernel) (pa_cons (pv 17) (pa_cons (pe_gc rfl T.g_KeepsMore) pa_nil)))) (pss_cons (ps_s 10 sc_law.nd (pe_c G_needed_days hr (by decide) rfl (pa_cons (pe_fld (pv 17) rfl) (pa_cons (pe_fld (pv 17) rfl) (pa_cons (pe_fld (pv 17) rfl) pa_nil)))))
      (pss_cons (ps_if (PW.pt (pw_or (pt_val (pe_callB (cr_all rfl) (by rfl) T.b_all (by decide +kernel) (pa_cons (pe_lc (own := [("_law_day", 5)]) (g := gName 5) (tt := tYes) rfl sc_law.nd (pi_list (pe_c G_kept_days hr (by decide) rfl (pa_cons (pv 1) (pa_cons (pe_fld (pv 17) rfl) (pa_cons (pe_fld (pv 17) rfl) (pa_cons (pe_fld (pv 17) rfl) pa_nil)))))) (blkOk_by (own := [("_law_day", 5)]) (N := N_law) (sc := fnScope s_law) (by decide +kernel)) (fun _ _ _ _ _ => (pg_n 5 sc_law.nd)) (fun _ _ _ _ _ => pts_nil) (fun _ _ _ _ _ => (pe_cmpR (opK (fun K => rIn K false) K op_in_seq) (pv 5) (pv 10) (by with_unfolding_all rfl)))) pa_nil))) (pw_or1 (pt_val (pe_mt G_KeepsLittle_shows hr (by decide) (pe_mk G_KeepsLittle_init hr (by decide) rfl (pa_cons (pv 2) pa_nil)) (pa_cons (pv 1) pa_nil)))))) (pss_one (ps_ret pe_bl)) pss_nil)
      (pss_one (ps_if (pt_val (pe_mt G_KeepsMore_shows hr (by decide) (pe_mk G_KeepsMore_init hr (by decide) rfl (pa_cons (pe_lst (pa_cons pe_int pa_nil)) (pa_cons (pe_lst pa_nil) (pa_cons pe_int pa_nil)))) (pa_cons (pv 1) pa_nil))) (pss_one (ps_ret pe_bl)) pss_nil)))) (pss_one (ps_if (PW.pt (pw_or (pt_cmpR op_ne (pe_fld (pv 17) rfl) (pv 2) (nomark _)) (pw_or (pt_val (pe_mt G_KeepsLittle_shows hr (by decide) (pe_mk G_KeepsLittle_init hr (by decide) rfl (pa_cons (pe_op op_add (pv 2) pe_int) pa_nil)) (pa_cons (pv 1) pa_nil))) (pw_or1 (pt_val (pe_mt G_KeepsMore_shows hr (by decide) (pe_mk G_KeepsMore_init hr (by decide) rfl (pa_cons (pe_lst (pa_cons pe_int (pa_cons pe_int pa_nil))) (pa_cons (pe_lst pa_nil) (pa_cons pe_int pa_nil)))) (pa_cons (pv 1) pa_nil))))))) (pss_one (ps_ret pe_bl)) pss_nil)))
      (pss_cut (ps_for PassesOwn.never rfl (pi_tup (pe_tup (pa_cons (pe_tup (pa_cons pe_str (pa_cons pe_int pa_nil))) (pa_cons (pe_tup (pa_cons pe_str pa_nil)) (pa_cons (pe_tup (pa_cons pe_str (pa_cons pe_int pa_nil))) (pa_cons (pe_tup (pa_cons pe_str (pa_cons (pe_un un_neg pe_int) pa_nil))) (pa_cons (pe_tup (pa_cons pe_str (pa_cons pe_bl pa_nil))) (pa_cons (pe_tup (pa_cons pe_str pa_nil)) (pa_cons (pe_tup (pa_cons pe_str (pa_cons (pv 1) pa_nil))) (pa_cons (pe_tup (pa_cons pe_str (pa_cons (pv 1) (pa_cons (pv 1) pa_nil)))) (pa_cons (pe_lst pa_nil) (pa_cons pe_str (pa_cons (pe_tup (pa_cons pe_str (pa_cons pe_non pa_nil))) (pa_cons (pe_tup (pa_cons pe_str (pa_cons pe_str pa_nil))) pa_nil)))))))))))))) (pg_n 18 sc_law.nd) (pss_one (ps_tryO rfl rfl ⟨rfl, by decide, .inl T.mg_BadPolicy⟩ takesN (fun W pn xe tk => (pss_cons (ps_expr (pe_cX X_judge_policy hr (by decide) rfl (fun σ => passAt tk σ) (pa_cons (pv 18) pa_nil)))
      (pss_one (ps_ret pe_bl)))) (fun a oe cls d pn => (pss_one ps_pass)))))
      (pss_cons (ps_for PassesOwn.never rfl (pi_tup (pe_tup (pa_cons (pe_tup (pa_cons (pe_lst (pa_cons pe_int (pa_cons pe_int pa_nil))) (pa_cons (pe_lst pa_nil) (pa_cons pe_int pa_nil)))) (pa_cons (pe_tup (pa_cons (pe_lst (pa_cons pe_int (pa_cons pe_int pa_nil))) (pa_cons (pe_lst pa_nil) (pa_cons pe_int pa_nil)))) (pa_cons (pe_tup (pa_cons (pe_lst (pa_cons pe_int pa_nil)) (pa_cons (pe_lst pa_nil) (pa_cons pe_int pa_nil)))) (pa_cons (pe_tup (pa_cons (pe_lst (pa_cons pe_int pa_nil)) (pa_cons (pe_lst pa_nil) (pa_cons pe_int pa_nil)))) (pa_cons (pe_tup (pa_cons (pe_lst (pa_cons pe_int pa_nil)) (pa_cons (pe_lst pa_nil) (pa_cons pe_int pa_nil)))) (pa_cons (pe_tup (pa_cons (pe_lst (pa_cons pe_int pa_nil)) (pa_cons (pe_lst (pa_cons (pe_un un_neg pe_int) pa_nil)) (pa_cons pe_int pa_nil)))) (pa_cons (pe_tup (pa_cons (pe_lst (pa_cons pe_int pa_nil)) (pa_cons pe_non (pa_cons pe_int pa_nil)))) (pa_cons (pe_tup (pa_cons pe_non (pa_cons (pe_lst pa_nil) (pa_cons pe_int pa_nil)))) (pa_cons (pe_tup (pa_cons (pe_lst (pa_cons pe_int pa_nil)) (pa_cons (pe_lst pa_nil) (pa_cons pe_non pa_nil)))) pa_nil))))))))))) (pg_n 18 sc_law.nd) (pss_one (ps_tryO rfl rfl ⟨rfl, by decide, .inl T.mg_BadDay⟩ takesN (fun W pn xe tk => (pss_cons (ps_expr (pe_cX X_kept_days hr (by decide) rfl (fun σ => passAt tk σ) (pa_cons (pv 1) (pa_cons (pe_ix (ixK rIxT K ix_tup) (pv 18) pe_int (fun _ _ => rfl)) (pa_cons (pe_ix (ixK rIxT K ix_tup) (pv 18) pe_int (fun _ _ => rfl)) (pa_cons (pe_ix (ixK rIxT K ix_tup) (pv 18) pe_int (fun _ _ => rfl)) pa_nil))))))
      (pss_one (ps_ret pe_bl)))) (fun a oe cls d pn => (pss_one ps_pass)))))
      (pss_one (ps_ret pe_bl)))))))))))))))))), ?_⟩
  walk_at "rd"
  refine ⟨sc, ns, 10, 2, rfl, hsc, hns, by decide, by decide, fun H1 v p s1 hp okp hh => ?_⟩
  have hsc1 := L2.Same.seq s1 hsc
  have hh4 : hgt p < 4 := by omega
  walk_at "rd"
  refine ⟨v, p, rfl, hp, hh4, fun H2 s2 => ?_⟩
  have hsc2 := L2.Same.seq s2 hsc1
  have hp2 := hp.mono s2
  walk_at "rd"
  refine ⟨sc, ns, _, _, rfl, hsc2, hns, by omega, by omega, fun H3 n s3 n0 n1 => ?_⟩
  have hsc3 := L2.Same.seq s3 hsc2
  have hp3 := hp2.mono s3
  obtain ⟨td, rfl⟩ : ∃ td : Nat, n = (td : Int) := ⟨n.toNat, by omega⟩
  have hp3 := hp3
  walk_at "rd"
  refine ⟨fun σ H' => ∃ D days, Same H3 H' ∧ H' D = some (.lst (intV days)) ∧ Days1 days (td + 1) ∧ σ = [some (.ref sc), some v, some (.int (numF p : Int)), some (.int (1 + (td : Int))), some (.ref D)] ++ List.replicate 14 none, ?_, ?_⟩
  · walk_at "rd"
    refine rd_rgR2 (by omega) ?_
    rw [show (1 + (td : Int) + 1 - 1).toNat = td + 1 by omega]
    refine lcR_rng (fun W i H' => Same H3 H' ∧ ∃ days, H' W = some (.lst (intV days)) ∧ Days1 days i) (fun W H' _ s e _ => ⟨s, [], e, List.Pairwise.nil, (fun d hd => by cases hd), Nat.le_refl _⟩) ?_ ?_
    · rintro W i H4 hW hi ⟨s4, days, eW, hd⟩
      walk_at "rd"
      refine ⟨rfl, ?_⟩
      walk_at "rd"
      refine ⟨sc, ns, _, _, rfl, L2.Same.seq s4 hsc3, hns, by omega, by omega, fun H5 n s5 n0 n1 => ?_⟩
      walk_at "rd"
      have ld := hd.2.2
      by_cases c : n = 0
      · rw [decide_eq_true c]
        refine rd_iteTT ?_
        walk_at "rd"
        refine rd_lcE (s5 _ _ eW) (by unfold intV; rw [List.length_map]; omega) fun H6 eH6 eW6 => ?_
        refine ⟨by rw [eH6]; exact Same.mut (s4.trans s5) hW, _, ?_, hd.snoc⟩
        rw [eW6]
        unfold intV
        rw [List.map_append]
        rfl
      · rw [decide_eq_false c]
        refine rd_iteFF ?_
        exact ⟨s4.trans s5, days, s5 _ _ eW, hd.le⟩
    rintro W H4 hW ⟨s4, days, eW, hd⟩
    walk_at "rd"
    exact ⟨W, days, s4, eW, hd, rfl⟩
  rintro σ H4 ⟨D, days, s4, eD, hd, rfl⟩
  have hsc4 := L2.Same.seq s4 hsc3
  have hp4 := hp3.mono s4
  have lx : (intV days).length = days.length := List.length_map _
  have dok : DaysOk days (1 + (td : Int)) := ⟨by omega, fun d h => by have := hd.2.1 d h; omega, hd.1, by have := hd.2.2; omega⟩
  have ll := dok.len
  walk_at "rd"
  refine ⟨fun σ H' => ∃ PN pins, Same H4 H' ∧ H' PN = some (.lst (intV pins)) ∧ pins.length ≤ 1000 ∧ (∀ q ∈ pins, 0 ≤ q) ∧ σ = [some (.ref sc), some v, some (.int (numF p : Int)), some (.int (1 + (td : Int))), some (.ref D), none, some (.ref PN)] ++ List.replicate 12 none, ?_, ?_⟩
  · walk_at "rd"
    refine ⟨sc, ns, _, _, rfl, hsc4, hns, by omega, by omega, fun H5 n s5 n0 n1 => ?_⟩
    walk_at "rd"
    refine rd_rgR1 (by omega) (by omega) ?_
    refine lcR_rng (fun W i H' => Same H4 H' ∧ ∃ pins, H' W = some (.lst (intV pins)) ∧ pins.length = i ∧ ∀ q ∈ pins, 0 ≤ q) (fun W H' _ s e _ => ⟨s5.trans s, [], e, rfl, (fun d hd => by cases hd)⟩) ?_ ?_
    · rintro W i H6 hW hi ⟨s6, pins, eW, lp, hq⟩
      walk_at "rd"
      refine ⟨rfl, ?_⟩
      walk_at "rd"
      refine ⟨sc, ns, _, _, rfl, L2.Same.seq s6 hsc4, hns, by omega, by omega, fun H7 q s7 q0 q1 => ?_⟩
      refine rd_lcE (s7 _ _ eW) (by unfold intV; rw [List.length_map]; omega) fun H8 eH8 eW8 => ?_
      have hW4 : H4 W = none := none_back s5 hW
      refine ⟨by rw [eH8]; exact Same.mut (s6.trans s7) hW4, pins ++ [q], ?_, by rw [List.length_append, lp]; rfl, fun z hz => ?_⟩
      · rw [eW8]
        unfold intV
        rw [List.map_append]
        rfl
      · rcases List.mem_append.mp hz with h | h
        · exact hq z h
        · rw [List.mem_singleton.mp h]
          exact q0
    rintro W H6 hW ⟨s6, pins, eW, lp, hq⟩
    walk_at "rd"
    exact ⟨W, pins, s6, eW, by omega, hq, rfl⟩
  rintro σ H5 ⟨PN, pins, s5, eP, lp, p0, rfl⟩
  have eD := s5 _ _ eD
  have hp5 := hp4.mono s5
  have lp2 : (intV pins).length = pins.length := List.length_map _
  walk_at "rd"
  refine ⟨fun σ H' => ∃ KP, Same H5 H' ∧ H' KP = some (.lst (intV (keptF p days pins (1 + (td : Int))))) ∧ σ = [some (.ref sc), some v, some (.int (numF p : Int)), some (.int (1 + (td : Int))), some (.ref D), none, some (.ref PN), none, some (.ref KP)] ++ List.replicate 10 none, ?_, ?_⟩
  · walk_at "rd"
    refine rd_slL (SqL.of eD) fun P1 H6 _ s6 e6 _ => ?_
    rw [cut_init, lx] at e6
    walk_at "rd"
    refine rd_enR (SqL.of e6) ?_
    refine lcR_enum (xs := (intV days).take (days.length - 1)) (fun W i H' => Same H6 H' ∧ H' W = some (.lst (intV (keptI p days pins (1 + (td : Int)) i)))) (fun W i H' _ ⟨s, _⟩ => SqL.of (s _ _ e6)) (fun W H' _ s e _ => ⟨s, e⟩) ?_ ?_
    · rintro W i y H7 t H8 hW hy ⟨s7, eW⟩ _ s8 et _
      have hi := (List.getElem?_eq_some_iff.mp hy).1
      rw [List.length_take, lx] at hi
      rw [List.getElem?_take_of_lt (by omega)] at hy
      obtain ⟨m, hm, rfl⟩ := intV_at hy
      have em : days.getD i 0 = m := by rw [List.getD_eq_getElem?_getD, hm]; rfl
      have s58 := s6.trans (s7.trans s8)
      refine rd_gtup et rfl ?_
      walk_at "rd"
      refine ⟨rfl, ?_⟩
      walk_at "rd"
      refine ⟨_, p, D, PN, days, pins, i, _, rfl, hp5.mono s58, hh4, s58 _ _ eD, s58 _ _ eP, by omega, ll, lp, fun H9 s9 => ?_⟩
      refine ⟨_, rfl, ?_⟩
      have s89 := s8.trans s9
      have kl := keptI_len p days pins (1 + (td : Int)) i
      cases hb : holdsF p (casF days i pins (1 + (td : Int)))
      · rw [if_neg Bool.false_ne_true]
        refine ⟨s7.trans s89, ?_⟩
        rw [keptI_succ, hb, if_neg Bool.false_ne_true, List.append_nil]
        exact s89 _ _ eW
      · rw [if_pos rfl]
        walk_at "rd"
        refine rd_lcE (s89 _ _ eW) (by unfold intV; rw [List.length_map]; omega) fun H10 eH10 eW10 => ?_
        refine ⟨by rw [eH10]; exact Same.mut (s7.trans s89) hW, ?_⟩
        rw [eW10, keptI_succ, hb, if_pos rfl, em]
        unfold intV
        rw [List.map_append]
        rfl
    rintro W H7 hW ⟨s7, eW⟩
    rw [List.length_take, lx, Nat.min_eq_left (by omega)] at eW
    walk_at "rd"
    have s57 := s6.trans s7
    refine rd_slL (SqL.of (s57 _ _ eD)) fun P2 H8 _ s8 e8 _ => ?_
    rw [cut_last, lx] at e8
    have kl := keptI_len p days pins (1 + (td : Int)) (days.length - 1)
    have ll2 : ((intV days).drop (days.length - 1)).length ≤ 1 := by
      rw [List.length_drop, lx]
      omega
    refine rd_cat (s8 _ _ eW) e8 (by unfold intV at ll2 ⊢; rw [List.length_map]; omega) fun F H9 _ s9 eF _ => ?_
    walk_at "rd"
    refine ⟨F, s57.trans (s8.trans s9), ?_, rfl⟩
    rw [eF]
    unfold intV keptF
    rw [List.map_append, List.map_drop]
  rintro σ H6 ⟨KP, s6, eK, rfl⟩
  have eD := s6 _ _ eD
  have eP := s6 _ _ eP
  have hp6 := hp5.mono s6
  walk_at "rd"
  refine ⟨fun σ H' => ∃ ND, Same H6 H' ∧ H' ND = some (.lst (intV (keptF .pinned days pins (1 + (td : Int))))) ∧ σ = [some (.ref sc), some v, some (.int (numF p : Int)), some (.int (1 + (td : Int))), some (.ref D), none, some (.ref PN), none, some (.ref KP), none, some (.ref ND)] ++ List.replicate 8 none, ?_, ?_⟩
  · walk_at "rd"
    refine rd_slL (SqL.of eD) fun P1 H6 _ s6 e6 _ => ?_
    rw [cut_init, lx] at e6
    walk_at "rd"
    refine rd_enR (SqL.of e6) ?_
    refine lcR_enum (xs := (intV days).take (days.length - 1)) (fun W i H' => Same H6 H' ∧ H' W = some (.lst (intV (keptI .pinned days pins (1 + (td : Int)) i)))) (fun W i H' _ ⟨s, _⟩ => SqL.of (s _ _ e6)) (fun W H' _ s e _ => ⟨s, e⟩) ?_ ?_
    · rintro W i y H7 t H8 hW hy ⟨s7, eW⟩ _ s8 et _
      have hi := (List.getElem?_eq_some_iff.mp hy).1
      rw [List.length_take, lx] at hi
      rw [List.getElem?_take_of_lt (by omega)] at hy
      obtain ⟨m, hm, rfl⟩ := intV_at hy
      have em : days.getD i 0 = m := by rw [List.getD_eq_getElem?_getD, hm]; rfl
      have s58 := s6.trans (s7.trans s8)
      refine rd_gtup et rfl ?_
      walk_at "rd"
      refine ⟨rfl, ?_⟩
      walk_at "rd"
      refine rd_newT (by simp) fun pt H0 _ s0 ept _ => ?_
      walk_at "rd"
      refine ⟨_, .pinned, D, PN, days, pins, i, _, rfl, (.tup ept (.cons (.str _) .nil) : PolP _ _ .pinned), (by decide), (s58.trans s0) _ _ eD, (s58.trans s0) _ _ eP, by omega, ll, lp, fun H9 s9 => ?_⟩
      refine ⟨_, rfl, ?_⟩
      have s89 := s8.trans (s0.trans s9)
      have kl := keptI_len .pinned days pins (1 + (td : Int)) i
      cases hb : holdsF .pinned (casF days i pins (1 + (td : Int)))
      · rw [if_neg Bool.false_ne_true]
        refine ⟨s7.trans s89, ?_⟩
        rw [keptI_succ, hb, if_neg Bool.false_ne_true, List.append_nil]
        exact s89 _ _ eW
      · rw [if_pos rfl]
        walk_at "rd"
        refine rd_lcE (s89 _ _ eW) (by unfold intV; rw [List.length_map]; omega) fun H10 eH10 eW10 => ?_
        refine ⟨by rw [eH10]; exact Same.mut (s7.trans s89) hW, ?_⟩
        rw [eW10, keptI_succ, hb, if_pos rfl, em]
        unfold intV
        rw [List.map_append]
        rfl
    rintro W H7 hW ⟨s7, eW⟩
    rw [List.length_take, lx, Nat.min_eq_left (by omega)] at eW
    walk_at "rd"
    have s57 := s6.trans s7
    refine rd_slL (SqL.of (s57 _ _ eD)) fun P2 H8 _ s8 e8 _ => ?_
    rw [cut_last, lx] at e8
    have kl := keptI_len .pinned days pins (1 + (td : Int)) (days.length - 1)
    have ll2 : ((intV days).drop (days.length - 1)).length ≤ 1 := by
      rw [List.length_drop, lx]
      omega
    refine rd_cat (s8 _ _ eW) e8 (by unfold intV at ll2 ⊢; rw [List.length_map]; omega) fun F H9 _ s9 eF _ => ?_
    walk_at "rd"
    refine ⟨F, s57.trans (s8.trans s9), ?_, rfl⟩
    rw [eF]
    unfold intV keptF
    rw [List.map_append, List.map_drop]
  rintro σ H7 ⟨ND, s7, eN, rfl⟩
  have eD := s7 _ _ eD
  have eP := s7 _ _ eP
  have eK := s7 _ _ eK
  have hp7 := hp6.mono s7
  walk_at "rd"
  refine ⟨fun σ H' => Same H7 H' ∧ σ = [some (.ref sc), some v, some (.int (numF p : Int)), some (.int (1 + (td : Int))), some (.ref D), none, some (.ref PN), none, some (.ref KP), none, some (.ref ND)] ++ List.replicate 8 none, ?_, ?_⟩
  · walk_at "rd"
    refine rd_tupOfL eP fun tp H8 _ s8 etp _ => ?_
    walk_at "rd"
    refine ⟨v, p, D, tp, days, pins, _, rfl, hp7.mono s8, okp, hh4, .inl (s8 _ _ eD), .inr etp, dok, lp, p0, fun H9 F s9 hF eF => ?_⟩
    walk_at "rd"
    have s79 := s8.trans s9
    refine rd_neInts eF (s79 _ _ eK) ?_
    refine ⟨_, rfl, rd_iteFF ?_⟩
    walk_at "rd"
    refine rd_tupOfL (s79 _ _ eD) fun td2 H10 _ s10 etd _ => ?_
    walk_at "rd"
    refine ⟨td2, PN, days, pins, _, rfl, .inr etd, .inl ((s79.trans s10) _ _ eP), dok, lp, p0, fun H11 G s11 hG eG => ?_⟩
    walk_at "rd"
    have s711 := s79.trans (s10.trans s11)
    refine rd_neInts eG (s711 _ _ eN) ?_
    refine ⟨_, rfl, rd_iteFF ?_⟩
    walk_at "rd"
    exact ⟨s711, rfl⟩
  rintro σ H8 ⟨s8, rfl⟩
  have hp8 := hp7.mono s8
  walk_at "rd"
  refine ⟨fun σ H' => Same H8 H' ∧ σ = [some (.ref sc), some v, some (.int (numF p : Int)), some (.int (1 + (td : Int))), some (.ref D), none, some (.ref PN), none, some (.ref KP), none, some (.ref ND), some (.bl false), some (.bl false)] ++ List.replicate 6 none, ?_, ?_⟩
  · walk_at "rd"
    refine rd_newT (by simp) fun t0 H9 _ s9 et0 _ => ?_
    refine rd_gtup et0 rfl ?_
    walk_at "rd"
    exact ⟨s9, rfl⟩
  rintro σ H9 ⟨s9, rfl⟩
  have hp9 := hp8.mono s9
  have n12 := numF_le okp
  walk_at "rd"
  refine ⟨fun σ H' => ∃ v13 v14 v15, Same H9 H' ∧ σ = [some (.ref sc), some v, some (.int (numF p : Int)), some (.int (1 + (td : Int))), some (.ref D), none, some (.ref PN), none, some (.ref KP), none, some (.ref ND), some (.bl (losesB p)), some (.bl (moreB p)), v13, v14, v15] ++ List.replicate 3 none, ?_, ?_⟩
  · walk_at "rd"
    refine ⟨numF p, rfl, by omega, fun H10 F rs s10 hF eF ha => ?_⟩
    walk_at "rd"
    refine rd_lsR (SqL.of eF) ?_
    refine forR_lst (xs := rs.map V.ref) (fun j σ H' => ∃ v13 v14 v15, Same H10 H' ∧ σ = [some (.ref sc), some v, some (.int (numF p : Int)), some (.int (1 + (td : Int))), some (.ref D), none, some (.ref PN), none, some (.ref KP), none, some (.ref ND), some (.bl (((histG (numF p)).take j).any (fun h : Hist => !holdsF p (casF h.1 0 [1] h.2)))), some (.bl (((histG (numF p)).take j).any (fun h : Hist => (pins3 h).any fun q => holdsF p (casF h.1 0 q h.2)))), v13, v14, v15] ++ List.replicate 3 none) (fun j σ H' ⟨_, _, _, s, _⟩ => SqL.of (s _ _ eF)) ⟨_, _, _, Same.refl H10, rfl⟩ ?_ ?_
    · rintro j z σ H11 hz ⟨v13, v14, v15, s11, rfl⟩
      obtain ⟨r, hr, rfl⟩ : ∃ r, rs[j]? = some r ∧ z = .ref r := by
        rw [List.getElem?_map] at hz
        cases q : rs[j]? with
        | none => rw [q] at hz; cases hz
        | some r => rw [q] at hz; exact ⟨r, rfl, (Option.some.inj hz).symm⟩
      obtain ⟨h, hh, l, e1, e2⟩ := ha.at hr
      obtain ⟨l1, rr, eh, h2l, lh⟩ := hist_okG (m := numF p) (by omega) (List.mem_of_getElem? hh)
      have s911 := s10.trans s11
      have aL : ((histG (numF p)).take (j + 1)).any (fun h : Hist => !holdsF p (casF h.1 0 [1] h.2)) = (((histG (numF p)).take j).any (fun h : Hist => !holdsF p (casF h.1 0 [1] h.2)) || !holdsF p (casF h.1 0 [1] h.2)) := by
        rw [List.take_add_one, hh, List.any_append]
        simp
      have aM : ((histG (numF p)).take (j + 1)).any (fun h : Hist => (pins3 h).any fun q => holdsF p (casF h.1 0 q h.2)) = (((histG (numF p)).take j).any (fun h : Hist => (pins3 h).any fun q => holdsF p (casF h.1 0 q h.2)) || (pins3 h).any fun q => holdsF p (casF h.1 0 q h.2)) := by
        rw [List.take_add_one, hh, List.any_append]
        simp
      rw [aL, aM]
      generalize ((histG (numF p)).take j).any (fun h : Hist => !holdsF p (casF h.1 0 [1] h.2)) = bL
      generalize ((histG (numF p)).take j).any (fun h : Hist => (pins3 h).any fun q => holdsF p (casF h.1 0 q h.2)) = bM
      refine rd_gtup (s11 _ _ e1) rfl ?_
      walk_at "rd"
      have el := s11 _ _ e2
      refine ⟨fun σ H' => Same H11 H' ∧ σ = [some (.ref sc), some v, some (.int (numF p : Int)), some (.int (1 + (td : Int))), some (.ref D), none, some (.ref PN), none, some (.ref KP), none, some (.ref ND), some (.bl (bL || !holdsF p (casF h.1 0 [1] h.2))), some (.bl (bM)), some (.ref l), some (.int h.2), v15] ++ List.replicate 3 none, ?_, ?_⟩
      · walk_at "rd"
        refine rd_newL (by simp) fun a0 H12 _ s12 ea0 _ => ?_
        walk_at "rd"
        refine ⟨v, p, l, a0, h.1, [1], 0, h.2, rfl, hp9.mono (s911.trans s12), hh4, s12 _ _ el, ea0, by rw [eh]; simp, lh, by simp, fun H13 s13 => ?_⟩
        refine ⟨_, rfl, ?_⟩
        have s1113 := s12.trans s13
        cases hb : holdsF p (casF h.1 0 [1] h.2)
        · rw [Bool.not_false]
          walk_at "rd"
          refine ⟨s1113, ?_⟩
          rw [Bool.or_true]
          rfl
        · rw [Bool.not_true]
          walk_at "rd"
          refine ⟨s1113, ?_⟩
          rw [Bool.or_false]
          rfl
      rintro σ H12 ⟨s12, rfl⟩
      generalize (bL || !holdsF p (casF h.1 0 [1] h.2)) = bL
      have s912 := s911.trans s12
      have el := s12 _ _ el
      walk_at "rd"
      refine rd_newL (by simp) fun a0 H13 _ s13 ea0 _ => ?_
      walk_at "rd"
      refine rd_newL (by simp) fun a1 H14 _ s14 ea1 _ => ?_
      walk_at "rd"
      refine rd_ixL ((s13.trans s14) _ _ el) (v := .int (h.1.getD 1 0)) (by rw [eh]; exact atI_nat' (i := 1) rfl) ?_
      walk_at "rd"
      refine rd_newL (by simp) fun a2 H15 _ s15 ea2 _ => ?_
      walk_at "rd"
      refine rd_newT (by simp) fun tp H16 _ s16 etp _ => ?_
      have s1216 := s13.trans (s14.trans (s15.trans s16))
      have at7 : ∀ (q : Nat) (y : V), ([V.ref a0, .ref a1, .ref a2] : List V)[q]? = some y → ∃ (a : Addr) (pins : List Int), y = .ref a ∧ (pins3 h)[q]? = some pins ∧ H16 a = some (.lst (intV pins)) ∧ pins.length ≤ 1 := by
        intro q y hq
        have hq3 : q < 3 := (List.getElem?_eq_some_iff.mp hq).1
        match q, hq3, hq with
        | 0, _, hq => cases hq; exact ⟨a0, [], rfl, rfl, (s14.trans (s15.trans s16)) _ _ ea0, by simp⟩
        | 1, _, hq => cases hq; exact ⟨a1, [0], rfl, rfl, (s15.trans s16) _ _ ea1, by simp⟩
        | 2, _, hq => cases hq; exact ⟨a2, [h.1.getD 1 0], rfl, rfl, s16 _ _ ea2, by simp⟩
      refine rd_tpR (SqT.of etp) ?_
      refine forR_tup (xs := [.ref a0, .ref a1, .ref a2]) (fun q σ H' => ∃ v15, Same H16 H' ∧ σ = [some (.ref sc), some v, some (.int (numF p : Int)), some (.int (1 + (td : Int))), some (.ref D), none, some (.ref PN), none, some (.ref KP), none, some (.ref ND), some (.bl (bL)), some (.bl (bM || ((pins3 h).take q).any fun q => holdsF p (casF h.1 0 q h.2))), some (.ref l), some (.int h.2), v15] ++ List.replicate 3 none) (fun q σ H' ⟨_, s, _⟩ => SqT.of (s _ _ etp)) ⟨v15, Same.refl H16, by rw [List.take_zero, List.any_nil, Bool.or_false]⟩ ?_ ?_
      · rintro q z σ H17 hz ⟨v15, s17, rfl⟩
        obtain ⟨a, pins', rfl, hpq, ea, lp'⟩ := at7 q z hz
        have aQ : ((pins3 h).take (q + 1)).any (fun q => holdsF p (casF h.1 0 q h.2)) = (((pins3 h).take q).any (fun q => holdsF p (casF h.1 0 q h.2)) || holdsF p (casF h.1 0 pins' h.2)) := by
          rw [List.take_add_one, hpq, List.any_append]
          simp
        rw [aQ]
        generalize ((pins3 h).take q).any (fun q => holdsF p (casF h.1 0 q h.2)) = bQ
        walk_at "rd"
        have s1217 := s1216.trans s17
        refine ⟨v, p, l, a, h.1, pins', 0, h.2, rfl, hp9.mono (s912.trans s1217), hh4, s1217 _ _ el, s17 _ _ ea, by rw [eh]; simp, lh, by omega, fun H18 s18 => ?_⟩
        refine ⟨_, rfl, ?_⟩
        cases hb : holdsF p (casF h.1 0 pins' h.2)
        · walk_at "rd"
          refine ⟨some (.ref a), s17.trans s18, ?_⟩
          rw [Bool.or_false]
          rfl
        · walk_at "rd"
          refine ⟨some (.ref a), s17.trans s18, ?_⟩
          rw [Bool.or_true, Bool.or_true]
          rfl
      · rintro σ H17 ⟨v15, s17, rfl⟩
        exact ⟨some (.ref l), some (.int h.2), v15, s11.trans (s12.trans (s1216.trans s17)), by rw [show (pins3 h).take [V.ref a0, .ref a1, .ref a2].length = pins3 h from rfl]⟩
    · rintro σ H11 ⟨v13, v14, v15, s11, rfl⟩
      have e1 : ((histG (numF p)).take (rs.map V.ref).length).any (fun h : Hist => !holdsF p (casF h.1 0 [1] h.2)) = losesB p := by
        rw [List.length_map, ha.len, List.take_length]
        exact loses_eq p
      have e2 : ((histG (numF p)).take (rs.map V.ref).length).any (fun h : Hist => (pins3 h).any fun q => holdsF p (casF h.1 0 q h.2)) = moreB p := by
        rw [List.length_map, ha.len, List.take_length]
        exact more_eq p
      exact ⟨v13, v14, v15, s10.trans s11, by rw [e1, e2]⟩
  rintro σ H10 ⟨v13, v14, v15, s10, rfl⟩
  have hp10 := hp9.mono s10
  walk_at "rd"
  refine ⟨fun σ H' => ∃ x y, Same H10 H' ∧ JudgeP C_KeepsAll C_LosesOne H' x p ∧ JudgeL C_KeepsLittle C_KeepsMore H' y p ∧ σ = [some (.ref sc), some v, some (.int (numF p : Int)), some (.int (1 + (td : Int))), some (.ref D), none, some (.ref PN), none, some (.ref KP), none, some (.ref ND), some (.bl (losesB p)), some (.bl (moreB p)), v13, v14, v15, some (.ref x), some (.ref y), none], ?_, ?_⟩
  · walk_at "rd"
    refine ⟨v, p, rfl, hp10, okp, hh4, fun H11 x s11 jp => ?_⟩
    walk_at "rd"
    refine ⟨v, p, rfl, hp10.mono s11, okp, hh4, fun H12 y s12 jl => ?_⟩
    walk_at "rd"
    refine rd_newT (by simp) fun t0 H13 _ s13 et0 _ => ?_
    refine rd_gtup et0 rfl ?_
    walk_at "rd"
    exact ⟨x, y, s11.trans (s12.trans s13), jp.mono (s12.trans s13), jl.mono s13, rfl⟩
  rintro σ H11 ⟨x, y, s11, jp, jl, rfl⟩
  have hp11 := hp10.mono s11
  have lost : ∀ h ∈ histF (numF p), L1 p h = false → losesB p = true := fun h hm hl => List.any_eq_true.mpr ⟨h, hm, by rw [hl]; rfl⟩
  have more : ∀ h ∈ histF (numF p), ∀ q ∈ pins3 h, holdsF p (casF h.1 0 q h.2) = true → moreB p = true := fun h hm q hq hl => List.any_eq_true.mpr ⟨h, hm, List.any_eq_true.mpr ⟨q, hq, hl⟩⟩
  walk_at "rd"
  refine ⟨fun σ H' => Same H11 H' ∧ σ = [some (.ref sc), some v, some (.int (numF p : Int)), some (.int (1 + (td : Int))), some (.ref D), none, some (.ref PN), none, some (.ref KP), none, some (.ref ND), some (.bl (losesB p)), some (.bl (moreB p)), v13, v14, v15, some (.ref x), some (.ref y), none], ?_, ?_⟩
  · walk_at "rd"
    rcases jp with ⟨hl, hx⟩ | ⟨h, hm, hl, hx⟩
    · obtain ⟨dx, ex⟩ := id hx
      refine .inl (rd_boolO ex ⟨x, rfl, true, rfl, ?_⟩)
      walk_at "rd"
      refine rd_eqB ?_
      rw [hl]
      refine ⟨false, rfl, ?_⟩
      walk_at "rd"
      rcases jl with ⟨hl2, hy⟩ | ⟨h', hm', pins', hp', hl2, hy⟩
      · obtain ⟨dy, ey⟩ := id hy
        refine .inl (rd_boolO ey ⟨y, rfl, true, rfl, ?_⟩)
        walk_at "rd"
        refine rd_eqB ?_
        rw [hl2]
        refine ⟨false, rfl, ?_⟩
        walk_at "rd"
        refine .inl ?_
        walk_at "rd"
        refine ⟨x, dx, _, rfl, ex, rfl, ?_⟩
        walk_at "rd"
        refine ⟨x, v, p, _, rfl, hx, hp11, okp, hh4, fun H12 s12 => ?_⟩
        rw [decide_eq_true rfl, hl]
        refine ⟨true, rfl, ?_⟩
        walk_at "rd"
        refine .inl ?_
        walk_at "rd"
        refine ⟨y, dy, _, rfl, s12 _ _ ey, rfl, ?_⟩
        walk_at "rd"
        refine ⟨y, v, p, _, rfl, hy.mono s12, hp11.mono s12, okp, hh4, fun H13 s13 => ?_⟩
        rw [decide_eq_true rfl, hl2]
        refine ⟨true, rfl, ?_⟩
        walk_at "rd"
        exact ⟨s12.trans s13, rfl⟩
      · obtain ⟨dy, l3, l4, ey, _⟩ := id hy
        have hl3 := more h' hm' pins' hp' hl2
        refine .inr (rd_boolO ey ⟨y, rfl, false, rfl, ?_⟩)
        walk_at "rd"
        refine rd_eqB ?_
        rw [hl3]
        refine ⟨false, rfl, ?_⟩
        walk_at "rd"
        refine .inl ?_
        walk_at "rd"
        refine ⟨x, dx, _, rfl, ex, rfl, ?_⟩
        walk_at "rd"
        refine ⟨x, v, p, _, rfl, hx, hp11, okp, hh4, fun H12 s12 => ?_⟩
        rw [decide_eq_true rfl, hl]
        refine ⟨true, rfl, ?_⟩
        walk_at "rd"
        obtain ⟨dok', l5, r5, eh5, h25⟩ := hist_ok (by omega) hm'
        have p3 : pins'.length ≤ 1000 ∧ ∀ q ∈ pins', 0 ≤ q := pins3_ok eh5 h25 hp'
        refine .inr ?_
        walk_at "rd"
        refine ⟨y, dy, _, rfl, s12 _ _ ey, rfl, ?_⟩
        walk_at "rd"
        refine ⟨y, v, p, _, _, _, rfl, hy.mono s12, hp11.mono s12, okp, hh4, dok', p3.1, p3.2, fun H13 s13 => ?_⟩
        rw [shows_more eh5 h25 dok'.asc hp' hl2]
        refine ⟨true, rfl, ?_⟩
        walk_at "rd"
        exact ⟨s12.trans s13, rfl⟩
    · obtain ⟨dx, l2, ex, _⟩ := id hx
      have hl0 := lost h hm hl
      refine .inr (rd_boolO ex ⟨x, rfl, false, rfl, ?_⟩)
      walk_at "rd"
      refine rd_eqB ?_
      rw [hl0]
      refine ⟨false, rfl, ?_⟩
      walk_at "rd"
      rcases jl with ⟨hl2, hy⟩ | ⟨h', hm', pins', hp', hl2, hy⟩
      · obtain ⟨dy, ey⟩ := id hy
        refine .inl (rd_boolO ey ⟨y, rfl, true, rfl, ?_⟩)
        walk_at "rd"
        refine rd_eqB ?_
        rw [hl2]
        refine ⟨false, rfl, ?_⟩
        walk_at "rd"
        obtain ⟨dok, l6, r6, eh6, h26⟩ := hist_ok (by omega) hm
        refine .inr ?_
        walk_at "rd"
        refine ⟨x, dx, _, rfl, ex, rfl, ?_⟩
        walk_at "rd"
        refine ⟨x, v, p, _, _, _, rfl, hx, hp11, okp, hh4, dok, by rw [eh6]; show (0 : Int) ≤ 1; decide, fun H12 s12 => ?_⟩
        rw [shows_lost eh6 h26 dok.asc hl]
        refine ⟨true, rfl, ?_⟩
        walk_at "rd"
        refine .inl ?_
        walk_at "rd"
        refine ⟨y, dy, _, rfl, s12 _ _ ey, rfl, ?_⟩
        walk_at "rd"
        refine ⟨y, v, p, _, rfl, hy.mono s12, hp11.mono s12, okp, hh4, fun H13 s13 => ?_⟩
        rw [decide_eq_true rfl, hl2]
        refine ⟨true, rfl, ?_⟩
        walk_at "rd"
        exact ⟨s12.trans s13, rfl⟩
      · obtain ⟨dy, l3, l4, ey, _⟩ := id hy
        have hl3 := more h' hm' pins' hp' hl2
        refine .inr (rd_boolO ey ⟨y, rfl, false, rfl, ?_⟩)
        walk_at "rd"
        refine rd_eqB ?_
        rw [hl3]
        refine ⟨false, rfl, ?_⟩
        walk_at "rd"
        obtain ⟨dok, l6, r6, eh6, h26⟩ := hist_ok (by omega) hm
        refine .inr ?_
        walk_at "rd"
        refine ⟨x, dx, _, rfl, ex, rfl, ?_⟩
        walk_at "rd"
        refine ⟨x, v, p, _, _, _, rfl, hx, hp11, okp, hh4, dok, by rw [eh6]; show (0 : Int) ≤ 1; decide, fun H12 s12 => ?_⟩
        rw [shows_lost eh6 h26 dok.asc hl]
        refine ⟨true, rfl, ?_⟩
        walk_at "rd"
        obtain ⟨dok', l5, r5, eh5, h25⟩ := hist_ok (by omega) hm'
        have p3 : pins'.length ≤ 1000 ∧ ∀ q ∈ pins', 0 ≤ q := pins3_ok eh5 h25 hp'
        refine .inr ?_
        walk_at "rd"
        refine ⟨y, dy, _, rfl, s12 _ _ ey, rfl, ?_⟩
        walk_at "rd"
        refine ⟨y, v, p, _, _, _, rfl, hy.mono s12, hp11.mono s12, okp, hh4, dok', p3.1, p3.2, fun H13 s13 => ?_⟩
        rw [shows_more eh5 h25 dok'.asc hp' hl2]
        refine ⟨true, rfl, ?_⟩
        walk_at "rd"
        exact ⟨s12.trans s13, rfl⟩
  rintro σ H12 ⟨s12, rfl⟩
  have hp12 := hp11.mono s12
  have jp := jp.mono s12
  have jl := jl.mono s12
  walk_at "rd"
  refine ⟨fun σ H' => ∃ v10, Same H12 H' ∧ σ = [some (.ref sc), some v, some (.int (numF p : Int)), some (.int (1 + (td : Int))), some (.ref D), none, some (.ref PN), none, some (.ref KP), none, v10, some (.bl (losesB p)), some (.bl (moreB p)), v13, v14, v15, some (.ref x), some (.ref y), none], ?_, ?_⟩
  · walk_at "rd"
    rcases jp with ⟨hl, hx⟩ | ⟨h, hm, hl, hx⟩
    · obtain ⟨dx, ex⟩ := id hx
      refine rd_isiCf T.i_KeepsAll T.nc_KeepsAll_LosesOne ex ?_
      refine ⟨false, rfl, ?_⟩
      walk_at "rd"
      refine rd_fld ex T.cl_KeepsAll T.na_KeepsAll_most rfl ?_
      walk_at "rd"
      refine rd_iteNF rfl ?_
      walk_at "rd"
      refine rd_newKA fun z H13 s13 hz => ?_
      obtain ⟨dz, ez⟩ := id hz
      refine ⟨z, dz, _, rfl, ez, rfl, ?_⟩
      walk_at "rd"
      refine ⟨z, v, p, _, rfl, hz, hp12.mono s13, okp, hh4, fun H14 s14 => ?_⟩
      rw [decide_eq_false (show ¬ ((numF p : Int) + 1 = (numF p : Int)) by omega), Bool.false_and]
      refine ⟨false, rfl, ?_⟩
      walk_at "rd"
      refine rd_newL (by simp) fun l12 H15 _ s15 el12 _ => ?_
      walk_at "rd"
      refine rd_newLO (days := [1, 2]) el12 fun z2 H16 s16 hz2 => ?_
      obtain ⟨dz2, lz2, ez2, _⟩ := id hz2
      have s1216 := s13.trans (s14.trans (s15.trans s16))
      refine ⟨z2, dz2, _, rfl, ez2, rfl, ?_⟩
      walk_at "rd"
      refine ⟨z2, v, p, _, _, _, rfl, hz2, hp12.mono s1216, okp, hh4, ⟨by decide, by decide, by decide, by decide⟩, by decide, fun H17 s17 => ?_⟩
      rw [shows_12 hl]
      refine ⟨false, rfl, ?_⟩
      walk_at "rd"
      exact ⟨_, s1216.trans s17, rfl⟩
    · obtain ⟨dok2, l6, r6, eh6, h26⟩ := hist_ok (by omega) hm
      have hl0 := lost h hm hl
      have hpin : (0 : Int) ≤ h.1.getD 0 0 := by rw [eh6]; show (0 : Int) ≤ 1; decide
      have hpin1 : ∀ q ∈ [h.1.getD 0 0], 0 ≤ q := fun q hq => by rw [List.mem_singleton.mp hq]; exact hpin
      have hsh := shows_lost eh6 h26 dok2.asc hl
      have dl := dok2.len
      obtain ⟨dx, l2, ex, el2⟩ := id hx
      refine rd_isiC T.i_LosesOne ex ?_
      refine ⟨true, rfl, ?_⟩
      walk_at "rd"
      refine ⟨fun σ H' => ∃ N2, Same H12 H' ∧ H' N2 = some (.lst (intV (keptF .pinned h.1 [h.1.getD 0 0] h.2))) ∧ σ = [some (.ref sc), some v, some (.int (numF p : Int)), some (.int (1 + (td : Int))), some (.ref D), none, some (.ref PN), none, some (.ref KP), none, some (.ref N2), some (.bl (losesB p)), some (.bl (moreB p)), v13, v14, v15, some (.ref x), some (.ref y), none], ?_, ?_⟩
      · walk_at "rd"
        refine rd_fld ex T.cl_LosesOne T.na_LosesOne_days rfl ?_
        walk_at "rd"
        refine rd_fld ex T.cl_LosesOne T.na_LosesOne_pin rfl ?_
        walk_at "rd"
        refine rd_newL (by simp) fun a3 H13 _ s13 ea3 _ => ?_
        walk_at "rd"
        refine rd_fld (s13 _ _ ex) T.cl_LosesOne T.na_LosesOne_today rfl ?_
        walk_at "rd"
        refine ⟨l2, a3, h.1, [h.1.getD 0 0], h.2, rfl, .inl (s13 _ _ el2), .inl ea3, dok2, by simp, hpin1, fun H14 N2 s14 _ eN2 => ?_⟩
        walk_at "rd"
        exact ⟨N2, s13.trans s14, eN2, rfl⟩
      rintro σ H13 ⟨N2, s13, eN2, rfl⟩
      have ex3 := s13 _ _ ex
      have el3 := s13 _ _ el2
      have hp13 := hp12.mono s13
      walk_at "rd"
      refine ⟨fun σ H' => Same H13 H' ∧ σ = [some (.ref sc), some v, some (.int (numF p : Int)), some (.int (1 + (td : Int))), some (.ref D), none, some (.ref PN), none, some (.ref KP), none, some (.ref N2), some (.bl (losesB p)), some (.bl (moreB p)), v13, v14, v15, some (.ref x), some (.ref y), none], ?_, ?_⟩
      · walk_at "rd"
        have gl := keptF_len .pinned h.1 [h.1.getD 0 0] h.2
        refine rd_lsR (SqL.of eN2) ?_
        refine lcR_lst (xs := intV (keptF .pinned h.1 [h.1.getD 0 0] h.2)) (fun W i H' => Same H13 H' ∧ H' W = some (.lst ((((keptF .pinned h.1 [h.1.getD 0 0] h.2).take i).map fun d => decide (d ∈ keptF p h.1 [h.1.getD 0 0] h.2)).map V.bl))) (fun W i H' _ ⟨s, _⟩ => SqL.of (s _ _ eN2)) (fun W H' _ s e _ => ⟨s, e⟩) ?_ ?_
        · rintro W i z H14 hW hz ⟨s14, eW⟩
          have hi := (List.getElem?_eq_some_iff.mp hz).1
          obtain ⟨m, hm2, rfl⟩ := intV_at hz
          walk_at "rd"
          refine ⟨rfl, ?_⟩
          walk_at "rd"
          refine rd_fld (s14 _ _ ex3) T.cl_LosesOne T.na_LosesOne_days rfl ?_
          walk_at "rd"
          refine rd_fld (s14 _ _ ex3) T.cl_LosesOne T.na_LosesOne_pin rfl ?_
          walk_at "rd"
          refine rd_newL (by simp) fun a3 H15 _ s15 ea3 _ => ?_
          walk_at "rd"
          refine rd_fld ((s14.trans s15) _ _ ex3) T.cl_LosesOne T.na_LosesOne_today rfl ?_
          walk_at "rd"
          refine ⟨v, p, l2, a3, h.1, [h.1.getD 0 0], h.2, rfl, hp13.mono (s14.trans s15), okp, hh4, .inl ((s14.trans s15) _ _ el3), .inl ea3, dok2, by simp, hpin1, fun H16 F s16 _ eF => ?_⟩
          walk_at "rd"
          refine rd_inL eF ?_
          refine rd_lcE ((s15.trans s16) _ _ eW) (by rw [List.length_map, List.length_map, List.length_take]; omega) fun H17 eH17 eW17 => ?_
          refine ⟨by rw [eH17]; exact Same.mut (s14.trans (s15.trans s16)) hW, ?_⟩
          rw [eW17, List.take_add_one, hm2, List.map_append, List.map_append]
          rfl
        rintro W H14 hW ⟨s14, eW⟩
        rw [show (intV (keptF .pinned h.1 [h.1.getD 0 0] h.2)).length = (keptF .pinned h.1 [h.1.getD 0 0] h.2).length from List.length_map _, List.take_length] at eW
        walk_at "rd"
        refine all_bs eW ?_
        rw [List.all_map]
        refine ⟨false, ?_, ?_⟩
        · unfold showsLO at hsh
          rw [Bool.not_eq_true'] at hsh
          exact congrArg V.bl hsh
        walk_at "rd"
        refine rd_newKA fun z H15 s15 hz => ?_
        obtain ⟨dz, ez⟩ := id hz
        refine ⟨z, dz, _, rfl, ez, rfl, ?_⟩
        walk_at "rd"
        refine ⟨z, v, p, _, rfl, hz, hp13.mono (s14.trans s15), okp, hh4, fun H16 s16 => ?_⟩
        rw [decide_eq_true rfl, hl0]
        refine ⟨false, rfl, ?_⟩
        walk_at "rd"
        exact ⟨s14.trans (s15.trans s16), by first | rfl | rw [hl0]⟩
      rintro σ H14 ⟨s14, rfl⟩
      have ex4 := s14 _ _ ex3
      have el4 := s14 _ _ el3
      walk_at "rd"
      refine rd_fld ex4 T.cl_LosesOne T.na_LosesOne_days rfl ?_
      walk_at "rd"
      refine rd_fld ex4 T.cl_LosesOne T.na_LosesOne_today rfl ?_
      walk_at "rd"
      refine rd_fld ex4 T.cl_LosesOne T.na_LosesOne_today rfl ?_
      walk_at "rd"
      refine rd_newLO el4 fun z H15 s15 hz => ?_
      obtain ⟨dz, lz, ez, _⟩ := id hz
      refine ⟨z, dz, _, rfl, ez, rfl, ?_⟩
      walk_at "rd"
      refine ⟨z, v, p, _, _, _, rfl, hz, hp13.mono (s14.trans s15), okp, hh4, dok2, by have := dok2.t1; omega, fun H16 s16 => ?_⟩
      rw [shows_today dok2.asc (fun d hd => (dok2.lo d hd).2)]
      refine ⟨false, rfl, ?_⟩
      walk_at "rd"
      exact ⟨_, s13.trans (s14.trans (s15.trans s16)), rfl⟩
  rintro σ H13 ⟨v10, s13, rfl⟩
  have hp13 := hp12.mono s13
  have jl := jl.mono s13
  walk_at "rd"
  refine ⟨fun σ H' => ∃ v10, Same H13 H' ∧ σ = [some (.ref sc), some v, some (.int (numF p : Int)), some (.int (1 + (td : Int))), some (.ref D), none, some (.ref PN), none, some (.ref KP), none, v10, some (.bl (losesB p)), some (.bl (moreB p)), v13, v14, v15, some (.ref x), some (.ref y), none], ?_, ?_⟩
  · walk_at "rd"
    rcases jl with ⟨hl, hy⟩ | ⟨h, hm, pn, hpn, hl, hy⟩
    · obtain ⟨dy, ey⟩ := id hy
      refine rd_isiCf T.i_KeepsLittle T.nc_KeepsLittle_KeepsMore ey ?_
      refine ⟨false, rfl, ?_⟩
      walk_at "rd"
      refine rd_fld ey T.cl_KeepsLittle T.na_KeepsLittle_most rfl ?_
      walk_at "rd"
      refine rd_iteNF rfl ?_
      walk_at "rd"
      refine rd_newKA fun z H14 s14 hz => ?_
      obtain ⟨dz, ez⟩ := id hz
      refine ⟨z, dz, _, rfl, ez, rfl, ?_⟩
      walk_at "rd"
      refine ⟨z, v, p, _, rfl, hz, hp13.mono s14, okp, hh4, fun H15 s15 => ?_⟩
      rw [decide_eq_false (show ¬ ((numF p : Int) + 1 = (numF p : Int)) by omega), Bool.false_and]
      refine ⟨false, rfl, ?_⟩
      walk_at "rd"
      refine rd_newL (by simp) fun l12 H16 _ s16 el12 _ => ?_
      walk_at "rd"
      refine rd_newL (by simp) fun l13 H17 _ s17 el13 _ => ?_
      walk_at "rd"
      refine rd_newKM (days := [1, 2]) (pins := []) (s17 _ _ el12) el13 fun z2 H18 s18 hz2 => ?_
      obtain ⟨dz2, lz2, lz3, ez2, _⟩ := id hz2
      have sA := s14.trans (s15.trans (s16.trans (s17.trans s18)))
      refine ⟨z2, dz2, _, rfl, ez2, rfl, ?_⟩
      walk_at "rd"
      refine ⟨z2, v, p, _, _, _, rfl, hz2, hp13.mono sA, okp, hh4, ⟨by decide, by decide, by decide, by decide⟩, by decide, (fun q hq => by cases hq), fun H19 s19 => ?_⟩
      rw [shows_2 hl]
      refine ⟨false, rfl, ?_⟩
      walk_at "rd"
      exact ⟨_, sA.trans s19, rfl⟩
    · obtain ⟨dok2, l6, r6, eh6, h26⟩ := hist_ok (by omega) hm
      have hl0 := more h hm pn hpn hl
      have p3 := pins3_ok eh6 h26 hpn
      have hsh := shows_more eh6 h26 dok2.asc hpn hl
      have dl := dok2.len
      obtain ⟨dy, l2, q2, ey, el2, eq2⟩ := id hy
      refine rd_isiC T.i_KeepsMore ey ?_
      refine ⟨true, rfl, ?_⟩
      walk_at "rd"
      refine rd_fld ey T.cl_KeepsMore T.na_KeepsMore_days rfl ?_
      walk_at "rd"
      refine rd_fld ey T.cl_KeepsMore T.na_KeepsMore_pins rfl ?_
      walk_at "rd"
      refine rd_fld ey T.cl_KeepsMore T.na_KeepsMore_today rfl ?_
      walk_at "rd"
      refine ⟨l2, q2, h.1, pn, h.2, rfl, .inl el2, .inl eq2, dok2, p3.1, p3.2, fun H14 N2 s14 _ eN2 => ?_⟩
      walk_at "rd"
      refine rd_fld (s14 _ _ ey) T.cl_KeepsMore T.na_KeepsMore_days rfl ?_
      walk_at "rd"
      refine rd_fld (s14 _ _ ey) T.cl_KeepsMore T.na_KeepsMore_pins rfl ?_
      walk_at "rd"
      refine rd_fld (s14 _ _ ey) T.cl_KeepsMore T.na_KeepsMore_today rfl ?_
      walk_at "rd"
      refine ⟨v, p, l2, q2, h.1, pn, h.2, rfl, hp13.mono s14, okp, hh4, .inl (s14 _ _ el2), .inl (s14 _ _ eq2), dok2, p3.1, p3.2, fun H15 F s15 _ eF => ?_⟩
      walk_at "rd"
      have gl := keptF_len p h.1 pn h.2
      refine rd_lsR (SqL.of eF) ?_
      refine lcR_lst (xs := intV (keptF p h.1 pn h.2)) (fun W i H' => Same H15 H' ∧ H' W = some (.lst ((((keptF p h.1 pn h.2).take i).map fun d => decide (d ∈ keptF .pinned h.1 pn h.2)).map V.bl))) (fun W i H' _ ⟨s, _⟩ => SqL.of (s _ _ eF)) (fun W H' _ s e _ => ⟨s, e⟩) ?_ ?_
      · rintro W i z H16 hW hz ⟨s16, eW⟩
        have hi := (List.getElem?_eq_some_iff.mp hz).1
        obtain ⟨m, hm2, rfl⟩ := intV_at hz
        walk_at "rd"
        refine ⟨rfl, ?_⟩
        walk_at "rd"
        refine rd_inL ((s15.trans s16) _ _ eN2) ?_
        refine rd_lcE eW (by rw [List.length_map, List.length_map, List.length_take]; omega) fun H17 eH17 eW17 => ?_
        refine ⟨by rw [eH17]; exact Same.mut s16 hW, ?_⟩
        rw [eW17, List.take_add_one, hm2, List.map_append, List.map_append]
        rfl
      rintro W H16 hW ⟨s16, eW⟩
      rw [show (intV (keptF p h.1 pn h.2)).length = (keptF p h.1 pn h.2).length from List.length_map _, List.take_length] at eW
      walk_at "rd"
      refine all_bs eW ?_
      rw [List.all_map]
      refine ⟨false, ?_, ?_⟩
      · unfold showsKM at hsh
        rw [Bool.not_eq_true'] at hsh
        exact congrArg V.bl hsh
      walk_at "rd"
      have s1316 := s14.trans (s15.trans s16)
      refine rd_newKA fun z H17 s17 hz => ?_
      obtain ⟨dz, ez⟩ := id hz
      refine ⟨z, dz, _, rfl, ez, rfl, ?_⟩
      walk_at "rd"
      refine ⟨z, v, p, _, rfl, hz, hp13.mono (s1316.trans s17), okp, hh4, fun H18 s18 => ?_⟩
      rw [decide_eq_true rfl, hl0]
      refine ⟨false, rfl, ?_⟩
      walk_at "rd"
      refine rd_newL (by simp) fun l12 H19 _ s19 el12 _ => ?_
      walk_at "rd"
      refine rd_newL (by simp) fun l13 H20 _ s20 el13 _ => ?_
      walk_at "rd"
      refine rd_newKM (days := [1]) (pins := []) (s20 _ _ el12) el13 fun z2 H21 s21 hz2 => ?_
      obtain ⟨dz2, lz2, lz3, ez2, _⟩ := id hz2
      have sA := s1316.trans (s17.trans (s18.trans (s19.trans (s20.trans s21))))
      refine ⟨z2, dz2, _, rfl, ez2, rfl, ?_⟩
      walk_at "rd"
      refine ⟨z2, v, p, _, _, _, rfl, hz2, hp13.mono sA, okp, hh4, ⟨by decide, by decide, by decide, by decide⟩, by decide, (fun q hq => by cases hq), fun H22 s22 => ?_⟩
      rw [shows_1]
      refine ⟨false, rfl, ?_⟩
      walk_at "rd"
      exact ⟨_, sA.trans s22, by first | rfl | rw [hl0]⟩
  clear v10
  rintro σ H14 ⟨v10, s14, rfl⟩
  have hp14 := hp13.mono s14
  walk_at "rd"
  refine ⟨fun σ H' => ∃ v18, Same H14 H' ∧ σ = [some (.ref sc), some v, some (.int (numF p : Int)), some (.int (1 + (td : Int))), some (.ref D), none, some (.ref PN), none, some (.ref KP), none, v10, some (.bl (losesB p)), some (.bl (moreB p)), v13, v14, v15, some (.ref x), some (.ref y), v18], ?_, ?_⟩
  · walk_at "rd"
    refine rd_newT (by simp) fun b1 G1 _ u1 eb1 _ => ?_
    walk_at "rd"
    refine rd_newT (by simp) fun b2 G2 _ u2 eb2 _ => ?_
    walk_at "rd"
    refine rd_newT (by simp) fun b3 G3 _ u3 eb3 _ => ?_
    walk_at "rd"
    refine rd_newT (by simp) fun b4 G4 _ u4 eb4 _ => ?_
    walk_at "rd"
    refine rd_newT (by simp) fun b5 G5 _ u5 eb5 _ => ?_
    walk_at "rd"
    refine rd_newT (by simp) fun b6 G6 _ u6 eb6 _ => ?_
    walk_at "rd"
    refine rd_newT (by simp) fun b7 G7 _ u7 eb7 _ => ?_
    walk_at "rd"
    refine rd_newT (by simp) fun b8 G8 _ u8 eb8 _ => ?_
    walk_at "rd"
    refine rd_newL (by simp) fun b9 G9 _ u9 eb9 _ => ?_
    walk_at "rd"
    refine rd_newT (by simp) fun b11 G10 _ u10 eb11 _ => ?_
    walk_at "rd"
    refine rd_newT (by simp) fun b12 G11 _ u11 eb12 _ => ?_
    walk_at "rd"
    refine rd_newT (by simp) fun TB G12 _ u12 eTB _ => ?_
    have uA : Same H14 G12 := u1.trans (u2.trans (u3.trans (u4.trans (u5.trans (u6.trans (u7.trans (u8.trans (u9.trans (u10.trans (u11.trans u12))))))))))
    have hpG := hp14.mono uA
    have g0 : BadPl G12 (.ref b1) := .inr ⟨b1, _, _, _, rfl, (u2.trans (u3.trans (u4.trans (u5.trans (u6.trans (u7.trans (u8.trans (u9.trans (u10.trans (u11.trans u12)))))))))) _ _ eb1, .cons (.str _) (.cons (.int _) .nil), (by decide +kernel), .inl ⟨(by decide +kernel), by simp⟩⟩
    have g1 : BadPl G12 (.ref b2) := .inr ⟨b2, _, _, _, rfl, (u3.trans (u4.trans (u5.trans (u6.trans (u7.trans (u8.trans (u9.trans (u10.trans (u11.trans u12))))))))) _ _ eb2, .cons (.str _) .nil, (by decide +kernel), .inr (.inl ⟨(by decide +kernel), (by decide +kernel), .inl (by simp)⟩)⟩
    have g2 : BadPl G12 (.ref b3) := .inr ⟨b3, _, _, _, rfl, (u4.trans (u5.trans (u6.trans (u7.trans (u8.trans (u9.trans (u10.trans (u11.trans u12)))))))) _ _ eb3, .cons (.str _) (.cons (.int _) .nil), (by decide +kernel), .inr (.inl ⟨(by decide +kernel), (by decide +kernel), .inr ⟨_, rfl, .inr ⟨13, rfl, by decide⟩⟩⟩)⟩
    have g3 : BadPl G12 (.ref b4) := .inr ⟨b4, _, _, _, rfl, (u5.trans (u6.trans (u7.trans (u8.trans (u9.trans (u10.trans (u11.trans u12))))))) _ _ eb4, .cons (.str _) (.cons (.int _) .nil), (by decide +kernel), .inr (.inl ⟨(by decide +kernel), (by decide +kernel), .inr ⟨_, rfl, .inr ⟨-1, rfl, by decide⟩⟩⟩)⟩
    have g4 : BadPl G12 (.ref b5) := .inr ⟨b5, _, _, _, rfl, (u6.trans (u7.trans (u8.trans (u9.trans (u10.trans (u11.trans u12)))))) _ _ eb5, .cons (.str _) (.cons (.bl _) .nil), (by decide +kernel), .inr (.inl ⟨(by decide +kernel), (by decide +kernel), .inr ⟨_, rfl, .inl ⟨true, rfl⟩⟩⟩)⟩
    have g5 : BadPl G12 (.ref b6) := .inr ⟨b6, _, _, _, rfl, (u7.trans (u8.trans (u9.trans (u10.trans (u11.trans u12))))) _ _ eb6, .cons (.str _) .nil, (by decide +kernel), .inr (.inr (.inl ⟨(by decide +kernel), (by decide +kernel), rfl, .inl (by simp)⟩))⟩
    have g6 : BadPl G12 (.ref b7) := .inr ⟨b7, _, _, _, rfl, (u8.trans (u9.trans (u10.trans (u11.trans u12)))) _ _ eb7, .cons (.str _) (.cons hpG.dt .nil), shaped_1 so_5 (by omega), .inr (.inr (.inr ⟨(by decide +kernel), (by decide +kernel), (by decide +kernel), .inr (by simp)⟩))⟩
    have g7 : BadPl G12 (.ref b8) := .inr ⟨b8, _, _, _, rfl, (u9.trans (u10.trans (u11.trans u12))) _ _ eb8, .cons (.str _) (.cons hpG.dt (.cons hpG.dt .nil)), shaped_2 (by decide +kernel) (by omega), .inr (.inr (.inr ⟨(by decide +kernel), (by decide +kernel), (by decide +kernel), .inl (by decide +kernel)⟩))⟩
    have g8 : BadPl G12 (.ref b9) := .inl (.inr (.inr ⟨b9, rfl, (u10.trans (u11.trans u12)) _ _ eb9⟩))
    have g9 : BadPl G12 (.str "any") := .inl (.inr (.inl ⟨_, rfl⟩))
    have g10 : BadPl G12 (.ref b11) := .inr ⟨b11, _, _, _, rfl, (u11.trans u12) _ _ eb11, .cons (.str _) (.cons .non .nil), (by decide +kernel), .inr (.inr (.inl ⟨(by decide +kernel), (by decide +kernel), rfl, .inr ⟨_, rfl, .inl rfl⟩⟩))⟩
    have g11 : BadPl G12 (.ref b12) := .inr ⟨b12, _, _, _, rfl, (u12) _ _ eb12, .cons (.str _) (.cons (.str _) .nil), (by decide +kernel), .inl ⟨(by decide +kernel), by simp⟩⟩
    have g : ∀ y ∈ [V.ref b1, V.ref b2, V.ref b3, V.ref b4, V.ref b5, V.ref b6, V.ref b7, V.ref b8, V.ref b9, V.str "any", V.ref b11, V.ref b12], BadPl G12 y := by
      intro y hy
      simp only [List.mem_cons, List.not_mem_nil, or_false] at hy
      rcases hy with rfl | rfl | rfl | rfl | rfl | rfl | rfl | rfl | rfl | rfl | rfl | rfl <;> assumption
    clear g0 g1 g2 g3 g4 g5 g6 g7 g8 g9 g10 g11
    refine rd_tpR (SqT.of eTB) ?_
    refine forR_tup (xs := [V.ref b1, V.ref b2, V.ref b3, V.ref b4, V.ref b5, V.ref b6, V.ref b7, V.ref b8, V.ref b9, V.str "any", V.ref b11, V.ref b12])  (fun q σ H' => ∃ v18, Same G12 H' ∧ σ = [some (.ref sc), some v, some (.int (numF p : Int)), some (.int (1 + (td : Int))), some (.ref D), none, some (.ref PN), none, some (.ref KP), none, v10, some (.bl (losesB p)), some (.bl (moreB p)), v13, v14, v15, some (.ref x), some (.ref y), v18]) (fun q σ H' ⟨_, s, _⟩ => SqT.of (s _ _ eTB)) ⟨_, Same.refl _, rfl⟩ ?_ ?_
    · rintro q z σ H15 hz ⟨v18, s15, rfl⟩
      have bad := (g z (List.mem_of_getElem? hz)).mono s15
      walk_at "rd"
      refine rd_try ?_
      walk_at "rd"
      refine rd_callSd ?_
      walk_at "rd"
      refine rd_callSd2 ⟨z, rfl, bad, fun H16 s16 => ?_⟩
      refine rd_caught T.x_BadPolicy.e fun ea hea => ?_
      walk_at "rd"
      exact ⟨_, s15.trans s16, rfl⟩
    · rintro σ H15 ⟨v18, s15, rfl⟩
      exact ⟨v18, uA.trans s15, rfl⟩
  rintro σ H15 ⟨v18, s15, rfl⟩
  have hp15 := hp14.mono s15
  walk_at "rd"
  refine rd_newL (by simp) fun c0a G1 _ u1 ec0a _ => ?_
  walk_at "rd"
  refine rd_newL (by simp) fun c0b G2 _ u2 ec0b _ => ?_
  walk_at "rd"
  refine rd_newT (by simp) fun c0t G3 _ u3 ec0t _ => ?_
  walk_at "rd"
  refine rd_newL (by simp) fun c1a G4 _ u4 ec1a _ => ?_
  walk_at "rd"
  refine rd_newL (by simp) fun c1b G5 _ u5 ec1b _ => ?_
  walk_at "rd"
  refine rd_newT (by simp) fun c1t G6 _ u6 ec1t _ => ?_
  walk_at "rd"
  refine rd_newL (by simp) fun c2a G7 _ u7 ec2a _ => ?_
  walk_at "rd"
  refine rd_newL (by simp) fun c2b G8 _ u8 ec2b _ => ?_
  walk_at "rd"
  refine rd_newT (by simp) fun c2t G9 _ u9 ec2t _ => ?_
  walk_at "rd"
  refine rd_newL (by simp) fun c3a G10 _ u10 ec3a _ => ?_
  walk_at "rd"
  refine rd_newL (by simp) fun c3b G11 _ u11 ec3b _ => ?_
  walk_at "rd"
  refine rd_newT (by simp) fun c3t G12 _ u12 ec3t _ => ?_
  walk_at "rd"
  refine rd_newL (by simp) fun c4a G13 _ u13 ec4a _ => ?_
  walk_at "rd"
  refine rd_newL (by simp) fun c4b G14 _ u14 ec4b _ => ?_
  walk_at "rd"
  refine rd_newT (by simp) fun c4t G15 _ u15 ec4t _ => ?_
  walk_at "rd"
  refine rd_newL (by simp) fun c5a G16 _ u16 ec5a _ => ?_
  walk_at "rd"
  refine rd_newL (by simp) fun c5b G17 _ u17 ec5b _ => ?_
  walk_at "rd"
  refine rd_newT (by simp) fun c5t G18 _ u18 ec5t _ => ?_
  walk_at "rd"
  refine rd_newL (by simp) fun c6a G19 _ u19 ec6a _ => ?_
  walk_at "rd"
  refine rd_newT (by simp) fun c6t G20 _ u20 ec6t _ => ?_
  walk_at "rd"
  refine rd_newL (by simp) fun c7b G21 _ u21 ec7b _ => ?_
  walk_at "rd"
  refine rd_newT (by simp) fun c7t G22 _ u22 ec7t _ => ?_
  walk_at "rd"
  refine rd_newL (by simp) fun c8a G23 _ u23 ec8a _ => ?_
  walk_at "rd"
  refine rd_newL (by simp) fun c8b G24 _ u24 ec8b _ => ?_
  walk_at "rd"
  refine rd_newT (by simp) fun c8t G25 _ u25 ec8t _ => ?_
  walk_at "rd"
  refine rd_newT (by simp) fun TC G26 _ u26 eTC _ => ?_
  have uB : Same H15 G26 := u1.trans (u2.trans (u3.trans (u4.trans (u5.trans (u6.trans (u7.trans (u8.trans (u9.trans (u10.trans (u11.trans (u12.trans (u13.trans (u14.trans (u15.trans (u16.trans (u17.trans (u18.trans (u19.trans (u20.trans (u21.trans (u22.trans (u23.trans (u24.trans (u25.trans u26))))))))))))))))))))))))
  have g0 : KBad G26 (.ref c0t) := ⟨c0t, _, _, _, rfl, (u4.trans (u5.trans (u6.trans (u7.trans (u8.trans (u9.trans (u10.trans (u11.trans (u12.trans (u13.trans (u14.trans (u15.trans (u16.trans (u17.trans (u18.trans (u19.trans (u20.trans (u21.trans (u22.trans (u23.trans (u24.trans (u25.trans u26)))))))))))))))))))))) _ _ ec0t, .inl (.inr (.inr ⟨3, rfl, by decide, .inr ⟨c0a, [2, 1], rfl, (u2.trans (u3.trans (u4.trans (u5.trans (u6.trans (u7.trans (u8.trans (u9.trans (u10.trans (u11.trans (u12.trans (u13.trans (u14.trans (u15.trans (u16.trans (u17.trans (u18.trans (u19.trans (u20.trans (u21.trans (u22.trans (u23.trans (u24.trans (u25.trans u26)))))))))))))))))))))))) _ _ ec0a, by decide, .inr ⟨by decide, by decide⟩⟩⟩))⟩
  have g1 : KBad G26 (.ref c1t) := ⟨c1t, _, _, _, rfl, (u7.trans (u8.trans (u9.trans (u10.trans (u11.trans (u12.trans (u13.trans (u14.trans (u15.trans (u16.trans (u17.trans (u18.trans (u19.trans (u20.trans (u21.trans (u22.trans (u23.trans (u24.trans (u25.trans u26))))))))))))))))))) _ _ ec1t, .inl (.inr (.inr ⟨3, rfl, by decide, .inr ⟨c1a, [1, 1], rfl, (u5.trans (u6.trans (u7.trans (u8.trans (u9.trans (u10.trans (u11.trans (u12.trans (u13.trans (u14.trans (u15.trans (u16.trans (u17.trans (u18.trans (u19.trans (u20.trans (u21.trans (u22.trans (u23.trans (u24.trans (u25.trans u26))))))))))))))))))))) _ _ ec1a, by decide, .inr ⟨by decide, by decide⟩⟩⟩))⟩
  have g2 : KBad G26 (.ref c2t) := ⟨c2t, _, _, _, rfl, (u10.trans (u11.trans (u12.trans (u13.trans (u14.trans (u15.trans (u16.trans (u17.trans (u18.trans (u19.trans (u20.trans (u21.trans (u22.trans (u23.trans (u24.trans (u25.trans u26)))))))))))))))) _ _ ec2t, .inl (.inr (.inr ⟨3, rfl, by decide, .inr ⟨c2a, [4], rfl, (u8.trans (u9.trans (u10.trans (u11.trans (u12.trans (u13.trans (u14.trans (u15.trans (u16.trans (u17.trans (u18.trans (u19.trans (u20.trans (u21.trans (u22.trans (u23.trans (u24.trans (u25.trans u26)))))))))))))))))) _ _ ec2a, by decide, .inl (by decide)⟩⟩))⟩
  have g3 : KBad G26 (.ref c3t) := ⟨c3t, _, _, _, rfl, (u13.trans (u14.trans (u15.trans (u16.trans (u17.trans (u18.trans (u19.trans (u20.trans (u21.trans (u22.trans (u23.trans (u24.trans (u25.trans u26))))))))))))) _ _ ec3t, .inl (.inr (.inr ⟨3, rfl, by decide, .inr ⟨c3a, [0], rfl, (u11.trans (u12.trans (u13.trans (u14.trans (u15.trans (u16.trans (u17.trans (u18.trans (u19.trans (u20.trans (u21.trans (u22.trans (u23.trans (u24.trans (u25.trans u26))))))))))))))) _ _ ec3a, by decide, .inl (by decide)⟩⟩))⟩
  have g4 : KBad G26 (.ref c4t) := ⟨c4t, _, _, _, rfl, (u16.trans (u17.trans (u18.trans (u19.trans (u20.trans (u21.trans (u22.trans (u23.trans (u24.trans (u25.trans u26)))))))))) _ _ ec4t, .inl (.inr (.inl ⟨0, rfl, by decide⟩))⟩
  have g5 : KBad G26 (.ref c5t) := ⟨c5t, _, _, _, rfl, (u19.trans (u20.trans (u21.trans (u22.trans (u23.trans (u24.trans (u25.trans u26))))))) _ _ ec5t, .inr ⟨c5a, [1], 3, rfl, rfl, .inl ((u17.trans (u18.trans (u19.trans (u20.trans (u21.trans (u22.trans (u23.trans (u24.trans (u25.trans u26))))))))) _ _ ec5a), ⟨by decide, by decide, by decide, by decide⟩, .inr ⟨c5b, [-1], rfl, (u18.trans (u19.trans (u20.trans (u21.trans (u22.trans (u23.trans (u24.trans (u25.trans u26)))))))) _ _ ec5b, by decide, by decide⟩⟩⟩
  have g6 : KBad G26 (.ref c6t) := ⟨c6t, _, _, _, rfl, (u21.trans (u22.trans (u23.trans (u24.trans (u25.trans u26))))) _ _ ec6t, .inr ⟨c6a, [1], 3, rfl, rfl, .inl ((u20.trans (u21.trans (u22.trans (u23.trans (u24.trans (u25.trans u26)))))) _ _ ec6a), ⟨by decide, by decide, by decide, by decide⟩, .inl rfl⟩⟩
  have g7 : KBad G26 (.ref c7t) := ⟨c7t, _, _, _, rfl, (u23.trans (u24.trans (u25.trans u26))) _ _ ec7t, .inl (.inr (.inr ⟨3, rfl, by decide, .inl rfl⟩))⟩
  have g8 : KBad G26 (.ref c8t) := ⟨c8t, _, _, _, rfl, (u26) _ _ ec8t, .inl (.inl rfl)⟩
  have g : ∀ y ∈ [V.ref c0t, V.ref c1t, V.ref c2t, V.ref c3t, V.ref c4t, V.ref c5t, V.ref c6t, V.ref c7t, V.ref c8t], KBad G26 y := by
    intro y hy
    simp only [List.mem_cons, List.not_mem_nil, or_false] at hy
    rcases hy with rfl | rfl | rfl | rfl | rfl | rfl | rfl | rfl | rfl <;> assumption
  clear g0 g1 g2 g3 g4 g5 g6 g7 g8
  refine rd_tpR (SqT.of eTC) ?_
  refine forR_tup (xs := [V.ref c0t, V.ref c1t, V.ref c2t, V.ref c3t, V.ref c4t, V.ref c5t, V.ref c6t, V.ref c7t, V.ref c8t]) (fun q σ H' => ∃ v18, Same G26 H' ∧ σ = [some (.ref sc), some v, some (.int (numF p : Int)), some (.int (1 + (td : Int))), some (.ref D), none, some (.ref PN), none, some (.ref KP), none, v10, some (.bl (losesB p)), some (.bl (moreB p)), v13, v14, v15, some (.ref x), some (.ref y), v18]) (fun q σ H' ⟨_, s, _⟩ => SqT.of (s _ _ eTC)) ⟨_, Same.refl _, rfl⟩ ?_ ?_
  · rintro q z σ H16 hz ⟨v18, s16, rfl⟩
    obtain ⟨tz, va, vp, vt, rfl, etz, bad⟩ := (g z (List.mem_of_getElem? hz)).mono s16
    walk_at "rd"
    refine rd_try ?_
    walk_at "rd"
    refine rd_callSd ?_
    walk_at "rd"
    refine rd_ixT etz (atI_nat' (i := 0) rfl) ?_
    walk_at "rd"
    refine rd_ixT etz (atI_nat' (i := 1) rfl) ?_
    walk_at "rd"
    refine rd_ixT etz (atI_nat' (i := 2) rfl) ?_
    walk_at "rd"
    refine rd_callSd2 ⟨v, p, va, vp, vt, rfl, hp15.mono (uB.trans s16), okp, hh4, bad, fun H17 s17 => ?_⟩
    refine rd_caught T.x_BadDay.e fun ea hea => ?_
    walk_at "rd"
    exact ⟨_, s16.trans s17, rfl⟩
  · rintro σ H16 ⟨v18, s16, rfl⟩
    walk_at "rd"
    exact k _
end
end Sl
namespace Sl
open PySem L2 C8 StX
section
variable {K : PySem.W.Frag} {h : Heap} {mg : Str → Option Value} {x qual : Str} {st : Stmt} {f C : Addr} {oc dV kV doc pm cdv ct : Value} {od an : Option Addr} {osl : Array (Option Value)}
theorem dmk (X : K.In h) (G : h.Ns mainGlobals mg) (a : PySem.W.nsIn K mainGlobals x = some (some (.ref f))) (l : K.lookup f = some ⟨oc, od, .func (PySem.W.fnOf x x (fnArgs st) (fnBody st) (fnScope st) .none kV doc pm an cdv ct), osl⟩)
    (c : PySem.W.codeIn K cdv x = true) (k : PySem.W.keepIn K (.ref f) = true) : ∃ f fd, C8.Def K mg x st f fd ∧ fd.defaults = .none :=
  ⟨f, _, ⟨⟨_, _, _, _, _, _, _, _, _, _, rfl, l, c⟩, PySem.W.mg_of X G a, k⟩, rfl⟩
theorem mmk (a : PySem.W.findIn K (.ref C) x = some (some (.ref f))) (i : PySem.W.isFn K (.ref f) = true) (l : K.lookup f = some ⟨oc, od, .func (PySem.W.fnOf x qual (fnArgs st) (fnBody st) (fnScope st) .none kV doc pm an cdv ct), osl⟩)
    (c : PySem.W.codeIn K cdv qual = true) (k : PySem.W.keepIn K (.ref f) = true) (n : PySem.W.fnIn K f = true) : ∃ f fd, C8.Fun K x qual st f fd ∧ fd.defaults = .none ∧ Meth K C x f ∧ PySem.W.fnIn K f = true :=
  ⟨f, _, ⟨_, _, _, _, _, _, _, _, _, _, rfl, l, c⟩, rfl, ⟨a, i, k⟩, n⟩
theorem mkmk (m : PySem.W.makesIn K C = true) (a : PySem.W.findIn K (.ref C) "__init__" = some (some (.ref f))) (i : PySem.W.isFn K (.ref f) = true) (l : K.lookup f = some ⟨oc, od, .func (PySem.W.fnOf "__init__" qual (fnArgs st) (fnBody st) (fnScope st) .none kV doc pm an cdv ct), osl⟩)
    (c : PySem.W.codeIn K cdv qual = true) (k : PySem.W.keepIn K (.ref C) = true) : ∃ f fd, C8.Fun K "__init__" qual st f fd ∧ fd.defaults = .none ∧ Mk K C f :=
  ⟨f, _, ⟨_, _, _, _, _, _, _, _, _, _, rfl, l, c⟩, rfl, ⟨m, a, i, k⟩⟩
theorem kit_up {D : Addr} (h1 : PySem.W.isClsIn K D = true) (h2 : PySem.W.typeIn K (.ref D) = some (.type "type")) (h3 : PySem.W.subIn K (.ref C) (.ref D) = some true) : PySem.W.kitOne K (.ref C) (.ref D) = some true := by
  have e2 : ((PySem.W.clsIn K D).isSome && PySem.W.typeIn K (.ref D) == some (.type "type")) = true := by
    have h1' : (PySem.W.clsIn K D).isSome = true := h1
    rw [h1', h2] <;> rfl
  unfold PySem.W.kitOne
  by_cases c : ((Value.ref C) == (Value.ref D)) = true
  · rw [if_pos c]
  · rw [if_neg c]
    show (if ((PySem.W.clsIn K D).isSome && PySem.W.typeIn K (.ref D) == some (.type "type")) = true then PySem.W.subIn K (.ref C) (.ref D) else none) = some true
    rw [if_pos e2]
    exact h3
theorem kit_upF {D : Addr} (h1 : PySem.W.isClsIn K D = true) (h2 : PySem.W.typeIn K (.ref D) = some (.type "type")) (h3 : PySem.W.subIn K (.ref C) (.ref D) = some false) (hn : ((Value.ref C) == (Value.ref D)) = false) : PySem.W.kitOne K (.ref C) (.ref D) = some false := by
  have e2 : ((PySem.W.clsIn K D).isSome && PySem.W.typeIn K (.ref D) == some (.type "type")) = true := by
    have h1' : (PySem.W.clsIn K D).isSome = true := h1
    rw [h1', h2] <;> rfl
  unfold PySem.W.kitOne
  rw [if_neg (by rw [hn]; exact Bool.false_ne_true)]
  show (if ((PySem.W.clsIn K D).isSome && PySem.W.typeIn K (.ref D) == some (.type "type")) = true then PySem.W.subIn K (.ref C) (.ref D) else none) = some false
  rw [if_pos e2]
  exact h3
theorem conk {z : Str} {t : Tok} (a : PySem.W.findIn K (.ref C) x = some (some (.str z t))) (g : PySem.W.specialIn K (.str z t) "__get__" = some none) (c : PySem.W.copiedNames.contains x = false) : ∃ u, Con K C x (.str z) u := ⟨_, a, ⟨t, rfl⟩, g, c⟩
theorem nak (a : PySem.W.findIn K (.ref C) x = some none) : NoAttr K C x := a
theorem gmk {n : Int} {t : Tok} (X : K.In h) (G : h.Ns mainGlobals mg) (a : PySem.W.nsIn K mainGlobals x = some (some (.int n t))) : ∃ u, mg x = some u ∧ RelV (.int n) u := ⟨_, PySem.W.mg_of X G a, t, rfl⟩
end
theorem dmk_is_policy {K : PySem.W.Frag} {h : Heap} {mg : Str → Option Value} {f T : Addr} {oc kV doc pm cdv ct tc : Value} {od an td : Option Addr} {osl tsl : Array (Option Value)} {n : Nat} {t : Tok} (X : K.In h) (G : h.Ns mainGlobals mg)
    (a : PySem.W.nsIn K mainGlobals "is_policy" = some (some (.ref f))) (l : K.lookup f = some ⟨oc, od, .func (PySem.W.fnOf "is_policy" "is_policy" (fnArgs s_is_policy) (fnBody s_is_policy) (fnScope s_is_policy) (.ref T) kV doc pm an cdv ct), osl⟩)
    (c : PySem.W.codeIn K cdv "is_policy" = true) (k : PySem.W.keepIn K (.ref f) = true) (lT : K.lookup T = some ⟨tc, td, .seq #[.int 8 t] n, tsl⟩) :
    ∃ f fd, C8.Def K mg "is_policy" s_is_policy f fd ∧ (∃ ds, Vals [] ds ∧ Binds K fd P_is_policy ds) ∧ (∃ ds, Vals [.int 8] ds ∧ Binds K fd P_is_policy ds) := by
  have F : FunD K "is_policy" "is_policy" (fnArgs s_is_policy) (fnBody s_is_policy) (fnScope s_is_policy) [.int 8] [] f (PySem.W.fnOf "is_policy" "is_policy" (fnArgs s_is_policy) (fnBody s_is_policy) (fnScope s_is_policy) (.ref T) kV doc pm an cdv ct) :=
    ⟨⟨oc, od, .ref T, kV, doc, pm, an, cdv, ct, osl, rfl, l, c, .inr ⟨by simp, T, _, [.int 8 t], n, rfl, lT, rfl, .cons ⟨t, rfl⟩ .nil⟩, .inl rfl⟩, k⟩
  refine ⟨f, _, ⟨⟨_, _, _, _, _, _, _, _, _, _, rfl, l, c⟩, PySem.W.mg_of X G a, k⟩, ?_, ?_⟩
  · exact F.binds1 2 1 (by simp) rfl fun T kV doc pm an cdv ct us its h1 h2 => match us, its, h1, h2 with | [_, _], [_], _, _ => ⟨_, rfl, rfl⟩
  · exact F.binds1 1 0 (by simp) rfl fun T kV doc pm an cdv ct us its h1 h2 => match us, its, h1, h2 with | [_], [_], _, _ => ⟨_, rfl, rfl⟩
end Sl
namespace Sl
open PySem L2 C8 StX
theorem fin {P : Program} {w : World} {K : PySem.W.Frag} {h : Heap} {mg : Str → Option Value} {fa C_Evidence C_Good C_Bad C_KeepsAll C_LosesOne C_KeepsLittle C_KeepsMore C_BadDay C_BadPolicy D_PLAIN D_NUMBERED : Addr} (T : TX K mg C_Evidence C_Good C_Bad C_KeepsAll C_LosesOne C_KeepsLittle C_KeepsMore C_BadDay C_BadPolicy D_PLAIN D_NUMBERED) (X : K.In h) (G : h.Ns mainGlobals mg) (hfa : mg "law" = some (.ref fa)) :
    ∃ fd : FuncData, (∀ (s : Shared) (v : Value), BindsTo s fd ⟨[v], []⟩ [("_law_script", v)]) ∧ ∀ base : Heap, K.In base → base.Ns mainGlobals mg → FnOk P w K mg base C8.CX0 12 fa fd ["_law_script"] (spLaw K) := by
  obtain ⟨f, fd, D, dn⟩ := T.d_law
  have e := hfa.symm.trans D.mgf
  cases e
  refine ⟨fd, fun s v => ?_, fun base _ _ => fn_law T D⟩
  obtain ⟨oc, od, dV, kV, doc, pm, an, cdv, ct, osl, rfl, lk, hcd⟩ := D.fn.ex
  have e : dV = .none := dn
  subst e
  exact .of_eq rfl
end Sl
open PySem PySem.W PyProof.Rows
set_option maxRecDepth 100000 in
set_option maxHeartbeats 0 in
theorem PySem.Challenge.cw_siltstore_k07_whole_policies_holds : PySem.Challenge.rw_siltstore_k07_whole_policies.Holds := by
  refine headQ ?_
  k_fill
  refine L2.walk_ofK (sp := Sl.spLaw) (CX := C8.CX0) (n := 63) (k := 12) (x := "_law_script") rfl (by decide) rfl ⟨rfl, by decide, by decide⟩ (fun w h Y => PySem.W.kIn_of Y) ?F (fun _ _ a ns hl _ hS => ⟨a, ns, rfl, hS, hl, fun _ => rfl⟩) fun _ _ _ _ z => z
  case F =>
    intro w mg fa h KX G hmg
    refine' Sl.fin ?T KX G hmg
    case T =>
      refine' Sl.TX.mk (PySem.W.mg_of KX G ?q1) (PySem.W.mg_of KX G ?q2) (PySem.W.mg_of KX G ?q3) (PySem.W.mg_of KX G ?q4) (PySem.W.mg_of KX G ?q5) (PySem.W.mg_of KX G ?q6) (PySem.W.mg_of KX G ?q7) (PySem.W.mg_of KX G ?q8) (PySem.W.mg_of KX G ?q9) (Sl.dmk KX G ?q10 ?q11 ?q12 ?q13) (Sl.dmk KX G ?q14 ?q15 ?q16 ?q17) (Sl.dmk KX G ?q18 ?q19 ?q20 ?q21) (Sl.dmk_is_policy KX G ?q22 ?q23 ?q24 ?q25 ?q26) (Sl.dmk KX G ?q27 ?q28 ?q29 ?q30) (Sl.dmk KX G ?q31 ?q32 ?q33 ?q34) (Sl.dmk KX G ?q35 ?q36 ?q37 ?q38) (Sl.dmk KX G ?q39 ?q40 ?q41 ?q42) (Sl.dmk KX G ?q43 ?q44 ?q45 ?q46) (Sl.dmk KX G ?q47 ?q48 ?q49 ?q50) (Sl.dmk KX G ?q51 ?q52 ?q53 ?q54) (Sl.dmk KX G ?q55 ?q56 ?q57 ?q58) (Sl.dmk KX G ?q59 ?q60 ?q61 ?q62) (Sl.mkmk ?q63 ?q64 ?q65 ?q66 ?q67 ?q68) (Sl.mmk ?q69 ?q70 ?q71 ?q72 ?q73 ?q74) (Sl.mmk ?q75 ?q76 ?q77 ?q78 ?q79 ?q80) (Sl.mkmk ?q81 ?q82 ?q83 ?q84 ?q85 ?q86) (Sl.mmk ?q87 ?q88 ?q89 ?q90 ?q91 ?q92) (Sl.mmk ?q93 ?q94 ?q95 ?q96 ?q97 ?q98) (Sl.dmk KX G ?q99 ?q100 ?q101 ?q102) (Sl.dmk KX G ?q103 ?q104 ?q105 ?q106) (Sl.mkmk ?q107 ?q108 ?q109 ?q110 ?q111 ?q112) (Sl.mmk ?q113 ?q114 ?q115 ?q116 ?q117 ?q118) (Sl.mmk ?q119 ?q120 ?q121 ?q122 ?q123 ?q124) (Sl.mkmk ?q125 ?q126 ?q127 ?q128 ?q129 ?q130) (Sl.mmk ?q131 ?q132 ?q133 ?q134 ?q135 ?q136) (Sl.mmk ?q137 ?q138 ?q139 ?q140 ?q141 ?q142) (Sl.dmk KX G ?q143 ?q144 ?q145 ?q146) (Sl.dmk KX G ?q147 ?q148 ?q149 ?q150) (Sl.dmk KX G ?q151 ?q152 ?q153 ?q154) (Sl.dmk KX G ?q155 ?q156 ?q157 ?q158) (Sl.dmk KX G ?q159 ?q160 ?q161 ?q162) (Sl.dmk KX G ?q163 ?q164 ?q165 ?q166) (Sl.dmk KX G ?q167 ?q168 ?q169 ?q170) (Sl.dmk KX G ?q171 ?q172 ?q173 ?q174) (Sl.mmk ?q175 ?q176 ?q177 ?q178 ?q179 ?q180) (Sl.mmk ?q181 ?q182 ?q183 ?q184 ?q185 ?q186) (Sl.kit_up ?q187 ?q188 ?q189) (Sl.conk ?q190 ?q191 (by decide)) (Sl.mmk ?q192 ?q193 ?q194 ?q195 ?q196 ?q197) (Sl.mmk ?q198 ?q199 ?q200 ?q201 ?q202 ?q203) (Sl.kit_up ?q204 ?q205 ?q206) (Sl.conk ?q207 ?q208 (by decide)) (Sl.mmk ?q209 ?q210 ?q211 ?q212 ?q213 ?q214) (Sl.mmk ?q215 ?q216 ?q217 ?q218 ?q219 ?q220) (Sl.kit_up ?q221 ?q222 ?q223) (Sl.conk ?q224 ?q225 (by decide)) (Sl.mmk ?q226 ?q227 ?q228 ?q229 ?q230 ?q231) (Sl.mmk ?q232 ?q233 ?q234 ?q235 ?q236 ?q237) (Sl.kit_up ?q238 ?q239 ?q240) (Sl.conk ?q241 ?q242 (by decide)) (⟨?q243, ?q244, ?q245, ?q246⟩) (⟨?q247, ?q248, ?q249, ?q250⟩) (Sl.nak ?q251) (⟨?q252, ?q253, ?q254, ?q255⟩) (⟨?q256, ?q257, ?q258, ?q259⟩) (Sl.nak ?q260) (Sl.nak ?q261) (Sl.nak ?q262) (⟨?q263, ?q264, ?q265, ?q266⟩) (⟨?q267, ?q268, ?q269, ?q270⟩) (Sl.nak ?q271) (⟨?q272, ?q273, ?q274, ?q275⟩) (⟨?q276, ?q277, ?q278, ?q279⟩) (Sl.nak ?q280) (Sl.nak ?q281) (Sl.nak ?q282) (Sl.kit_upF ?q283 ?q284 ?q285 ?q286) (Sl.kit_upF ?q287 ?q288 ?q289 ?q290) (Sl.kit_upF ?q291 ?q292 ?q293 ?q294) (Sl.kit_upF ?q295 ?q296 ?q297 ?q298) (⟨?q299, ?q300, ?q301, ?q302, ?q303, ?q304⟩) (⟨?q305, ?q306, ?q307, ?q308, ?q309, ?q310⟩) (Sl.gmk KX G ?q311) (Sl.gmk KX G ?q312) (PySem.W.mg_of KX G ?q313) (?q314) (PySem.W.mg_of KX G ?q315) (?q316) (PySem.W.mg_none_of KX G ?q317) (PySem.W.mg_none_of KX G ?q318) (PySem.W.mg_none_of KX G ?q319) (PySem.W.mg_none_of KX G ?q320) (PySem.W.mg_none_of KX G ?q321) (PySem.W.mg_none_of KX G ?q322) (PySem.W.mg_none_of KX G ?q323) (PySem.W.mg_none_of KX G ?q324) (PySem.W.mg_none_of KX G ?q325) (PySem.W.mg_none_of KX G ?q326) (PySem.W.mg_none_of KX G ?q327) (PySem.W.mg_none_of KX G ?q328) (PySem.W.mg_none_of KX G ?q329) (PySem.W.mg_none_of KX G ?q330) (PySem.W.mg_none_of KX G ?q331) (PySem.W.mg_none_of KX G ?q332) (PySem.W.mg_none_of KX G ?q333) (PySem.W.mg_none_of KX G ?q334) (PySem.W.mg_none_of KX G ?q335) (PySem.W.mg_none_of KX G ?q336)
      (case q1 => k_is)
      (case q2 => k_is)
      (case q3 => k_is)
      (case q4 => k_is)
      (case q5 => k_is)
      (case q6 => k_is)
      (case q7 => k_is)
      (case q8 => k_is)
      (case q9 => k_is)
      (case q10 => k_is)
      (case q11 => k_is)
      (case q12 => k_is)
      (case q13 => k_is)
      (case q14 => k_is)
      (case q15 => k_is)
      (case q16 => k_is)
      (case q17 => k_is)
      (case q18 => k_is)
      (case q19 => k_is)
      (case q20 => k_is)
      (case q21 => k_is)
      (case q22 => k_is)
      (case q23 => k_is)
      (case q24 => k_is)
      (case q25 => k_is)
      (case q26 => k_is)
      (case q27 => k_is)
      (case q28 => k_is)
      (case q29 => k_is)
      (case q30 => k_is)
      (case q31 => k_is)
      (case q32 => k_is)
      (case q33 => k_is)
      (case q34 => k_is)
      (case q35 => k_is)
      (case q36 => k_is)
      (case q37 => k_is)
      (case q38 => k_is)
      (case q39 => k_is)
      (case q40 => k_is)
      (case q41 => k_is)
      (case q42 => k_is)
      (case q43 => k_is)
      (case q44 => k_is)
      (case q45 => k_is)
      (case q46 => k_is)
      (case q47 => k_is)
      (case q48 => k_is)
      (case q49 => k_is)
      (case q50 => k_is)
      (case q51 => k_is)
      (case q52 => k_is)
      (case q53 => k_is)
      (case q54 => k_is)
      (case q55 => k_is)
      (case q56 => k_is)
      (case q57 => k_is)
      (case q58 => k_is)
      (case q59 => k_is)
      (case q60 => k_is)
      (case q61 => k_is)
      (case q62 => k_is)
      (case q63 => k_is)
      (case q64 => k_is)
      (case q65 => k_is)
      (case q66 => k_is)
      (case q67 => k_is)
      (case q68 => k_is)
      (case q69 => k_is)
      (case q70 => k_is)
      (case q71 => k_is)
      (case q72 => k_is)
      (case q73 => k_is)
      (case q74 => k_is)
      (case q75 => k_is)
      (case q76 => k_is)
      (case q77 => k_is)
      (case q78 => k_is)
      (case q79 => k_is)
      (case q80 => k_is)
      (case q81 => k_is)
      (case q82 => k_is)
      (case q83 => k_is)
      (case q84 => k_is)
      (case q85 => k_is)
      (case q86 => k_is)
      (case q87 => k_is)
      (case q88 => k_is)
      (case q89 => k_is)
      (case q90 => k_is)
      (case q91 => k_is)
      (case q92 => k_is)
      (case q93 => k_is)
      (case q94 => k_is)
      (case q95 => k_is)
      (case q96 => k_is)
      (case q97 => k_is)
      (case q98 => k_is)
      (case q99 => k_is)
      (case q100 => k_is)
      (case q101 => k_is)
      (case q102 => k_is)
      (case q103 => k_is)
      (case q104 => k_is)
      (case q105 => k_is)
      (case q106 => k_is)
      (case q107 => k_is)
      (case q108 => k_is)
      (case q109 => k_is)
      (case q110 => k_is)
      (case q111 => k_is)
      (case q112 => k_is)
      (case q113 => k_is)
      (case q114 => k_is)
      (case q115 => k_is)
      (case q116 => k_is)
      (case q117 => k_is)
      (case q118 => k_is)
      (case q119 => k_is)
      (case q120 => k_is)
      (case q121 => k_is)
      (case q122 => k_is)
      (case q123 => k_is)
      (case q124 => k_is)
      (case q125 => k_is)
      (case q126 => k_is)
      (case q127 => k_is)
      (case q128 => k_is)
      (case q129 => k_is)
      (case q130 => k_is)
      (case q131 => k_is)
      (case q132 => k_is)
      (case q133 => k_is)
      (case q134 => k_is)
      (case q135 => k_is)
      (case q136 => k_is)
      (case q137 => k_is)
      (case q138 => k_is)
      (case q139 => k_is)
      (case q140 => k_is)
      (case q141 => k_is)
      (case q142 => k_is)
      (case q143 => k_is)
      (case q144 => k_is)
      (case q145 => k_is)
      (case q146 => k_is)
      (case q147 => k_is)
      (case q148 => k_is)
      (case q149 => k_is)
      (case q150 => k_is)
      (case q151 => k_is)
      (case q152 => k_is)
      (case q153 => k_is)
      (case q154 => k_is)
      (case q155 => k_is)
      (case q156 => k_is)
      (case q157 => k_is)
      (case q158 => k_is)
      (case q159 => k_is)
      (case q160 => k_is)
      (case q161 => k_is)
      (case q162 => k_is)
      (case q163 => k_is)
      (case q164 => k_is)
      (case q165 => k_is)
      (case q166 => k_is)
      (case q167 => k_is)
      (case q168 => k_is)
      (case q169 => k_is)
      (case q170 => k_is)
      (case q171 => k_is)
      (case q172 => k_is)
      (case q173 => k_is)
      (case q174 => k_is)
      (case q175 => k_is)
      (case q176 => k_is)
      (case q177 => k_is)
      (case q178 => k_is)
      (case q179 => k_is)
      (case q180 => k_is)
      (case q181 => k_is)
      (case q182 => k_is)
      (case q183 => k_is)
      (case q184 => k_is)
      (case q185 => k_is)
      (case q186 => k_is)
      (case q187 => k_is)
      (case q188 => k_is)
      (case q189 => k_is)
      (case q190 => k_is)
      (case q191 => k_is)
      (case q192 => k_is)
      (case q193 => k_is)
      (case q194 => k_is)
      (case q195 => k_is)
      (case q196 => k_is)
      (case q197 => k_is)
      (case q198 => k_is)
      (case q199 => k_is)
      (case q200 => k_is)
      (case q201 => k_is)
      (case q202 => k_is)
      (case q203 => k_is)
      (case q204 => k_is)
      (case q205 => k_is)
      (case q206 => k_is)
      (case q207 => k_is)
      (case q208 => k_is)
      (case q209 => k_is)
      (case q210 => k_is)
      (case q211 => k_is)
      (case q212 => k_is)
      (case q213 => k_is)
      (case q214 => k_is)
      (case q215 => k_is)
      (case q216 => k_is)
      (case q217 => k_is)
      (case q218 => k_is)
      (case q219 => k_is)
      (case q220 => k_is)
      (case q221 => k_is)
      (case q222 => k_is)
      (case q223 => k_is)
      (case q224 => k_is)
      (case q225 => k_is)
      (case q226 => k_is)
      (case q227 => k_is)
      (case q228 => k_is)
      (case q229 => k_is)
      (case q230 => k_is)
      (case q231 => k_is)
      (case q232 => k_is)
      (case q233 => k_is)
      (case q234 => k_is)
      (case q235 => k_is)
      (case q236 => k_is)
      (case q237 => k_is)
      (case q238 => k_is)
      (case q239 => k_is)
      (case q240 => k_is)
      (case q241 => k_is)
      (case q242 => k_is)
      (case q243 => k_is)
      (case q244 => k_is)
      (case q245 => k_is)
      (case q246 => k_is)
      (case q247 => k_is)
      (case q248 => k_is)
      (case q249 => k_is)
      (case q250 => k_is)
      (case q251 => k_is)
      (case q252 => k_is)
      (case q253 => k_is)
      (case q254 => k_is)
      (case q255 => k_is)
      (case q256 => k_is)
      (case q257 => k_is)
      (case q258 => k_is)
      (case q259 => k_is)
      (case q260 => k_is)
      (case q261 => k_is)
      (case q262 => k_is)
      (case q263 => k_is)
      (case q264 => k_is)
      (case q265 => k_is)
      (case q266 => k_is)
      (case q267 => k_is)
      (case q268 => k_is)
      (case q269 => k_is)
      (case q270 => k_is)
      (case q271 => k_is)
      (case q272 => k_is)
      (case q273 => k_is)
      (case q274 => k_is)
      (case q275 => k_is)
      (case q276 => k_is)
      (case q277 => k_is)
      (case q278 => k_is)
      (case q279 => k_is)
      (case q280 => k_is)
      (case q281 => k_is)
      (case q282 => k_is)
      (case q283 => k_is)
      (case q284 => k_is)
      (case q285 => k_is)
      (case q286 => first | rfl | decide +kernel)
      (case q287 => k_is)
      (case q288 => k_is)
      (case q289 => k_is)
      (case q290 => first | rfl | decide +kernel)
      (case q291 => k_is)
      (case q292 => k_is)
      (case q293 => k_is)
      (case q294 => first | rfl | decide +kernel)
      (case q295 => k_is)
      (case q296 => k_is)
      (case q297 => k_is)
      (case q298 => first | rfl | decide +kernel)
      (case q299 => k_exc)
      (case q300 => k_is)
      (case q301 => k_is)
      (case q302 => k_is)
      (case q303 => k_is)
      (case q304 => first | rfl | k_is)
      (case q305 => k_exc)
      (case q306 => k_is)
      (case q307 => k_is)
      (case q308 => k_is)
      (case q309 => k_is)
      (case q310 => first | rfl | k_is)
      (case q311 => k_is)
      (case q312 => k_is)
      (case q313 => k_is)
      (case q314 => first | k_is | kernel_rfl)
      (case q315 => k_is)
      (case q316 => first | k_is | kernel_rfl)
      (case q317 => k_is)
      (case q318 => k_is)
      (case q319 => k_is)
      (case q320 => k_is)
      (case q321 => k_is)
      (case q322 => k_is)
      (case q323 => k_is)
      (case q324 => k_is)
      (case q325 => k_is)
      (case q326 => k_is)
      (case q327 => k_is)
      (case q328 => k_is)
      (case q329 => k_is)
      (case q330 => k_is)
      (case q331 => k_is)
      (case q332 => k_is)
      (case q333 => k_is)
      (case q334 => k_is)
      (case q335 => k_is)
      (case q336 => k_is)
#print axioms PySem.Challenge.cw_siltstore_k07_whole_policies_holds
